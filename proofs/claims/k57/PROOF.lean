import PyProof.Rows.All
import Wide.All
import OpenK.AllK
import Wide.FinOn
import HandS.ForMost
import HandS.ForExc
import HandS.Wide
import HandS.TryOnly
import HandS.IsInst
import HandS.TupAny
import HandS.SortInts
import HandS.Conv
import HandS.Iter
import HandS.Deep
import HandS.TupMul
import HandS.Style
import HandS.ExcIs
import KE.GoesEnumKw
import PyProof.Rows.CallKwBuiltin
import HandS.Dict
import PySem.Challenge.RW_throwstold_k57_whole_figures_of_chances
set_option Elab.async false
set_option linter.all false
set_option maxRecDepth 100000
set_option maxHeartbeats 4000000
namespace L4
open PySem L2

/-- a value told as data: what may change stands in the store (ref), all else is said whole -/
inductive D where
  | non | bl (b : Bool) | int (i : Int) | str (x : Str) | ref (n : Nat) | fn (x : Str) | ty (n : String)
  | tup (ds : List D) | lst (ds : List D) | scr (ns : List Int)
/-- what stands in the store -/
inductive MO where
  | gone | lst (ds : List D) | dK (kvs : List (Key × D)) | dT (kvs : List (List Key × D))
abbrev Sto := List MO
abbrev Rho := List (Option D)
/-- an exception told: its class by its name in the module -/
structure Exn where
  name : Str
inductive RE where
  | ok (d : D) (st : Sto) | exc (x : Exn) (st : Sto) | stuck
inductive RS where
  | nx (ρ : Rho) (st : Sto) | rt (d : D) (st : Sto) | bk (ρ : Rho) (st : Sto) | ct (ρ : Rho) (st : Sto) | exc (x : Exn) (ρ : Rho) (st : Sto) | stuck
abbrev E := Rho → Sto → RE
abbrev S := Rho → Sto → RS

mutual
inductive DV (K : PySem.W.Frag) (mg : Str → Option Value) (B : Hp) (m : List Addr) : D → V → Prop
  | non : DV K mg B m .non .non
  | bl (b : Bool) : DV K mg B m (.bl b) (.bl b)
  | int (i : Int) : DV K mg B m (.int i) (.int i)
  | str (x : Str) : DV K mg B m (.str x) (.str x)
  | ref {n : Nat} {a : Addr} : m[n]? = some a → DV K mg B m (.ref n) (.ref a)
  | fn {x : Str} {f : Addr} : mg x = some (.ref f) → DV K mg B m (.fn x) (.ref f)
  | ty (n : String) : DV K mg B m (.ty n) (.ty n)
  | tup {ds : List D} {a : Addr} {xs : List V} : SqT K B a xs → DVs K mg B m ds xs → DV K mg B m (.tup ds) (.ref a)
  | lst {ds : List D} {a : Addr} {xs : List V} : B a = some (.lst xs) → DVs K mg B m ds xs → DV K mg B m (.lst ds) (.ref a)
  | scr {ns : List Int} {a : Addr} : SqL K B a (ns.map V.int) → DV K mg B m (.scr ns) (.ref a)
inductive DVs (K : PySem.W.Frag) (mg : Str → Option Value) (B : Hp) (m : List Addr) : List D → List V → Prop
  | nil : DVs K mg B m [] []
  | cons {d : D} {v : V} {ds : List D} {vs : List V} : DV K mg B m d v → DVs K mg B m ds vs → DVs K mg B m (d :: ds) (v :: vs)
end

def Sub (B B' : Hp) : Prop := ∀ a o, B a = some o → B' a = some o
theorem Sub.refl (B : Hp) : Sub B B := fun _ _ h => h
theorem Sub.trans {A B C : Hp} (h : Sub A B) (k : Sub B C) : Sub A C := fun a o e => k a o (h a o e)
theorem Sub.sqT {K : PySem.W.Frag} {B B' : Hp} (s : Sub B B') {a : Addr} {xs : List V} (h : SqT K B a xs) : SqT K B' a xs := by
  rcases h with (h | ⟨o, h⟩) | h
  · exact .inl (.inl (s _ _ h))
  · exact .inl (.inr ⟨o, s _ _ h⟩)
  · exact .inr h
theorem Sub.sqL {K : PySem.W.Frag} {B B' : Hp} (s : Sub B B') {a : Addr} {xs : List V} (h : SqL K B a xs) : SqL K B' a xs := by
  rcases h with (h | ⟨o, h⟩) | h
  · exact .inl (.inl (s _ _ h))
  · exact .inl (.inr ⟨o, s _ _ h⟩)
  · exact .inr h
def Pre (m m' : List Addr) : Prop := ∃ r, m' = m ++ r
theorem Pre.refl (m : List Addr) : Pre m m := ⟨[], by simp⟩
theorem Pre.trans {a b c : List Addr} (h : Pre a b) (k : Pre b c) : Pre a c := by
  obtain ⟨r, rfl⟩ := h
  obtain ⟨q, rfl⟩ := k
  exact ⟨r ++ q, by simp⟩
theorem Pre.get {m m' : List Addr} (h : Pre m m') {n : Nat} {a : Addr} (e : m[n]? = some a) : m'[n]? = some a := by
  obtain ⟨r, rfl⟩ := h
  rw [List.getElem?_append_left (by
    have := (List.getElem?_eq_some_iff.mp e).1
    exact this)]
  exact e
theorem Pre.mem {m m' : List Addr} (h : Pre m m') {a : Addr} (e : a ∈ m) : a ∈ m' := by
  obtain ⟨r, rfl⟩ := h
  exact List.mem_append_left _ e

section
variable {K : PySem.W.Frag} {mg : Str → Option Value}
mutual
theorem DV.mono {B B' : Hp} {m m' : List Addr} (hB : Sub B B') (hm : Pre m m') : ∀ {d : D} {v : V}, DV K mg B m d v → DV K mg B' m' d v
  | _, _, .non => .non
  | _, _, .bl b => .bl b
  | _, _, .int b => .int b
  | _, _, .str b => .str b
  | _, _, .ref h => .ref (hm.get h)
  | _, _, .fn h => .fn h
  | _, _, .ty h => .ty h
  | _, _, .tup h k => .tup (hB.sqT h) (DVs.mono hB hm k)
  | _, _, .lst h k => .lst (hB _ _ h) (DVs.mono hB hm k)
  | _, _, .scr h => .scr (hB.sqL h)
theorem DVs.mono {B B' : Hp} {m m' : List Addr} (hB : Sub B B') (hm : Pre m m') : ∀ {d : List D} {v : List V}, DVs K mg B m d v → DVs K mg B' m' d v
  | _, _, .nil => .nil
  | _, _, .cons h k => .cons (DV.mono hB hm h) (DVs.mono hB hm k)
end
theorem DVs.length {B : Hp} {m : List Addr} : ∀ {ds : List D} {vs : List V}, DVs K mg B m ds vs → ds.length = vs.length
  | _, _, .nil => rfl
  | _, _, .cons _ k => by simp [DVs.length k]
theorem DVs.get {B : Hp} {m : List Addr} : ∀ {ds : List D} {vs : List V} {i : Nat} {d : D}, DVs K mg B m ds vs → ds[i]? = some d → ∃ v, vs[i]? = some v ∧ DV K mg B m d v
  | _, _, _, _, .nil, e => by simp at e
  | _, _, 0, _, .cons h k, e => by simp at e; subst e; exact ⟨_, rfl, h⟩
  | _, _, i + 1, _, .cons h k, e => by
    obtain ⟨v, h1, h2⟩ := DVs.get (i := i) k (by simpa using e)
    exact ⟨v, by simpa using h1, h2⟩
theorem DVs.get' {B : Hp} {m : List Addr} : ∀ {ds : List D} {vs : List V} {i : Nat} {v : V}, DVs K mg B m ds vs → vs[i]? = some v → ∃ d, ds[i]? = some d ∧ DV K mg B m d v
  | _, _, _, _, .nil, e => by simp at e
  | _, _, 0, _, .cons h k, e => by simp at e; subst e; exact ⟨_, rfl, h⟩
  | _, _, i + 1, _, .cons h k, e => by
    obtain ⟨v, h1, h2⟩ := DVs.get' (i := i) k (by simpa using e)
    exact ⟨v, by simpa using h1, h2⟩
theorem DVs.append {B : Hp} {m : List Addr} : ∀ {ds : List D} {vs : List V} {es : List D} {us : List V}, DVs K mg B m ds vs → DVs K mg B m es us → DVs K mg B m (ds ++ es) (vs ++ us)
  | _, _, _, _, .nil, q => q
  | _, _, _, _, .cons h k, q => .cons h (DVs.append k q)
theorem DVs.set {B : Hp} {m : List Addr} {d : D} {v : V} (hd : DV K mg B m d v) : ∀ {ds : List D} {vs : List V} (i : Nat), DVs K mg B m ds vs → DVs K mg B m (ds.set i d) (vs.set i v)
  | _, _, _, .nil => .nil
  | _, _, 0, .cons h k => .cons hd k
  | _, _, i + 1, .cons h k => .cons h (DVs.set hd i k)
theorem DVs.take {B : Hp} {m : List Addr} : ∀ {ds : List D} {vs : List V} (n : Nat), DVs K mg B m ds vs → DVs K mg B m (ds.take n) (vs.take n)
  | _, _, 0, _ => .nil
  | _, _, _ + 1, .nil => .nil
  | _, _, n + 1, .cons h k => .cons h (DVs.take n k)
theorem DVs.drop {B : Hp} {m : List Addr} : ∀ {ds : List D} {vs : List V} (n : Nat), DVs K mg B m ds vs → DVs K mg B m (ds.drop n) (vs.drop n)
  | _, _, 0, h => h
  | _, _, _ + 1, .nil => .nil
  | _, _, n + 1, .cons _ k => DVs.drop n k
theorem DVs.reverse {B : Hp} {m : List Addr} : ∀ {ds : List D} {vs : List V}, DVs K mg B m ds vs → DVs K mg B m ds.reverse vs.reverse
  | _, _, .nil => .nil
  | _, _, .cons h k => by
    rw [List.reverse_cons, List.reverse_cons]
    exact DVs.append (DVs.reverse k) (.cons h .nil)
end

/-- the pairs of a dict -/
inductive DVd {κ : Type} (K : PySem.W.Frag) (mg : Str → Option Value) (B : Hp) (m : List Addr) : List (κ × D) → List (κ × V) → Prop
  | nil : DVd K mg B m [] []
  | cons {k : κ} {d : D} {v : V} {ds : List (κ × D)} {vs : List (κ × V)} : DV K mg B m d v → DVd K mg B m ds vs → DVd K mg B m ((k, d) :: ds) ((k, v) :: vs)
theorem DVd.mono {κ : Type} {K : PySem.W.Frag} {mg : Str → Option Value} {B B' : Hp} {m m' : List Addr} (hB : Sub B B') (hm : Pre m m') : ∀ {ds : List (κ × D)} {vs : List (κ × V)}, DVd K mg B m ds vs → DVd K mg B' m' ds vs
  | _, _, .nil => .nil
  | _, _, .cons h k => .cons (h.mono hB hm) (DVd.mono hB hm k)

/-- the object of the store's entry o at a -/
def ObjAt (K : PySem.W.Frag) (mg : Str → Option Value) (B : Hp) (m : List Addr) (H : Hp) (a : Addr) : MO → Prop
  | .gone => True
  | .lst ds => B a = none ∧ ∃ xs, H a = some (.lst xs) ∧ DVs K mg B m ds xs
  | .dK kvs => B a = none ∧ ∃ xs, H a = some (.dK xs) ∧ DVd K mg B m kvs xs
  | .dT kvs => B a = none ∧ ∃ xs, H a = some (.dT xs) ∧ DVd K mg B m kvs xs
theorem ObjAt.mono {K : PySem.W.Frag} {mg : Str → Option Value} {B B' : Hp} {m m' : List Addr} {H H' : Hp} {a : Addr} {o : MO} (hB : Sub B B') (hm : Pre m m') (h : ObjAt K mg B m H a o)
    (hb : o ≠ .gone → B a = none → B' a = none) (hh : ∀ x, H a = some x → H' a = some x) : ObjAt K mg B' m' H' a o := by
  cases o with
  | gone => trivial
  | lst ds => obtain ⟨h0, xs, h1, h2⟩ := h; exact ⟨hb (by simp) h0, xs, hh _ h1, h2.mono hB hm⟩
  | dK ds => obtain ⟨h0, xs, h1, h2⟩ := h; exact ⟨hb (by simp) h0, xs, hh _ h1, h2.mono hB hm⟩
  | dT ds => obtain ⟨h0, xs, h1, h2⟩ := h; exact ⟨hb (by simp) h0, xs, hh _ h1, h2.mono hB hm⟩

structure Sim (K : PySem.W.Frag) (mg : Str → Option Value) (B : Hp) (m : List Addr) (st : Sto) (H : Hp) : Prop where
  sub : Sub B H
  len : m.length = st.length
  nd : m.Nodup
  obj : ∀ (n : Nat) (a : Addr) (o : MO), m[n]? = some a → st[n]? = some o → ObjAt K mg B m H a o
  own : ∀ a ∈ m, ∃ o, H a = some o

structure Ext (B : Hp) (m : List Addr) (H : Hp) (B' : Hp) (m' : List Addr) (H' : Hp) : Prop where
  bb : Sub B B'
  bn : ∀ a o, B' a = some o → B a = none → H a = none ∨ a ∈ m
  mm : Pre m m'
  mn : ∀ a ∈ m', a ∈ m ∨ H a = none
  fr : ∀ a o, H a = some o → a ∉ m → H' a = some o
  st : ∀ a o, H a = some o → ∃ o', H' a = some o'
theorem Ext.refl (B : Hp) (m : List Addr) (H : Hp) : Ext B m H B m H :=
  ⟨Sub.refl B, fun a o h n => absurd (h.symm.trans n) (by simp), Pre.refl m, fun a h => .inl h, fun a o h _ => h, fun a o h => ⟨o, h⟩⟩
theorem none_of {H H' : Hp} (h : ∀ a o, H a = some o → ∃ o', H' a = some o') {a : Addr} (e : H' a = none) : H a = none := by
  cases q : H a with
  | none => rfl
  | some o =>
    obtain ⟨o', k⟩ := h a o q
    rw [e] at k; cases k
theorem Ext.trans {B B1 B2 : Hp} {m m1 m2 : List Addr} {H H1 H2 : Hp} (x : Ext B m H B1 m1 H1) (y : Ext B1 m1 H1 B2 m2 H2) : Ext B m H B2 m2 H2 where
  bb := x.bb.trans y.bb
  bn := fun a o h n => by
    cases q : B1 a with
    | none =>
      rcases y.bn a o h q with k | k
      · exact .inl (none_of x.st k)
      · exact (x.mn a k).symm
    | some u => exact x.bn a u q n
  mm := x.mm.trans y.mm
  mn := fun a h => by
    rcases y.mn a h with k | k
    · exact x.mn a k
    · exact .inr (none_of x.st k)
  fr := fun a o h n => by
    have h1 := x.fr a o h n
    refine y.fr a o h1 fun k => ?_
    rcases x.mn a k with z | z
    · exact n z
    · rw [h] at z; cases z
  st := fun a o h => by
    obtain ⟨o1, h1⟩ := x.st a o h
    exact y.st a o1 h1

def SlR (K : PySem.W.Frag) (mg : Str → Option Value) (B : Hp) (m : List Addr) (ρ : Rho) (σ : St) : Prop :=
  ρ.length = σ.length ∧ ∀ (i : Nat) (d : D), ρ[i]? = some (some d) → ∃ v, σ[i]? = some (some v) ∧ DV K mg B m d v
theorem SlR.mono {K : PySem.W.Frag} {mg : Str → Option Value} {B B' : Hp} {m m' : List Addr} {ρ : Rho} {σ : St} (hB : Sub B B') (hm : Pre m m') (h : SlR K mg B m ρ σ) : SlR K mg B' m' ρ σ :=
  ⟨h.1, fun i d e => by
    obtain ⟨v, h1, h2⟩ := h.2 i d e
    exact ⟨v, h1, h2.mono hB hm⟩⟩
theorem SlR.set {K : PySem.W.Frag} {mg : Str → Option Value} {B : Hp} {m : List Addr} {ρ : Rho} {σ : St} {d : D} {v : V} (h : SlR K mg B m ρ σ) (hd : DV K mg B m d v) (i : Nat) : SlR K mg B m (ρ.set i (some d)) (σ.set i (some v)) := by
  refine ⟨by rw [List.length_set, List.length_set]; exact h.1, fun j e q => ?_⟩
  by_cases hj : i = j
  · subst hj
    by_cases hi : i < ρ.length
    · rw [List.getElem?_set_self hi] at q
      cases q
      exact ⟨v, by rw [List.getElem?_set_self (by rw [← h.1]; exact hi)], hd⟩
    · rw [List.getElem?_eq_none (by rw [List.length_set]; omega)] at q
      cases q
  · rw [List.getElem?_set_ne hj] at q ⊢
    exact h.2 j e q

/-! ### the store's steps -/
section
variable {K : PySem.W.Frag} {mg : Str → Option Value} {B : Hp} {m : List Addr} {st : Sto} {H : Hp}
theorem Sim.bnone (s : Sim K mg B m st H) {p : Addr} (hp : H p = none) : B p = none := by
  cases q : B p with
  | none => rfl
  | some o => rw [s.sub p o q] at hp; cases hp
theorem Sim.pm (s : Sim K mg B m st H) {p : Addr} (hp : H p = none) : p ∉ m := fun k => by
  obtain ⟨o, h⟩ := s.own p k
  rw [hp] at h; cases h
theorem Sim.ext_newB (s : Sim K mg B m st H) {p : Addr} {o : HO} (hp : H p = none) : Ext B m H (upd B p o) m (upd H p o) where
  bb := fun a u h => by rw [upd_ne (ne_of_none h (s.bnone hp))]; exact h
  bn := fun a u h n => by
    by_cases e : a = p
    · subst e; exact .inl hp
    · rw [upd_ne e, n] at h; cases h
  mm := Pre.refl m
  mn := fun a h => .inl h
  fr := fun a u h _ => by rw [upd_ne (ne_of_none h hp)]; exact h
  st := fun a u h => ⟨u, by rw [upd_ne (ne_of_none h hp)]; exact h⟩
/-- a new object that never changes -/
theorem Sim.newB (s : Sim K mg B m st H) {p : Addr} {o : HO} (hp : H p = none) : Sim K mg (upd B p o) m st (upd H p o) where
  sub := fun a u h => by
    by_cases e : a = p
    · subst e; rw [upd_same] at h ⊢; exact h
    · rw [upd_ne e] at h ⊢; exact s.sub a u h
  len := s.len
  nd := s.nd
  obj := fun n a o' h1 h2 => by
    have hne : a ≠ p := fun e => s.pm hp (e ▸ List.mem_of_getElem? h1)
    exact (s.obj n a o' h1 h2).mono (s.ext_newB (o := o) hp).bb (Pre.refl m) (fun _ h => by rw [upd_ne hne]; exact h) fun x h => by rw [upd_ne hne]; exact h
  own := fun a h => by
    obtain ⟨o', k⟩ := s.own a h
    exact ⟨o', by rw [upd_ne (ne_of_none k hp)]; exact k⟩
theorem Sim.ext_newM (s : Sim K mg B m st H) {p : Addr} {o : HO} (hp : H p = none) : Ext B m H B (m ++ [p]) (upd H p o) where
  bb := Sub.refl B
  bn := fun a u h n => by rw [h] at n; cases n
  mm := ⟨[p], rfl⟩
  mn := fun a h => by
    rcases List.mem_append.mp h with k | k
    · exact .inl k
    · rw [List.mem_singleton] at k; subst k; exact .inr hp
  fr := fun a u h _ => by rw [upd_ne (ne_of_none h hp)]; exact h
  st := fun a u h => ⟨u, by rw [upd_ne (ne_of_none h hp)]; exact h⟩
/-- a new object in the store -/
theorem Sim.newM (s : Sim K mg B m st H) {p : Addr} {o : HO} {mo : MO} (hp : H p = none) (h : ObjAt K mg B (m ++ [p]) (upd H p o) p mo) : Sim K mg B (m ++ [p]) (st ++ [mo]) (upd H p o) where
  sub := fun a u h => by rw [upd_ne (ne_of_none h (s.bnone hp))]; exact s.sub a u h
  len := by simp [s.len]
  nd := by
    rw [List.nodup_append]
    refine ⟨s.nd, by simp, fun a ha b hb => ?_⟩
    rw [List.mem_singleton] at hb
    subst hb
    exact fun e => s.pm hp (e ▸ ha)
  obj := fun n a o' h1 h2 => by
    by_cases hn : n < m.length
    · rw [List.getElem?_append_left hn] at h1
      rw [List.getElem?_append_left (by rw [← s.len]; exact hn)] at h2
      have hne : a ≠ p := fun e => s.pm hp (e ▸ List.mem_of_getElem? h1)
      exact (s.obj n a o' h1 h2).mono (Sub.refl B) ⟨[p], rfl⟩ (fun _ h => h) fun x h => by rw [upd_ne hne]; exact h
    · rw [List.getElem?_append_right (by omega)] at h1
      rw [List.getElem?_append_right (by rw [← s.len]; omega)] at h2
      rw [s.len] at h1
      cases hk : n - st.length with
      | zero =>
        rw [hk] at h1 h2
        simp at h1 h2
        subst h1; subst h2
        exact h
      | succ k => rw [hk] at h1; simp at h1
  own := fun a h => by
    rcases List.mem_append.mp h with k | k
    · obtain ⟨o', q⟩ := s.own a k
      exact ⟨o', by rw [upd_ne (ne_of_none q hp)]; exact q⟩
    · rw [List.mem_singleton] at k; subst k; exact ⟨o, upd_same⟩
theorem nd_get {m : List Addr} (nd : m.Nodup) {i j : Nat} {a : Addr} (h1 : m[i]? = some a) (h2 : m[j]? = some a) : i = j := nd_ix nd h1 h2
theorem ext_setM {a : Addr} {o : HO} {n : Nat} (ha : m[n]? = some a) : Ext B m H B m (upd H a o) where
  bb := Sub.refl B
  bn := fun a u h n => by rw [h] at n; cases n
  mm := Pre.refl m
  mn := fun a h => .inl h
  fr := fun b u h hb => by rw [upd_ne (show b ≠ a from fun e => hb (by rw [e]; exact List.mem_of_getElem? ha))]; exact h
  st := fun b u h => by
    by_cases e : b = a
    · subst e; exact ⟨o, upd_same⟩
    · exact ⟨u, by rw [upd_ne e]; exact h⟩
/-- the entry n is changed -/
theorem Sim.setM (s : Sim K mg B m st H) {a : Addr} {o : HO} {mo : MO} {n : Nat} (ha : m[n]? = some a) (hB : B a = none) (h : ObjAt K mg B m (upd H a o) a mo) : Sim K mg B m (st.set n mo) (upd H a o) where
  sub := fun b u h => by rw [upd_ne (ne_of_none h hB)]; exact s.sub b u h
  len := by rw [List.length_set]; exact s.len
  nd := s.nd
  obj := fun i b o' h1 h2 => by
    by_cases e : n = i
    · subst e
      rw [ha] at h1
      cases h1
      rw [List.getElem?_set_self (by rw [← s.len]; exact (List.getElem?_eq_some_iff.mp ha).1)] at h2
      cases h2
      exact h
    · rw [List.getElem?_set_ne e] at h2
      have hne : b ≠ a := fun k => e (nd_get s.nd ha (k ▸ h1))
      exact (s.obj i b o' h1 h2).mono (Sub.refl B) (Pre.refl m) (fun _ h => h) fun x h => by rw [upd_ne hne]; exact h
  own := fun b h => by
    by_cases e : b = a
    · subst e; exact ⟨o, upd_same⟩
    · obtain ⟨u, k⟩ := s.own b h
      exact ⟨u, by rw [upd_ne e]; exact k⟩
/-- the entry n is told whole from here on -/
theorem Sim.freeze (s : Sim K mg B m st H) {a : Addr} {o : HO} {n : Nat} (ha : m[n]? = some a) (hH : H a = some o) (hB : B a = none) : Sim K mg (upd B a o) m (st.set n .gone) H ∧ Ext B m H (upd B a o) m H := by
  have hb : Sub B (upd B a o) := fun b u h => by rw [upd_ne (ne_of_none h hB)]; exact h
  refine ⟨⟨fun b u h => ?_, by rw [List.length_set]; exact s.len, s.nd, fun i b o' h1 h2 => ?_, s.own⟩, ⟨hb, fun b u h k => ?_, Pre.refl m, fun b h => .inl h, fun b u h _ => h, fun b u h => ⟨u, h⟩⟩⟩
  · by_cases e : b = a
    · subst e; rw [upd_same] at h; cases h; exact hH
    · rw [upd_ne e] at h; exact s.sub b u h
  · by_cases e : n = i
    · subst e
      rw [List.getElem?_set_self (by rw [← s.len]; exact (List.getElem?_eq_some_iff.mp ha).1)] at h2
      cases h2
      trivial
    · rw [List.getElem?_set_ne e] at h2
      have hne : b ≠ a := fun k => e (nd_get s.nd ha (k ▸ h1))
      exact (s.obj i b o' h1 h2).mono hb (Pre.refl m) (fun _ h => by rw [upd_ne hne]; exact h) fun x h => h
  · by_cases e : b = a
    · subst e; exact .inr (List.mem_of_getElem? ha)
    · rw [upd_ne e, k] at h; cases h
end

/-! ### what is reached -/
section
variable (X : Cx)
structure Stt (B : Hp) (m : List Addr) (ρ : Rho) (st : Sto) (σ : St) (H : Hp) : Prop where
  sim : Sim X.K X.mg B m st H
  sl : SlR X.K X.mg B m ρ σ
def ExcR (x : Exn) (cls : Value) (d : Option Addr) (_ : Hp) : Prop := d = none ∧ ∃ C, X.mg x.name = some (.ref C) ∧ cls = .ref C
/-- an exception is let out as W wishes -/
def PostX (W : WX) (B : Hp) (m : List Addr) (H : Hp) (x : Exn) (ρ : Rho) (st : Sto) : Prop :=
  ∀ cls d B' m' σ' H', Ext B m H B' m' H' → Stt X B' m' ρ st σ' H' → ExcR X x cls d H' → W cls d σ' H'
def PostE (W : WX) (B : Hp) (m : List Addr) (H : Hp) (ρ : Rho) (σ : St) (Q : VK) : RE → Prop
  | .ok d st => ∀ v B' m' H', Ext B m H B' m' H' → Stt X B' m' ρ st σ H' → DV X.K X.mg B' m' d v → Q v H'
  | .exc x st => PostX X W B m H x ρ st
  | .stuck => False
def tE (W : WX) (f : E) : TE := fun σ H Q => ∃ B m ρ st, Stt X B m ρ st σ H ∧ PostE X W B m H ρ σ Q (f ρ st)
abbrev SE (W : WX) (e : Expr) (f : E) : Prop := PE X e (tE X W f)
def PostS (W : WX) (B : Hp) (m : List Addr) (H : Hp) (Dn : Ends) : RS → Prop
  | .nx ρ st => ∀ B' m' σ' H', Ext B m H B' m' H' → Stt X B' m' ρ st σ' H' → Dn.nx σ' H'
  | .bk ρ st => ∀ B' m' σ' H', Ext B m H B' m' H' → Stt X B' m' ρ st σ' H' → Dn.bk σ' H'
  | .ct ρ st => ∀ B' m' σ' H', Ext B m H B' m' H' → Stt X B' m' ρ st σ' H' → Dn.ct σ' H'
  | .rt d st => ∀ v B' m' H', Ext B m H B' m' H' → Sim X.K X.mg B' m' st H' → DV X.K X.mg B' m' d v → Dn.rt v H'
  | .exc x ρ st => PostX X W B m H x ρ st
  | .stuck => False
def tS (W : WX) (g : S) : TS := fun Dn σ H => ∃ B m ρ st, Stt X B m ρ st σ H ∧ PostS X W B m H Dn (g ρ st)
abbrev SS (W : WX) (e : Stmt) (f : S) : Prop := PS X e (tS X W f)
abbrev SSs (W : WX) (e : List Stmt) (f : S) : Prop := PSs X e (tS X W f)
end
section
variable {X : Cx} {W : WX} {B B' : Hp} {m m' : List Addr} {ρ ρ' : Rho} {st st' : Sto} {σ σ' : St} {H H' : Hp} {Q : VK}
theorem PostX.ext (e : Ext B m H B' m' H') {x : Exn} (h : PostX X W B m H x ρ st) : PostX X W B' m' H' x ρ st :=
  fun cls d B2 m2 σ2 H2 e2 s x => h cls d B2 m2 σ2 H2 (e.trans e2) s x
theorem PostS.ext (e : Ext B m H B' m' H') {Dn : Ends} : ∀ {r : RS}, PostS X W B m H Dn r → PostS X W B' m' H' Dn r
  | .nx _ _, h => fun B2 m2 σ2 H2 e2 s => h B2 m2 σ2 H2 (e.trans e2) s
  | .bk _ _, h => fun B2 m2 σ2 H2 e2 s => h B2 m2 σ2 H2 (e.trans e2) s
  | .ct _ _, h => fun B2 m2 σ2 H2 e2 s => h B2 m2 σ2 H2 (e.trans e2) s
  | .rt _ _, h => fun v B2 m2 H2 e2 s => h v B2 m2 H2 (e.trans e2) s
  | .exc _ _ _, h => PostX.ext e h
  | .stuck, h => h
theorem PostE.ext (e : Ext B m H B' m' H') : ∀ {r : RE}, PostE X W B m H ρ σ Q r → PostE X W B' m' H' ρ σ Q r
  | .ok _ _, h => fun v B2 m2 H2 e2 s => h v B2 m2 H2 (e.trans e2) s
  | .exc _ _, h => PostX.ext e h
  | .stuck, h => h
theorem Stt.mono (s : Stt X B m ρ st σ H) (e : Ext B m H B' m' H') (k : Sim X.K X.mg B' m' st' H') : Stt X B' m' ρ st' σ H' := ⟨k, s.sl.mono e.bb e.mm⟩
theorem _root_.L2.PE.weak {e : Expr} {t t' : TE} (h : PE X e t) (w : ∀ σ H Q, t' σ H Q → t σ H Q) : PE X e t' := ⟨fun pins s σ H Q I q => h.run pins s σ H Q I (w σ H Q q)⟩
theorem _root_.L2.PT.weak {e : Expr} {t t' : TT} (h : PT X e t) (w : ∀ σ H Q, t' σ H Q → t σ H Q) : PT X e t' := ⟨fun pins s σ H Q I q => h.run pins s σ H Q I (w σ H Q q)⟩
theorem _root_.L2.PA.weak {e : List Expr} {t t' : TA} (h : PA X e t) (w : ∀ σ H Q, t' σ H Q → t σ H Q) : PA X e t' := ⟨fun pos pins s σ H Q I q => h.run pos pins s σ H Q I (w σ H Q q)⟩
theorem _root_.L2.PS.weak {e : Stmt} {t t' : TS} (h : PS X e t) (w : ∀ Dn σ H, t' Dn σ H → t Dn σ H) : PS X e t' := ⟨fun pins s σ H Q I q => h.run pins s σ H Q I (w Q σ H q)⟩
theorem _root_.L2.PSs.weak {e : List Stmt} {t t' : TS} (h : PSs X e t) (w : ∀ Dn σ H, t' Dn σ H → t Dn σ H) : PSs X e t' := ⟨fun pins s σ H Q I q => h.run pins s σ H Q I (w Q σ H q)⟩
theorem _root_.L2.PI.weak {tg e : Expr} {t t' : TI} (h : PI X tg e t) (w : ∀ σ H R, t' σ H R → t σ H R) : PI X tg e t' := ⟨fun pins s σ H Q I q => h.run pins s σ H Q I (w σ H Q q)⟩
end
end L4
namespace L4
open PySem L2

def RE.bind (r : RE) (k : D → Sto → RE) : RE := match r with
  | .ok d st => k d st
  | .exc x st => .exc x st
  | .stuck => .stuck
def RE.of (o : Option D) (st : Sto) : RE := match o with
  | some d => .ok d st
  | none => .stuck
def RE.of2 (o : Option (D × Sto)) : RE := match o with
  | some (d, st) => .ok d st
  | none => .stuck
/-! ### what an expression is worth -/
def eV (i : Nat) : E := fun ρ st => match ρ[i]? with
  | some (some d) => .ok d st
  | _ => .stuck
def eC (d : D) : E := fun _ st => .ok d st
def e1 (g : D → Sto → Option D) (a : E) : E := fun ρ st => (a ρ st).bind fun x st1 => RE.of (g x st1) st1
def e2 (g : D → D → Sto → Option D) (a b : E) : E := fun ρ st => (a ρ st).bind fun x st1 => (b ρ st1).bind fun y st2 => RE.of (g x y st2) st2
inductive RA where
  | ok (ds : List D) (st : Sto) | exc (x : Exn) (st : Sto) | stuck
abbrev EA := Rho → Sto → RA
def RA.bind (r : RA) (k : List D → Sto → RE) : RE := match r with
  | .ok d st => k d st
  | .exc x st => .exc x st
  | .stuck => .stuck
def aNil : EA := fun _ st => .ok [] st
def aCons (a : E) (as : EA) : EA := fun ρ st => match a ρ st with
  | .ok d st1 => (match as ρ st1 with
    | .ok ds st2 => .ok (d :: ds) st2
    | .exc x s => .exc x s
    | .stuck => .stuck)
  | .exc x s => .exc x s
  | .stuck => .stuck
def eN (g : List D → Sto → Option (D × Sto)) (as : EA) : E := fun ρ st => (as ρ st).bind fun ds st1 => RE.of2 (g ds st1)
def eTup (as : EA) : E := fun ρ st => (as ρ st).bind fun ds st1 => if ds.length ≤ 1000000 then .ok (.tup ds) st1 else .stuck
def eLst (as : EA) : E := fun ρ st => (as ρ st).bind fun ds st1 => if ds.length ≤ 1000000 then .ok (.lst ds) st1 else .stuck
def eLstM (as : EA) : E := fun ρ st => (as ρ st).bind fun ds st1 => if ds.length ≤ 1000000 then .ok (.ref st1.length) (st1 ++ [.lst ds]) else .stuck
def eIf (c a b : E) : E := fun ρ st => (c ρ st).bind fun d st1 => match d with
  | .bl true => a ρ st1
  | .bl false => b ρ st1
  | _ => .stuck
def eAnd (a b : E) : E := fun ρ st => (a ρ st).bind fun d st1 => match d with
  | .bl true => b ρ st1
  | .bl false => .ok (.bl false) st1
  | _ => .stuck
def eOr (a b : E) : E := fun ρ st => (a ρ st).bind fun d st1 => match d with
  | .bl true => .ok (.bl true) st1
  | .bl false => b ρ st1
  | _ => .stuck
def eNot (a : E) : E := fun ρ st => (a ρ st).bind fun d st1 => match d with
  | .bl b => .ok (.bl (!b)) st1
  | _ => .stuck
def eChain (g g' : D → D → Sto → Option D) (a b c : E) : E := fun ρ st => (a ρ st).bind fun x st1 => (b ρ st1).bind fun y st2 => (RE.of (g x y st2) st2).bind fun z st3 => match z with
  | .bl true => (c ρ st3).bind fun w st4 => RE.of (g' y w st4) st4
  | .bl false => .ok (.bl false) st3
  | _ => .stuck

section
variable {X : Cx} {W : WX} {B B' : Hp} {m m' : List Addr} {ρ ρ' : Rho} {st st' : Sto} {σ σ' : St} {H H' : Hp} {Q Q' : VK} {e a b c : Expr} {fa fb fc : E}
theorem PostE.mono {r : RE} (h : PostE X W B m H ρ σ Q r) (k : ∀ v H', Q v H' → Q' v H') : PostE X W B m H ρ σ Q' r := by
  cases r with
  | ok d st => exact fun v B' m' H' e s dv => k v H' (h v B' m' H' e s dv)
  | exc x st => exact h
  | stuck => exact h
/-- a part is reached, the rest is still to come -/
def Mid (X : Cx) (W : WX) (B : Hp) (m : List Addr) (H : Hp) (ρ : Rho) (σ : St) (Q : VK) (k : D → Sto → RE) (v : V) (H1 : Hp) : Prop :=
  ∃ B1 m1 st1 d, Ext B m H B1 m1 H1 ∧ Stt X B1 m1 ρ st1 σ H1 ∧ DV X.K X.mg B1 m1 d v ∧ PostE X W B1 m1 H1 ρ σ Q (k d st1)
theorem PostE.bind {r : RE} {k : D → Sto → RE} (h : PostE X W B m H ρ σ Q (r.bind k)) : PostE X W B m H ρ σ (Mid X W B m H ρ σ Q k) r := by
  cases r with
  | ok d st => exact fun v B1 m1 H1 e s dv => ⟨B1, m1, st, d, e, s, dv, PostE.ext e h⟩
  | exc x st => exact h
  | stuck => exact h
theorem PostE.of {o : Option D} (h : PostE X W B m H ρ σ Q (RE.of o st)) : ∃ d, o = some d ∧ ∀ v B' m' H', Ext B m H B' m' H' → Stt X B' m' ρ st σ H' → DV X.K X.mg B' m' d v → Q v H' := by
  cases o with
  | some d => exact ⟨d, rfl, h⟩
  | none => exact h.elim
theorem PostE.ok {d : D} {v : V} (s : Stt X B m ρ st σ H) (dv : DV X.K X.mg B m d v) (h : PostE X W B m H ρ σ Q (.ok d st)) : Q v H := h v B m H (Ext.refl B m H) s dv

/-! ### names, constants -/
theorem r_v {i : Nat} (h : PE X e (tVar i)) : SE X W e (eV i) := h.weak fun σ H Q ⟨B, m, ρ, st, s, q⟩ => by
  unfold eV at q
  split at q
  · rename_i d hd
    obtain ⟨v, h1, h2⟩ := s.sl.2 i d hd
    exact ⟨v, h1, PostE.ok s h2 q⟩
  · exact q.elim
theorem r_c {d : D} {v : V} (h : PE X e (tC v)) (dv : ∀ B m, DV X.K X.mg B m d v) : SE X W e (eC d) := h.weak fun σ H Q ⟨B, m, ρ, st, s, q⟩ => PostE.ok s (dv B m) q

/-! ### operators -/
def Op1 (X : Cx) (r : V → Hp → VK → Prop) (g : D → Sto → Option D) : Prop :=
  ∀ (B : Hp) (m : List Addr) (st : Sto) (H : Hp) (x : D) (u : V) (d : D) (Q : VK), Sim X.K X.mg B m st H → DV X.K X.mg B m x u → g x st = some d →
    (∀ v B' H', Ext B m H B' m H' → Sim X.K X.mg B' m st H' → DV X.K X.mg B' m d v → Q v H') → r u H Q
def Op2 (X : Cx) (r : R2) (g : D → D → Sto → Option D) : Prop :=
  ∀ (B : Hp) (m : List Addr) (st : Sto) (H : Hp) (x y : D) (u w : V) (d : D) (Q : VK), Sim X.K X.mg B m st H → DV X.K X.mg B m x u → DV X.K X.mg B m y w → g x y st = some d →
    (∀ v B' H', Ext B m H B' m H' → Sim X.K X.mg B' m st H' → DV X.K X.mg B' m d v → Q v H') → r u w H Q
def OpN (X : Cx) (r : List V → Hp → VK → Prop) (g : List D → Sto → Option (D × Sto)) : Prop :=
  ∀ (B : Hp) (m : List Addr) (st : Sto) (H : Hp) (xs : List D) (us : List V) (d : D) (st' : Sto) (Q : VK), Sim X.K X.mg B m st H → DVs X.K X.mg B m xs us → g xs st = some (d, st') →
    (∀ v B' m' H', Ext B m H B' m' H' → Sim X.K X.mg B' m' st' H' → DV X.K X.mg B' m' d v → Q v H') → r us H Q
theorem r_e1 {r : V → Hp → VK → Prop} {g : D → Sto → Option D} (hr : ∀ {ta : TE}, PE X a ta → PE X e (tUn r ta)) (ho : Op1 X r g) (ha : SE X W a fa) : SE X W e (e1 g fa) :=
  (hr ha).weak fun σ H Q ⟨B, m, ρ, st, s, q⟩ => ⟨B, m, ρ, st, s, q.bind.mono fun v H1 ⟨B1, m1, st1, d, x1, s1, dv, q1⟩ => by
    obtain ⟨z, hz, q1⟩ := q1.of
    exact ho _ _ _ _ _ _ _ _ s1.sim dv hz fun v' B' H' x2 k2 dv2 => q1 v' B' m1 H' x2 (s1.mono x2 k2) dv2⟩
theorem r_e2 {r : R2} {g : D → D → Sto → Option D} (hr : ∀ {ta tb : TE}, PE X a ta → PE X b tb → PE X e (tOp r ta tb)) (ho : Op2 X r g) (ha : SE X W a fa) (hb : SE X W b fb) : SE X W e (e2 g fa fb) :=
  (hr ha hb).weak fun σ H Q ⟨B, m, ρ, st, s, q⟩ => ⟨B, m, ρ, st, s, q.bind.mono fun v H1 ⟨B1, m1, st1, d, x1, s1, dv, q1⟩ =>
    ⟨B1, m1, ρ, st1, s1, q1.bind.mono fun w H2 ⟨B2, m2, st2, d2, x2, s2, dw, q2⟩ => by
      obtain ⟨z, hz, q2⟩ := q2.of
      exact ho _ _ _ _ _ _ _ _ _ _ s2.sim (dv.mono x2.bb x2.mm) dw hz fun v' B' H' x3 k3 dv3 => q2 v' B' m2 H' x3 (s2.mono x3 k3) dv3⟩⟩

/-! ### argument lists -/
def PostA (X : Cx) (W : WX) (B : Hp) (m : List Addr) (H : Hp) (ρ : Rho) (σ : St) (Q : List V → Hp → Prop) : RA → Prop
  | .ok d st => ∀ v B' m' H', Ext B m H B' m' H' → Stt X B' m' ρ st σ H' → DVs X.K X.mg B' m' d v → Q v H'
  | .exc x st => PostX X W B m H x ρ st
  | .stuck => False
def tA (X : Cx) (W : WX) (f : EA) : TA := fun σ H Q => ∃ B m ρ st, Stt X B m ρ st σ H ∧ PostA X W B m H ρ σ Q (f ρ st)
abbrev SA (X : Cx) (W : WX) (es : List Expr) (f : EA) : Prop := PA X es (tA X W f)
theorem PostA.ext {Q : List V → Hp → Prop} (e : Ext B m H B' m' H') : ∀ {r : RA}, PostA X W B m H ρ σ Q r → PostA X W B' m' H' ρ σ Q r
  | .ok _ _, h => fun v B2 m2 H2 e2 s => h v B2 m2 H2 (e.trans e2) s
  | .exc _ _, h => PostX.ext e h
  | .stuck, h => h
theorem PostA.mono {Q Q' : List V → Hp → Prop} {r : RA} (h : PostA X W B m H ρ σ Q r) (k : ∀ v H', Q v H' → Q' v H') : PostA X W B m H ρ σ Q' r := by
  cases r with
  | ok d st => exact fun v B' m' H' e s dv => k v H' (h v B' m' H' e s dv)
  | exc x st => exact h
  | stuck => exact h
def MidA (X : Cx) (W : WX) (B : Hp) (m : List Addr) (H : Hp) (ρ : Rho) (σ : St) (Q : VK) (k : List D → Sto → RE) (vs : List V) (H1 : Hp) : Prop :=
  ∃ B1 m1 st1 ds, Ext B m H B1 m1 H1 ∧ Stt X B1 m1 ρ st1 σ H1 ∧ DVs X.K X.mg B1 m1 ds vs ∧ PostE X W B1 m1 H1 ρ σ Q (k ds st1)
theorem PostE.bindA {r : RA} {k : List D → Sto → RE} (h : PostE X W B m H ρ σ Q (r.bind k)) : PostA X W B m H ρ σ (MidA X W B m H ρ σ Q k) r := by
  cases r with
  | ok d st => exact fun v B1 m1 H1 e s dv => ⟨B1, m1, st, d, e, s, dv, PostE.ext e h⟩
  | exc x st => exact h
  | stuck => exact h
theorem ra_nil : SA X W [] aNil := pa_nil.weak fun σ H Q ⟨B, m, ρ, st, s, q⟩ => q [] B m H (Ext.refl B m H) s .nil
theorem ra_cons {es : List Expr} {fs : EA} (ha : SE X W e fa) (hr : SA X W es fs) (hs : starEach (e :: es) X.env = (false, eval e X.env) :: starEach es X.env := by rfl) : SA X W (e :: es) (aCons fa fs) :=
  (pa_cons ha hr hs).weak fun σ H Q ⟨B, m, ρ, st, s, q⟩ => by
    refine ⟨B, m, ρ, st, s, ?_⟩
    unfold aCons at q
    cases h1 : fa ρ st with
    | ok d st1 =>
      rw [h1] at q
      dsimp only at q
      refine fun v B1 m1 H1 x1 s1 dv => ⟨B1, m1, ρ, st1, s1, ?_⟩
      have q := PostA.ext x1 q
      revert q
      cases h2 : fs ρ st1 with
      | ok ds st2 => exact fun q vs B2 m2 H2 x2 s2 dvs => q (v :: vs) B2 m2 H2 x2 s2 (.cons (dv.mono x2.bb x2.mm) dvs)
      | exc x s' => exact fun q => q
      | stuck => exact fun q => q
    | exc x s' => rw [h1] at q; exact q
    | stuck => rw [h1] at q; exact q.elim
theorem r_eN {r : List V → Hp → VK → Prop} {g : List D → Sto → Option (D × Sto)} {es : List Expr} {fs : EA} (hr : ∀ {ta : TA}, PA X es ta → PE X e (tCB r ta)) (ho : OpN X r g) (ha : SA X W es fs) : SE X W e (eN g fs) :=
  (hr ha).weak fun σ H Q ⟨B, m, ρ, st, s, q⟩ => ⟨B, m, ρ, st, s, q.bindA.mono fun v H1 ⟨B1, m1, st1, d, x1, s1, dv, q1⟩ => by
    show r v H1 Q
    dsimp only at q1
    cases hg : g d st1 with
    | none => rw [hg] at q1; exact q1.elim
    | some p =>
      obtain ⟨z, st2⟩ := p
      rw [hg] at q1
      exact ho _ _ _ _ _ _ _ _ _ s1.sim dv hg fun v' B' m' H' x2 k2 dv2 => q1 v' B' m' H' x2 (s1.mono x2 k2) dv2⟩
theorem le_line {n : Nat} (h : n ≤ 1000000) : n ≤ sizeLine := Nat.le_trans h (by decide)
theorem lt_line {n : Nat} (h : n ≤ 1000000) : n < sizeLine := Nat.lt_of_le_of_lt h (by decide)
theorem dv_newT {K : PySem.W.Frag} {mg : Str → Option Value} {ds : List D} {vs : List V} {p : Addr} (s : Sim K mg B m st H) (hp : H p = none) (dv : DVs K mg B m ds vs) : DV K mg (upd B p (.tup vs)) m (.tup ds) (.ref p) :=
  .tup (SqT.of upd_same) (dv.mono (s.ext_newB (o := .tup vs) hp).bb (Pre.refl m))
theorem dv_newL {K : PySem.W.Frag} {mg : Str → Option Value} {ds : List D} {vs : List V} {p : Addr} (s : Sim K mg B m st H) (hp : H p = none) (dv : DVs K mg B m ds vs) : DV K mg (upd B p (.lst vs)) m (.lst ds) (.ref p) :=
  .lst upd_same (dv.mono (s.ext_newB (o := .lst vs) hp).bb (Pre.refl m))
theorem r_tup {es : List Expr} {fs : EA} {x1 pos} (ha : SA X W es fs) : SE X W (.Tuple es x1 pos) (eTup fs) :=
  (pe_tup ha).weak fun σ H Q ⟨B, m, ρ, st, s, q⟩ => ⟨B, m, ρ, st, s, q.bindA.mono fun v H1 ⟨B1, m1, st1, d, x1, s1, dv, q1⟩ => by
    dsimp only at q1
    by_cases hl : d.length ≤ 1000000
    · rw [if_pos hl] at q1
      exact ⟨le_line (by rw [← dv.length]; exact hl), fun p hp => q1 _ _ _ _ (s1.sim.ext_newB hp) (s1.mono (s1.sim.ext_newB hp) (s1.sim.newB hp)) (dv_newT s1.sim hp dv)⟩
    · rw [if_neg hl] at q1
      exact q1.elim⟩
theorem r_lst {es : List Expr} {fs : EA} {pos} (ha : SA X W es fs) : SE X W (.List es pos) (eLst fs) :=
  (pe_lst ha).weak fun σ H Q ⟨B, m, ρ, st, s, q⟩ => ⟨B, m, ρ, st, s, q.bindA.mono fun v H1 ⟨B1, m1, st1, d, x1, s1, dv, q1⟩ => by
    dsimp only at q1
    by_cases hl : d.length ≤ 1000000
    · rw [if_pos hl] at q1
      exact ⟨le_line (by rw [← dv.length]; exact hl), fun p hp => q1 _ _ _ _ (s1.sim.ext_newB hp) (s1.mono (s1.sim.ext_newB hp) (s1.sim.newB hp)) (dv_newL s1.sim hp dv)⟩
    · rw [if_neg hl] at q1
      exact q1.elim⟩
theorem oa_lst {K : PySem.W.Frag} {mg : Str → Option Value} {ds : List D} {vs : List V} {p : Addr} (s : Sim K mg B m st H) (hp : H p = none) (dv : DVs K mg B m ds vs) : ObjAt K mg B (m ++ [p]) (upd H p (.lst vs)) p (.lst ds) :=
  ⟨s.bnone hp, vs, upd_same, dv.mono (Sub.refl B) ⟨[p], rfl⟩⟩
theorem dv_newR {K : PySem.W.Frag} {mg : Str → Option Value} {p : Addr} (s : Sim K mg B m st H) : DV K mg B (m ++ [p]) (.ref st.length) (.ref p) := .ref (by rw [← s.len]; simp)
theorem r_lstM {es : List Expr} {fs : EA} {pos} (ha : SA X W es fs) : SE X W (.List es pos) (eLstM fs) :=
  (pe_lst ha).weak fun σ H Q ⟨B, m, ρ, st, s, q⟩ => ⟨B, m, ρ, st, s, q.bindA.mono fun v H1 ⟨B1, m1, st1, d, x1, s1, dv, q1⟩ => by
    dsimp only at q1
    by_cases hl : d.length ≤ 1000000
    · rw [if_pos hl] at q1
      exact ⟨le_line (by rw [← dv.length]; exact hl), fun p hp => q1 _ _ _ _ (s1.sim.ext_newM hp) (s1.mono (s1.sim.ext_newM hp) (s1.sim.newM hp (oa_lst s1.sim hp dv))) (dv_newR s1.sim)⟩
    · rw [if_neg hl] at q1
      exact q1.elim⟩

/-! ### tests -/
def PostT (X : Cx) (W : WX) (B : Hp) (m : List Addr) (H : Hp) (ρ : Rho) (σ : St) (Q : Bool → Hp → Prop) (r : RE) : Prop := PostE X W B m H ρ σ (fun v H1 => ∃ b, v = .bl b ∧ Q b H1) r
def tT (X : Cx) (W : WX) (f : E) : TT := fun σ H Q => ∃ B m ρ st, Stt X B m ρ st σ H ∧ PostE X W B m H ρ σ (fun v H1 => ∃ b, v = .bl b ∧ Q b H1) (f ρ st)
abbrev ST (X : Cx) (W : WX) (e : Expr) (f : E) : Prop := PT X e (tT X W f)
abbrev SW (X : Cx) (W : WX) (e : Expr) (f : E) : Prop := PW X e (tT X W f)
theorem _root_.L2.PW.weak {e : Expr} {t t' : TT} (h : PW X e t) (w : ∀ σ H Q, t' σ H Q → t σ H Q) : PW X e t' := ⟨fun whole pins s σ H Q I q => h.run whole pins s σ H Q I (w σ H Q q)⟩
theorem rt_val {f : E} (h : SE X W e f) (he : ∀ whole, isTrue e X.env whole = (do let v ← whole; standAt e.pos; holding [v] (truthy v)) := by intro _; rfl) : ST X W e f :=
  (pt_val h he).weak fun σ H Q ⟨B, m, ρ, st, s, q⟩ => ⟨B, m, ρ, st, s, q⟩
/-- from a test's middle: its value is a bool -/
theorem dv_bl {K : PySem.W.Frag} {mg : Str → Option Value} {d : D} {b : Bool} (h : DV K mg B m d (.bl b)) : d = .bl b := by cases h; rfl
theorem PostE.bindT {r : RE} {k : D → Sto → RE} {R : Bool → Hp → Prop} (h : PostE X W B m H ρ σ Q (r.bind k)) (hb : ∀ d st, PostE X W B m H ρ σ Q (k d st) → r = .ok d st → ∃ b, d = .bl b)
    (hR : ∀ b H1 B1 m1 st1, Ext B m H B1 m1 H1 → Stt X B1 m1 ρ st1 σ H1 → PostE X W B1 m1 H1 ρ σ Q (k (.bl b) st1) → R b H1) : PostE X W B m H ρ σ (fun v H1 => ∃ b, v = .bl b ∧ R b H1) r := by
  cases r with
  | ok d st =>
    obtain ⟨b, rfl⟩ := hb d st h rfl
    intro v B1 m1 H1 e s dv
    cases dv
    exact ⟨b, rfl, hR b H1 B1 m1 st e s (PostE.ext e h)⟩
  | exc x st => exact h
  | stuck => exact h
theorem r_if {pos} (hc : ST X W c fc) (ha : SE X W a fa) (hb : SE X W b fb) : SE X W (.IfExp c a b pos) (eIf fc fa fb) :=
  (pe_ifExp hc ha hb).weak fun σ H Q ⟨B, m, ρ, st, s, q⟩ => ⟨B, m, ρ, st, s, PostE.bindT q (fun d st h _ => by
      cases d <;> first | exact ⟨_, rfl⟩ | exact h.elim) fun k H1 B1 m1 st1 x1 s1 q1 => by
    cases k with
    | true => exact iteT ⟨B1, m1, ρ, st1, s1, q1⟩
    | false => exact iteF ⟨B1, m1, ρ, st1, s1, q1⟩⟩
theorem rt_not {pos} (ha : ST X W a fa) : ST X W (.UnaryOp .Not a pos) (eNot fa) :=
  (pt_not ha).weak fun σ H Q ⟨B, m, ρ, st, s, q⟩ => ⟨B, m, ρ, st, s, PostE.bindT q (fun d st h _ => by
      cases d <;> first | exact ⟨_, rfl⟩ | exact h.elim) fun k H1 B1 m1 st1 x1 s1 q1 => by
    obtain ⟨b', e', h'⟩ := q1 _ B1 m1 H1 (Ext.refl _ _ _) s1 (.bl _)
    cases e'
    exact h'⟩
theorem rw_and1 {pos} (ha : ST X W a fa) : SW X W (.BoolOp .And [a] pos) fa := pw_and1 ha
theorem rw_or1 {pos} (ha : ST X W a fa) : SW X W (.BoolOp .Or [a] pos) fa := pw_or1 ha
theorem rw_and {pos} {rest : List Expr} (ha : ST X W a fa) (hb : SW X W (.BoolOp .And (b :: rest) pos) fb) : SW X W (.BoolOp .And (a :: b :: rest) pos) (eAnd fa fb) :=
  PW.weak (pw_and ha hb) fun σ H Q ⟨B, m, ρ, st, s, q⟩ => ⟨B, m, ρ, st, s, PostE.bindT q (fun d st h _ => by
      cases d <;> first | exact ⟨_, rfl⟩ | exact h.elim) fun k H1 B1 m1 st1 x1 s1 q1 => by
    cases k with
    | true => exact iteT ⟨B1, m1, ρ, st1, s1, q1⟩
    | false =>
      obtain ⟨b', e', h'⟩ := q1 _ B1 m1 H1 (Ext.refl _ _ _) s1 (.bl _)
      cases e'
      exact iteF h'⟩
theorem rw_or {pos} {rest : List Expr} (ha : ST X W a fa) (hb : SW X W (.BoolOp .Or (b :: rest) pos) fb) : SW X W (.BoolOp .Or (a :: b :: rest) pos) (eOr fa fb) :=
  PW.weak (pw_or ha hb) fun σ H Q ⟨B, m, ρ, st, s, q⟩ => ⟨B, m, ρ, st, s, PostE.bindT q (fun d st h _ => by
      cases d <;> first | exact ⟨_, rfl⟩ | exact h.elim) fun k H1 B1 m1 st1 x1 s1 q1 => by
    cases k with
    | false => exact iteF ⟨B1, m1, ρ, st1, s1, q1⟩
    | true =>
      obtain ⟨b', e', h'⟩ := q1 _ B1 m1 H1 (Ext.refl _ _ _) s1 (.bl _)
      cases e'
      exact iteT h'⟩
theorem rt_w {f : E} (h : SW X W e f) : ST X W e f := PW.pt h
/-! .. as values -/
theorem r_one {op pos} {f : E} (h : SE X W a f) : SE X W (.BoolOp op [a] pos) f := pe_one h
theorem r_and {pos} {rest : List Expr} (ha : SE X W a fa) (hb : SE X W (.BoolOp .And (b :: rest) pos) fb) : SE X W (.BoolOp .And (a :: b :: rest) pos) (eAnd fa fb) :=
  (pe_and ha hb).weak fun σ H Q ⟨B, m, ρ, st, s, q⟩ => ⟨B, m, ρ, st, s, PostE.bindT q (fun d st h _ => by
      cases d <;> first | exact ⟨_, rfl⟩ | exact h.elim) fun k H1 B1 m1 st1 x1 s1 q1 => by
    cases k with
    | true => exact iteT ⟨B1, m1, ρ, st1, s1, q1⟩
    | false => exact iteF (q1 _ B1 m1 H1 (Ext.refl _ _ _) s1 (.bl _))⟩
theorem r_or {pos} {rest : List Expr} (ha : SE X W a fa) (hb : SE X W (.BoolOp .Or (b :: rest) pos) fb) : SE X W (.BoolOp .Or (a :: b :: rest) pos) (eOr fa fb) :=
  (pe_or ha hb).weak fun σ H Q ⟨B, m, ρ, st, s, q⟩ => ⟨B, m, ρ, st, s, PostE.bindT q (fun d st h _ => by
      cases d <;> first | exact ⟨_, rfl⟩ | exact h.elim) fun k H1 B1 m1 st1 x1 s1 q1 => by
    cases k with
    | false => exact iteF ⟨B1, m1, ρ, st1, s1, q1⟩
    | true => exact iteT (q1 _ B1 m1 H1 (Ext.refl _ _ _) s1 (.bl _))⟩
theorem r_not {pos} (ha : SE X W a fa) : SE X W (.UnaryOp .Not a pos) (eNot fa) :=
  (pe_not ha).weak fun σ H Q ⟨B, m, ρ, st, s, q⟩ => ⟨B, m, ρ, st, s, PostE.bindT q (fun d st h _ => by
      cases d <;> first | exact ⟨_, rfl⟩ | exact h.elim) fun k H1 B1 m1 st1 x1 s1 q1 => q1 _ B1 m1 H1 (Ext.refl _ _ _) s1 (.bl _)⟩
end
end L4
namespace L4
open PySem L2

def RE.toS (r : RE) (ρ : Rho) (k : D → Sto → RS) : RS := match r with
  | .ok d st => k d st
  | .exc x st => .exc x ρ st
  | .stuck => .stuck
def sNx : S := fun ρ st => .nx ρ st
def sBk : S := fun ρ st => .bk ρ st
def sCt : S := fun ρ st => .ct ρ st
def sNo : S := fun _ _ => .stuck
def sSeq (a b : S) : S := fun ρ st => match a ρ st with
  | .nx ρ1 st1 => b ρ1 st1
  | r => r
def sRet (e : E) : S := fun ρ st => (e ρ st).toS ρ fun d st1 => .rt d st1
def sRetN : S := fun _ st => .rt .non st
def sDrop (e : E) : S := fun ρ st => (e ρ st).toS ρ fun _ st1 => .nx ρ st1
def sIf (c : E) (a b : S) : S := fun ρ st => (c ρ st).toS ρ fun d st1 => match d with
  | .bl true => a ρ st1
  | .bl false => b ρ st1
  | _ => .stuck
def sSet (i : Nat) (e : E) : S := fun ρ st => (e ρ st).toS ρ fun d st1 => .nx (ρ.set i (some d)) st1
abbrev Bd := D → Rho → Option Rho
abbrev Bds := List D → Rho → Option Rho
def bName (i : Nat) : Bd := fun d ρ => some (ρ.set i (some d))
def bNil : Bds := fun ds ρ => match ds with
  | [] => some ρ
  | _ => none
def bCons (b : Bd) (bs : Bds) : Bds := fun ds ρ => match ds with
  | [] => none
  | d :: ds => (match b d ρ with
    | some ρ1 => bs ds ρ1
    | none => none)
def bTup (n : Nat) (bs : Bds) : Bd := fun d ρ => match d with
  | .tup ds => if ds.length = n then bs ds ρ else none
  | .lst ds => if ds.length = n then bs ds ρ else none
  | _ => none
def sAsg (e : E) (b : Bd) : S := fun ρ st => (e ρ st).toS ρ fun d st1 => match b d ρ with
  | some ρ1 => .nx ρ1 st1
  | none => .stuck
def sPar (i j : Nat) (a b : E) : S := fun ρ st => (a ρ st).toS ρ fun x st1 => (b ρ st1).toS ρ fun y st2 => .nx ((ρ.set i (some x)).set j (some y)) st2
def sWhile (c : E) (b : S) : Nat → S
  | 0 => sNo
  | n + 1 => fun ρ st => (c ρ st).toS ρ fun d st1 => match d with
    | .bl false => .nx ρ st1
    | .bl true => (match b ρ st1 with
      | .nx ρ2 st2 => sWhile c b n ρ2 st2
      | .ct ρ2 st2 => sWhile c b n ρ2 st2
      | .bk ρ2 st2 => .nx ρ2 st2
      | r => r)
    | _ => .stuck
def sForGo (b : Bd) (body : S) : List D → S
  | [] => sNx
  | d :: ds => fun ρ st => match b d ρ with
    | none => .stuck
    | some ρ1 => (match body ρ1 st with
      | .nx ρ2 st2 => sForGo b body ds ρ2 st2
      | .ct ρ2 st2 => sForGo b body ds ρ2 st2
      | .bk ρ2 st2 => .nx ρ2 st2
      | r => r)
def RA.toS (r : RA) (ρ : Rho) (k : List D → Sto → RS) : RS := match r with
  | .ok d st => k d st
  | .exc x st => .exc x ρ st
  | .stuck => .stuck
def sFor (src : EA) (b : Bd) (body : S) : S := fun ρ st => (src ρ st).toS ρ fun items st1 => sForGo b body items ρ st1
def sFrz (i : Nat) : S := fun ρ st => match ρ[i]? with
  | some (some (.ref n)) => (match st[n]? with
    | some (.lst ds) => .nx (ρ.set i (some (.lst ds))) (st.set n .gone)
    | _ => .stuck)
  | _ => .stuck
def wipeD (ρ : Rho) : List Nat → Rho
  | [] => ρ
  | v :: vs => (wipeD ρ vs).set v none
def lcGo (b : Bd) (t f : E) (ρ0 : Rho) (fin : List D → Sto → RE) : List D → Sto → List D → RE
  | [], st, acc => fin acc.reverse st
  | d :: ds, st, acc => match b d ρ0 with
    | none => .stuck
    | some ρ1 => (match t ρ1 st with
      | .ok (.bl true) st1 => (match f ρ1 st1 with
        | .ok y st2 => lcGo b t f ρ0 fin ds st2 (y :: acc)
        | _ => .stuck)
      | .ok (.bl false) st1 => lcGo b t f ρ0 fin ds st1 acc
      | _ => .stuck)
def finL (acc : List D) (st : Sto) : RE := .ok (.lst acc) st
def finM (acc : List D) (st : Sto) : RE := .ok (.ref st.length) (st ++ [.lst acc])
def eLcB (fin : List D → Sto → RE) (src : EA) (own : List Nat) (b : Bd) (t f : E) : E := fun ρ st => (src ρ st).bind fun items st1 => if items.length ≤ 1000000 then lcGo b t f (wipeD ρ own) fin items st1 [] else .stuck
abbrev eLc := eLcB finL
abbrev eLcM := eLcB finM

section
variable {X : Cx} {W : WX} {B B' : Hp} {m m' : List Addr} {ρ ρ' : Rho} {st st' : Sto} {σ σ' : St} {H H' : Hp} {Q Q' : VK} {e a b c : Expr} {fa fb fc fe : E} {ga gb : S} {Dn : Ends}
def MidS (X : Cx) (W : WX) (B : Hp) (m : List Addr) (H : Hp) (ρ : Rho) (σ : St) (Dn : Ends) (k : D → Sto → RS) (v : V) (H1 : Hp) : Prop :=
  ∃ B1 m1 st1 d, Ext B m H B1 m1 H1 ∧ Stt X B1 m1 ρ st1 σ H1 ∧ DV X.K X.mg B1 m1 d v ∧ PostS X W B1 m1 H1 Dn (k d st1)
theorem PostS.toE {r : RE} {k : D → Sto → RS} (h : PostS X W B m H Dn (r.toS ρ k)) : PostE X W B m H ρ σ (MidS X W B m H ρ σ Dn k) r := by
  cases r with
  | ok d st => exact fun v B1 m1 H1 e s dv => ⟨B1, m1, st, d, e, s, dv, PostS.ext e h⟩
  | exc x st => exact h
  | stuck => exact h
theorem PostS.toT {r : RE} {k : D → Sto → RS} {R : Bool → Hp → Prop} (h : PostS X W B m H Dn (r.toS ρ k)) (hb : ∀ d st, PostS X W B m H Dn (k d st) → ∃ b, d = .bl b)
    (hR : ∀ b H1 B1 m1 st1, Ext B m H B1 m1 H1 → Stt X B1 m1 ρ st1 σ H1 → PostS X W B1 m1 H1 Dn (k (.bl b) st1) → R b H1) : PostE X W B m H ρ σ (fun v H1 => ∃ b, v = .bl b ∧ R b H1) r := by
  cases r with
  | ok d st =>
    obtain ⟨b, rfl⟩ := hb d st h
    intro v B1 m1 H1 e s dv
    cases dv
    exact ⟨b, rfl, hR b H1 B1 m1 st e s (PostS.ext e h)⟩
  | exc x st => exact h
  | stuck => exact h
theorem PostS.nx (s : Stt X B m ρ st σ H) (h : PostS X W B m H Dn (.nx ρ st)) : Dn.nx σ H := h B m σ H (Ext.refl B m H) s
/-- other ends -/
theorem PostS.conv {D1 D2 : Ends} {f : RS → RS} (r : RS) (h : PostS X W B m H D1 (f r)) (hf : f r = r) (hr : ∀ ρ st, r ≠ .nx ρ st) (hrt : D1.rt = D2.rt) (hb : D1.bk = D2.bk) (hc : D1.ct = D2.ct) : PostS X W B m H D2 r := by
  rw [hf] at h
  cases r with
  | nx ρ st => exact absurd rfl (hr ρ st)
  | bk ρ st => intro B' m' σ' H' e s; rw [← hb]; exact h B' m' σ' H' e s
  | ct ρ st => intro B' m' σ' H' e s; rw [← hc]; exact h B' m' σ' H' e s
  | rt d st => intro v B' m' H' e s dv; rw [← hrt]; exact h v B' m' H' e s dv
  | exc x ρ st => exact h
  | stuck => exact h

theorem s_nil : SSs X W [] sNx := pss_nil.weak fun Dn σ H ⟨B, m, ρ, st, s, q⟩ => PostS.nx s q
theorem s_cons {x : Stmt} {xs : List Stmt} (h1 : SS X W x ga) (h2 : SSs X W xs gb) : SSs X W (x :: xs) (sSeq ga gb) :=
  (pss_cons h1 h2).weak fun Dn σ H ⟨B, m, ρ, st, s, q⟩ => by
    refine ⟨B, m, ρ, st, s, ?_⟩
    unfold sSeq at q
    cases h : ga ρ st with
    | nx ρ1 st1 =>
      rw [h] at q
      exact fun B1 m1 σ1 H1 e s1 => ⟨B1, m1, ρ1, st1, s1, PostS.ext e q⟩
    | bk ρ1 st1 => rw [h] at q; exact q
    | ct ρ1 st1 => rw [h] at q; exact q
    | rt d st1 => rw [h] at q; exact q
    | exc x ρ1 st1 => rw [h] at q; exact q
    | stuck => rw [h] at q; exact q
theorem s_one {x : Stmt} (h1 : SS X W x ga) : SSs X W [x] ga := pss_one h1
theorem s_pass {pos} : SS X W (.Pass pos) sNx := ps_pass.weak fun Dn σ H ⟨B, m, ρ, st, s, q⟩ => PostS.nx s q
theorem s_break {pos} : SS X W (.Break pos) sBk := ps_break.weak fun Dn σ H ⟨B, m, ρ, st, s, q⟩ => q B m σ H (Ext.refl B m H) s
theorem s_cont {pos} : SS X W (.Continue pos) sCt := ps_continue.weak fun Dn σ H ⟨B, m, ρ, st, s, q⟩ => q B m σ H (Ext.refl B m H) s
theorem s_never {x : Stmt} : SS X W x sNo := ps_never.weak fun Dn σ H ⟨B, m, ρ, st, s, q⟩ => q
theorem s_ret {pos} (h : SE X W e fe) : SS X W (.Return (some e) pos) (sRet fe) :=
  (ps_ret h).weak fun Dn σ H ⟨B, m, ρ, st, s, q⟩ => ⟨B, m, ρ, st, s, q.toE.mono fun v H1 ⟨B1, m1, st1, d, x1, s1, dv, q1⟩ => q1 v B1 m1 H1 (Ext.refl _ _ _) s1.sim dv⟩
theorem s_retN {pos} : SS X W (.Return none pos) sRetN := ps_retN.weak fun Dn σ H ⟨B, m, ρ, st, s, q⟩ => q .non B m H (Ext.refl _ _ _) s.sim .non
theorem s_expr {pos : Pos} (h : SE X W e fe) (hs : swapsWith e none pos.line X.env = pure false := by rfl) : SS X W (.Expr e pos) (sDrop fe) :=
  (ps_expr h hs).weak fun Dn σ H ⟨B, m, ρ, st, s, q⟩ => ⟨B, m, ρ, st, s, q.toE.mono fun v H1 ⟨B1, m1, st1, d, x1, s1, dv, q1⟩ => PostS.nx s1 q1⟩
theorem s_if {pos} {as bs : List Stmt} (hc : ST X W c fc) (ha : SSs X W as ga) (hb : SSs X W bs gb) : SS X W (.If c as bs pos) (sIf fc ga gb) :=
  (ps_if hc ha hb).weak fun Dn σ H ⟨B, m, ρ, st, s, q⟩ => ⟨B, m, ρ, st, s, PostS.toT q (fun d st h => by
      cases d <;> first | exact ⟨_, rfl⟩ | exact h.elim) fun k H1 B1 m1 st1 x1 s1 q1 => by
    cases k with
    | true => exact iteT ⟨B1, m1, ρ, st1, s1, q1⟩
    | false => exact iteF ⟨B1, m1, ρ, st1, s1, q1⟩⟩
theorem Stt.setR (s : Stt X B m ρ st σ H) {d : D} {v : V} (dv : DV X.K X.mg B m d v) (i : Nat) : Stt X B m (ρ.set i (some d)) st (σ.set i (some v)) H := ⟨s.sim, s.sl.set dv i⟩
theorem s_set {i : Nat} {x : Str} {pos pos' : Pos} (hN : X.N.Nodup) (hi : X.N[i]? = some x) (hx : Loc X.env.scope x) (he : SE X W e fe) (hs : swapsWith e (some (.Name x pos')) pos.line X.env = pure false := by rfl)
    (hf : X.fn x = true ∨ X.env.scope.names.lookup x = some .local := by first | exact .inl rfl | exact .inr rfl | assumption) : SS X W (.Assign [.Name x pos'] e pos) (sSet i fe) :=
  (ps_set hN hi hx he hs hf).weak fun Dn σ H ⟨B, m, ρ, st, s, q⟩ => ⟨B, m, ρ, st, s, q.toE.mono fun v H1 ⟨B1, m1, st1, d, x1, s1, dv, q1⟩ => PostS.nx (s1.setR dv i) q1⟩
theorem s_par {i j : Nat} {x y : Str} {px py pt pos : Pos} {kt k2 pt2} (hc : X.calm = true) (hN : X.N.Nodup) (hi : X.N[i]? = some x) (hj : X.N[j]? = some y) (hij : i ≠ j)
    (hx : X.env.scope.names.lookup x = some .local) (hy : X.env.scope.names.lookup y = some .local) (ha : SE X W a fa) (hb : SE X W b fb)
    (hw : swappedStores [.Tuple [.Name x px, .Name y py] kt pt] (.Tuple [a, b] k2 pt2) X.env = pure (some [x, y]))
    (hs : swapsWithSole [.Tuple [.Name x px, .Name y py] kt pt] (.Tuple [a, b] k2 pt2) pos.line X.env = pure false := by rfl)
    (ha1 : starEach [a, b] X.env = (false, eval a X.env) :: starEach [b] X.env := by rfl) (hb1 : starEach [b] X.env = (false, eval b X.env) :: starEach [] X.env := by rfl) :
    SS X W (.Assign [.Tuple [.Name x px, .Name y py] kt pt] (.Tuple [a, b] k2 pt2) pos) (sPar i j fa fb) :=
  (ps_par hc hN hi hj hij hx hy (pa_cons ha (pa_cons hb pa_nil hb1) ha1) hw hs).weak fun Dn σ H ⟨B, m, ρ, st, s, q⟩ => ⟨B, m, ρ, st, s, q.toE.mono fun v H1 ⟨B1, m1, st1, d, x1, s1, dv, q1⟩ =>
    ⟨B1, m1, ρ, st1, s1, q1.toE.mono fun w H2 ⟨B2, m2, st2, d2, x2, s2, dw, q2⟩ => ⟨v, w, rfl, PostS.nx ((s2.setR (dv.mono x2.bb x2.mm) i).setR dw j) q2⟩⟩⟩

/-! ### targets -/
def tG (X : Cx) (b : Bd) (ts : List Nat) : TG := fun v σ H Q => ∃ B m ρ st d ρ', Stt X B m ρ st σ H ∧ DV X.K X.mg B m d v ∧ b d ρ = some ρ' ∧
  ∀ σ', SlR X.K X.mg B m ρ' σ' → σ'.length = σ.length → (∀ j, j ∉ ts → σ'[j]? = σ[j]?) → Q σ' H
def tGs (X : Cx) (b : Bds) (ts : List Nat) : TGs := fun v σ H Q => ∃ B m ρ st d ρ', Stt X B m ρ st σ H ∧ DVs X.K X.mg B m d v ∧ b d ρ = some ρ' ∧
  ∀ σ', SlR X.K X.mg B m ρ' σ' → σ'.length = σ.length → (∀ j, j ∉ ts → σ'[j]? = σ[j]?) → Q σ' H
abbrev SG (X : Cx) (tg : Expr) (b : Bd) (ts : List Nat) : Prop := PG X tg (tG X b ts)
abbrev SGs (X : Cx) (tg : List Expr) (b : Bds) (ts : List Nat) : Prop := PGs X tg (tGs X b ts)
theorem _root_.L2.PG.weak {e : Expr} {t t' : TG} (h : PG X e t) (w : ∀ v σ H Q, t' v σ H Q → t v σ H Q) : PG X e t' := ⟨fun pins s σ H v u Q I r q => h.run pins s σ H v u Q I r (w v σ H Q q)⟩
theorem _root_.L2.PGs.weak {e : List Expr} {t t' : TGs} (h : PGs X e t) (w : ∀ v σ H Q, t' v σ H Q → t v σ H Q) : PGs X e t' := ⟨fun pins s σ H v u Q I r q => h.run pins s σ H v u Q I r (w v σ H Q q)⟩
theorem g_name {i : Nat} {x : Str} {pos} (hN : X.N.Nodup) (hi : X.N[i]? = some x) (hx : Loc X.env.scope x) (hf : X.fn x = true ∨ X.env.scope.names.lookup x = some .local := by first | exact .inl rfl | exact .inr rfl | assumption) : SG X (.Name x pos) (bName i) [i] :=
  (pg_name hN hi hx hf).weak fun v σ H Q ⟨B, m, ρ, st, d, ρ', s, dv, hb, q⟩ => by
    cases hb
    refine q _ (s.sl.set dv i) (List.length_set ..) fun j hj => ?_
    rw [List.getElem?_set_ne (by simpa using fun h => hj (by simp [h]))]
theorem g_nil : SGs X [] bNil [] := pgs_nil.weak fun v σ H Q ⟨B, m, ρ, st, d, ρ', s, dv, hb, q⟩ => by
  cases dv with
  | nil => cases hb; exact ⟨rfl, q σ s.sl rfl fun _ _ => rfl⟩
  | cons _ _ => cases hb
theorem g_cons {e : Expr} {es : List Expr} {b1 : Bd} {bs : Bds} {t1 ts : List Nat} (h1 : SG X e b1 t1) (h2 : SGs X es bs ts)
    (hs : (assignEach (e :: es) X.env).map (·.2) = assign e X.env :: (assignEach es X.env).map (·.2) := by rfl) : SGs X (e :: es) (bCons b1 bs) (t1 ++ ts) :=
  (pgs_cons h1 h2 hs).weak fun v σ H Q ⟨B, m, ρ, st, d, ρ', s, dv, hb, q⟩ => by
    match d, v, dv with
    | [], [], .nil => cases hb
    | d1 :: ds, v1 :: vs, .cons dv1 dvs =>
      unfold bCons at hb
      dsimp only at hb
      cases hb1 : b1 d1 ρ with
      | none => rw [hb1] at hb; cases hb
      | some ρ1 =>
        rw [hb1] at hb
        refine ⟨v1, vs, rfl, B, m, ρ, st, d1, ρ1, s, dv1, hb1, fun σ1 sl1 l1 h1 => ⟨B, m, ρ1, st, ds, ρ', ⟨s.sim, sl1⟩, dvs, hb, fun σ2 sl2 l2 h2 => q σ2 sl2 (l2.trans l1) fun j hj => ?_⟩⟩
        simp only [List.mem_append, not_or] at hj
        exact (h2 j hj.2).trans (h1 j hj.1)
theorem g_tup {es : List Expr} {k : Nat} {bs : Bds} {ts : List Nat} {n : Nat} {pos} (hc : X.calm = true) (h : SGs X es bs ts)
    (hn : (assignEach es X.env).length = n := by rfl) (hst : (assignEach es X.env).findIdx? (·.1) = none := by rfl) : SG X (.Tuple es k pos) (bTup n bs) ts :=
  (show PG X (.Tuple es k pos) (fun v σ H Q => gTup X.K n (tGs X bs ts) v σ H Q ∨ gLst X.K n (tGs X bs ts) v σ H Q) from ⟨fun pins s σ H v u Q I r w => Or.elim w ((pg_tup hc h hn hst).run pins s σ H v u Q I r) ((pg_lst hc h hn hst).run pins s σ H v u Q I r)⟩).weak fun v σ H Q ⟨B, m, ρ, st, d, ρ', s, dv, hb, q⟩ => by
    match d, v, dv with
    | .tup ds, .ref a, .tup (xs := xs) h1 h2 =>
      unfold bTup at hb
      dsimp only at hb
      by_cases hl : ds.length = n
      · rw [if_pos hl] at hb
        exact .inl ⟨a, xs, rfl, s.sim.sub.sqT h1, by rw [← h2.length]; exact hl, B, m, ρ, st, ds, ρ', s, h2, hb, q⟩
      · rw [if_neg hl] at hb; cases hb
    | .lst ds, .ref a, .lst (xs := xs) h1 h2 =>
      unfold bTup at hb
      dsimp only at hb
      by_cases hl : ds.length = n
      · rw [if_pos hl] at hb
        exact .inr ⟨a, xs, rfl, SqL.of (s.sim.sub _ _ h1), by rw [← h2.length]; exact hl, B, m, ρ, st, ds, ρ', s, h2, hb, q⟩
      · rw [if_neg hl] at hb; cases hb
    | .non, _, _ => cases hb
    | .bl _, _, _ => cases hb
    | .int _, _, _ => cases hb
    | .str _, _, _ => cases hb
    | .ref _, _, _ => cases hb
    | .fn _, _, _ => cases hb
    | .ty _, _, _ => cases hb
    | .scr _, _, _ => cases hb
theorem s_asg {tg : Expr} {b1 : Bd} {ts : List Nat} {pos : Pos} (he : SE X W e fe) (hg : SG X tg b1 ts) (hs : swapsWithSole [tg] e pos.line X.env = pure false := by rfl) (hw : swappedStores [tg] e X.env = pure none := by rfl)
    (h1 : (assignEach [tg] X.env).map (·.2) = [assign tg X.env] := by rfl) : SS X W (.Assign [tg] e pos) (sAsg fe b1) :=
  (ps_asg he hg hs hw h1).weak fun Dn σ H ⟨B, m, ρ, st, s, q⟩ => ⟨B, m, ρ, st, s, q.toE.mono fun v H1 ⟨B1, m1, st1, d, x1, s1, dv, q1⟩ => by
    dsimp only at q1
    cases hb : b1 d ρ with
    | none => rw [hb] at q1; exact q1.elim
    | some ρ1 =>
      rw [hb] at q1
      exact ⟨B1, m1, ρ, st1, d, ρ1, s1, dv, hb, fun σ' sl _ _ => PostS.nx ⟨s1.sim, sl⟩ q1⟩⟩

/-! ### loops -/
theorem s_while {pos} {body : List Stmt} (n : Nat) (hp : PassesOwn (model X.prog X.w) X.A X.env X.xe) (hc : ST X W c fc) (hb : SSs X W body gb) : SS X W (.While c body [] pos) (sWhile fc gb n) :=
  (ps_while hp hc hb).weak fun Dn σ H ⟨B, m, ρ, st, s, q⟩ => by
    refine ⟨fun k σ H => ∃ B m ρ st, Stt X B m ρ st σ H ∧ PostS X W B m H Dn (sWhile fc gb k ρ st), ⟨n, B, m, ρ, st, s, q⟩, ?_⟩
    rintro k σ H ⟨B, m, ρ, st, s, q⟩
    cases k with
    | zero => exact q.elim
    | succ k =>
      refine ⟨B, m, ρ, st, s, PostS.toT q (fun d st h => by
        cases d <;> first | exact ⟨_, rfl⟩ | exact h.elim) fun k' H1 B1 m1 st1 x1 s1 q1 => ?_⟩
      cases k' with
      | false => exact iteF (PostS.nx s1 q1)
      | true =>
        refine iteT ⟨fun σ H => ∃ B m ρ st, Stt X B m ρ st σ H ∧ PostS X W B m H Dn (sWhile fc gb k ρ st), fun σ' H' h => ⟨k, Nat.lt_succ_self k, h⟩, B1, m1, ρ, st1, s1, ?_⟩
        dsimp only at q1
        cases h : gb ρ st1 with
        | nx ρ2 st2 => rw [h] at q1; exact fun B2 m2 σ2 H2 e2 s2 => ⟨B2, m2, ρ2, st2, s2, PostS.ext e2 q1⟩
        | ct ρ2 st2 => rw [h] at q1; exact fun B2 m2 σ2 H2 e2 s2 => ⟨B2, m2, ρ2, st2, s2, PostS.ext e2 q1⟩
        | bk ρ2 st2 => rw [h] at q1; exact q1
        | rt d st2 => rw [h] at q1; exact q1
        | exc x ρ2 st2 => rw [h] at q1; exact q1
        | stuck => rw [h] at q1; exact q1
/-- J hands out the items -/
def Serves (X : Cx) (J : It) (B : Hp) (m : List Addr) (items : List D) : Prop :=
  ∀ B1 m1 st1 H1, Sub B B1 → Pre m m1 → Sim X.K X.mg B1 m1 st1 H1 → ∀ i, (∀ d, items[i]? = some d → J.go i H1 ∧ ∀ x H2, J.yld i H1 x H2 → ∃ B2, Ext B1 m1 H1 B2 m1 H2 ∧ Sim X.K X.mg B2 m1 st1 H2 ∧ DV X.K X.mg B2 m1 d x) ∧
    (items.length ≤ i → J.stop i H1)
def PostI (X : Cx) (W : WX) (B : Hp) (m : List Addr) (H : Hp) (ρ : Rho) (σ : St) (R : It → Hp → Prop) : RA → Prop
  | .ok items st => ∀ J B' m' H', Ext B m H B' m' H' → Stt X B' m' ρ st σ H' → Serves X J B' m' items → R J H'
  | .exc x st => PostX X W B m H x ρ st
  | .stuck => False
def tI (X : Cx) (W : WX) (src : EA) : TI := fun σ H R => ∃ B m ρ st, Stt X B m ρ st σ H ∧ PostI X W B m H ρ σ R (src ρ st)
abbrev SI (X : Cx) (W : WX) (tg iter : Expr) (src : EA) : Prop := PI X tg iter (tI X W src)
theorem s_for {tg iter : Expr} {body : List Stmt} {src : EA} {b1 : Bd} {ts : List Nat} {pos : Pos} (hp : PassesOwn (model X.prog X.w) X.A X.env X.xe) (hc : X.calm = true) (hi : SI X W tg iter src) (hg : SG X tg b1 ts) (hb : SSs X W body gb)
    (hs : ∀ x, foldedSetIterable iter X.env x = pure x := by intro _; rfl) : SS X W (.For tg iter body [] pos) (sFor src b1 gb) :=
  (ps_for hp hc hi hg hb hs).weak fun Dn σ H ⟨B, m, ρ, st, s, q⟩ => by
    refine ⟨B, m, ρ, st, s, ?_⟩
    unfold sFor at q
    cases h : src ρ st with
    | exc x st1 => rw [h] at q; exact q
    | stuck => rw [h] at q; exact q
    | ok items st1 =>
      rw [h] at q
      intro J B1 m1 H1 x1 s1 sv
      have q := PostS.ext x1 q
      refine ⟨fun i k σ H => ∃ B2 m2 ρ2 st2, Sub B1 B2 ∧ Pre m1 m2 ∧ Stt X B2 m2 ρ2 st2 σ H ∧ i + k = items.length ∧ PostS X W B2 m2 H Dn (sForGo b1 gb (items.drop i) ρ2 st2),
        ⟨items.length, B1, m1, ρ, st1, Sub.refl _, Pre.refl _, s1, by omega, q⟩, ?_⟩
      rintro i k σ H ⟨B2, m2, ρ2, st2, hB, hm, s2, hk, q2⟩
      have sv2 := sv B2 m2 st2 H hB hm s2.sim i
      by_cases hi : i < items.length
      · have hget : items[i]? = some items[i] := by simp [hi]
        obtain ⟨go, yld⟩ := sv2.1 _ hget
        rw [List.drop_eq_getElem_cons hi] at q2
        refine .inr ⟨go, fun σ' H' => ∃ B2 m2 ρ2 st2, Sub B1 B2 ∧ Pre m1 m2 ∧ Stt X B2 m2 ρ2 st2 σ' H' ∧ PostS X W B2 m2 H' Dn (sForGo b1 gb (items.drop (i + 1)) ρ2 st2), fun σ' H' ⟨B3, m3, ρ3, st3, c1, c2, c3, c4⟩ => ⟨k - 1, by omega, B3, m3, ρ3, st3, c1, c2, c3, by omega, c4⟩, fun x H3 hy => ?_⟩
        obtain ⟨B3, e3, k3, dv⟩ := yld x H3 hy
        have s3 := s2.mono e3 k3
        have q3 := PostS.ext e3 q2
        unfold sForGo at q3
        cases hb1 : b1 items[i] ρ2 with
        | none => rw [hb1] at q3; exact q3.elim
        | some ρ3 =>
          rw [hb1] at q3
          dsimp only at q3
          refine ⟨B3, m2, ρ2, st2, items[i], ρ3, s3, dv, hb1, fun σ4 sl4 _ _ => ⟨B3, m2, ρ3, st2, ⟨k3, sl4⟩, ?_⟩⟩
          cases hg : gb ρ3 st2 with
          | nx ρ4 st4 => rw [hg] at q3; exact fun B5 m5 σ5 H5 e5 s5 => ⟨B5, m5, ρ4, st4, (hB.trans e3.bb).trans e5.bb, (hm.trans e3.mm).trans e5.mm, s5, PostS.ext e5 q3⟩
          | ct ρ4 st4 => rw [hg] at q3; exact fun B5 m5 σ5 H5 e5 s5 => ⟨B5, m5, ρ4, st4, (hB.trans e3.bb).trans e5.bb, (hm.trans e3.mm).trans e5.mm, s5, PostS.ext e5 q3⟩
          | bk ρ4 st4 => rw [hg] at q3; exact q3
          | rt d st4 => rw [hg] at q3; exact q3
          | exc x ρ4 st4 => rw [hg] at q3; exact q3
          | stuck => rw [hg] at q3; exact q3
      · rw [List.drop_eq_nil_of_le (by omega)] at q2
        exact .inl ⟨sv2.2 (by omega), PostS.nx s2 q2⟩
theorem set_self {α : Type} : ∀ {l : List α} {i : Nat} {x : α}, l[i]? = some x → l.set i x = l
  | [], _, _, h => by simp at h
  | y :: l, 0, x, h => by simp at h; simp [h]
  | y :: l, i + 1, x, h => by
    have h : l[i]? = some x := by simpa using h
    simp [set_self h]
/-- from here on the list of the name i is told whole -/
theorem s_frz {xs : List Stmt} (i : Nat) (h : SSs X W xs gb) : SSs X W xs (sSeq (sFrz i) gb) :=
  PSs.weak h fun Dn σ H ⟨B, m, ρ, st, s, q⟩ => by
    unfold sSeq sFrz at q
    cases h1 : ρ[i]? with
    | none => rw [h1] at q; exact q.elim
    | some o =>
      rw [h1] at q
      match o, h1, q with
      | none, _, q => exact q.elim
      | some (.ref n), h1, q =>
        dsimp only at q
        cases h2 : st[n]? with
        | none => rw [h2] at q; exact q.elim
        | some mo =>
          rw [h2] at q
          cases mo with
          | lst ds =>
            dsimp only at q
            obtain ⟨v, hv, dv⟩ := s.sl.2 i _ h1
            cases dv with
            | ref hm =>
              rename_i a
              obtain ⟨hB, xs, hH, hx⟩ := s.sim.obj n a _ hm h2
              obtain ⟨k1, e1⟩ := s.sim.freeze hm hH hB
              refine ⟨_, m, _, _, ⟨k1, ?_⟩, PostS.ext e1 q⟩
              have z := s.sl.mono e1.bb e1.mm
              have w := z.set (d := .lst ds) (v := .ref a) (.lst upd_same (hx.mono e1.bb (Pre.refl m))) i
              rw [set_self hv] at w
              exact w
          | _ => exact q.elim
      | some .non, _, q => exact q.elim
      | some (.bl _), _, q => exact q.elim
      | some (.int _), _, q => exact q.elim
      | some (.str _), _, q => exact q.elim
      | some (.fn _), _, q => exact q.elim
      | some (.ty _), _, q => exact q.elim
      | some (.tup _), _, q => exact q.elim
      | some (.lst _), _, q => exact q.elim
      | some (.scr _), _, q => exact q.elim
end
end L4
namespace L4
open PySem L2

/-- no reference to the store within -/
def nr : Nat → D → Bool
  | 0, d => match d with
    | .tup _ => false
    | .lst _ => false
    | .ref _ => false
    | _ => true
  | n + 1, d => match d with
    | .tup ds => ds.all (nr n)
    | .lst ds => ds.all (nr n)
    | .ref _ => false
    | _ => true
def MO.nr : MO → Bool
  | .gone => true
  | .lst ds => ds.all (L4.nr 12)
  | .dK kvs => kvs.all fun p => L4.nr 12 p.2
  | .dT kvs => kvs.all fun p => L4.nr 12 p.2
/-- a call whose callee is handed nothing of the store -/
def callP (F : List D → Sto → RE) (ds : List D) (st : Sto) : RE :=
  if ds.all (nr 12) then match F ds [] with
    | .ok d _ => if nr 12 d then .ok d st else .stuck
    | .exc x _ => .exc x st
    | .stuck => .stuck
  else .stuck
def eCall (F : List D → Sto → RE) (as : EA) : E := fun ρ st => (as ρ st).bind fun ds st1 => callP F ds st1
/-- a call whose callee is handed the store's entry at the first place -/
def callM (F : List D → Sto → RE) (ds : List D) (st : Sto) : RE := match ds with
  | .ref n :: ds => (match st[n]? with
    | some o => if o.nr && ds.all (nr 12) then match F (.ref 0 :: ds) [o] with
      | .ok d st' => (match st' with
        | o' :: _ => if o'.nr && nr 12 d then .ok d (st.set n o') else .stuck
        | [] => .stuck)
      | _ => .stuck
      else .stuck
    | none => .stuck)
  | _ => .stuck
def eCallM (F : List D → Sto → RE) (as : EA) : E := fun ρ st => (as ρ st).bind fun ds st1 => callM F ds st1
/-- a def by its body: np parameters, nl names -/
def mkF (np nl : Nat) (g : S) : List D → Sto → RE := fun ds st => if ds.length = np then match g (ds.map some ++ List.replicate (nl - np) none) st with
  | .rt d st' => .ok d st'
  | .nx _ st' => .ok .non st'
  | .exc x _ st' => .exc x st'
  | _ => .stuck
  else .stuck

section
variable {K : PySem.W.Frag} {mg : Str → Option Value} {B B' : Hp} {m m' : List Addr} {st st' : Sto} {H H' : Hp}
theorem DVs.pure_of (n : Nat) (ih : ∀ {d : D} {v : V}, nr n d = true → DV K mg B m d v → DV K mg B m' d v) : ∀ {ds : List D} {vs : List V}, ds.all (nr n) = true → DVs K mg B m ds vs → DVs K mg B m' ds vs
  | _, _, _, .nil => .nil
  | _, _, h, .cons h1 h2 => by
    rw [List.all_cons, Bool.and_eq_true] at h
    exact .cons (ih h.1 h1) (DVs.pure_of n ih h.2 h2)
theorem DV.pure : ∀ (n : Nat) {d : D} {v : V}, nr n d = true → DV K mg B m d v → DV K mg B m' d v := fun n => by
  induction n with
  | zero =>
    intro d v h k
    cases k with
    | ref _ => cases h
    | tup _ _ => cases h
    | lst _ _ => cases h
    | non => exact .non
    | bl b => exact .bl b
    | int b => exact .int b
    | str b => exact .str b
    | fn k => exact .fn k
    | ty k => exact .ty k
    | scr k => exact .scr k
  | succ n ih =>
    intro d v h k
    cases k with
    | ref _ => cases h
    | tup a b => exact .tup a (DVs.pure_of n ih h b)
    | lst a b => exact .lst a (DVs.pure_of n ih h b)
    | non => exact .non
    | bl b => exact .bl b
    | int b => exact .int b
    | str b => exact .str b
    | fn k => exact .fn k
    | ty k => exact .ty k
    | scr k => exact .scr k
theorem DVs.pure {ds : List D} {vs : List V} (h : ds.all (nr 12) = true) (k : DVs K mg B m ds vs) : DVs K mg B m' ds vs := DVs.pure_of 12 (fun h k => DV.pure 12 h k) h k
theorem DVd.pure {κ : Type} : ∀ {ds : List (κ × D)} {vs : List (κ × V)}, (ds.all fun p => nr 12 p.2) = true → DVd K mg B m ds vs → DVd K mg B m' ds vs
  | _, _, _, .nil => .nil
  | _, _, h, .cons h1 h2 => by
    rw [List.all_cons, Bool.and_eq_true] at h
    exact .cons (DV.pure 12 h.1 h1) (DVd.pure h.2 h2)
theorem ObjAt.pure {a : Addr} {o : MO} (h : o.nr = true) (k : ObjAt K mg B m H a o) : ObjAt K mg B m' H a o := by
  cases o with
  | gone => trivial
  | lst ds => obtain ⟨h0, xs, h1, h2⟩ := k; exact ⟨h0, xs, h1, h2.pure h⟩
  | dK ds => obtain ⟨h0, xs, h1, h2⟩ := k; exact ⟨h0, xs, h1, h2.pure h⟩
  | dT ds => obtain ⟨h0, xs, h1, h2⟩ := k; exact ⟨h0, xs, h1, h2.pure h⟩
theorem Sim.empty (s : Sim K mg B m st H) : Sim K mg B [] [] H := ⟨s.sub, rfl, List.nodup_nil, fun n a o h => by simp at h, fun a h => by simp at h⟩
theorem Sim.one (s : Sim K mg B m st H) {n : Nat} {a : Addr} {o : MO} (ha : m[n]? = some a) (ho : st[n]? = some o) (hn : o.nr = true) : Sim K mg B [a] [o] H :=
  ⟨s.sub, rfl, by simp, fun i b o' h1 h2 => by
    cases i with
    | zero =>
      simp at h1 h2
      subst h1; subst h2
      exact (s.obj n a o ha ho).pure hn
    | succ i => simp at h1, fun b h => by
    rw [List.mem_singleton] at h
    subst h
    exact s.own b (List.mem_of_getElem? ha)⟩
/-- behind a call that was handed nothing of the store -/
theorem Sim.after0 (s : Sim K mg B m st H) (e : Ext B [] H B' m' H') (k : Sim K mg B' m' st' H') : Sim K mg B' m st H' ∧ Ext B m H B' m H' := by
  refine ⟨⟨k.sub, s.len, s.nd, fun n a o h1 h2 => ?_, fun a h => ?_⟩, ⟨e.bb, fun a o h n => ?_, Pre.refl m, fun a h => .inl h, fun a o h _ => e.fr a o h (by simp), e.st⟩⟩
  · obtain ⟨u, hu⟩ := s.own a (List.mem_of_getElem? h1)
    refine (s.obj n a o h1 h2).mono e.bb (Pre.refl m) (fun _ hb => ?_) fun x h => e.fr a x h (by simp)
    cases q : B' a with
    | none => rfl
    | some w =>
      rcases e.bn a w q hb with z | z
      · rw [hu] at z; cases z
      · simp at z
  · obtain ⟨u, hu⟩ := s.own a h
    exact ⟨u, e.fr a u hu (by simp)⟩
  · rcases e.bn a o h n with z | z
    · exact .inl z
    · simp at z
/-- behind a call that was handed the entry n -/
theorem Sim.after1 (s : Sim K mg B m st H) {n : Nat} {a : Addr} {o o' : MO} (ha : m[n]? = some a) (e : Ext B [a] H B' m' H') (k : Sim K mg B' m' (o' :: st') H') (hn : o'.nr = true) : Sim K mg B' m (st.set n o') H' ∧ Ext B m H B' m H' := by
  have am : a ∈ m := List.mem_of_getElem? ha
  have m0 : m'[0]? = some a := e.mm.get (by rfl)
  refine ⟨⟨k.sub, by rw [List.length_set]; exact s.len, s.nd, fun i b o2 h1 h2 => ?_, fun b h => ?_⟩, ⟨e.bb, fun b o h n => ?_, Pre.refl m, fun b h => .inl h, fun b o h hb => e.fr b o h ?_, e.st⟩⟩
  · by_cases hi : n = i
    · subst hi
      rw [ha] at h1
      cases h1
      rw [List.getElem?_set_self (by rw [← s.len]; exact (List.getElem?_eq_some_iff.mp ha).1)] at h2
      cases h2
      exact (k.obj 0 a o' m0 (by rfl)).pure hn
    · rw [List.getElem?_set_ne hi] at h2
      have hne : b ≠ a := fun z => hi (nd_get s.nd ha (z ▸ h1))
      obtain ⟨u, hu⟩ := s.own b (List.mem_of_getElem? h1)
      refine (s.obj i b o2 h1 h2).mono e.bb (Pre.refl m) (fun _ hb => ?_) fun x h => e.fr b x h (by simpa using hne)
      cases q : B' b with
      | none => rfl
      | some w =>
        rcases e.bn b w q hb with z | z
        · rw [hu] at z; cases z
        · rw [List.mem_singleton] at z; exact absurd z hne
  · obtain ⟨u, hu⟩ := s.own b h
    exact e.st b u hu
  · rcases e.bn b o h n with z | z
    · exact .inl z
    · rw [List.mem_singleton] at z; subst z; exact .inr am
  · intro z
    rw [List.mem_singleton] at z
    subst z
    exact hb am
end

end L4
namespace L4
open PySem L2
open PyProof.Rows (envOfC)

/-! ### a def's promise -/
def PostF (K : PySem.W.Frag) (mg : Str → Option Value) (B : Hp) (m : List Addr) (H : Hp) (Q : VK) (Ex : XK) : RE → Prop
  | .ok d st => ∀ v B' m' H', Ext B m H B' m' H' → Sim K mg B' m' st H' → DV K mg B' m' d v → Q v H'
  | .exc x st => ∀ cls dd B' m' H', Ext B m H B' m' H' → Sim K mg B' m' st H' → (dd = none ∧ ∃ C, mg x.name = some (.ref C) ∧ cls = .ref C) → Ex cls dd H'
  | .stuck => False
def spF (K : PySem.W.Frag) (mg : Str → Option Value) (F : List D → Sto → RE) : Sp := fun vs H Q Ex => ∃ B m ds st, Sim K mg B m st H ∧ DVs K mg B m ds vs ∧ PostF K mg B m H Q Ex (F ds st)
/-- a def's body is worth g, in every context of the def's -/
def BodyOk (P : Program) (w : World) (K : PySem.W.Frag) (mg : Str → Option Value) (base : Heap) (N : List Str) (qual : Str) (sc : Scope) (k : Nat) (body : List Stmt) (g : S) : Prop :=
  ∀ (f : Addr) (cdv : Value) (A : Around) (outer : List Env) (s : Shared) (H : Hp) (Ex : XK), Room k (A.deeper (envOfC qual sc s.heap.objs.size f cdv)) →
    SSs (cxOf (L2.CX P w) P w K mg base N qual sc f cdv A outer s H Ex) (fun cls d _ H' => Ex cls d H') body g
theorem fn_ok {P : Program} {w : World} {K : PySem.W.Frag} {mg : Str → Option Value} {base : Heap} {x qual : Str} {st : Stmt} {f : Addr} {fd : FuncData} {N ps : List Str} {k : Nat} {g : S} (F : Fun K x qual st f fd) (Sc : FnScope N ps (defScope st))
    (hb : BodyOk P w K mg base N qual (defScope st) k (defBody st) g) : FnOk P w K mg base (L2.CX P w) (k + 1) f fd ps (spF K mg (mkF ps.length N.length g)) := by
  refine F.okX Sc (fun vs H Q Ex ⟨B, m, ds, st, s, dv, q⟩ => ?_) (fun cdv A outer s H vs Q Ex hr ⟨B, m, ds, st, si, dv, q⟩ => ?_)
  · unfold mkF at q
    by_cases hl : ds.length = ps.length
    · rw [← dv.length]; exact hl
    · rw [if_neg hl] at q; exact q.elim
  · refine ⟨_, hb f cdv A outer s H Ex hr, B, m, ds.map some ++ List.replicate (N.length - ps.length) none, st, ⟨si, ?_⟩, ?_⟩
    · have hps : ds.length = ps.length := by
        unfold mkF at q
        by_cases hl : ds.length = ps.length
        · exact hl
        · rw [if_neg hl] at q; exact q.elim
      refine ⟨?_, fun i d hd => ?_⟩
      · unfold L2.start
        rw [List.length_append, List.length_append, List.length_map, List.length_map, List.length_replicate, List.length_replicate, dv.length.symm, hps]
      · have hi : i < ds.length := by
          by_cases hi : i < ds.length
          · exact hi
          · rw [List.getElem?_append_right (by simpa using hi), List.getElem?_replicate] at hd
            split at hd <;> cases hd
        rw [List.getElem?_append_left (by simpa using hi), List.getElem?_map] at hd
        cases hq : ds[i]? with
        | none => rw [hq] at hd; cases hd
        | some d' =>
          rw [hq] at hd
          cases hd
          obtain ⟨v, h1, h2⟩ := dv.get hq
          refine ⟨v, ?_, h2⟩
          unfold L2.start
          rw [List.getElem?_append_left (by rw [List.length_map, ← dv.length]; exact hi), List.getElem?_map, h1]
          rfl
    · unfold mkF at q
      by_cases hl : ds.length = ps.length
      · rw [if_pos hl] at q
        revert q
        cases h : g (ds.map some ++ List.replicate (N.length - ps.length) none) st with
        | rt d st1 => exact fun q v B' m' H' e k dv => q v B' m' H' e k dv
        | nx ρ st1 => exact fun q B' m' σ' H' e k => q _ B' m' H' e k.sim .non
        | exc x ρ st1 => exact fun q cls d B' m' σ' H' e k hx => q cls d B' m' H' e k.sim ⟨hx.1, hx.2⟩
        | bk _ _ => exact fun q => q.elim
        | ct _ _ => exact fun q => q.elim
        | stuck => exact fun q => q.elim
      · rw [if_neg hl] at q; exact q.elim

section
variable {X : Cx} {W : WX} {B B' : Hp} {m m' : List Addr} {ρ ρ' : Rho} {st st' : Sto} {σ σ' : St} {H H' : Hp} {Q Q' : VK} {e a b c : Expr} {fa fb fc fe : E} {ga gb : S} {Dn : Ends}
theorem post_callP {F : List D → Sto → RE} {ds : List D} {vs : List V} (s : Stt X B m ρ st σ H) (dv : DVs X.K X.mg B m ds vs) (q : PostE X W B m H ρ σ Q (callP F ds st)) : spF X.K X.mg F vs H Q (WE W σ) := by
  unfold callP at q
  by_cases hp : ds.all (nr 12) = true
  · rw [if_pos hp] at q
    refine ⟨B, [], ds, [], s.sim.empty, dv.pure hp, ?_⟩
    revert q
    cases F ds [] with
    | ok d st2 =>
      intro q v B' m' H' e k dr
      dsimp only at q
      by_cases hd : nr 12 d = true
      · rw [if_pos hd] at q
        obtain ⟨k1, e1⟩ := s.sim.after0 e k
        exact q v B' m H' e1 (s.mono e1 k1) (dr.pure 12 hd)
      · rw [if_neg hd] at q; exact q.elim
    | exc x st2 =>
      intro q cls dd B' m' H' e k hx
      obtain ⟨k1, e1⟩ := s.sim.after0 e k
      exact q cls dd B' m σ H' e1 (s.mono e1 k1) ⟨hx.1, hx.2⟩
    | stuck => exact fun q => q
  · rw [if_neg hp] at q; exact q.elim
theorem post_callM {F : List D → Sto → RE} {ds : List D} {vs : List V} (s : Stt X B m ρ st σ H) (dv : DVs X.K X.mg B m ds vs) (q : PostE X W B m H ρ σ Q (callM F ds st)) : spF X.K X.mg F vs H Q (WE W σ) := by
  unfold callM at q
  cases dv with
  | nil => exact q.elim
  | cons d1 dvs =>
    rename_i d v ds vs
    cases d1 with
    | ref hm =>
      rename_i n a
      dsimp only at q
      cases h : st[n]? with
      | none => rw [h] at q; exact q.elim
      | some o =>
        rw [h] at q
        dsimp only at q
        by_cases hp : (o.nr && ds.all (nr 12)) = true
        · rw [if_pos hp] at q
          rw [Bool.and_eq_true] at hp
          refine ⟨B, [a], .ref 0 :: ds, [o], s.sim.one hm h hp.1, .cons (.ref rfl) (dvs.pure hp.2), ?_⟩
          revert q
          cases F (.ref 0 :: ds) [o] with
          | ok d st2 =>
            intro q v B' m' H' e k dr
            cases st2 with
            | nil => exact q.elim
            | cons o' st2 =>
              dsimp only at q
              by_cases hd : (o'.nr && nr 12 d) = true
              · rw [if_pos hd] at q
                rw [Bool.and_eq_true] at hd
                obtain ⟨k1, e1⟩ := s.sim.after1 (o := o) hm e k hd.1
                exact q v B' m H' e1 (s.mono e1 k1) (dr.pure 12 hd.2)
              · rw [if_neg hd] at q; exact q.elim
          | exc x st2 => exact fun q => q.elim
          | stuck => exact fun q => q.elim
        · rw [if_neg hp] at q; exact q.elim
    | _ => exact q.elim
variable {k : Nat} {f : Addr} {fd : FuncData} {ps : List Str} {F : List D → Sto → RE} {x : Str} {p pos : Pos} {es : List Expr} {fs : EA}
theorem r_call (G : FnOk X.prog X.w X.K X.mg X.base (L2.CX X.prog X.w) k f fd ps (spF X.K X.mg F)) (hr : Room k X.A) (hg : Gl X x) (hm : X.mg x = some (.ref f)) (hk : PySem.W.keepIn X.K (.ref f) = true) (hb : Binds X.K fd ps []) (tk : Takes X W)
    (ha : SA X W (e :: es) fs) (hdb : (x == ("__debug__" : Str)) = false := by decide) (he : starEach (e :: es) X.env = (false, eval e X.env) :: starEach es X.env := by rfl) (hpl : (backTo pos (starEach es X.env)).any (·.1) = false := by rfl) :
    SE X W (.Call (.Name x p) (e :: es) [] pos) (eCall F fs) :=
  (pe_callS G hr hg hm hk hb (fun σ => passAt tk σ) ha hdb he hpl).weak fun σ H Q ⟨B, m, ρ, st, s, q⟩ => ⟨B, m, ρ, st, s, q.bindA.mono fun v H1 ⟨B1, m1, st1, d, x1, s1, dv, q1⟩ => post_callP s1 dv q1⟩
theorem r_callM (G : FnOk X.prog X.w X.K X.mg X.base (L2.CX X.prog X.w) k f fd ps (spF X.K X.mg F)) (hr : Room k X.A) (hg : Gl X x) (hm : X.mg x = some (.ref f)) (hk : PySem.W.keepIn X.K (.ref f) = true) (hb : Binds X.K fd ps []) (tk : Takes X W)
    (ha : SA X W (e :: es) fs) (hdb : (x == ("__debug__" : Str)) = false := by decide) (he : starEach (e :: es) X.env = (false, eval e X.env) :: starEach es X.env := by rfl) (hpl : (backTo pos (starEach es X.env)).any (·.1) = false := by rfl) :
    SE X W (.Call (.Name x p) (e :: es) [] pos) (eCallM F fs) :=
  (pe_callS G hr hg hm hk hb (fun σ => passAt tk σ) ha hdb he hpl).weak fun σ H Q ⟨B, m, ρ, st, s, q⟩ => ⟨B, m, ρ, st, s, q.bindA.mono fun v H1 ⟨B1, m1, st1, d, x1, s1, dv, q1⟩ => post_callM s1 dv q1⟩

/-! ### a < b < c -/
def tOp2 (r : R2) (x y : V) (H : Hp) (Q : VK) : Prop := r x y H Q
theorem post_op2 {r : R2} {g : D → D → Sto → Option D} (ho : Op2 X r g) {x y : D} {u w : V} (s : Stt X B m ρ st σ H) (dx : DV X.K X.mg B m x u) (dy : DV X.K X.mg B m y w) (q : PostE X W B m H ρ σ Q (RE.of (g x y st) st)) : r u w H Q := by
  obtain ⟨z, hz, q⟩ := q.of
  exact ho _ _ _ _ _ _ _ _ _ _ s.sim dx dy hz fun v' B' H' x3 k3 dv3 => q v' B' m H' x3 (s.mono x3 k3) dv3
theorem post_chain {r r' : R2} {g g' : D → D → Sto → Option D} (h1 : Op2 X r g) (h2 : Op2 X r' g') (s : Stt X B m ρ st σ H) (q : PostE X W B m H ρ σ Q (eChain g g' fa fb fc ρ st)) : tChain r r' (tE X W fa) (tE X W fb) (tE X W fc) σ H Q :=
  ⟨B, m, ρ, st, s, q.bind.mono fun v H1 ⟨B1, m1, st1, d, x1, s1, dv, q1⟩ => ⟨B1, m1, ρ, st1, s1, q1.bind.mono fun w H2 ⟨B2, m2, st2, d2, x2, s2, dw, q2⟩ => by
    refine post_op2 (W := W) h1 s2 (dv.mono x2.bb x2.mm) dw ?_
    refine (PostE.bindT q2 (fun d st h _ => by
      cases d <;> first | exact ⟨_, rfl⟩ | exact h.elim) (R := fun k H3 => if k = true then tE X W fc σ H3 (fun w' H4 => r' w w' H4 Q) else Q (.bl false) H3) fun k H3 B3 m3 st3 x3 s3 q3 => ?_)
    cases k with
    | true => exact iteT ⟨B3, m3, ρ, st3, s3, q3.bind.mono fun w' H4 ⟨B4, m4, st4, d4, x4, s4, dw', q4⟩ => post_op2 (W := W) h2 s4 ((dw.mono x3.bb x3.mm).mono x4.bb x4.mm) dw' q4⟩
    | false => exact iteF (q3 _ B3 m3 H3 (Ext.refl _ _ _) s3 (.bl _))⟩⟩
theorem r_chain {op op' : CmpOp} {r r' : R2} {g g' : D → D → Sto → Option D} (ho : OpR X (compareOp op) r) (ho' : OpR X (compareOp op') r') (h1 : Op2 X r g) (h2 : Op2 X r' g') (ha : SE X W a fa) (hb : SE X W b fb) (hc : SE X W c fc)
    (hm : lastMarks [op, op'] [b, c] = false := by with_unfolding_all rfl) : SE X W (.Compare a [op, op'] [b, c] pos) (eChain g g' fa fb fc) :=
  (pe_chain ho ho' ha hb hc hm).weak fun σ H Q ⟨B, m, ρ, st, s, q⟩ => post_chain h1 h2 s q
theorem rt_chain {op op' : CmpOp} {r r' : R2} {g g' : D → D → Sto → Option D} (ho : OpR X (compareOp op) r) (ho' : OpR X (compareOp op') r') (h1 : Op2 X r g) (h2 : Op2 X r' g') (ha : SE X W a fa) (hb : SE X W b fb) (hc : SE X W c fc)
    (hm : lastMarks [op, op'] [b, c] = false := by with_unfolding_all rfl) : ST X W (.Compare a [op, op'] [b, c] pos) (eChain g g' fa fb fc) :=
  (pt_chain ho ho' ha hb hc hm).weak fun σ H Q ⟨B, m, ρ, st, s, q⟩ => post_chain h1 h2 s q

/-! ### comprehensions -/
abbrev W0 : WX := fun _ _ _ _ => False
theorem wipe_get {σ : St} {i : Nat} : ∀ {vs : List Nat} {x : V}, (wipe σ vs)[i]? = some (some x) → σ[i]? = some (some x) := fun h => (wipe_some h).1
theorem wipeD_length (ρ : Rho) : ∀ vs : List Nat, (wipeD ρ vs).length = ρ.length
  | [] => rfl
  | v :: vs => by unfold wipeD; rw [List.length_set, wipeD_length ρ vs]
theorem wipeD_some {ρ : Rho} {i : Nat} {x : D} : ∀ {vs : List Nat}, (wipeD ρ vs)[i]? = some (some x) → ρ[i]? = some (some x) ∧ i ∉ vs
  | [], h => ⟨h, by simp⟩
  | v :: vs, h => by
    unfold wipeD at h
    by_cases hi : v = i
    · subst hi
      by_cases hv : v < (wipeD ρ vs).length
      · rw [List.getElem?_set_self hv] at h; cases h
      · rw [List.getElem?_eq_none (by simpa using hv)] at h; cases h
    · rw [List.getElem?_set_ne hi] at h
      obtain ⟨h1, h2⟩ := wipeD_some h
      exact ⟨h1, by simp only [List.mem_cons, not_or]; exact ⟨fun e => hi e.symm, h2⟩⟩
theorem wipe_not {σ : St} {i : Nat} : ∀ {vs : List Nat}, i ∉ vs → (wipe σ vs)[i]? = σ[i]?
  | [], _ => rfl
  | v :: vs, h => by
    simp only [List.mem_cons, not_or] at h
    unfold wipe
    rw [List.getElem?_set_ne (Ne.symm h.1)]
    exact wipe_not h.2
theorem wipe_in {σ : St} {i : Nat} : ∀ {vs : List Nat}, i ∈ vs → (wipe σ vs)[i]? = if i < σ.length then some none else none
  | v :: vs, h => by
    unfold wipe
    by_cases hi : v = i
    · subst hi
      by_cases hv : v < σ.length
      · rw [List.getElem?_set_self (by rw [wipe_length]; exact hv), if_pos hv]
      · rw [List.getElem?_eq_none (by rw [List.length_set, wipe_length]; omega), if_neg hv]
    · rw [List.getElem?_set_ne hi]
      exact wipe_in (by simpa [Ne.symm hi] using h)
theorem wipe_eq {σ σ' : St} {vs ts : List Nat} (hl : σ'.length = σ.length) (h : ∀ j, j ∉ ts → σ'[j]? = σ[j]?) (hs : ∀ j ∈ ts, j ∈ vs) : wipe σ' vs = wipe σ vs := by
  refine List.ext_getElem? fun i => ?_
  by_cases hi : i ∈ vs
  · rw [wipe_in hi, wipe_in hi, hl]
  · rw [wipe_not hi, wipe_not hi]
    exact h i fun z => hi (hs i z)
theorem SlR.wipe {K : PySem.W.Frag} {mg : Str → Option Value} (h : SlR K mg B m ρ σ) (vs : List Nat) : SlR K mg B m (wipeD ρ vs) (wipe σ vs) :=
  ⟨by rw [wipeD_length, wipe_length]; exact h.1, fun i d e => by
    obtain ⟨e1, e2⟩ := wipeD_some e
    obtain ⟨v, h1, h2⟩ := h.2 i d e1
    exact ⟨v, by rw [wipe_not e2]; exact h1, h2⟩⟩
theorem wipe_wipe {σ : St} (vs : List Nat) : L2.wipe (L2.wipe σ vs) vs = L2.wipe σ vs := by
  refine List.ext_getElem? fun i => ?_
  by_cases hi : i ∈ vs
  · rw [wipe_in hi, wipe_in hi, wipe_length]
  · rw [wipe_not hi]
/-- an object that is not told yet -/
theorem Sim.other {K : PySem.W.Frag} {mg : Str → Option Value} (s : Sim K mg B m st H) {p : Addr} {o : HO} (hB : B p = none) (hm : p ∉ m) : Sim K mg B m st (upd H p o) where
  sub := fun a u h => by rw [upd_ne (ne_of_none h hB)]; exact s.sub a u h
  len := s.len
  nd := s.nd
  obj := fun n a o' h1 h2 => by
    have hne : a ≠ p := fun e => hm (e ▸ List.mem_of_getElem? h1)
    exact (s.obj n a o' h1 h2).mono (Sub.refl B) (Pre.refl m) (fun _ h => h) fun x h => by rw [upd_ne hne]; exact h
  own := fun a h => by
    obtain ⟨o', k⟩ := s.own a h
    exact ⟨o', by rw [upd_ne (show a ≠ p from fun e => hm (by rw [← e]; exact h))]; exact k⟩
/-- it is told -/
theorem Sim.tell {K : PySem.W.Frag} {mg : Str → Option Value} (s : Sim K mg B m st H) {p : Addr} {o : HO} (hB : B p = none) (hm : p ∉ m) (hp : H p = some o) : Sim K mg (upd B p o) m st H where
  sub := fun a u h => by
    by_cases e : a = p
    · subst e; rw [upd_same] at h; cases h; exact hp
    · rw [upd_ne e] at h; exact s.sub a u h
  len := s.len
  nd := s.nd
  obj := fun n a o' h1 h2 => by
    have hne : a ≠ p := fun e => hm (e ▸ List.mem_of_getElem? h1)
    exact (s.obj n a o' h1 h2).mono (fun a u h => by rw [upd_ne (ne_of_none h hB)]; exact h) (Pre.refl m) (fun _ h => by rw [upd_ne hne]; exact h) fun x h => h
  own := s.own
theorem Sim.tellM {K : PySem.W.Frag} {mg : Str → Option Value} (s : Sim K mg B m st H) {p : Addr} {mo : MO} (hB : B p = none) (hm : p ∉ m) {o : HO} (hp : H p = some o) (h : ObjAt K mg B (m ++ [p]) H p mo) : Sim K mg B (m ++ [p]) (st ++ [mo]) H where
  sub := s.sub
  len := by simp [s.len]
  nd := by
    rw [List.nodup_append]
    refine ⟨s.nd, by simp, fun a ha b hb => ?_⟩
    rw [List.mem_singleton] at hb
    subst hb
    exact fun e => hm (e ▸ ha)
  obj := fun n a o' h1 h2 => by
    by_cases hn : n < m.length
    · rw [List.getElem?_append_left hn] at h1
      rw [List.getElem?_append_left (by rw [← s.len]; exact hn)] at h2
      exact (s.obj n a o' h1 h2).mono (Sub.refl B) ⟨[p], rfl⟩ (fun _ h => h) fun x h => h
    · rw [List.getElem?_append_right (by omega)] at h1
      rw [List.getElem?_append_right (by rw [← s.len]; omega)] at h2
      rw [s.len] at h1
      cases hk : n - st.length with
      | zero =>
        rw [hk] at h1 h2
        simp at h1 h2
        subst h1; subst h2
        exact h
      | succ k => rw [hk] at h1; simp at h1
  own := fun a h => by
    rcases List.mem_append.mp h with k | k
    · exact s.own a k
    · rw [List.mem_singleton] at k; subst k; exact ⟨o, hp⟩

theorem _root_.L2.PTs.weak {X : Cx} {e : List Expr} {t t' : TT} (h : PTs X e t) (w : ∀ σ H Q, t' σ H Q → t σ H Q) : PTs X e t' := ⟨fun pins s σ H Q I q => h.run pins s σ H Q I (w σ H Q q)⟩
abbrev STs (X : Cx) (W : WX) (ifs : List Expr) (f : E) : Prop := PTs X ifs (tT X W f)
theorem rts_nil {X : Cx} {W : WX} : STs X W [] (eC (.bl true)) := pts_nil.weak fun σ H Q ⟨B, m, ρ, st, s, q⟩ => by
  obtain ⟨b, e, h⟩ := q (.bl true) B m H (Ext.refl _ _ _) s (.bl _)
  cases e
  exact h
theorem rts_one {X : Cx} {W : WX} {c : Expr} {f : E} (h : ST X W c f) : STs X W [c] f := pts_one h
/-- where D0, not told yet, lies through a step -/
theorem keep_new {B B' : Hp} {m m' : List Addr} {H H' : Hp} (e : Ext B m H B' m' H') {p : Addr} {o : HO} (hB : B p = none) (hm : p ∉ m) (hp : H p = some o) : B' p = none ∧ p ∉ m' ∧ H' p = some o := by
  refine ⟨?_, fun h => ?_, e.fr p o hp hm⟩
  · cases q : B' p with
    | none => rfl
    | some u =>
      rcases e.bn p u q hB with z | z
      · rw [hp] at z; cases z
      · exact absurd z hm
  · rcases e.mn p h with z | z
    · exact hm z
    · rw [hp] at z; cases z
theorem ext_upd {B B' : Hp} {m m' : List Addr} {H H' : Hp} (e : Ext B m H B' m' H') {p : Addr} {o : HO} (hp : H p = none) : Ext B m H B' m' (upd H' p o) :=
  ⟨e.bb, e.bn, e.mm, e.mn, fun a u h hm => by rw [upd_ne (ne_of_none h hp)]; exact e.fr a u h hm, fun a u h => by
    obtain ⟨o', k⟩ := e.st a u h
    exact ⟨o', by rw [upd_ne (ne_of_none h hp)]; exact k⟩⟩
theorem ext_tell {B B' : Hp} {m m' : List Addr} {H H' : Hp} (e : Ext B m H B' m' H') {p : Addr} {o : HO} (hp : H p = none) (hB : B' p = none) : Ext B m H (upd B' p o) m' H' :=
  ⟨fun a u h => by
    have h1 := e.bb a u h
    rw [upd_ne (ne_of_none h1 hB)]; exact h1, fun a u h n => by
    by_cases k : a = p
    · subst k; exact .inl hp
    · rw [upd_ne k] at h; exact e.bn a u h n, e.mm, e.mn, e.fr, e.st⟩
theorem ext_tellM {B B' : Hp} {m m' : List Addr} {H H' : Hp} (e : Ext B m H B' m' H') {p : Addr} (hp : H p = none) : Ext B m H B' (m' ++ [p]) H' :=
  ⟨e.bb, e.bn, e.mm.trans ⟨[p], rfl⟩, fun a h => by
    rcases List.mem_append.mp h with k | k
    · exact e.mn a k
    · rw [List.mem_singleton] at k; subst k; exact .inr hp, e.fr, e.st⟩
/-- how a comprehension's list is told in the end -/
def FinOk (X : Cx) (fin : List D → Sto → RE) : Prop := ∀ (W : WX) (B : Hp) (m : List Addr) (H : Hp) (ρ : Rho) (σ : St) (Q : VK) (acc : List D) (st : Sto) (B2 : Hp) (m2 : List Addr) (H2 : Hp) (p : Addr) (vs : List V),
  Ext B m H B2 m2 H2 → Stt X B2 m2 ρ st σ H2 → H p = none → B2 p = none → p ∉ m2 → H2 p = some (.lst vs) → DVs X.K X.mg B2 m2 acc vs → PostE X W B m H ρ σ Q (fin acc st) → Q (.ref p) H2
theorem fin_L {X : Cx} : FinOk X finL := fun W B m H ρ σ Q acc st B2 m2 H2 p vs e s hp hB hm hH dv q => by
  have k := s.sim.tell hB hm hH
  have x : Sub B2 (upd B2 p (.lst vs)) := fun a u h => by rw [upd_ne (ne_of_none h hB)]; exact h
  exact q (.ref p) _ m2 H2 (ext_tell e hp hB) ⟨k, s.sl.mono x (Pre.refl _)⟩ (.lst upd_same (dv.mono x (Pre.refl _)))
theorem fin_M {X : Cx} : FinOk X finM := fun W B m H ρ σ Q acc st B2 m2 H2 p vs e s hp hB hm hH dv q => by
  have k := s.sim.tellM (mo := .lst acc) hB hm hH ⟨hB, vs, hH, dv.mono (Sub.refl _) ⟨[p], rfl⟩⟩
  exact q (.ref p) B2 (m2 ++ [p]) H2 (ext_tellM e hp) ⟨k, s.sl.mono (Sub.refl _) ⟨[p], rfl⟩⟩ (dv_newR s.sim)
/-- the reading of a comprehension -/
theorem post_lc {X : Cx} {W : WX} {B : Hp} {m : List Addr} {ρ : Rho} {st : Sto} {σ : St} {H : Hp} {Q : VK} {fin : List D → Sto → RE} {src : EA} {own : List Nat} {b1 : Bd} {ts : List Nat} {t f : E} {te : TE} {tt : TT} {g : TG} (hfin : FinOk X fin) (hts : ∀ j ∈ ts, j ∈ own)
    (hg : ∀ v σ H Q, tG X b1 ts v σ H Q → g v σ H Q) (ht : ∀ σ H Q, tT X W0 t σ H Q → tt σ H Q) (he : ∀ σ H Q, tE X W0 f σ H Q → te σ H Q)
    (s : Stt X B m ρ st σ H) (q : PostE X W B m H ρ σ Q (eLcB fin src own b1 t f ρ st)) : tLc (tI X W src) g tt te own σ H Q := by
  refine ⟨B, m, ρ, st, s, ?_⟩
  unfold eLcB at q
  cases h : src ρ st with
  | exc x st1 => rw [h] at q; exact q
  | stuck => rw [h] at q; exact q
  | ok items st1 =>
    rw [h] at q
    intro J B1 m1 H1 x1 s1 sv p hp
    have q := PostE.ext x1 q
    change PostE X W B1 m1 H1 ρ σ Q (if items.length ≤ 1000000 then lcGo b1 t f (wipeD ρ own) fin items st1 [] else .stuck) at q
    by_cases hlen : items.length ≤ 1000000
    case neg => rw [if_neg hlen] at q; exact q.elim
    rw [if_pos hlen] at q
    refine ⟨fun i k H2 => ∃ B2 m2 st2 acc vs, Ext B1 m1 H1 B2 m2 H2 ∧ Sim X.K X.mg B2 m2 st2 H2 ∧ B2 p = none ∧ p ∉ m2 ∧ H2 p = some (.lst vs) ∧ DVs X.K X.mg B2 m2 acc.reverse vs ∧ acc.length ≤ i ∧ i + k = items.length ∧
      PostE X W B1 m1 H1 ρ σ Q (lcGo b1 t f (wipeD ρ own) fin (items.drop i) st2 acc),
      ⟨items.length, B1, m1, st1, [], [], ext_upd (Ext.refl _ _ _) hp, s1.sim.other (s1.sim.bnone hp) (s1.sim.pm hp), s1.sim.bnone hp, s1.sim.pm hp, upd_same, .nil, Nat.le_refl _, by omega, q⟩, ?_⟩
    rintro i k H2 ⟨B2, m2, st2, acc, vs, e2, k2, hB2, hm2, hH2, dvs, hacc, hk, q2⟩
    have sl2 : SlR X.K X.mg B2 m2 ρ σ := s1.sl.mono e2.bb e2.mm
    have sv2 := sv B2 m2 st2 H2 e2.bb e2.mm k2 i
    by_cases hi : i < items.length
    · have hget : items[i]? = some items[i] := by simp [hi]
      obtain ⟨go, yld⟩ := sv2.1 _ hget
      rw [List.drop_eq_getElem_cons hi] at q2
      refine .inr ⟨go, fun H' => ∃ B2 m2 st2 acc vs, Ext B1 m1 H1 B2 m2 H' ∧ Sim X.K X.mg B2 m2 st2 H' ∧ B2 p = none ∧ p ∉ m2 ∧ H' p = some (.lst vs) ∧ DVs X.K X.mg B2 m2 acc.reverse vs ∧ acc.length ≤ i + 1 ∧
        PostE X W B1 m1 H1 ρ σ Q (lcGo b1 t f (wipeD ρ own) fin (items.drop (i + 1)) st2 acc), fun H' ⟨B3, m3, st3, acc3, vs3, c1, c2, c3, c4, c5, c6, c7, c8⟩ => ⟨k - 1, by omega, B3, m3, st3, acc3, vs3, c1, c2, c3, c4, c5, c6, c7, by omega, c8⟩, fun x H3 hy => ?_⟩
      obtain ⟨B3, e3, k3, dv⟩ := yld x H3 hy
      obtain ⟨hB3, hm3, hH3⟩ := keep_new e3 hB2 hm2 hH2
      have s3 : Stt X B3 m2 (wipeD ρ own) st2 (wipe σ own) H3 := ⟨k3, SlR.wipe (sl2.mono e3.bb e3.mm) own⟩
      unfold lcGo at q2
      cases hb1 : b1 items[i] (wipeD ρ own) with
      | none => rw [hb1] at q2; exact q2.elim
      | some ρ3 =>
        rw [hb1] at q2
        dsimp only at q2
        refine hg _ _ _ _ ⟨B3, m2, wipeD ρ own, st2, items[i], ρ3, s3, dv, hb1, fun σ4 sl4 hl hσ => ⟨by rw [wipe_eq (vs := own) hl hσ hts, wipe_wipe], ?_⟩⟩
        refine ht _ _ _ ⟨B3, m2, ρ3, st2, ⟨k3, sl4⟩, ?_⟩
        cases hq : t ρ3 st2 with
        | exc x st3 => rw [hq] at q2; exact q2.elim
        | stuck => rw [hq] at q2; exact q2.elim
        | ok d st3 =>
          rw [hq] at q2
          match d, q2 with
          | .bl true, q2 =>
            intro v4 B4 m4 H4 e4 s4 dv4
            cases dv4
            refine ⟨true, rfl, iteT (he _ _ _ ⟨B4, m4, ρ3, st3, s4, ?_⟩)⟩
            dsimp only at q2
            cases hf : f ρ3 st3 with
            | exc x st5 => rw [hf] at q2; exact q2.elim
            | stuck => rw [hf] at q2; exact q2.elim
            | ok y st5 =>
              rw [hf] at q2
              intro v5 B5 m5 H5 e5 s5 dv5
              obtain ⟨hB4, hm4, hH4⟩ := keep_new e4 hB3 hm3 hH3
              obtain ⟨hB5, hm5, hH5⟩ := keep_new e5 hB4 hm4 hH4
              have e15 := ((e2.trans e3).trans e4).trans e5
              have dvs5 := dvs.mono (e3.bb.trans (e4.bb.trans e5.bb)) (e3.mm.trans (e4.mm.trans e5.mm))
              refine ⟨vs, hH5, lt_line (by rw [← dvs.length, List.length_reverse]; omega), B5, m5, st5, y :: acc, vs ++ [v5], ext_upd e15 hp, s5.sim.other hB5 hm5, hB5, hm5, upd_same, ?_, by simp; omega, q2⟩
              rw [List.reverse_cons]
              exact dvs5.append (.cons dv5 .nil)
          | .bl false, q2 =>
            intro v4 B4 m4 H4 e4 s4 dv4
            cases dv4
            obtain ⟨hB4, hm4, hH4⟩ := keep_new e4 hB3 hm3 hH3
            exact ⟨false, rfl, iteF ⟨B4, m4, st3, acc, vs, (e2.trans e3).trans e4, s4.sim, hB4, hm4, hH4, dvs.mono (e3.bb.trans e4.bb) (e3.mm.trans e4.mm), by omega, q2⟩⟩
          | .non, q2 => exact q2.elim
          | .int _, q2 => exact q2.elim
          | .str _, q2 => exact q2.elim
          | .ref _, q2 => exact q2.elim
          | .fn _, q2 => exact q2.elim
          | .ty _, q2 => exact q2.elim
          | .tup _, q2 => exact q2.elim
          | .lst _, q2 => exact q2.elim
          | .scr _, q2 => exact q2.elim
    · rw [List.drop_eq_nil_of_le (by omega)] at q2
      exact .inl ⟨sv2.2 (by omega), hfin W B1 m1 H1 ρ σ Q acc.reverse st2 B2 m2 H2 p vs e2 ⟨k2, sl2⟩ hp hB2 hm2 hH2 dvs q2⟩
end
section
variable {X : Cx} {W : WX} {elt tg iter : Expr} {ifs : List Expr} {scope : Scope} {own : List (Str × Nat)} {pos : Pos} {src : EA} {b1 : Bd} {ts : List Nat} {t f : E} {fin : List D → Sto → RE}
abbrev Cx.bk (X : Cx) (scope : Scope) (s : Shared) (H : Hp) (C : Addr) (cl : List (Str × Addr)) (fp : List Addr) : Cx := X.blk s H scope (compEnvC scope cl C X.env) fp
theorem r_lcB (hfin : FinOk X fin) (hc : X.calm = true) (hN : X.N.Nodup) (hi : SI X W tg iter src) (ok : BlkOk X.N X.env.scope scope own) (hts : ∀ j ∈ ts, j ∈ own.map (·.2))
    (hg : ∀ (s : Shared) (H : Hp) (C : Addr) (cl : List (Str × Addr)) (fp : List Addr), SG (Cx.bk X scope s H C cl fp) tg b1 ts) (ht : ∀ (s : Shared) (H : Hp) (C : Addr) (cl : List (Str × Addr)) (fp : List Addr), STs (Cx.bk X scope s H C cl fp) W0 ifs t)
    (he : ∀ (s : Shared) (H : Hp) (C : Addr) (cl : List (Str × Addr)) (fp : List Addr), SE (Cx.bk X scope s H C cl fp) W0 elt f) (hs : ∀ x, foldedSetIterable iter X.env x = pure x := by intro _; rfl) :
    SE X W (.ListComp elt [⟨tg, iter, ifs, 0⟩] scope pos) (eLcB fin src (own.map (·.2)) b1 t f) :=
  (pe_lc (g := tG X b1 ts) (tt := tT X W0 t) (te := tE X W0 f) hc hN hi ok
    (fun s H C cl fp => (hg s H C cl fp).weak fun v σ H Q ⟨B, m, ρ, st, d, ρ', s, dv, hb, q⟩ => ⟨B, m, ρ, st, d, ρ', ⟨s.sim, s.sl⟩, dv, hb, q⟩)
    (fun s H C cl fp => (ht s H C cl fp).weak fun σ H Q ⟨B, m, ρ, st, s, q⟩ => ⟨B, m, ρ, st, ⟨s.sim, s.sl⟩, by
      revert q
      cases t ρ st with
      | ok d st => exact fun q v B' m' H' e s dv => q v B' m' H' e ⟨s.sim, s.sl⟩ dv
      | exc x st => exact fun q cls d B' m' σ' H' e s hx => q cls d B' m' σ' H' e ⟨s.sim, s.sl⟩ hx
      | stuck => exact fun q => q⟩)
    (fun s H C cl fp => (he s H C cl fp).weak fun σ H Q ⟨B, m, ρ, st, s, q⟩ => ⟨B, m, ρ, st, ⟨s.sim, s.sl⟩, by
      revert q
      cases f ρ st with
      | ok d st => exact fun q v B' m' H' e s dv => q v B' m' H' e ⟨s.sim, s.sl⟩ dv
      | exc x st => exact fun q cls d B' m' σ' H' e s hx => q cls d B' m' σ' H' e ⟨s.sim, s.sl⟩ hx
      | stuck => exact fun q => q⟩) hs).weak
    fun σ H Q ⟨B, m, ρ, st, s, q⟩ => post_lc hfin hts (fun _ _ _ _ h => h) (fun _ _ _ h => h) (fun _ _ _ h => h) s q
theorem s_setLcB {i : Nat} {y : Str} {py spos : Pos} (hfin : FinOk X fin) (hc : X.calm = true) (hN : X.N.Nodup) (hy : X.N[i]? = some y) (hyl : X.env.scope.names.lookup y = some .local)
    (hsw : swapsWith (.ListComp elt [⟨tg, iter, ifs, 0⟩] scope pos) (some (.Name y py)) spos.line X.env = pure true) (hi : SI X W tg iter src) (ok : BlkOk X.N X.env.scope scope own) (hts : ∀ j ∈ ts, j ∈ own.map (·.2))
    (hg : ∀ (s : Shared) (H : Hp) (C : Addr) (cl : List (Str × Addr)) (fp : List Addr), SG (Cx.bk X scope s H C cl fp) tg b1 ts) (ht : ∀ (s : Shared) (H : Hp) (C : Addr) (cl : List (Str × Addr)) (fp : List Addr), STs (Cx.bk X scope s H C cl fp) W0 ifs t)
    (he : ∀ (s : Shared) (H : Hp) (C : Addr) (cl : List (Str × Addr)) (fp : List Addr), SE (Cx.bk X scope s H C cl fp) W0 elt f) (hs : ∀ x, foldedSetIterable iter X.env x = pure x := by intro _; rfl) :
    SS X W (.Assign [.Name y py] (.ListComp elt [⟨tg, iter, ifs, 0⟩] scope pos) spos) (sSet i (eLcB fin src (own.map (·.2)) b1 t f)) :=
  (ps_setLc (g := tG X b1 ts) (tt := tT X W0 t) (te := tE X W0 f) hc hN hy hyl hsw hi ok
    (fun s H C cl fp => (hg s H C cl fp).weak fun v σ H Q ⟨B, m, ρ, st, d, ρ', s, dv, hb, q⟩ => ⟨B, m, ρ, st, d, ρ', ⟨s.sim, s.sl⟩, dv, hb, q⟩)
    (fun s H C cl fp => (ht s H C cl fp).weak fun σ H Q ⟨B, m, ρ, st, s, q⟩ => ⟨B, m, ρ, st, ⟨s.sim, s.sl⟩, by
      revert q
      cases t ρ st with
      | ok d st => exact fun q v B' m' H' e s dv => q v B' m' H' e ⟨s.sim, s.sl⟩ dv
      | exc x st => exact fun q cls d B' m' σ' H' e s hx => q cls d B' m' σ' H' e ⟨s.sim, s.sl⟩ hx
      | stuck => exact fun q => q⟩)
    (fun s H C cl fp => (he s H C cl fp).weak fun σ H Q ⟨B, m, ρ, st, s, q⟩ => ⟨B, m, ρ, st, ⟨s.sim, s.sl⟩, by
      revert q
      cases f ρ st with
      | ok d st => exact fun q v B' m' H' e s dv => q v B' m' H' e ⟨s.sim, s.sl⟩ dv
      | exc x st => exact fun q cls d B' m' σ' H' e s hx => q cls d B' m' σ' H' e ⟨s.sim, s.sl⟩ hx
      | stuck => exact fun q => q⟩) hs).weak
    fun Dn σ H ⟨B, m, ρ, st, s, q⟩ => by
      have q2 : PostE X W B m H ρ σ (MidS X W B m H ρ σ Dn fun d st1 => .nx (ρ.set i (some d)) st1) (eLcB fin src (own.map (·.2)) b1 t f ρ st) := PostS.toE q
      refine post_lc hfin hts (fun _ _ _ _ h => h) (fun _ _ _ h => h) (fun _ _ _ h => h) s (q2.mono fun v H1 ⟨B1, m1, st1, d, x1, s1, dv, q1⟩ => ?_)
      exact PostS.nx (s1.setR dv i) q1
end
end L4
namespace L4
open PySem L2
open PyProof.Rows (envOfC)

/-! ### operators on data -/
def listOf (x : D) (st : Sto) : Option (List D) := match x with
  | .lst ds => some ds
  | .ref n => (match st[n]? with
    | some (.lst ds) => some ds
    | _ => none)
  | _ => none
def addD (x y : D) (st : Sto) : Option D := match x, y with
  | .int i, .int j => some (.int (i + j))
  | .int i, .bl b => some (.int (i + PyProof.Rows.b2i b))
  | .str i, .str j => if i.length + j.length ≤ 1000000 then some (.str (i ++ j)) else none
  | .tup xs, .tup ys => if xs.length + ys.length ≤ 1000000 then some (.tup (xs ++ ys)) else none
  | x, y => match listOf x st, listOf y st with
    | some xs, some ys => if xs.length + ys.length ≤ 1000000 then some (.lst (xs ++ ys)) else none
    | _, _ => none
def subD (x y : D) (_ : Sto) : Option D := match x, y with
  | .int i, .int j => some (.int (i - j))
  | _, _ => none
def mulD (x y : D) (st : Sto) : Option D := match x, y with
  | .int i, .int j => if i.natAbs.log2 + j.natAbs.log2 < 100000000 then some (.int (i * j)) else none
  | .tup xs, .int k => if 1 ≤ xs.length ∧ 2 ≤ k ∧ k ≤ 1000 ∧ xs.length ≤ 1000 then some (.tup (List.replicate k.toNat xs).flatten) else none
  | x, .int k => (match listOf x st with
    | some xs => if xs.length ≤ 1000 ∧ 0 ≤ k ∧ k ≤ 1000 then some (.lst (List.replicate k.toNat xs).flatten) else none
    | none => none)
  | _, _ => none
def fdivD (x y : D) (_ : Sto) : Option D := match x, y with
  | .int i, .int j => if j ≠ 0 ∧ j.natAbs.log2 < 9000 then some (.int (i.fdiv j)) else none
  | _, _ => none
def modD (x y : D) (_ : Sto) : Option D := match x, y with
  | .int i, .int j => if j ≠ 0 then some (.int (i.fmod j)) else none
  | _, _ => none
def shlD (x y : D) (_ : Sto) : Option D := match x, y with
  | .int i, .int j => if 0 ≤ j ∧ j ≤ 1000000 ∧ i.natAbs < 18446744073709551616 then some (.int (i * 2 ^ j.toNat)) else none
  | _, _ => none
def shrD (x y : D) (_ : Sto) : Option D := match x, y with
  | .int i, .int j => if 0 ≤ j then some (.int (i / 2 ^ j.toNat)) else none
  | _, _ => none
def powD (x y : D) (_ : Sto) : Option D := match x, y with
  | .int i, .int j => if 0 ≤ j ∧ j ≤ 1000000 ∧ i.natAbs < 18446744073709551616 then some (.int (i ^ j.toNat)) else none
  | _, _ => none
def andD (x y : D) (_ : Sto) : Option D := match x, y with
  | .int i, .int j => some (.int (Builtin.bitAnd i j))
  | _, _ => none
def orD (x y : D) (_ : Sto) : Option D := match x, y with
  | .int i, .int j => some (.int (Builtin.bitOr i j))
  | _, _ => none
def negD (x : D) (_ : Sto) : Option D := match x with
  | .int i => some (.int (-i))
  | _ => none
def ltD (x y : D) (_ : Sto) : Option D := match x, y with
  | .int i, .int j => some (.bl (decide (i < j)))
  | _, _ => none
def leD (x y : D) (_ : Sto) : Option D := match x, y with
  | .int i, .int j => some (.bl (decide (i ≤ j)))
  | _, _ => none
def gtD (x y : D) (_ : Sto) : Option D := match x, y with
  | .int i, .int j => some (.bl (decide (j < i)))
  | _, _ => none
def geD (x y : D) (_ : Sto) : Option D := match x, y with
  | .int i, .int j => some (.bl (decide (j ≤ i)))
  | _, _ => none
def isNonD : D → Bool
  | .non => true
  | _ => false
def isD (x y : D) (_ : Sto) : Option D := match y with
  | .non => some (.bl (isNonD x))
  | _ => none
def isnotD (x y : D) (_ : Sto) : Option D := match y with
  | .non => some (.bl (!isNonD x))
  | _ => none
/-- data without references, of a depth of at most n -/
def shp : Nat → D → Bool
  | 0, d => match d with
    | .non => true | .bl _ => true | .int _ => true | .str x => PySem.PyData.strOk x
    | _ => false
  | n + 1, d => match d with
    | .non => true | .bl _ => true | .int _ => true | .str x => PySem.PyData.strOk x
    | .tup ds => ds.all (shp n)
    | .lst ds => ds.all (shp n)
    | _ => false
def toP : Nat → D → PyData
  | 0, d => match d with
    | .bl b => .bool b | .int i => .int i | .str x => .str x
    | _ => .none
  | n + 1, d => match d with
    | .bl b => .bool b | .int i => .int i | .str x => .str x
    | .tup ds => .tuple (ds.map (toP n))
    | .lst ds => .list (ds.map (toP n))
    | _ => .none
def eqLeaf (a b : D) : Bool := match a, b with
  | .non, .non => true
  | .bl a, .bl b => a == b
  | .bl a, .int j => (if a then 1 else 0) == j
  | .int i, .bl b => i == (if b then 1 else 0)
  | .int i, .int j => i == j
  | .str x, .str y => x == y
  | _, _ => false
def eqL (f : D → D → Bool) : List D → List D → Bool
  | [], [] => true
  | x :: xs, y :: ys => f x y && eqL f xs ys
  | _, _ => false
def eqvN : Nat → D → D → Bool
  | 0, a, b => eqLeaf a b
  | n + 1, a, b => match a, b with
    | .tup xs, .tup ys => eqL (eqvN n) xs ys
    | .lst xs, .lst ys => eqL (eqvN n) xs ys
    | a, b => eqLeaf a b
def eqD (x y : D) (st : Sto) : Option D := if shp 8 x && shp 8 y then some (.bl (eqvN 8 x y)) else none
def neD (x y : D) (st : Sto) : Option D := if shp 8 x && shp 8 y then some (.bl (!eqvN 8 x y)) else none
def ixD (x y : D) (st : Sto) : Option D := match y with
  | .int i => (match x with
    | .tup ds => atI ds i
    | .str z => if z.length ≤ 1000000 then (match atI z.cps.toList i with
      | some c => some (.str ⟨#[c]⟩)
      | none => none) else none
    | x => (match listOf x st with
      | some ds => atI ds i
      | none => none))
  | _ => none

section
variable {X : Cx} {B B' : Hp} {m m' : List Addr} {st st' : Sto} {H H' : Hp} {Q : VK} {x y d : D} {u w v : V} {ds : List D} {vs : List V}
theorem list_of {K : PySem.W.Frag} {mg : Str → Option Value} (s : Sim K mg B m st H) (dv : DV K mg B m x u) (h : listOf x st = some ds) : ∃ a xs, u = .ref a ∧ H a = some (.lst xs) ∧ DVs K mg B m ds xs := by
  unfold listOf at h
  cases dv with
  | lst hb hd => cases h; exact ⟨_, _, rfl, s.sub _ _ hb, hd⟩
  | ref hm =>
    dsimp only at h
    split at h
    · rename_i ds' h2
      cases h
      obtain ⟨_, xs, h1, h3⟩ := s.obj _ _ _ hm h2
      exact ⟨_, xs, rfl, h1, h3⟩
    · cases h
  | _ => cases h
theorem done (s : Sim X.K X.mg B m st H) (h : DV X.K X.mg B m d v) (k : ∀ v B' H', Ext B m H B' m H' → Sim X.K X.mg B' m st H' → DV X.K X.mg B' m d v → Q v H') : Q v H := k v B H (Ext.refl _ _ _) s h
theorem done_new (s : Sim X.K X.mg B m st H) {o : HO} (h : ∀ p, H p = none → DV X.K X.mg (upd B p o) m d (.ref p)) (k : ∀ v B' H', Ext B m H B' m H' → Sim X.K X.mg B' m st H' → DV X.K X.mg B' m d v → Q v H') : ∀ p, H p = none → Q (.ref p) (upd H p o) :=
  fun p hp => k (.ref p) _ _ (s.ext_newB hp) (s.newB hp) (h p hp)

def rAdd (K : PySem.W.Frag) : R2 := fun x y H Q => (rI0 (fun i j => .int (i + j)) x y H Q ∨ ∃ i k, x = .int i ∧ y = .bl k ∧ Q (.int (i + PyProof.Rows.b2i k)) H) ∨ (∃ i j, x = .str i ∧ y = .str j ∧ i.length + j.length ≤ sizeLine ∧ Q (.str (i ++ j)) H) ∨ rCatA K x y H Q ∨ rCat x y H Q
theorem op_addA : OpR X (binaryOp .Add) (rAdd X.K) := (op_add.or op_add_ib).or (op_add_str.or (op_catA.or op_cat))
theorem DVs.nil_iff {K : PySem.W.Frag} {mg : Str → Option Value} {ds : List D} {vs : List V} (h : DVs K mg B m ds vs) : ds = [] ↔ vs = [] := by
  cases h <;> simp
theorem o_add : Op2 X (rAdd X.K) addD := fun B m st H x y u w d Q s dx dy hg k => by
  cases dx with
  | int i =>
    cases dy with
    | int j => cases hg; exact .inl (.inl ⟨i, j, rfl, rfl, done s (.int _) k⟩)
    | bl b => cases hg; exact .inl (.inr ⟨i, b, rfl, rfl, done s (.int _) k⟩)
    | _ => simp [addD, listOf] at hg
  | str a =>
    cases dy with
    | str b =>
      simp only [addD] at hg
      split at hg
      · cases hg
        exact .inr (.inl ⟨a, b, rfl, rfl, le_line (by assumption), done s (.str _) k⟩)
      · cases hg
    | _ => simp [addD, listOf] at hg
  | tup h1 h2 =>
    rename_i xs a us
    cases dy with
    | tup h3 h4 =>
      rename_i ys b ws
      simp only [addD] at hg
      split at hg
      · rename_i hl
        cases hg
        refine .inr (.inr (.inl ⟨a, b, us, ws, rfl, rfl, s.sub.sqT h1, s.sub.sqT h3, le_line (by rw [← h2.length, ← h4.length]; exact hl), fun e => ?_, fun _ e => ?_, fun _ _ => ?_⟩))
        · refine done s ?_ k
          have e1 := h2.nil_iff.mpr e
          subst e1
          exact .tup h3 h4
        · refine done s ?_ k
          have e1 := h4.nil_iff.mpr e
          subst e1
          rw [List.append_nil]
          exact .tup h1 h2
        · exact done_new s (fun p hp => dv_newT s hp (h2.append h4)) k
      · cases hg
    | _ => simp [addD, listOf] at hg
  | lst h1 h2 =>
    simp only [addD] at hg
    split at hg
    · rename_i xs ys hx hy
      obtain ⟨a, us, e, ha, hu⟩ := list_of s (.lst h1 h2) hx
      cases e
      obtain ⟨b, ws, rfl, hb, hw⟩ := list_of s dy hy
      split at hg
      · rename_i hl
        cases hg
        exact .inr (.inr (.inr ⟨_, _, us, ws, rfl, rfl, ha, hb, le_line (by rw [← hu.length, ← hw.length]; exact hl), done_new s (fun p hp => dv_newL s hp (hu.append hw)) k⟩))
      · cases hg
    · cases hg
  | ref h1 =>
    simp only [addD] at hg
    split at hg
    · rename_i xs ys hx hy
      obtain ⟨a, us, e, ha, hu⟩ := list_of s (.ref h1) hx
      cases e
      obtain ⟨b, ws, rfl, hb, hw⟩ := list_of s dy hy
      split at hg
      · rename_i hl
        cases hg
        exact .inr (.inr (.inr ⟨_, _, us, ws, rfl, rfl, ha, hb, le_line (by rw [← hu.length, ← hw.length]; exact hl), done_new s (fun p hp => dv_newL s hp (hu.append hw)) k⟩))
      · cases hg
    · cases hg
  | _ => simp [addD, listOf] at hg
theorem o_sub : Op2 X (rI0 fun i j => .int (i - j)) subD := fun B m st H x y u w d Q s dx dy hg k => by
  cases dx with
  | int i =>
    cases dy with
    | int j => cases hg; exact ⟨i, j, rfl, rfl, done s (.int _) k⟩
    | _ => cases hg
  | _ => simp [subD] at hg
theorem mulOk {i j : Int} (h : i.natAbs.log2 + j.natAbs.log2 < 100000000) : IntMulOk i j := by
  have b : ∀ x : Int, Builtin.Int.intBits x ≤ x.natAbs.log2 + 1 := fun x => by
    unfold Builtin.Int.intBits
    split <;> omega
  have h1 := b i
  have h2 := b j
  have e : bitsLine = 134217728 := by decide
  unfold IntMulOk
  intro z
  rw [Bool.and_eq_true] at z
  have z2 := z.2
  unfold Builtin.Int.intTooBig at z2
  have z3 := of_decide_eq_true z2
  rw [e] at z3
  omega
theorem op_mulZ : OpR X (binaryOp .Mult) (rI (fun i j => i.natAbs.log2 + j.natAbs.log2 < 100000000) fun i j => .int (i * j)) := opI fun _ _ _ _ _ _ _ hc q => PyProof.Rows.mul_int q (mulOk hc)
def rMul (K : PySem.W.Frag) : R2 := fun x y H Q => (rI (fun i j => i.natAbs.log2 + j.natAbs.log2 < 100000000) (fun i j => .int (i * j)) x y H Q ∨ rRep x y H Q) ∨ rRepT K x y H Q
theorem op_mulA : OpR X (binaryOp .Mult) (rMul X.K) := OpR.or (OpR.or op_mulZ op_rep) op_repT
theorem DVs.rep {K : PySem.W.Frag} {mg : Str → Option Value} {ds : List D} {vs : List V} (h : DVs K mg B m ds vs) : ∀ k : Nat, DVs K mg B m (List.replicate k ds).flatten (List.replicate k vs).flatten
  | 0 => .nil
  | k + 1 => by
    rw [List.replicate_succ, List.replicate_succ, List.flatten_cons, List.flatten_cons]
    exact h.append (DVs.rep h k)
theorem mul_list {xs : List D} {k : Int} (s : Sim X.K X.mg B m st H) (dx : DV X.K X.mg B m x u) (hx : listOf x st = some xs) (hl : xs.length ≤ 1000 ∧ 0 ≤ k ∧ k ≤ 1000)
    (q : ∀ v B' H', Ext B m H B' m H' → Sim X.K X.mg B' m st H' → DV X.K X.mg B' m (.lst (List.replicate k.toNat xs).flatten) v → Q v H') : rMul X.K u (.int k) H Q := by
  obtain ⟨a, us, rfl, ha, hu⟩ := list_of s dx hx
  refine .inl (.inr ⟨a, k, us, rfl, rfl, ha, by omega, by omega, ?_, done_new s (fun p hp => dv_newL s hp (hu.rep _)) q⟩)
  rw [← hu.length]
  have h1 : k.toNat ≤ 1000 := by omega
  exact le_line (Nat.mul_le_mul hl.1 h1)
theorem o_mul : Op2 X (rMul X.K) mulD := fun B m st H x y u w d Q s dx dy hg k => by
  cases dy with
  | int j =>
    cases dx with
    | int i =>
      simp only [mulD] at hg
      split at hg
      · cases hg; exact .inl (.inl ⟨i, j, rfl, rfl, by assumption, done s (.int _) k⟩)
      · cases hg
    | @tup ds a xs h1 h2 =>
      simp only [mulD] at hg
      split at hg
      · rename_i hl
        cases hg
        have hn := h2.length
        exact .inr ⟨_, j, _, rfl, rfl, s.sub.sqT h1, (fun e => by rw [e] at hn; have h3 := hl.1; rw [hn] at h3; exact absurd h3 (by decide)), hl.2.1, hl.2.2.1, (by rw [← hn]; exact hl.2.2.2), done_new s (fun p hp => dv_newT s hp (h2.rep _)) k⟩
      · cases hg
    | lst h1 h2 =>
      simp only [mulD, listOf] at hg
      split at hg
      · cases hg; exact mul_list s (.lst h1 h2) rfl (by assumption) k
      · cases hg
    | ref h1 =>
      rename_i n a
      simp only [mulD] at hg
      cases hl : listOf (.ref n) st with
      | none => rw [hl] at hg; cases hg
      | some ds =>
        rw [hl] at hg
        dsimp only at hg
        split at hg
        · cases hg; exact mul_list s (.ref h1) hl (by assumption) k
        · cases hg
    | _ => simp [mulD, listOf] at hg
  | _ => cases dx <;> simp [mulD] at hg
theorem op_fdivZ : OpR X (binaryOp .FloorDiv) (rI (fun _ j => j ≠ 0 ∧ j.natAbs.log2 < 9000) fun i j => .int (i.fdiv j)) := opI fun _ _ _ _ _ _ _ hc q => PyProof.Rows.floordiv_int hc.1 q (.inl (PyProof.noPylong_of_log2 hc.2))
theorem o_fdiv : Op2 X (rI (fun _ j => j ≠ 0 ∧ j.natAbs.log2 < 9000) fun i j => .int (i.fdiv j)) fdivD := fun B m st H x y u w d Q s dx dy hg k => by
  cases dx with
  | int i =>
    cases dy with
    | int j =>
      simp only [fdivD] at hg
      split at hg
      · cases hg; exact ⟨i, j, rfl, rfl, by assumption, done s (.int _) k⟩
      · cases hg
    | _ => cases hg
  | _ => simp [fdivD] at hg
theorem o_mod : Op2 X (rI (fun _ j => j ≠ 0) fun i j => .int (i.fmod j)) modD := fun B m st H x y u w d Q s dx dy hg k => by
  cases dx with
  | int i =>
    cases dy with
    | int j =>
      simp only [modD] at hg
      split at hg
      · cases hg; exact ⟨i, j, rfl, rfl, by assumption, done s (.int _) k⟩
      · cases hg
    | _ => cases hg
  | _ => simp [modD] at hg
theorem o_shl : Op2 X (rI CPow fun i j => .int (i * 2 ^ j.toNat)) shlD := fun B m st H x y u w d Q s dx dy hg k => by
  cases dx with
  | int i =>
    cases dy with
    | int j =>
      simp only [shlD] at hg
      split at hg
      · rename_i h
        cases hg; exact ⟨i, j, rfl, rfl, ⟨h.1, h.2.1, by have := h.2.2; omega⟩, done s (.int _) k⟩
      · cases hg
    | _ => cases hg
  | _ => simp [shlD] at hg
theorem o_pow : Op2 X (rI CPow fun i j => .int (i ^ j.toNat)) powD := fun B m st H x y u w d Q s dx dy hg k => by
  cases dx with
  | int i =>
    cases dy with
    | int j =>
      simp only [powD] at hg
      split at hg
      · rename_i h
        cases hg; exact ⟨i, j, rfl, rfl, ⟨h.1, h.2.1, by have := h.2.2; omega⟩, done s (.int _) k⟩
      · cases hg
    | _ => cases hg
  | _ => simp [powD] at hg
theorem o_shr : Op2 X (rI (fun _ j => 0 ≤ j) fun i j => .int (i / 2 ^ j.toNat)) shrD := fun B m st H x y u w d Q s dx dy hg k => by
  cases dx with
  | int i =>
    cases dy with
    | int j =>
      simp only [shrD] at hg
      split at hg
      · cases hg; exact ⟨i, j, rfl, rfl, by assumption, done s (.int _) k⟩
      · cases hg
    | _ => cases hg
  | _ => simp [shrD] at hg
theorem o_and : Op2 X (rI0 fun i j => .int (Builtin.bitAnd i j)) andD := fun B m st H x y u w d Q s dx dy hg k => by
  cases dx with
  | int i =>
    cases dy with
    | int j => cases hg; exact ⟨i, j, rfl, rfl, done s (.int _) k⟩
    | _ => cases hg
  | _ => simp [andD] at hg
theorem o_or : Op2 X (rI0 fun i j => .int (Builtin.bitOr i j)) orD := fun B m st H x y u w d Q s dx dy hg k => by
  cases dx with
  | int i =>
    cases dy with
    | int j => cases hg; exact ⟨i, j, rfl, rfl, done s (.int _) k⟩
    | _ => cases hg
  | _ => simp [orD] at hg
theorem o_lt : Op2 X (rI0 fun i j => .bl (decide (i < j))) ltD := fun B m st H x y u w d Q s dx dy hg k => by
  cases dx with
  | int i =>
    cases dy with
    | int j => cases hg; exact ⟨i, j, rfl, rfl, done s (.bl _) k⟩
    | _ => cases hg
  | _ => simp [ltD] at hg
theorem o_le : Op2 X (rI0 fun i j => .bl (decide (i ≤ j))) leD := fun B m st H x y u w d Q s dx dy hg k => by
  cases dx with
  | int i =>
    cases dy with
    | int j => cases hg; exact ⟨i, j, rfl, rfl, done s (.bl _) k⟩
    | _ => cases hg
  | _ => simp [leD] at hg
theorem o_gt : Op2 X (rI0 fun i j => .bl (decide (j < i))) gtD := fun B m st H x y u w d Q s dx dy hg k => by
  cases dx with
  | int i =>
    cases dy with
    | int j => cases hg; exact ⟨i, j, rfl, rfl, done s (.bl _) k⟩
    | _ => cases hg
  | _ => simp [gtD] at hg
theorem o_ge : Op2 X (rI0 fun i j => .bl (decide (j ≤ i))) geD := fun B m st H x y u w d Q s dx dy hg k => by
  cases dx with
  | int i =>
    cases dy with
    | int j => cases hg; exact ⟨i, j, rfl, rfl, done s (.bl _) k⟩
    | _ => cases hg
  | _ => simp [geD] at hg
theorem o_neg : Op1 X (rU fun i => .int (-i)) negD := fun B m st H x u d Q s dx hg k => by
  cases dx with
  | int i => cases hg; exact ⟨i, rfl, done s (.int _) k⟩
  | _ => cases hg
theorem isNon_ok {K : PySem.W.Frag} {mg : Str → Option Value} (dx : DV K mg B m x u) : decide (u = V.non) = isNonD x := by
  cases dx <;> simp [isNonD]
theorem o_is : Op2 X (fun x y H Q => y = .non ∧ Q (.bl (decide (x = .non))) H) isD := fun B m st H x y u w d Q s dx dy hg k => by
  cases dy with
  | non => cases hg; exact ⟨rfl, by rw [isNon_ok dx]; exact done s (.bl _) k⟩
  | _ => cases hg
theorem o_isnot : Op2 X (fun x y H Q => y = .non ∧ Q (.bl (!decide (x = .non))) H) isnotD := fun B m st H x y u w d Q s dx dy hg k => by
  cases dy with
  | non => cases hg; exact ⟨rfl, by rw [isNon_ok dx]; exact done s (.bl _) k⟩
  | _ => cases hg

/-! ### == of data -/
theorem dps_of {K : PySem.W.Frag} {mg : Str → Option Value} {n : Nat} (hB : Sub B H) (ih : ∀ {x : D} {u : V}, DV K mg B m x u → shp n x = true → Dp K H u (toP n x)) : ∀ {xs : List D} {us : List V}, DVs K mg B m xs us → xs.all (shp n) = true → DpAll K H us (xs.map (toP n))
  | _, _, .nil, _ => .nil
  | _, _, .cons h k, q => by
    rw [List.all_cons, Bool.and_eq_true] at q
    exact .cons (ih h q.1) (dps_of hB ih k q.2)
theorem dp_of {K : PySem.W.Frag} {mg : Str → Option Value} (hB : Sub B H) : ∀ (n : Nat) {x : D} {u : V}, DV K mg B m x u → shp n x = true → Dp K H u (toP n x) := fun n => by
  induction n with
  | zero =>
    intro x u dv h
    cases dv with
    | non => exact .non
    | bl b => exact .bl b
    | int i => exact .int i
    | str z => exact .str z
    | _ => cases h
  | succ n ih =>
    intro x u dv h
    cases dv with
    | non => exact .non
    | bl b => exact .bl b
    | int i => exact .int i
    | str z => exact .str z
    | tup h1 h2 => exact .tup (hB.sqT h1) (dps_of hB ih h2 h)
    | lst h1 h2 => exact .lst (SqL.of (hB _ _ h1)) (dps_of hB ih h2 h)
    | _ => cases h
theorem lays_of {n : Nat} (ih : ∀ {x : D}, shp n x = true → (toP n x).canLay0 = true ∧ (toP n x).depth ≤ n) : ∀ {xs : List D}, xs.all (shp n) = true → PyData.canLayAll0 (xs.map (toP n)) = true ∧ PyData.depthAll (xs.map (toP n)) ≤ n
  | [], _ => ⟨rfl, Nat.zero_le _⟩
  | x :: xs, h => by
    rw [List.all_cons, Bool.and_eq_true] at h
    have h1 := ih h.1
    have h2 := lays_of ih h.2
    rw [List.map_cons]
    refine ⟨?_, ?_⟩
    · rw [PyData.canLayAll0, h1.1, h2.1]; rfl
    · rw [PyData.depthAll]
      have := h1.2
      have := h2.2
      omega
theorem lay_of : ∀ (n : Nat) {x : D}, shp n x = true → (toP n x).canLay0 = true ∧ (toP n x).depth ≤ n := fun n => by
  induction n with
  | zero =>
    intro x h
    cases x with
    | str z => exact ⟨by simpa [toP, PyData.canLay0, shp] using h, by simp [toP, PyData.depth]⟩
    | non => simp [toP, PyData.canLay0, PyData.depth]
    | bl _ => simp [toP, PyData.canLay0, PyData.depth]
    | int _ => simp [toP, PyData.canLay0, PyData.depth]
    | _ => cases h
  | succ n ih =>
    intro x h
    cases x with
    | str z => exact ⟨by simpa [toP, PyData.canLay0, shp] using h, by simp [toP, PyData.depth]⟩
    | non => simp [toP, PyData.canLay0, PyData.depth]
    | bl _ => simp [toP, PyData.canLay0, PyData.depth]
    | int _ => simp [toP, PyData.canLay0, PyData.depth]
    | tup ds =>
      have z := lays_of ih (xs := ds) h
      exact ⟨by simp only [toP, PyData.canLay0]; exact z.1, by simp only [toP, PyData.depth]; omega⟩
    | lst ds =>
      have z := lays_of ih (xs := ds) h
      exact ⟨by simp only [toP, PyData.canLay0]; exact z.1, by simp only [toP, PyData.depth]; omega⟩
    | _ => cases h
theorem shaped_of {x : D} (h : shp 8 x = true) : SeqAt.shaped (toP 8 x) = true := by
  have z := lay_of 8 h
  unfold SeqAt.shaped
  rw [z.1, Bool.true_and]
  exact decide_eq_true (by omega)
theorem eqs_of {n : Nat} (ih : ∀ {x y : D}, shp n x = true → shp n y = true → PyData.eqv (toP n x) (toP n y) = eqvN n x y) : ∀ {xs ys : List D}, xs.all (shp n) = true → ys.all (shp n) = true → PyData.eqvAll (xs.map (toP n)) (ys.map (toP n)) = eqL (eqvN n) xs ys
  | [], [], _, _ => rfl
  | [], _ :: _, _, _ => rfl
  | _ :: _, [], _, _ => rfl
  | x :: xs, y :: ys, h, k => by
    rw [List.all_cons, Bool.and_eq_true] at h k
    rw [List.map_cons, List.map_cons, PyData.eqvAll, ih h.1 k.1, eqs_of ih h.2 k.2, eqL]
theorem eqv_of : ∀ (n : Nat) {x y : D}, shp n x = true → shp n y = true → PyData.eqv (toP n x) (toP n y) = eqvN n x y := fun n => by
  induction n with
  | zero =>
    intro x y h k
    cases x <;> cases y <;> first | (simp only [toP, PyData.eqv, eqvN, eqLeaf]; done) | (cases h; done) | (cases k; done)
  | succ n ih =>
    intro x y h k
    cases x <;> cases y <;> first | (simp only [toP, PyData.eqv, eqvN, eqLeaf]; done) | (simp only [toP, PyData.eqv, eqvN]; exact eqs_of ih h k) | (cases h; done) | (cases k; done)
theorem o_eq : Op2 X (rEqD X.K) eqD := fun B m st H x y u w d Q s dx dy hg k => by
  unfold eqD at hg
  split at hg
  · rename_i h
    rw [Bool.and_eq_true] at h
    cases hg
    refine ⟨_, _, dp_of s.sub 8 dx h.1, dp_of s.sub 8 dy h.2, shaped_of h.1, shaped_of h.2, ?_⟩
    rw [eqv_of 8 h.1 h.2]
    exact done s (.bl _) k
  · cases hg
theorem o_ne : Op2 X (rNeD X.K) neD := fun B m st H x y u w d Q s dx dy hg k => by
  unfold neD at hg
  split at hg
  · rename_i h
    rw [Bool.and_eq_true] at h
    cases hg
    refine ⟨_, _, dp_of s.sub 8 dx h.1, dp_of s.sub 8 dy h.2, shaped_of h.1, shaped_of h.2, ?_⟩
    rw [eqv_of 8 h.1 h.2]
    exact done s (.bl _) k
  · cases hg
theorem atI_dv {K : PySem.W.Frag} {mg : Str → Option Value} {i : Int} (h : DVs K mg B m ds vs) (e : atI ds i = some d) : ∃ v, atI vs i = some v ∧ DV K mg B m d v := by
  unfold atI at e ⊢
  rw [← h.length]
  cases hk : ixN ds.length i with
  | none => rw [hk] at e; cases e
  | some j =>
    rw [hk] at e
    exact h.get e
theorem o_ix : Op2 X (rIx X.K) ixD := fun B m st H x y u w d Q s dx dy hg k => by
  cases dy with
  | int i =>
    cases dx with
    | tup h1 h2 =>
      obtain ⟨v, e, dv⟩ := atI_dv h2 hg
      exact .inr (.inl ⟨_, _, i, v, rfl, rfl, s.sub.sqT h1, e, done s dv k⟩)
    | str z =>
      simp only [ixD] at hg
      split at hg
      · split at hg
        · rename_i hl _ c hc
          cases hg
          exact .inr (.inr ⟨z, i, c, rfl, rfl, le_line hl, hc, done s (.str _) k⟩)
        · cases hg
      · cases hg
    | lst h1 h2 =>
      obtain ⟨v, e, dv⟩ := atI_dv h2 hg
      exact .inl ⟨_, _, i, v, rfl, rfl, SqL.of (s.sub _ _ h1), e, done s dv k⟩
    | ref h1 =>
      rename_i n a
      simp only [ixD] at hg
      cases hl : listOf (.ref n) st with
      | none => rw [hl] at hg; cases hg
      | some ds =>
        rw [hl] at hg
        dsimp only at hg
        obtain ⟨a, us, e1, ha, hu⟩ := list_of s (.ref h1) hl
        cases e1
        obtain ⟨v, e, dv⟩ := atI_dv hu hg
        exact .inl ⟨_, _, i, v, rfl, rfl, SqL.of ha, e, done s dv k⟩
    | _ => simp [ixD, listOf] at hg
  | _ => cases dx <;> simp [ixD] at hg
end
end L4
namespace L4
open PySem L2
open PyProof.Rows (envOfC)

def intsOf : List D → Option (List Int)
  | [] => some []
  | .int i :: ds => (match intsOf ds with
    | some is => some (i :: is)
    | none => none)
  | _ => none
def blsOf : List D → Option (List Bool)
  | [] => some []
  | .bl i :: ds => (match blsOf ds with
    | some is => some (i :: is)
    | none => none)
  | _ => none
def g0 (g : List D → Sto → Option D) : List D → Sto → Option (D × Sto) := fun ds st => match g ds st with
  | some d => some (d, st)
  | none => none
def absD (ds : List D) (_ : Sto) : Option D := match ds with
  | [.int i] => some (.int (if i < 0 then -i else i))
  | _ => none
def seqOf (x : D) (st : Sto) : Option (List D) := match x with
  | .tup ds => some ds
  | x => listOf x st
def lenD (ds : List D) (st : Sto) : Option D := match ds with
  | [.str z] => if z.length ≤ 1000000 then some (.int z.length) else none
  | [x] => (match seqOf x st with
    | some xs => some (.int xs.length)
    | none => none)
  | _ => none
def maxI : Int → List Int → Int
  | a, [] => a
  | a, b :: bs => maxI (if b > a then b else a) bs
def minI : Int → List Int → Int
  | a, [] => a
  | a, b :: bs => minI (if b < a then b else a) bs
def max2D (ds : List D) (_ : Sto) : Option D := match ds with
  | [.int i, .int j] => some (.int (if j > i then j else i))
  | _ => none
def min2D (ds : List D) (_ : Sto) : Option D := match ds with
  | [.int i, .int j] => some (.int (if j < i then j else i))
  | _ => none
def sumD (ds : List D) (st : Sto) : Option D := match ds with
  | [x] => (match listOf x st with
    | some xs => (match intsOf xs with
      | some is => some (.int is.sum)
      | none => none)
    | none => none)
  | _ => none
def allD (ds : List D) (st : Sto) : Option D := match ds with
  | [x] => (match listOf x st with
    | some xs => (match blsOf xs with
      | some is => some (.bl (is.all id))
      | none => none)
    | none => none)
  | _ => none
def anyD (ds : List D) (st : Sto) : Option D := match ds with
  | [x] => (match listOf x st with
    | some xs => (match blsOf xs with
      | some is => some (.bl (is.any id))
      | none => none)
    | none => none)
  | _ => none
def tupleD (ds : List D) (st : Sto) : Option D := match ds with
  | [.tup xs] => some (.tup xs)
  | [x] => (match listOf x st with
    | some xs => some (.tup xs)
    | none => none)
  | _ => none
def listD (ds : List D) (st : Sto) : Option D := match ds with
  | [.scr ns] => some (.lst (ns.map .int))
  | [x] => (match seqOf x st with
    | some xs => some (.lst xs)
    | none => none)
  | _ => none
def listDM (ds : List D) (st : Sto) : Option (D × Sto) := match ds with
  | [.scr ns] => some (.ref st.length, st ++ [.lst (ns.map .int)])
  | [x] => (match seqOf x st with
    | some xs => some (.ref st.length, st ++ [.lst xs])
    | none => none)
  | _ => none
def intD (ds : List D) (_ : Sto) : Option D := match ds with
  | [.int i] => some (.int i)
  | [.bl b] => some (.int (if b then 1 else 0))
  | _ => none
def tyOf (x : D) (st : Sto) : Option String := match x with
  | .non => some "NoneType"
  | .bl _ => some "bool"
  | .int _ => some "int"
  | .str _ => some "str"
  | .tup _ => some "tuple"
  | .lst _ => some "list"
  | .ref n => (match st[n]? with
    | some (.lst _) => some "list"
    | some (.dK _) => some "dict"
    | some (.dT _) => some "dict"
    | _ => none)
  | _ => none
def isOne (t u : String) : Option Bool :=
  if u == "int" then some (t == "int" || t == "bool")
  else if u == "bool" then some (t == "bool")
  else if u == "str" then some (t == "str")
  else if u == "tuple" then some (t == "tuple")
  else if u == "list" then some (t == "list")
  else if u == "dict" then some (t == "dict")
  else none
def isiD (ds : List D) (st : Sto) : Option D := match ds with
  | [x, .ty u] => (match tyOf x st with
    | some t => (match isOne t u with
      | some b => some (.bl b)
      | none => none)
    | none => none)
  | _ => none
/-- a sorted list of ints -/
def insI (x : Int) : List Int → List Int
  | [] => [x]
  | y :: ys => if x ≤ y then x :: y :: ys else y :: insI x ys
def srtI : List Int → List Int
  | [] => []
  | x :: xs => insI x (srtI xs)
def sortedD (ds : List D) (st : Sto) : Option D := match ds with
  | [x] => (match listOf x st with
    | some xs => (match intsOf xs with
      | some is => some (.lst ((srtI is).map .int))
      | none => none)
    | none => none)
  | _ => none

section
variable {X : Cx} {B B' : Hp} {m m' : List Addr} {st st' : Sto} {H H' : Hp} {Q : VK} {x y d : D} {u w v : V} {ds : List D} {vs : List V}
theorem opN_of {r : List V → Hp → VK → Prop} {g : List D → Sto → Option D}
    (h : ∀ (B : Hp) (m : List Addr) (st : Sto) (H : Hp) (xs : List D) (us : List V) (d : D) (Q : VK), Sim X.K X.mg B m st H → DVs X.K X.mg B m xs us → g xs st = some d →
      (∀ v B' H', Ext B m H B' m H' → Sim X.K X.mg B' m st H' → DV X.K X.mg B' m d v → Q v H') → r us H Q) : OpN X r (g0 g) := fun B m st H xs us d st' Q s dv hg k => by
  unfold g0 at hg
  split at hg
  · cases hg
    exact h B m st H xs us _ Q s dv (by assumption) fun v B' H' e s' dv' => k v B' m H' e s' dv'
  · cases hg
theorem ints_of {K : PySem.W.Frag} {mg : Str → Option Value} : ∀ {ds : List D} {vs : List V} {is : List Int}, DVs K mg B m ds vs → intsOf ds = some is → vs = is.map V.int
  | _, _, _, .nil, h => by cases h; rfl
  | _, _, _, .cons (d := d) hd k, h => by
    cases hd with
    | int i =>
      simp only [intsOf] at h
      split at h
      · cases h
        rw [List.map_cons, ← ints_of k (by assumption)]
      · cases h
    | _ => cases h
theorem bls_of {K : PySem.W.Frag} {mg : Str → Option Value} : ∀ {ds : List D} {vs : List V} {is : List Bool}, DVs K mg B m ds vs → blsOf ds = some is → vs = is.map V.bl
  | _, _, _, .nil, h => by cases h; rfl
  | _, _, _, .cons (d := d) hd k, h => by
    cases hd with
    | bl i =>
      simp only [blsOf] at h
      split at h
      · cases h
        rw [List.map_cons, ← bls_of k (by assumption)]
      · cases h
    | _ => cases h
theorem dvs_ints {K : PySem.W.Frag} {mg : Str → Option Value} : ∀ (is : List Int), DVs K mg B m (is.map D.int) (is.map V.int)
  | [] => .nil
  | i :: is => .cons (.int i) (dvs_ints is)
theorem dvs1 {K : PySem.W.Frag} {mg : Str → Option Value} (h : DVs K mg B m [x] vs) : ∃ u, vs = [u] ∧ DV K mg B m x u := by
  cases h with
  | cons h k => cases k; exact ⟨_, rfl, h⟩
theorem dvs2 {K : PySem.W.Frag} {mg : Str → Option Value} (h : DVs K mg B m [x, y] vs) : ∃ u w, vs = [u, w] ∧ DV K mg B m x u ∧ DV K mg B m y w := by
  cases h with
  | cons h k =>
    obtain ⟨w, rfl, k2⟩ := dvs1 k
    exact ⟨_, _, rfl, h, k2⟩
theorem seq_of {K : PySem.W.Frag} {mg : Str → Option Value} (s : Sim K mg B m st H) (dv : DV K mg B m x u) (h : seqOf x st = some ds) : ∃ a xs, u = .ref a ∧ (SqL K H a xs ∨ SqT K H a xs) ∧ DVs K mg B m ds xs := by
  cases dv with
  | tup h1 h2 => cases h; exact ⟨_, _, rfl, .inr (s.sub.sqT h1), h2⟩
  | lst h1 h2 => cases h; exact ⟨_, _, rfl, .inl (SqL.of (s.sub _ _ h1)), h2⟩
  | ref h1 =>
    obtain ⟨a, xs, e, h2, h3⟩ := list_of s (.ref h1) h
    exact ⟨a, xs, e, .inl (SqL.of h2), h3⟩
  | _ => simp [seqOf, listOf] at h
theorem f_abs : OpN X (fun xs H Q => ∃ i, xs = [.int i] ∧ Q (.int (if i < 0 then -i else i)) H) (g0 absD) := opN_of fun B m st H xs us d Q s dv hg k => by
  unfold absD at hg
  split at hg
  · cases hg
    obtain ⟨u, rfl, h⟩ := dvs1 dv
    cases h
    exact ⟨_, rfl, done s (.int _) k⟩
  · cases hg
theorem f_max2 : OpN X (fun xs H Q => ∃ i j, xs = [.int i, .int j] ∧ Q (.int (if j > i then j else i)) H) (g0 max2D) := opN_of fun B m st H xs us d Q s dv hg k => by
  unfold max2D at hg
  split at hg
  · cases hg
    obtain ⟨u, w, rfl, h1, h2⟩ := dvs2 dv
    cases h1; cases h2
    exact ⟨_, _, rfl, done s (.int _) k⟩
  · cases hg
theorem f_min2 : OpN X (fun xs H Q => ∃ i j, xs = [.int i, .int j] ∧ Q (.int (if j < i then j else i)) H) (g0 min2D) := opN_of fun B m st H xs us d Q s dv hg k => by
  unfold min2D at hg
  split at hg
  · cases hg
    obtain ⟨u, w, rfl, h1, h2⟩ := dvs2 dv
    cases h1; cases h2
    exact ⟨_, _, rfl, done s (.int _) k⟩
  · cases hg
def rLen (K : PySem.W.Frag) : List V → Hp → VK → Prop := fun xs H Q => (∃ p ys, xs = [.ref p] ∧ (SqL K H p ys ∨ SqT K H p ys) ∧ Q (.int ys.length) H) ∨ (∃ z, xs = [.str z] ∧ z.length ≤ sizeLine ∧ Q (.int z.length) H)
theorem call_lenA : CallR X (.builtin "len") (rLen X.K) := call_len_seq.or call_len_str
theorem f_len : OpN X (rLen X.K) (g0 lenD) := opN_of fun B m st H xs us d Q s dv hg k => by
  unfold lenD at hg
  split at hg
  · split at hg
    · cases hg
      obtain ⟨u, rfl, h⟩ := dvs1 dv
      cases h
      exact .inr ⟨_, rfl, le_line (by assumption), done s (.int _) k⟩
    · cases hg
  · split at hg
    · cases hg
      obtain ⟨u, rfl, h⟩ := dvs1 dv
      obtain ⟨a, xs, rfl, h1, h2⟩ := seq_of s h (by assumption)
      refine .inl ⟨a, xs, rfl, h1, ?_⟩
      rw [← h2.length]
      exact done s (.int _) k
    · cases hg
  · cases hg
theorem f_sum : OpN X (rSum X.K) (g0 sumD) := opN_of fun B m st H xs us d Q s dv hg k => by
  unfold sumD at hg
  split at hg
  · split at hg
    · split at hg
      · cases hg
        obtain ⟨u, rfl, h⟩ := dvs1 dv
        obtain ⟨a, ys, rfl, h1, h2⟩ := list_of s h (by assumption)
        have e := ints_of h2 (by assumption)
        subst e
        exact ⟨a, _, rfl, SqL.of h1, done s (.int _) k⟩
      · cases hg
    · cases hg
  · cases hg
theorem f_all : OpN X (rAll X.K) (g0 allD) := opN_of fun B m st H xs us d Q s dv hg k => by
  unfold allD at hg
  split at hg
  · split at hg
    · split at hg
      · cases hg
        obtain ⟨u, rfl, h⟩ := dvs1 dv
        obtain ⟨a, ys, rfl, h1, h2⟩ := list_of s h (by assumption)
        have e := bls_of h2 (by assumption)
        subst e
        exact ⟨a, _, rfl, SqL.of h1, done s (.bl _) k⟩
      · cases hg
    · cases hg
  · cases hg
theorem f_any : OpN X (rAny X.K) (g0 anyD) := opN_of fun B m st H xs us d Q s dv hg k => by
  unfold anyD at hg
  split at hg
  · split at hg
    · split at hg
      · cases hg
        obtain ⟨u, rfl, h⟩ := dvs1 dv
        obtain ⟨a, ys, rfl, h1, h2⟩ := list_of s h (by assumption)
        have e := bls_of h2 (by assumption)
        subst e
        exact ⟨a, _, rfl, SqL.of h1, done s (.bl _) k⟩
      · cases hg
    · cases hg
  · cases hg
def rTuple (K : PySem.W.Frag) : List V → Hp → VK → Prop := fun xs H Q => ∃ p ys, xs = [.ref p] ∧ ((SqL K H p ys ∧ ∀ l, H l = none → Q (.ref l) (upd H l (.tup ys))) ∨ (SqT K H p ys ∧ Q (.ref p) H))
theorem f_tuple : OpN X (rTuple X.K) (g0 tupleD) := opN_of fun B m st H xs us d Q s dv hg k => by
  unfold tupleD at hg
  split at hg
  · cases hg
    obtain ⟨u, rfl, h⟩ := dvs1 dv
    cases h with
    | tup h1 h2 => exact ⟨_, _, rfl, .inr ⟨s.sub.sqT h1, done s (.tup h1 h2) k⟩⟩
  · split at hg
    · cases hg
      obtain ⟨u, rfl, h⟩ := dvs1 dv
      obtain ⟨a, ys, rfl, h1, h2⟩ := list_of s h (by assumption)
      exact ⟨a, ys, rfl, .inl ⟨SqL.of h1, done_new s (fun p hp => dv_newT s hp h2) k⟩⟩
    · cases hg
  · cases hg
def rList (K : PySem.W.Frag) : List V → Hp → VK → Prop := fun xs H Q => ∃ p ys, xs = [.ref p] ∧ (SqL K H p ys ∨ SqT K H p ys) ∧ ∀ l, H l = none → Q (.ref l) (upd H l (.lst ys))
theorem f_list : OpN X (rList X.K) (g0 listD) := opN_of fun B m st H xs us d Q s dv hg k => by
  unfold listD at hg
  split at hg
  · cases hg
    obtain ⟨u, rfl, h⟩ := dvs1 dv
    cases h with
    | scr h1 => exact ⟨_, _, rfl, .inl (s.sub.sqL h1), done_new s (fun p hp => dv_newL s hp (dvs_ints _)) k⟩
  · split at hg
    · cases hg
      obtain ⟨u, rfl, h⟩ := dvs1 dv
      obtain ⟨a, ys, rfl, h1, h2⟩ := seq_of s h (by assumption)
      exact ⟨a, ys, rfl, h1, done_new s (fun p hp => dv_newL s hp h2) k⟩
    · cases hg
  · cases hg
theorem f_listM : OpN X (rList X.K) listDM := fun B m st H xs us d st' Q s dv hg k => by
  unfold listDM at hg
  split at hg
  · cases hg
    obtain ⟨u, rfl, h⟩ := dvs1 dv
    cases h with
    | scr h1 => exact ⟨_, _, rfl, .inl (s.sub.sqL h1), fun p hp => k _ _ _ _ (s.ext_newM hp) (s.newM hp (oa_lst s hp (dvs_ints _))) (dv_newR s)⟩
  · split at hg
    · cases hg
      obtain ⟨u, rfl, h⟩ := dvs1 dv
      obtain ⟨a, ys, rfl, h1, h2⟩ := seq_of s h (by assumption)
      exact ⟨a, ys, rfl, h1, fun p hp => k _ _ _ _ (s.ext_newM hp) (s.newM hp (oa_lst s hp h2)) (dv_newR s)⟩
    · cases hg
  · cases hg
theorem f_int : OpN X (fun xs H Q => (∃ i, xs = [.int i] ∧ Q (.int i) H) ∨ ∃ k, xs = [.bl k] ∧ Q (.int (if k then 1 else 0)) H) (g0 intD) := opN_of fun B m st H xs us d Q s dv hg k => by
  unfold intD at hg
  split at hg
  · cases hg
    obtain ⟨u, rfl, h⟩ := dvs1 dv
    cases h
    exact .inl ⟨_, rfl, done s (.int _) k⟩
  · cases hg
    obtain ⟨u, rfl, h⟩ := dvs1 dv
    cases h
    exact .inr ⟨_, rfl, done s (.int _) k⟩
  · cases hg
theorem ty_of {K : PySem.W.Frag} {mg : Str → Option Value} {t : String} (s : Sim K mg B m st H) (dv : DV K mg B m x u) (h : tyOf x st = some t) : TyX K H u (.type t) := by
  cases dv with
  | non => cases h; exact .base .non
  | bl b => cases h; exact .base (.bl _)
  | int b => cases h; exact .base (.int _)
  | str b => cases h; exact .base (.str _)
  | tup h1 h2 =>
    cases h
    rcases s.sub.sqT h1 with (h | ⟨o, h⟩) | ⟨o, its, n, h, c, _⟩
    · exact .base (.tup h)
    · exact .fTuple h
    · exact .kTuple h c
  | lst h1 h2 => cases h; exact .base (.lst (s.sub _ _ h1))
  | ref h1 =>
    simp only [tyOf] at h
    split at h
    · cases h
      obtain ⟨_, xs, h2, _⟩ := s.obj _ _ _ h1 (by assumption)
      exact .base (.lst h2)
    · cases h
      obtain ⟨_, xs, h2, _⟩ := s.obj _ _ _ h1 (by assumption)
      exact .base (.dK h2)
    · cases h
      obtain ⟨_, xs, h2, _⟩ := s.obj _ _ _ h1 (by assumption)
      exact .base (.dT h2)
    · cases h
  | _ => cases h
theorem tyOf_in {t : String} (h : tyOf x st = some t) : t = "NoneType" ∨ t = "bool" ∨ t = "int" ∨ t = "str" ∨ t = "tuple" ∨ t = "list" ∨ t = "dict" := by
  unfold tyOf at h
  cases x <;> simp at h <;> (try (subst h; simp))
  split at h <;> simp at h <;> (try (subst h; simp))
theorem kit_in {K : PySem.W.Frag} {t c : String} {b : Bool} (ht : t = "NoneType" ∨ t = "bool" ∨ t = "int" ∨ t = "str" ∨ t = "tuple" ∨ t = "list" ∨ t = "dict") (h : isOne t c = some b) : PySem.W.kitOne K (.type t) (.type c) = some b := by
  unfold isOne at h
  split at h
  · rename_i e; have e := eq_of_beq e; subst e; cases h
    rcases ht with rfl | rfl | rfl | rfl | rfl | rfl | rfl <;> exact kit_ty (by decide +kernel)
  split at h
  · rename_i e; have e := eq_of_beq e; subst e; cases h
    rcases ht with rfl | rfl | rfl | rfl | rfl | rfl | rfl <;> exact kit_ty (by decide +kernel)
  split at h
  · rename_i e; have e := eq_of_beq e; subst e; cases h
    rcases ht with rfl | rfl | rfl | rfl | rfl | rfl | rfl <;> exact kit_ty (by decide +kernel)
  split at h
  · rename_i e; have e := eq_of_beq e; subst e; cases h
    rcases ht with rfl | rfl | rfl | rfl | rfl | rfl | rfl <;> exact kit_ty (by decide +kernel)
  split at h
  · rename_i e; have e := eq_of_beq e; subst e; cases h
    rcases ht with rfl | rfl | rfl | rfl | rfl | rfl | rfl <;> exact kit_ty (by decide +kernel)
  split at h
  · rename_i e; have e := eq_of_beq e; subst e; cases h
    rcases ht with rfl | rfl | rfl | rfl | rfl | rfl | rfl <;> exact kit_ty (by decide +kernel)
  cases h
theorem f_isi : OpN X (rIsi X.K) (g0 isiD) := opN_of fun B m st H xs us d Q s dv hg k => by
  unfold isiD at hg
  split at hg
  · split at hg
    · split at hg
      · cases hg
        obtain ⟨u, w, rfl, h1, h2⟩ := dvs2 dv
        cases h2
        exact ⟨u, _, _, _, _, rfl, .ty _, ty_of s h1 (by assumption), kit_in (tyOf_in (by assumption)) (by assumption), done s (.bl _) k⟩
      · cases hg
    · cases hg
  · cases hg
theorem perm_insI (x : Int) : ∀ l : List Int, (insI x l).Perm (x :: l)
  | [] => .refl _
  | y :: ys => by
    unfold insI
    split
    · exact .refl _
    · exact ((perm_insI x ys).cons y).trans (.swap x y ys)
theorem perm_srtI : ∀ l : List Int, (srtI l).Perm l
  | [] => .refl _
  | x :: xs => (perm_insI x _).trans ((perm_srtI xs).cons x)
theorem pw_insI {x : Int} : ∀ {l : List Int}, l.Pairwise (· ≤ ·) → (insI x l).Pairwise (· ≤ ·)
  | [], _ => by simp [insI]
  | y :: ys, h => by
    rw [List.pairwise_cons] at h
    unfold insI
    split
    · rename_i hx
      rw [List.pairwise_cons, List.pairwise_cons]
      refine ⟨fun z hz => ?_, h⟩
      rcases List.mem_cons.mp hz with e | e
      · subst e; exact hx
      · exact Int.le_trans hx (h.1 z e)
    · rename_i hx
      rw [List.pairwise_cons]
      refine ⟨fun z hz => ?_, pw_insI h.2⟩
      rcases List.mem_cons.mp ((perm_insI x ys).mem_iff.mp hz) with e | e
      · subst e; omega
      · exact h.1 z e
theorem pw_srtI : ∀ l : List Int, (srtI l).Pairwise (· ≤ ·)
  | [] => .nil
  | x :: xs => pw_insI (pw_srtI xs)
theorem srtI_same {l l' : List Int} (p : l'.Perm l) (q : l'.Pairwise (· ≤ ·)) : l' = srtI l :=
  List.Perm.eq_of_pairwise (fun a b _ _ h1 h2 => Int.le_antisymm h1 h2) q (pw_srtI l) (p.trans (perm_srtI l).symm)
theorem f_sorted : OpN X (rSortedI X.K) (g0 sortedD) := opN_of fun B m st H xs us d Q s dv hg k => by
  unfold sortedD at hg
  split at hg
  · split at hg
    · split at hg
      · cases hg
        obtain ⟨u, rfl, h⟩ := dvs1 dv
        obtain ⟨a, ys, rfl, h1, h2⟩ := list_of s h (by assumption)
        have e := ints_of h2 (by assumption)
        subst e
        refine ⟨a, _, rfl, SqL.of h1, fun ns' p h3 h4 hp => ?_⟩
        rw [srtI_same h3 h4]
        exact done_new s (fun p hp => dv_newL s hp (dvs_ints _)) k p hp
      · cases hg
    · cases hg
  · cases hg
end

/-! ### methods -/
def recB (T : String) (x : D) (st : Sto) : Bool := match x with
  | .str _ => T == "str"
  | .lst _ => T == "list"
  | .ref n => (match st[n]? with
    | some (.lst _) => T == "list"
    | some (.dK _) => T == "dict"
    | some (.dT _) => T == "dict"
    | _ => false)
  | _ => false
def eMet (T : String) (g : D → List D → Sto → Option (D × Sto)) (o : E) (as : EA) : E := fun ρ st => (o ρ st).bind fun x st1 => if recB T x st1 then (as ρ st1).bind fun ds st2 => RE.of2 (g x ds st2) else .stuck
def appD (x : D) (ds : List D) (st : Sto) : Option (D × Sto) := match x, ds with
  | .ref n, [d] => (match st[n]? with
    | some (.lst xs) => if xs.length ≤ 1000000 then some (.non, st.set n (.lst (xs ++ [d]))) else none
    | _ => none)
  | _, _ => none
def popD (x : D) (ds : List D) (st : Sto) : Option (D × Sto) := match x, ds with
  | .ref n, [] => (match st[n]? with
    | some (.lst xs) => (match xs[xs.length - 1]? with
      | some d => some (d, st.set n (.lst xs.dropLast))
      | none => none)
    | _ => none)
  | _, _ => none
section
variable {X : Cx} {W : WX} {B B' : Hp} {m m' : List Addr} {ρ : Rho} {st st' : Sto} {σ : St} {H H' : Hp} {Q : VK} {x y d : D} {u w v : V} {ds : List D} {vs : List V} {o e : Expr} {es : List Expr} {fo fe : E} {fs : EA}
def OpM (X : Cx) (r : V → List V → Hp → VK → Prop) (g : D → List D → Sto → Option (D × Sto)) : Prop :=
  ∀ (B : Hp) (m : List Addr) (st : Sto) (H : Hp) (x : D) (u : V) (xs : List D) (us : List V) (d : D) (st' : Sto) (Q : VK), Sim X.K X.mg B m st H → DV X.K X.mg B m x u → DVs X.K X.mg B m xs us → g x xs st = some (d, st') →
    (∀ v B' m' H', Ext B m H B' m' H' → Sim X.K X.mg B' m' st' H' → DV X.K X.mg B' m' d v → Q v H') → r u us H Q
theorem rec_of {K : PySem.W.Frag} {mg : Str → Option Value} {T : String} (s : Sim K mg B m st H) (dv : DV K mg B m x u) (h : recB T x st = true) : tyV K T u H := by
  cases dv with
  | str z => exact eq_of_beq h
  | lst h1 h2 => exact .inl ⟨eq_of_beq h, _, SqL.of (s.sub _ _ h1)⟩
  | ref h1 =>
    simp only [recB] at h
    split at h
    · obtain ⟨_, xs, h2, _⟩ := s.obj _ _ _ h1 (by assumption)
      exact .inl ⟨eq_of_beq h, _, SqL.of h2⟩
    · obtain ⟨_, xs, h2, _⟩ := s.obj _ _ _ h1 (by assumption)
      exact .inr (.inr (.inl ⟨eq_of_beq h, .inl ⟨_, h2⟩⟩))
    · obtain ⟨_, xs, h2, _⟩ := s.obj _ _ _ h1 (by assumption)
      exact .inr (.inr (.inl ⟨eq_of_beq h, .inr ⟨_, h2⟩⟩))
    · cases h
  | _ => cases h
theorem r_met {T : String} {r : V → List V → Hp → VK → Prop} {g : D → List D → Sto → Option (D × Sto)} (hr : ∀ {to : TE} {ta : TA}, PE X o to → PA X es ta → PE X e (tBM X.K T r to ta)) (hg : OpM X r g) (ho : SE X W o fo) (ha : SA X W es fs) : SE X W e (eMet T g fo fs) :=
  (hr ho ha).weak fun σ H Q ⟨B, m, ρ, st, s, q⟩ => ⟨B, m, ρ, st, s, q.bind.mono fun v H1 ⟨B1, m1, st1, d, x1, s1, dv, q1⟩ => by
    dsimp only at q1
    by_cases hrec : recB T d st1 = true
    · rw [if_pos hrec] at q1
      refine ⟨rec_of s1.sim dv hrec, B1, m1, ρ, st1, s1, q1.bindA.mono fun ws H2 ⟨B2, m2, st2, ds, x2, s2, dvs, q2⟩ => ?_⟩
      dsimp only at q2
      cases hq : g d ds st2 with
      | none => rw [hq] at q2; exact q2.elim
      | some p =>
        obtain ⟨z, st3⟩ := p
        rw [hq] at q2
        exact hg _ _ _ _ _ _ _ _ _ _ _ s2.sim (dv.mono x2.bb x2.mm) dvs hq fun v' B' m' H' x3 k3 dv3 => q2 v' B' m' H' x3 (s2.mono x3 k3) dv3
    · rw [if_neg hrec] at q1
      exact q1.elim⟩
/-- no arguments -/
theorem r_met0 {T : String} {r : V → List V → Hp → VK → Prop} {g : D → List D → Sto → Option (D × Sto)} (hr : ∀ {to : TE}, PE X o to → PE X e (tBM0 X.K T r to)) (hg : OpM X r g) (ho : SE X W o fo) : SE X W e (eMet T g fo aNil) :=
  (hr ho).weak fun σ H Q ⟨B, m, ρ, st, s, q⟩ => ⟨B, m, ρ, st, s, q.bind.mono fun v H1 ⟨B1, m1, st1, d, x1, s1, dv, q1⟩ => by
    dsimp only at q1
    by_cases hrec : recB T d st1 = true
    · rw [if_pos hrec] at q1
      refine ⟨rec_of s1.sim dv hrec, ?_⟩
      change PostE X W B1 m1 H1 ρ σ Q (RE.of2 (g d [] st1)) at q1
      cases hq : g d [] st1 with
      | none => rw [hq] at q1; exact q1.elim
      | some p =>
        obtain ⟨z, st3⟩ := p
        rw [hq] at q1
        exact hg _ _ _ _ _ _ _ _ _ _ _ s1.sim dv .nil hq fun v' B' m' H' x3 k3 dv3 => q1 v' B' m' H' x3 (s1.mono x3 k3) dv3
    · rw [if_neg hrec] at q1
      exact q1.elim⟩
theorem m_app : OpM X rAppend appD := fun B m st H x u xs us d st' Q s dx dv hg k => by
  unfold appD at hg
  split at hg
  · rename_i n d1
    split at hg
    · rename_i ys hn
      split at hg
      · rename_i hl
        cases hg
        cases dx with
        | ref hm =>
          rename_i a
          obtain ⟨w, rfl, dw⟩ := dvs1 dv
          obtain ⟨hB, zs, h1, h2⟩ := s.obj _ _ _ hm hn
          have e := ext_setM (B := B) (H := H) (o := .lst (zs ++ [w])) hm
          exact ⟨a, zs, w, rfl, rfl, h1, lt_line (by rw [← h2.length]; exact hl), k _ B m _ e (s.setM hm hB ⟨hB, _, upd_same, h2.append (.cons dw .nil)⟩) .non⟩
      · cases hg
    · cases hg
  · cases hg
theorem m_pop : OpM X rPop popD := fun B m st H x u xs us d st' Q s dx dv hg k => by
  unfold popD at hg
  split at hg
  · rename_i n
    split at hg
    · rename_i ys hn
      split at hg
      · rename_i d1 hl
        cases hg
        cases dx with
        | ref hm =>
          rename_i a
          cases dv
          obtain ⟨hB, zs, h1, h2⟩ := s.obj _ _ _ hm hn
          have e := ext_setM (B := B) (H := H) (o := .lst zs.dropLast) hm
          rw [h2.length] at hl
          obtain ⟨v, hv, dv2⟩ := h2.get hl
          refine ⟨a, zs, v, rfl, rfl, h1, hv, k _ B m _ e (s.setM hm hB ⟨hB, _, upd_same, ?_⟩) dv2⟩
          rw [List.dropLast_eq_take, List.dropLast_eq_take, h2.length]
          exact h2.take _
      · cases hg
    · cases hg
  · cases hg
end
/-! ### what is walked -/
def rgD (lo : Int) : Nat → List D
  | 0 => []
  | n + 1 => .int lo :: rgD (lo + 1) n
theorem rgD_len (lo : Int) : ∀ n, (rgD lo n).length = n := fun n => by
  induction n generalizing lo with
  | zero => rfl
  | succ n ih => rw [rgD, List.length_cons, ih]
theorem rgD_get (lo : Int) (n i : Nat) {d : D} (h : (rgD lo n)[i]? = some d) : i < n ∧ d = .int (lo + i) := by
  induction n generalizing lo i with
  | zero => cases i <;> cases h
  | succ n ih =>
    cases i with
    | zero =>
      have h : some (D.int lo) = some d := h
      cases h
      exact ⟨Nat.succ_pos n, by congr 1; omega⟩
    | succ i =>
      have h : (rgD (lo + 1) n)[i]? = some d := h
      obtain ⟨h1, h2⟩ := ih (lo + 1) i h
      exact ⟨Nat.succ_lt_succ h1, by rw [h2]; congr 1; omega⟩
def RE.toA (r : RE) (k : D → Sto → RA) : RA := match r with
  | .ok d st => k d st
  | .exc x st => .exc x st
  | .stuck => .stuck
def iRg1 (a : E) : EA := fun ρ st => (a ρ st).toA fun d st1 => match d with
  | .int n => if n ≤ 1000000 ∧ -1000000 ≤ n then .ok (rgD 0 n.toNat) st1 else .stuck
  | _ => .stuck
def iRg2 (a b : E) : EA := fun ρ st => (a ρ st).toA fun x st1 => (b ρ st1).toA fun y st2 => match x, y with
  | .int i, .int j => if i ≤ 1000000 ∧ -1000000 ≤ i ∧ j ≤ 1000000 ∧ -1000000 ≤ j then .ok (rgD i (j - i).toNat) st2 else .stuck
  | _, _ => .stuck
def iSeq (a : E) : EA := fun ρ st => (a ρ st).toA fun d st1 => match d with
  | .lst ds => .ok ds st1
  | .tup ds => .ok ds st1
  | _ => .stuck
section
variable {X : Cx} {W : WX} {B B' : Hp} {m m' : List Addr} {ρ : Rho} {st st' : Sto} {σ : St} {H H' : Hp} {Q : VK} {R : It → Hp → Prop} {e a b tg : Expr} {fa fb : E}
theorem PostI.ext {r : RA} (x : Ext B m H B' m' H') (h : PostI X W B m H ρ σ R r) : PostI X W B' m' H' ρ σ R r := by
  cases r with
  | ok ds st => exact fun J B2 m2 H2 e2 s sv => h J B2 m2 H2 (x.trans e2) s sv
  | exc x1 st => exact PostX.ext x h
  | stuck => exact h
def MidI (X : Cx) (W : WX) (B : Hp) (m : List Addr) (H : Hp) (ρ : Rho) (σ : St) (R : It → Hp → Prop) (k : D → Sto → RA) (v : V) (H1 : Hp) : Prop :=
  ∃ B1 m1 st1 d, Ext B m H B1 m1 H1 ∧ Stt X B1 m1 ρ st1 σ H1 ∧ DV X.K X.mg B1 m1 d v ∧ PostI X W B1 m1 H1 ρ σ R (k d st1)
theorem PostI.toE {r : RE} {k : D → Sto → RA} (h : PostI X W B m H ρ σ R (r.toA k)) : PostE X W B m H ρ σ (MidI X W B m H ρ σ R k) r := by
  cases r with
  | ok d st => exact fun v B1 m1 H1 e s dv => ⟨B1, m1, st, d, e, s, dv, PostI.ext e h⟩
  | exc x st => exact h
  | stuck => exact h
theorem serves_rg {lo : Int} {n : Nat} : Serves X (Itr lo n) B m (rgD lo n) := fun B1 m1 st1 H1 hB hm s i =>
  ⟨fun d hd => by
    obtain ⟨h1, h2⟩ := rgD_get lo n i hd
    subst h2
    refine ⟨h1, fun x H2 hy => ?_⟩
    obtain ⟨e1, e2⟩ := hy
    subst e1 e2
    exact ⟨B1, Ext.refl _ _ _, s, .int _⟩, fun h => by rw [rgD_len] at h; exact h⟩
theorem i_rg1 {p pos : Pos} (hg : Gl X "range") (hm : X.mg "range" = none) (ha : SE X W a fa) (h1 : starEach [a] X.env = (false, eval a X.env) :: starEach [] X.env := by rfl) (hs : starEach [a] X.env = [(false, eval a X.env)] := by rfl) :
    SI X W tg (.Call (.Name "range" p) [a] [] pos) (iRg1 fa) :=
  (pi_range1 hg hm (pa_cons ha pa_nil h1) hs).weak fun σ H R ⟨B, m, ρ, st, s, q⟩ => ⟨B, m, ρ, st, s, q.toE.mono fun v H1 ⟨B1, m1, st1, d, x1, s1, dv, q1⟩ => by
    cases dv with
    | int n =>
      dsimp only at q1
      split at q1
      · rename_i hl
        exact ⟨n, rfl, by omega, by omega, q1 _ B1 m1 H1 (Ext.refl _ _ _) s1 serves_rg⟩
      · exact q1.elim
    | _ => exact q1.elim⟩
theorem i_rg2 {p pos : Pos} (hg : Gl X "range") (hm : X.mg "range" = none) (ha : SE X W a fa) (hb : SE X W b fb) (h1 : starEach [a, b] X.env = (false, eval a X.env) :: starEach [b] X.env := by rfl) (h2 : starEach [b] X.env = (false, eval b X.env) :: starEach [] X.env := by rfl)
    (hs : starEach [a, b] X.env = [(false, eval a X.env), (false, eval b X.env)] := by rfl) (hs2 : starEach [b] X.env = [(false, eval b X.env)] := by rfl) :
    SI X W tg (.Call (.Name "range" p) [a, b] [] pos) (iRg2 fa fb) :=
  (pi_range2 hg hm (pa_cons ha (pa_cons hb pa_nil h2) h1) hs hs2).weak fun σ H R ⟨B, m, ρ, st, s, q⟩ => ⟨B, m, ρ, st, s, q.toE.mono fun v H1 ⟨B1, m1, st1, d, x1, s1, dv, q1⟩ =>
    ⟨B1, m1, ρ, st1, s1, q1.toE.mono fun w H2 ⟨B2, m2, st2, d2, x2, s2, dw, q2⟩ => by
      cases dv with
      | int n =>
        cases dw with
        | int k =>
          dsimp only at q2
          split at q2
          · rename_i hl
            exact ⟨n, k, rfl, ⟨by omega, by omega, by omega, by omega⟩, q2 _ B2 m2 H2 (Ext.refl _ _ _) s2 serves_rg⟩
          · exact q2.elim
        | _ => exact q2.elim
      | _ => exact q2.elim⟩⟩
theorem serves_lst {K : Addr} {xs : List V} {ds : List D} {a : Addr} (h : B a = some (.lst xs)) (hd : DVs X.K X.mg B m ds xs) : Serves X (Itl X.K a) B m ds := fun B1 m1 st1 H1 hB hm s i => by
  have hs : SqL X.K H1 a xs := SqL.of (s.sub _ _ (hB _ _ h))
  refine ⟨fun d hd' => ?_, fun hl => ⟨xs, hs, by rw [← hd.length]; exact hl⟩⟩
  obtain ⟨v, hv, dv⟩ := hd.get hd'
  refine ⟨⟨xs, v, hs, hv⟩, fun x H2 hy => ?_⟩
  obtain ⟨e1, e2⟩ := hy
  subst e1
  have e3 := e2 xs hs
  rw [hv] at e3
  cases e3
  exact ⟨B1, Ext.refl _ _ _, s, dv.mono hB hm⟩
theorem serves_tup {xs : List V} {ds : List D} {a : Addr} (h : SqT X.K B a xs) (hd : DVs X.K X.mg B m ds xs) : Serves X (Itt X.K a) B m ds := fun B1 m1 st1 H1 hB hm s i => by
  have hs : SqT X.K H1 a xs := s.sub.sqT (hB.sqT h)
  refine ⟨fun d hd' => ?_, fun hl => ⟨xs, hs, by rw [← hd.length]; exact hl⟩⟩
  obtain ⟨v, hv, dv⟩ := hd.get hd'
  refine ⟨⟨xs, v, hs, hv⟩, fun x H2 hy => ?_⟩
  obtain ⟨e1, e2⟩ := hy
  subst e1
  have e3 := e2 xs hs
  rw [hv] at e3
  cases e3
  exact ⟨B1, Ext.refl _ _ _, s, dv.mono hB hm⟩
theorem _root_.L2.PI.or {tg l : Expr} {w1 w2 : TI} (h1 : PI X tg l w1) (h2 : PI X tg l w2) : PI X tg l (fun σ H R => w1 σ H R ∨ w2 σ H R) := ⟨fun pins s σ H R I h => by
  rcases h with h | h
  · exact h1.run pins s σ H R I h
  · exact h2.run pins s σ H R I h⟩
theorem i_seq (ha : SE X W a fa) : SI X W tg a (iSeq fa) :=
  (PI.or (pi_list (tg := tg) ha) (pi_tup (tg := tg) ha)).weak fun σ H R ⟨B, m, ρ, st, s, q⟩ => by
    unfold iSeq at q
    cases h : fa ρ st with
    | exc x st1 => rw [h] at q; exact .inl ⟨B, m, ρ, st, s, by rw [h]; exact q⟩
    | stuck => rw [h] at q; exact q.elim
    | ok d st1 =>
      rw [h] at q
      match d, q, h with
      | .lst ds, q, h =>
        refine .inl ⟨B, m, ρ, st, s, ?_⟩
        rw [h]
        intro v B1 m1 H1 x1 s1 dv
        cases dv with
        | lst h1 h2 => exact ⟨_, rfl, ⟨_, SqL.of (s1.sim.sub _ _ h1)⟩, q _ B1 m1 H1 x1 s1 (serves_lst (K := 0) h1 h2)⟩
      | .tup ds, q, h =>
        refine .inr ⟨B, m, ρ, st, s, ?_⟩
        rw [h]
        intro v B1 m1 H1 x1 s1 dv
        cases dv with
        | tup h1 h2 => exact ⟨_, rfl, ⟨_, s1.sim.sub.sqT h1⟩, q _ B1 m1 H1 x1 s1 (serves_tup h1 h2)⟩
      | .non, q, _ => exact q.elim
      | .bl _, q, _ => exact q.elim
      | .int _, q, _ => exact q.elim
      | .str _, q, _ => exact q.elim
      | .ref _, q, _ => exact q.elim
      | .fn _, q, _ => exact q.elim
      | .ty _, q, _ => exact q.elim
      | .scr _, q, _ => exact q.elim
end
/-! ### raise -/
/-- what the top has left of an error class of the module -/
structure ExcF (K : PySem.W.Frag) (mg : Str → Option Value) (x : Str) (C : Addr) : Prop where
  g : mg x = some (.ref C)
  x : PySem.W.excIn K C [.type "ValueError", .type "Exception", .type "BaseException", .type "object"] "ValueError.__new__" = true
  k : PySem.W.keepIn K (.ref C) = true
  b : PySem.W.subIn K (.ref C) (.type "BaseException") = some true
  t : PySem.W.typeIn K (.ref C) = some (.type "type")
def sRaise (x : Str) : S := fun ρ st => .exc ⟨x⟩ ρ st
section
variable {X : Cx} {W : WX}
theorem s_raise {x msg : Str} {C : Addr} {j : Nat} {p p2 pos pos' : Pos} (hc : X.calm = true) (tk : Takes X W) (F : ExcF X.K X.mg x C) (hg : Gl X x) (hdb : (x == ("__debug__" : Str)) = false := by decide) :
    SS X W (.Raise (some (.Call (.Name x p) [.Constant (.str msg) j p2] [] pos)) none pos') (sRaise x) :=
  (ps_raise hc tk (pmk_own PySem.F.excBase_ValueError F.x F.g F.k (raises_own F.b F.t) hg hdb)).weak fun Dn σ H ⟨B, m, ρ, st, s, q⟩ => q _ _ B m σ H (Ext.refl _ _ _) s ⟨rfl, C, F.g, rfl⟩
end
end L4
namespace L4
open PySem L2
open PyProof.Rows (envOfC)

def putD (x y d : D) (st : Sto) : Option Sto := match x, y with
  | .ref n, .int i => (match st[n]? with
    | some (.lst ds) => (match ixN ds.length i with
      | some j => some (st.set n (.lst (ds.set j d)))
      | none => none)
    | _ => none)
  | _, _ => none
def sPut (e o i : E) : S := fun ρ st => (e ρ st).toS ρ fun d st1 => (o ρ st1).toS ρ fun x st2 => (i ρ st2).toS ρ fun y st3 => match putD x y d st3 with
  | some st4 => .nx ρ st4
  | none => .stuck
def cutD (ds : List D) (lo hi : Option Int) : List D := (ds.drop (HT.sIx ds.length 0 lo)).take (HT.sIx ds.length ds.length hi - HT.sIx ds.length 0 lo)
inductive RP where
  | ok (o : Option Int) (st : Sto) | exc (x : Exn) (st : Sto) | stuck
abbrev EPt := Rho → Sto → RP
def pNone : EPt := fun _ st => .ok none st
def pSome (e : E) : EPt := fun ρ st => match e ρ st with
  | .ok (.int i) st1 => .ok (some i) st1
  | .ok _ _ => .stuck
  | .exc x st1 => .exc x st1
  | .stuck => .stuck
def RP.bind (r : RP) (k : Option Int → Sto → RE) : RE := match r with
  | .ok d st => k d st
  | .exc x st => .exc x st
  | .stuck => .stuck
def slD (x : D) (lo hi : Option Int) (st : Sto) : Option D := match x with
  | .tup ds => some (.tup (cutD ds lo hi))
  | x => (match listOf x st with
    | some ds => some (.lst (cutD ds lo hi))
    | none => none)
def eSl (a : E) (lo hi : EPt) : E := fun ρ st => (a ρ st).bind fun x st1 => (lo ρ st1).bind fun l st2 => (hi ρ st2).bind fun h st3 => RE.of (slD x l h st3) st3
def revD (x : D) (st : Sto) : Option D := match x with
  | .tup ds => some (.tup ds.reverse)
  | x => (match listOf x st with
    | some ds => some (.lst ds.reverse)
    | none => none)
section
variable {X : Cx} {W : WX} {B B' : Hp} {m m' : List Addr} {ρ : Rho} {st st' : Sto} {σ : St} {H H' : Hp} {Q : VK} {x y d : D} {u w v : V} {ds : List D} {vs : List V} {o e i a : Expr} {fo fe fi fa fl fh : E}
theorem s_put {pos pos' : Pos} (he : SE X W e fe) (ho : SE X W o fo) (hi : SE X W i fi)
    (ha : ∀ v, assign (.Subscript o i pos) X.env v = (do
      let ov ← holding [v] (eval o X.env)
      let iv ← holding [v, ov] (eval i X.env)
      standAt pos
      holding [v, ov, iv] (setItem ov iv v)
      release [v, ov, iv] []) := by intro _; rfl)
    (hs : swapsWithSole [.Subscript o i pos] e pos'.line X.env = pure false := by rfl) (hw : swappedStores [.Subscript o i pos] e X.env = pure none := by rfl)
    (h1 : (assignEach [.Subscript o i pos] X.env).map (·.2) = [assign (.Subscript o i pos) X.env] := by rfl) : SS X W (.Assign [.Subscript o i pos] e pos') (sPut fe fo fi) :=
  (ps_asg he (pg_sub ho hi set_list ha) hs hw h1).weak fun Dn σ H ⟨B, m, ρ, st, s, q⟩ => ⟨B, m, ρ, st, s, q.toE.mono fun v H1 ⟨B1, m1, st1, d, x1, s1, dv, q1⟩ =>
    ⟨B1, m1, ρ, st1, s1, q1.toE.mono fun w H2 ⟨B2, m2, st2, d2, x2, s2, dw, q2⟩ => ⟨B2, m2, ρ, st2, s2, q2.toE.mono fun z H3 ⟨B3, m3, st3, d3, x3, s3, dz, q3⟩ => by
      dsimp only at q3
      cases hp : putD d2 d3 d st3 with
      | none => rw [hp] at q3; exact q3.elim
      | some st4 =>
        rw [hp] at q3
        dsimp only at q3
        have dw := dw.mono x3.bb x3.mm
        have dv := (dv.mono x2.bb x2.mm).mono x3.bb x3.mm
        unfold putD at hp
        cases dw with
        | @ref n a' hm =>
          cases dz with
          | int j =>
            dsimp only at hp
            split at hp
            · rename_i ds hn
              split at hp
              · rename_i jj hj
                cases hp
                obtain ⟨hB, zs, h1, h2⟩ := s3.sim.obj _ _ _ hm hn
                rw [h2.length] at hj
                have e := ext_setM (B := B3) (H := H3) (o := .lst (zs.set jj v)) hm
                have k := s3.sim.setM (mo := .lst (ds.set jj d)) hm hB ⟨hB, _, upd_same, h2.set dv jj⟩
                exact ⟨a', zs, j, jj, rfl, rfl, h1, hj, PostS.nx (s3.mono e k) (PostS.ext e q3)⟩
              · cases hp
            · cases hp
          | _ => cases hp
        | _ => cases hp⟩⟩⟩

/-! ### slices -/
def PostP (X : Cx) (W : WX) (B : Hp) (m : List Addr) (H : Hp) (ρ : Rho) (σ : St) (Q : Option Int → Hp → Prop) : RP → Prop
  | .ok o st => ∀ B' m' H', Ext B m H B' m' H' → Stt X B' m' ρ st σ H' → Q o H'
  | .exc x st => PostX X W B m H x ρ st
  | .stuck => False
def tO (X : Cx) (W : WX) (f : EPt) : TO := fun σ H Q => ∃ B m ρ st, Stt X B m ρ st σ H ∧ PostP X W B m H ρ σ Q (f ρ st)
abbrev SO (X : Cx) (W : WX) (o : Option Expr) (f : EPt) : Prop := PO X o (tO X W f)
theorem _root_.L2.PO.weak {X : Cx} {e : Option Expr} {t t' : TO} (h : PO X e t) (w : ∀ σ H Q, t' σ H Q → t σ H Q) : PO X e t' := ⟨fun pins s σ H Q I q => h.run pins s σ H Q I (w σ H Q q)⟩
theorem so_none : SO X W none pNone := po_none.weak fun σ H Q ⟨B, m, ρ, st, s, q⟩ => q B m H (Ext.refl _ _ _) s
theorem so_some (h : SE X W e fe) : SO X W (some e) (pSome fe) := (po_some h).weak fun σ H Q ⟨B, m, ρ, st, s, q⟩ => by
  refine ⟨B, m, ρ, st, s, ?_⟩
  unfold pSome at q
  cases hf : fe ρ st with
  | exc x st1 => rw [hf] at q; exact q
  | stuck => rw [hf] at q; exact q
  | ok d st1 =>
    rw [hf] at q
    intro v B1 m1 H1 x1 s1 dv
    cases dv with
    | int i => exact ⟨i, rfl, q B1 m1 H1 x1 s1⟩
    | _ => exact q.elim
theorem PostP.ext {Q : Option Int → Hp → Prop} {r : RP} (x : Ext B m H B' m' H') (h : PostP X W B m H ρ σ Q r) : PostP X W B' m' H' ρ σ Q r := by
  cases r with
  | ok ds st => exact fun B2 m2 H2 e2 s => h B2 m2 H2 (x.trans e2) s
  | exc x1 st => exact PostX.ext x h
  | stuck => exact h
theorem PostE.bindP {r : RP} {k : Option Int → Sto → RE} (h : PostE X W B m H ρ σ Q (r.bind k)) : PostP X W B m H ρ σ (fun o H1 => ∃ B1 m1 st1, Ext B m H B1 m1 H1 ∧ Stt X B1 m1 ρ st1 σ H1 ∧ PostE X W B1 m1 H1 ρ σ Q (k o st1)) r := by
  cases r with
  | ok o st => exact fun B1 m1 H1 e s => ⟨B1, m1, st, e, s, PostE.ext e h⟩
  | exc x st => exact h
  | stuck => exact h
theorem PostP.mono {Q Q' : Option Int → Hp → Prop} {r : RP} (h : PostP X W B m H ρ σ Q r) (k : ∀ o H', Q o H' → Q' o H') : PostP X W B m H ρ σ Q' r := by
  cases r with
  | ok o st => exact fun B' m' H' e s => k o H' (h B' m' H' e s)
  | exc x st => exact h
  | stuck => exact h
theorem DVs.cut {K : PySem.W.Frag} {mg : Str → Option Value} (h : DVs K mg B m ds vs) (lo hi : Option Int) : DVs K mg B m (cutD ds lo hi) (cutV vs lo hi) := by
  unfold cutD cutV
  rw [h.length]
  exact (h.drop _).take _
def rSlS (K : PySem.W.Frag) : V → Option Int → Option Int → Hp → VK → Prop := fun x lo hi H Q => rSlA K x lo hi H Q ∨ rSlL K x lo hi H Q
theorem sl_seq : L2.SlR X (rSlS X.K) := sl_tupA.or sl_list
theorem cut_whole {α : Type} {xs : List α} {i j : Nat} (h : i = 0 ∧ j = xs.length) : (xs.drop i).take (j - i) = xs := by
  rw [h.1, h.2, List.drop_zero, Nat.sub_zero, List.take_length]
theorem cut_same {K : PySem.W.Frag} {mg : Str → Option Value} {lo hi : Option Int} (h : DVs K mg B m ds vs) (hw : HT.sIx vs.length 0 lo = 0 ∧ HT.sIx vs.length vs.length hi = vs.length) : cutD ds lo hi = ds := by
  unfold cutD
  rw [h.length]
  exact cut_whole (by rw [h.length]; exact hw)
theorem r_sl {lo hi : Option Expr} {fl fh : EPt} {p2 pos : Pos} (ha : SE X W a fa) (hl : SO X W lo fl) (hh : SO X W hi fh) : SE X W (.Subscript a (.Slice lo hi none p2) pos) (eSl fa fl fh) :=
  (pe_slice sl_seq ha hl hh).weak fun σ H Q ⟨B, m, ρ, st, s, q⟩ => ⟨B, m, ρ, st, s, q.bind.mono fun v H1 ⟨B1, m1, st1, d, x1, s1, dv, q1⟩ =>
    ⟨B1, m1, ρ, st1, s1, q1.bindP.mono fun l H2 ⟨B2, m2, st2, x2, s2, q2⟩ => ⟨B2, m2, ρ, st2, s2, q2.bindP.mono fun h H3 ⟨B3, m3, st3, x3, s3, q3⟩ => by
      obtain ⟨z, hz, q3⟩ := q3.of
      have dv := (dv.mono x2.bb x2.mm).mono x3.bb x3.mm
      have k : ∀ v B' H', Ext B3 m3 H3 B' m3 H' → Sim X.K X.mg B' m3 st3 H' → DV X.K X.mg B' m3 z v → Q v H' := fun v B' H' e s dv => q3 v B' m3 H' e (s3.mono e s) dv
      unfold slD at hz
      split at hz
      · cases hz
        cases dv with
        | @tup _ a' xs h1 h2 =>
          refine .inl ⟨a', xs, rfl, s3.sim.sub.sqT h1, fun hw => ?_, fun _ => done_new s3.sim (fun p hp => dv_newT s3.sim hp (h2.cut l h)) k⟩
          refine done s3.sim ?_ k
          rw [cut_same h2 hw]
          exact .tup h1 h2
      · split at hz
        · cases hz
          obtain ⟨a', xs, rfl, h1, h2⟩ := list_of s3.sim dv (by assumption)
          exact .inr ⟨a', xs, rfl, SqL.of h1, done_new s3.sim (fun p hp => dv_newL s3.sim hp (h2.cut l h)) k⟩
        · cases hz⟩⟩⟩
end
end L4
namespace L4
open PySem L2
open PyProof.Rows (envOfC)

/-! ### short words for a text's terms -/
section
variable {X : Cx} {W : WX} {a b c e : Expr} {fa fb fc fe : E}
theorem v (i : Nat) {x : Str} {pos : Pos} (hN : X.N[i]? = some x := by rfl) (hv : Vis X.env.scope x := by first | exact Or.inl rfl | exact Or.inr (Or.inl rfl) | exact Or.inr (Or.inr rfl)) (hd : (x == ("__debug__" : Str)) = false := by decide)
    (hcd : (x == ("__classdict__" : Str)) = false := by decide) : SE X W (.Name x pos) (eV i) := r_v (pe_var hN hv hd hcd)
theorem ci {i j pos} : SE X W (.Constant (.int i) j pos) (eC (.int i)) := r_c pe_int fun _ _ => .int _
theorem cb {i j pos} : SE X W (.Constant (.bool i) j pos) (eC (.bl i)) := r_c pe_bl fun _ _ => .bl _
theorem cn {j pos} : SE X W (.Constant .none j pos) (eC .non) := r_c pe_non fun _ _ => .non
theorem cs {i j pos} : SE X W (.Constant (.str i) j pos) (eC (.str i)) := r_c pe_str fun _ _ => .str _
theorem cty {x : Str} {T : String} {pos : Pos} (hg : Gl X x) (hm : X.mg x = none) (hv : bootBuiltins x = some (.type T)) (hn : x ≠ "__name__" := by decide) (hd : (x == ("__debug__" : Str)) = false := by decide) : SE X W (.Name x pos) (eC (.ty T)) := r_c (pe_bltn (v := .ty T) hg hm hv rfl hn hd) fun _ _ => .ty _
def IsInt (mg : Str → Option Value) (x : Str) (i : Int) : Prop := ∃ t, mg x = some (.int i t)
theorem cgi {x : Str} {i : Int} {pos : Pos} (h : IsInt X.mg x i) (hg : Gl X x) (hd : (x == ("__debug__" : Str)) = false := by decide) : SE X W (.Name x pos) (eC (.int i)) := by
  obtain ⟨t, h⟩ := h
  exact r_c (pe_glob (v := .int i) hg h ⟨t, rfl⟩ hd) fun _ _ => .int _
theorem add {pos} (ha : SE X W a fa) (hb : SE X W b fb) : SE X W (.BinOp a .Add b pos) (e2 addD fa fb) := r_e2 (fun a b => pe_op op_addA a b) o_add ha hb
theorem sub {pos} (ha : SE X W a fa) (hb : SE X W b fb) : SE X W (.BinOp a .Sub b pos) (e2 subD fa fb) := r_e2 (fun a b => pe_op op_sub a b) o_sub ha hb
theorem mul {pos} (ha : SE X W a fa) (hb : SE X W b fb) : SE X W (.BinOp a .Mult b pos) (e2 mulD fa fb) := r_e2 (fun a b => pe_op op_mulA a b) o_mul ha hb
theorem fdiv {pos} (ha : SE X W a fa) (hb : SE X W b fb) : SE X W (.BinOp a .FloorDiv b pos) (e2 fdivD fa fb) := r_e2 (fun a b => pe_op op_fdivZ a b) o_fdiv ha hb
theorem mod {pos} (ha : SE X W a fa) (hb : SE X W b fb) : SE X W (.BinOp a .Mod b pos) (e2 modD fa fb) := r_e2 (fun a b => pe_op op_modN a b) o_mod ha hb
theorem shl {pos} (ha : SE X W a fa) (hb : SE X W b fb) : SE X W (.BinOp a .LShift b pos) (e2 shlD fa fb) := r_e2 (fun a b => pe_op op_shl a b) o_shl ha hb
theorem shr {pos} (ha : SE X W a fa) (hb : SE X W b fb) : SE X W (.BinOp a .RShift b pos) (e2 shrD fa fb) := r_e2 (fun a b => pe_op op_shr a b) o_shr ha hb
theorem pow {pos} (ha : SE X W a fa) (hb : SE X W b fb) : SE X W (.BinOp a .Pow b pos) (e2 powD fa fb) := r_e2 (fun a b => pe_op op_pow a b) o_pow ha hb
theorem band {pos} (ha : SE X W a fa) (hb : SE X W b fb) : SE X W (.BinOp a .BitAnd b pos) (e2 andD fa fb) := r_e2 (fun a b => pe_op op_and a b) o_and ha hb
theorem bor {pos} (ha : SE X W a fa) (hb : SE X W b fb) : SE X W (.BinOp a .BitOr b pos) (e2 orD fa fb) := r_e2 (fun a b => pe_op op_or a b) o_or ha hb
theorem neg {pos} (ha : SE X W a fa) : SE X W (.UnaryOp .USub a pos) (e1 negD fa) := r_e1 (fun a => pe_un un_neg a) o_neg ha
theorem lt {pos} (ha : SE X W a fa) (hb : SE X W b fb) : SE X W (.Compare a [.Lt] [b] pos) (e2 ltD fa fb) := r_e2 (fun a b => pe_cmpR op_lt a b (nomark _)) o_lt ha hb
theorem le {pos} (ha : SE X W a fa) (hb : SE X W b fb) : SE X W (.Compare a [.LtE] [b] pos) (e2 leD fa fb) := r_e2 (fun a b => pe_cmpR op_le a b (nomark _)) o_le ha hb
theorem gt {pos} (ha : SE X W a fa) (hb : SE X W b fb) : SE X W (.Compare a [.Gt] [b] pos) (e2 gtD fa fb) := r_e2 (fun a b => pe_cmpR op_gt a b (nomark _)) o_gt ha hb
theorem ge {pos} (ha : SE X W a fa) (hb : SE X W b fb) : SE X W (.Compare a [.GtE] [b] pos) (e2 geD fa fb) := r_e2 (fun a b => pe_cmpR op_ge a b (nomark _)) o_ge ha hb
theorem eq (hu : X.A.units + 64 < cLine) {pos} (ha : SE X W a fa) (hb : SE X W b fb) : SE X W (.Compare a [.Eq] [b] pos) (e2 eqD fa fb) := r_e2 (fun a b => pe_cmpR (op_eqD hu) a b (nomark _)) o_eq ha hb
theorem ne (hu : X.A.units + 64 < cLine) {pos} (ha : SE X W a fa) (hb : SE X W b fb) : SE X W (.Compare a [.NotEq] [b] pos) (e2 neD fa fb) := r_e2 (fun a b => pe_cmpR (op_neD hu) a b (nomark _)) o_ne ha hb
theorem is_ {pos} (ha : SE X W a fa) (hb : SE X W b fb) : SE X W (.Compare a [.Is] [b] pos) (e2 isD fa fb) := r_e2 (fun a b => pe_cmpR op_isN a b (nomark _)) o_is ha hb
theorem isnot {pos} (ha : SE X W a fa) (hb : SE X W b fb) : SE X W (.Compare a [.IsNot] [b] pos) (e2 isnotD fa fb) := r_e2 (fun a b => pe_cmpR op_notN a b (nomark _)) o_isnot ha hb
theorem ix {pos} (ha : SE X W a fa) (hb : SE X W b fb) (hs : PlainIx b := by exact fun _ _ => rfl) : SE X W (.Subscript a b pos) (e2 ixD fa fb) := r_e2 (fun a b => pe_ix ix_seq a b hs) o_ix ha hb
/-- a built-in called -/
theorem bf {id : String} {r : List V → Hp → VK → Prop} {g : List D → Sto → Option (D × Sto)} {x : Str} {p pos : Pos} {es : List Expr} {fs : EA} (hc : CallR X (.builtin id) r) (ho : OpN X r g) (hm : X.mg x = none) (hg : Gl X x) (hv : bootBuiltins x = some (.builtin id)) (ha : SA X W (e :: es) fs)
    (hn : x ≠ "__name__" := by decide) (hdb : (x == ("__debug__" : Str)) = false := by decide)
    (he : starEach (e :: es) X.env = (false, eval e X.env) :: starEach es X.env := by rfl) (hpl : (backTo pos (starEach es X.env)).any (·.1) = false := by rfl) : SE X W (.Call (.Name x p) (e :: es) [] pos) (eN g fs) :=
  r_eN (fun a => pe_callB hc hg hm hv a hn hdb he hpl) ho ha
theorem bt {T : String} {r : List V → Hp → VK → Prop} {g : List D → Sto → Option (D × Sto)} {x : Str} {p pos : Pos} {es : List Expr} {fs : EA} (hc : CallR X (.type T) r) (ho : OpN X r g) (hm : X.mg x = none) (hg : Gl X x) (hv : bootBuiltins x = some (.type T)) (ha : SA X W (e :: es) fs)
    (hn : x ≠ "__name__" := by decide) (hdb : (x == ("__debug__" : Str)) = false := by decide)
    (he : starEach (e :: es) X.env = (false, eval e X.env) :: starEach es X.env := by rfl) (hpl : (backTo pos (starEach es X.env)).any (·.1) = false := by rfl) : SE X W (.Call (.Name x p) (e :: es) [] pos) (eN g fs) :=
  r_eN (fun a => pe_callTy hc hg hm hv a hn hdb he hpl) ho ha
theorem app {o : Expr} {fo : E} {apos cpos : Pos} (ho : SE X W o fo) (he : SE X W e fe)
    (hbase : attributeBase o "append" X.env (eval o X.env) = eval o X.env := by rfl)
    (hfew : ((backTo cpos (starEach [e] X.env)).all (fun x => !x.1) && (backToKw cpos (keywordEach [] X.env)).all (fun x => x.1.isSome)
      && decide ([e].length + ([] : List Keyword).length + (if ([] : List Keyword).isEmpty then 0 else 1) < 30)) = true := by rfl)
    (hline : (apos.endLine == cpos.line) = true := by rfl) (hs : starEach [e] X.env = (false, eval e X.env) :: starEach [] X.env := by rfl) (hplain : (backTo cpos (starEach [] X.env)).any (·.1) = false := by rfl) :
    SE X W (.Call (.Attribute o "append" apos) [e] [] cpos) (eMet "list" appD fo (aCons fe aNil)) :=
  r_met (T := "list") (fun h1 h2 => pe_bm PySem.F.plainAttrs_list PySem.F.slot_list_append PySem.F.type_list_append mt_append h1 h2 hbase hfew hline hs hplain) m_app ho (ra_cons he ra_nil hs)
end

/-! ### the text's defs -/
/-- a def as the top has left it -/
def DefF (K : PySem.W.Frag) (mg : Str → Option Value) (x : Str) (st : Stmt) : Prop := ∃ f fd, Fun K x x st f fd ∧ mg x = some (.ref f)
/-- a def that may be called: its level, its parameters, its worth -/
def CallF (P : Program) (w : World) (K : PySem.W.Frag) (mg : Str → Option Value) (base : Heap) (k : Nat) (x : Str) (ps : List Str) (F : List D → Sto → RE) : Prop :=
  ∃ f fd, FnOk P w K mg base (L2.CX P w) k f fd ps (spF K mg F) ∧ mg x = some (.ref f) ∧ PySem.W.keepIn K (.ref f) = true ∧ Binds K fd ps []
theorem mk_call {P : Program} {w : World} {K : PySem.W.Frag} {mg : Str → Option Value} {base : Heap} {k : Nat} {x : Str} {st : Stmt} {N ps : List Str} {g : S} (Df : DefF K mg x st) (Sc : FnScope N ps (defScope st))
    (hbind : ∀ (kV doc pm : Value) (an : Option Addr) (cdv ct : Value) (us : List Value), us.length = ps.length → bindArgs (PySem.W.fnOf x x (defArgs st) (defBody st) (defScope st) .none kV doc pm an cdv ct) ⟨us, []⟩ = pure (ps.zip us))
    (hb : BodyOk P w K mg base N x (defScope st) k (defBody st) g) : CallF P w K mg base (k + 1) x ps (mkF ps.length N.length g) := by
  obtain ⟨f, fd, F, hm⟩ := Df
  exact ⟨f, fd, fn_ok F Sc hb, hm, F.kp, F.binds hbind⟩
theorem CallF.imp {P : Program} {w : World} {K : PySem.W.Frag} {mg : Str → Option Value} {base : Heap} {k j : Nat} {x : Str} {ps : List Str} {F G : List D → Sto → RE} (C : CallF P w K mg base k x ps F) (hk : k ≤ j) (h : F = G) : CallF P w K mg base j x ps G := by
  subst h
  obtain ⟨f, fd, a, b⟩ := C
  exact ⟨f, fd, a.mono hk, b⟩
section
variable {X : Cx} {W : WX} {B B' : Hp} {m m' : List Addr} {ρ : Rho} {st st' : Sto} {σ : St} {H H' : Hp} {Q : VK} {e : Expr} {es : List Expr} {fs : EA} {k j : Nat} {x : Str} {ps : List Str} {F : List D → Sto → RE} {p pos : Pos}
theorem call (C : CallF X.prog X.w X.K X.mg X.base k x ps F) (hr : Room j X.A) (tk : Takes X W) (hg : Gl X x) (hk : k ≤ j) (ha : SA X W (e :: es) fs) (hdb : (x == ("__debug__" : Str)) = false := by decide)
    (he : starEach (e :: es) X.env = (false, eval e X.env) :: starEach es X.env := by rfl) (hpl : (backTo pos (starEach es X.env)).any (·.1) = false := by rfl) : SE X W (.Call (.Name x p) (e :: es) [] pos) (eCall F fs) := by
  obtain ⟨f, fd, G, hm, hkp, hb⟩ := C
  exact r_call G (hr.mono hk) hg hm hkp hb tk ha hdb he hpl
theorem callm (C : CallF X.prog X.w X.K X.mg X.base k x ps F) (hr : Room j X.A) (tk : Takes X W) (hg : Gl X x) (hk : k ≤ j) (ha : SA X W (e :: es) fs) (hdb : (x == ("__debug__" : Str)) = false := by decide)
    (he : starEach (e :: es) X.env = (false, eval e X.env) :: starEach es X.env := by rfl) (hpl : (backTo pos (starEach es X.env)).any (·.1) = false := by rfl) : SE X W (.Call (.Name x p) (e :: es) [] pos) (eCallM F fs) := by
  obtain ⟨f, fd, G, hm, hkp, hb⟩ := C
  exact r_callM G (hr.mono hk) hg hm hkp hb tk ha hdb he hpl
end
/-- a call that hands back a new list of the store -/
def callN (F : List D → Sto → RE) (ds : List D) (st : Sto) : RE :=
  if ds.all (nr 12) then match F ds [] with
    | .ok (.ref n) st' => (match st'[n]? with
      | some o => if o.nr then .ok (.ref st.length) (st ++ [o]) else .stuck
      | none => .stuck)
    | _ => .stuck
  else .stuck
def eCallN (F : List D → Sto → RE) (as : EA) : E := fun ρ st => (as ρ st).bind fun ds st1 => callN F ds st1
section
variable {X : Cx} {W : WX} {B B' : Hp} {m m' : List Addr} {ρ : Rho} {st st' : Sto} {σ : St} {H H' : Hp} {Q : VK} {e : Expr} {es : List Expr} {fs : EA} {k j : Nat} {x : Str} {ps : List Str} {F : List D → Sto → RE} {p pos : Pos}
theorem Sim.afterN {K : PySem.W.Frag} {mg : Str → Option Value} (s : Sim K mg B m st H) (x : Ext B [] H B' m' H') (k : Sim K mg B' m' st' H') {n : Nat} {a : Addr} {o : MO} (ha : m'[n]? = some a) (ho : st'[n]? = some o) (hn : o.nr = true) :
    Sim K mg B' (m ++ [a]) (st ++ [o]) H' ∧ Ext B m H B' (m ++ [a]) H' := by
  obtain ⟨k1, e1⟩ := s.after0 x k
  have am : a ∈ m' := List.mem_of_getElem? ha
  have na : H a = none := by
    rcases x.mn a am with z | z
    · simp at z
    · exact z
  obtain ⟨u, hu⟩ := k.own a am
  have oa := (k.obj n a o ha ho).pure (m' := m ++ [a]) hn
  refine ⟨⟨k1.sub, by simp [k1.len], ?_, fun i b o' h1 h2 => ?_, fun b h => ?_⟩, ⟨e1.bb, e1.bn, ⟨[a], rfl⟩, fun b h => ?_, e1.fr, e1.st⟩⟩
  · rw [List.nodup_append]
    refine ⟨s.nd, by simp, fun b hb c hc => ?_⟩
    rw [List.mem_singleton] at hc
    subst hc
    exact fun z => s.pm na (z ▸ hb)
  · by_cases hi : i < m.length
    · rw [List.getElem?_append_left hi] at h1
      rw [List.getElem?_append_left (by rw [← s.len]; exact hi)] at h2
      exact (k1.obj i b o' h1 h2).mono (Sub.refl _) ⟨[a], rfl⟩ (fun _ h => h) fun _ h => h
    · rw [List.getElem?_append_right (by omega)] at h1
      rw [List.getElem?_append_right (by rw [← s.len]; omega)] at h2
      rw [s.len] at h1
      cases hk : i - st.length with
      | zero =>
        rw [hk] at h1 h2
        simp at h1 h2
        subst h1; subst h2
        exact oa
      | succ k => rw [hk] at h1; simp at h1
  · rcases List.mem_append.mp h with z | z
    · exact k1.own b z
    · rw [List.mem_singleton] at z; subst z; exact ⟨u, hu⟩
  · rcases List.mem_append.mp h with z | z
    · exact .inl z
    · rw [List.mem_singleton] at z; subst z; exact .inr na
theorem post_callN {ds : List D} {vs : List V} (s : Stt X B m ρ st σ H) (dv : DVs X.K X.mg B m ds vs) (q : PostE X W B m H ρ σ Q (callN F ds st)) : spF X.K X.mg F vs H Q (WE W σ) := by
  unfold callN at q
  by_cases hp : ds.all (nr 12) = true
  · rw [if_pos hp] at q
    refine ⟨B, [], ds, [], s.sim.empty, dv.pure hp, ?_⟩
    revert q
    cases F ds [] with
    | ok d st2 =>
      intro q v B' m' H' e k dr
      cases dr with
      | @ref n a ha =>
        dsimp only at q
        cases ho : st2[n]? with
        | none => rw [ho] at q; exact q.elim
        | some o =>
          rw [ho] at q
          dsimp only at q
          by_cases hn : o.nr = true
          · rw [if_pos hn] at q
            obtain ⟨k1, e1⟩ := s.sim.afterN e k ha ho hn
            exact q _ B' (m ++ [a]) H' e1 (s.mono e1 k1) (.ref (by rw [← s.sim.len]; simp))
          · rw [if_neg hn] at q; exact q.elim
      | _ => exact q.elim
    | exc x st2 => exact fun q => q.elim
    | stuck => exact fun q => q.elim
  · rw [if_neg hp] at q; exact q.elim
theorem calln (C : CallF X.prog X.w X.K X.mg X.base k x ps F) (hr : Room j X.A) (tk : Takes X W) (hg : Gl X x) (hk : k ≤ j) (ha : SA X W (e :: es) fs) (hdb : (x == ("__debug__" : Str)) = false := by decide)
    (he : starEach (e :: es) X.env = (false, eval e X.env) :: starEach es X.env := by rfl) (hpl : (backTo pos (starEach es X.env)).any (·.1) = false := by rfl) : SE X W (.Call (.Name x p) (e :: es) [] pos) (eCallN F fs) := by
  obtain ⟨f, fd, G, hm, hkp, hb⟩ := C
  exact (pe_callS G (hr.mono hk) hg hm hkp hb (fun σ => passAt tk σ) ha hdb he hpl).weak fun σ H Q ⟨B, m, ρ, st, s, q⟩ => ⟨B, m, ρ, st, s, q.bindA.mono fun v H1 ⟨B1, m1, st1, d, x1, s1, dv, q1⟩ => post_callN s1 dv q1⟩
end
end L4
namespace L4T
open PySem PySem.W PyProof.Rows
section
variable {prog : Program} {w : World} {A : Around} {E : Value → Shared → Prop} {s : Shared}
theorem sliceApplied_rev {sl : Addr} {vs : Value} {n : Nat} {Q : Int × Int × Nat → Shared → Prop} (hs : s.heap.IsSliceOf sl .none .none vs) (ps : IsPart vs (some (-1)))
    (h : Q ((n : Int) - 1, -1, n) s) : wpAny (model prog w) A (Builtin.Slice.sliceApplied (.ref sl) (pure (n : Int))) Q E s := by
  obtain ⟨os, hos, hcs, hds⟩ := id hs
  unfold Builtin.Slice.sliceApplied Builtin.Slice.sliceFields
  refine wpAny_bind (wpAny_bind (wpAny_field hos hds (x := .none) rfl (wpAny_bind (wpAny_field hos hds (x := .none) rfl (wpAny_bind (wpAny_field hos hds (x := vs) rfl (wpAny_pure ?_)))))))
  refine wpAny_bind (HT.slicePart_ ps ?_)
  show wpAny _ _ (if ((-1 : Int) == 0) = true then _ else _) _ _ s
  rw [if_neg (by decide)]
  refine wpAny_bind (slicePart_none (wpAny_bind (slicePart_none (wpAny_bind (wpAny_pure ?_)))))
  show wpAny _ _ (pure ((n : Int) - 1, (-1 : Int), Builtin.Slice.slicePlaces ((n : Int) - 1) (-1) (-1))) _ _ s
  have e : Builtin.Slice.slicePlaces ((n : Int) - 1) (-1) (-1) = n := by
    unfold Builtin.Slice.slicePlaces
    rw [if_neg (by decide)]
    by_cases h : (n : Int) - 1 > -1
    · rw [if_pos h, show (- -1 : Int) = 1 by decide, Int.ediv_one]
      omega
    · rw [if_neg h]
      omega
  rw [e]
  exact wpAny_pure h
theorem fm_congr {α β : Type} {f g : α → Option β} : ∀ {l : List α}, (∀ x ∈ l, f x = g x) → l.filterMap f = l.filterMap g
  | [], _ => rfl
  | x :: l, h => by
    rw [List.filterMap_cons, List.filterMap_cons, h x (by simp), fm_congr fun y hy => h y (by simp [hy])]
theorem pick_rev (xs : Array Value) : ((List.range xs.size).filterMap fun (m : Nat) => xs[((xs.size : Int) - 1 + (m : Int) * (-1)).toNat]?).toArray = xs.toList.reverse.toArray := by
  have e : ((List.range xs.size).filterMap fun (m : Nat) => xs[((xs.size : Int) - 1 + (m : Int) * (-1)).toNat]?) = ((List.range xs.size).map fun k => xs.size - 1 - k).filterMap (xs[·]?) := by
    rw [List.filterMap_map]
    refine fm_congr fun m hm => ?_
    have : ((xs.size : Int) - 1 + (m : Int) * (-1)).toNat = xs.size - 1 - m := by
      have := List.mem_range.mp hm
      omega
    rw [this]
    rfl
  rw [e, PySem.W.krv_range, List.filterMap_reverse, PySem.W.krv_all]
theorem getItem_tuple_rev {t sl : Addr} {items : Array Value} {vs : Value} {Q : Value → Shared → Prop} (ht : IsTup s.heap t items) (hs : s.heap.IsSliceOf sl .none .none vs) (ps : IsPart vs (some (-1)))
    (h : Q (.ref s.heap.objs.size) { s with heap := s.heap.push { cls := .type "tuple", data := .seq items.toList.reverse.toArray } })
    (hsz : items.size ≤ sizeLine) : wpAny (model prog w) A (getItem (.ref t) (.ref sl)) Q E s := by
  have htake : sizeOk (.seq items.toList.reverse.toArray) := by
    show items.toList.reverse.toArray.size ≤ sizeLine
    rw [List.size_toArray, List.length_reverse, Array.length_toList]
    exact hsz
  obtain ⟨os, hos, hcs, hds⟩ := id hs
  have hTs : s.TypeIs (.ref sl) "slice" := ⟨os, hos, hcs⟩
  unfold getItem
  try with_reducible refine wpAny_holding ?_
  first | refine wpAny_bind (wpAny_pure ?_) | skip
  refine wpAny_bind (wpAny_sequenceKey ht.typeIs (by decide) ?_)
  refine wpAny_bind (wpAny_callSpecial?_slot (name := Str.ofString "__getitem__") ht.typeIs PyProof.Rows.slot_tuple_getitem
    (wpAny_call_entry PyProof.Rows.slot_tuple_getitem ht.typeIs entry_tuple_getitem ?_ (args_tuple_getitem _ _)))
  show wpAny _ _ (Builtin.Tuple.tupleItemsOf (.ref t) >>= _) _ _ s
  refine wpAny_bind (tupleItemsOf_ ht ?_)
  refine wpAny_bind (wpAny_typeOf hTs ?_)
  rw [if_pos (by decide)]
  refine wpAny_bind (sliceApplied_rev hs ps ?_)
  have hno : ¬ ((((items.size : Int) - 1) == 0 && (-1 : Int) == 1 && items.size == items.size) = true) := by
    intro q
    rw [Bool.and_eq_true, Bool.and_eq_true] at q
    exact absurd q.1.2 (by decide)
  show wpAny _ _ (if ((((items.size : Int) - 1) == 0 && (-1 : Int) == 1 && items.size == items.size) = true) then _ else _) _ _ s
  rw [if_neg hno, pick_rev]
  first
    | exact wpAny_bind (m := Builtin.Tuple.tupleExact _) (wpAny_newObj_type (wpAny_pure ⟨_, rfl, wpAny_pure h⟩) htake)
    | exact wpAny_bind (m := Builtin.Tuple.tupleExact _) (wpAny_newObj_type (wpAny_bind (wpAny_pure (wpAny_pure ⟨_, rfl, wpAny_pure h⟩))) htake)
    | exact wpAny_bind (wpAny_bind (m := Builtin.Tuple.tupleExact _) (wpAny_newObj_type (wpAny_pure (wpAny_pure ⟨_, rfl, wpAny_pure h⟩)) htake))
    | exact wpAny_bind (wpAny_bind (m := Builtin.Tuple.tupleExact _) (wpAny_newObj_type (wpAny_pure ⟨_, rfl, wpAny_pure h⟩) htake))
end
end L4T
namespace L2
open PySem PySem.Spec PyProof.Rows
/-! ### xs[::-1] -/
def tRevA (K : PySem.W.Frag) (te : TE) : TE := fun σ H Q => te σ H fun x H1 => ∃ a xs, x = .ref a ∧ ((SqL K H1 a xs ∧ ∀ p, H1 p = none → Q (.ref p) (upd H1 p (.lst xs.reverse))) ∨ (SqT K H1 a xs ∧ ∀ p, H1 p = none → Q (.ref p) (upd H1 p (.tup xs.reverse))))
theorem pe_revA {X : Cx} {e : Expr} {te : TE} {k : Nat} {p1 p2 p3 pos : Pos} (he : PE X e te) : PE X (.Subscript e (.Slice none none (some (.UnaryOp .USub (.Constant (.int 1) k p1) p2)) p3) pos) (tRevA X.K te) := by
  refine ⟨fun pins s σ H Q I h => ?_⟩
  refine PyProof.Rows.Subscript_ (thn (he.run pins s σ H _ I h) fun v s1 ⟨x, H1, I1, r1, q1⟩ => ?_)
  obtain ⟨a, xs, ex, q⟩ := q1
  subst ex
  cases r1
  have hst : PO X (some (.UnaryOp .USub (.Constant (.int 1) k p1) p2)) (tPart (tUn (rU fun i => .int (-i)) (tC (.int 1)))) := po_some (pe_un un_neg pe_int)
  refine wpAny_Slice (thn (po_none.run pins s1 σ H1 (fun o H2 => o = none ∧ H2 = H1) I1 ⟨rfl, rfl⟩) fun vl s2 ⟨l, H2, I2, pl, el, e2⟩ => ?_)
  subst el e2
  refine thn (po_none.run pins s2 σ H2 (fun o H3 => o = none ∧ H3 = H2) I2 ⟨rfl, rfl⟩) fun vu s3 ⟨u, H3, I3, pu, eu, e3⟩ => ?_
  subst eu e3
  refine thn (hst.run pins s3 σ H3 (fun o H4 => o = some (-1) ∧ H4 = H3) I3 ⟨1, rfl, -1, rfl, rfl, rfl⟩) fun vs s4 ⟨o, H4, I4, ps, eo, e4⟩ => ?_
  subst eo e4
  have I5 : Inv X pins σ H4 { s4 with heap := s4.heap.push { cls := .type "slice", data := .fields #[vl, vu, vs] } } := I4.kept (t' := s4.toks) fun b ob q => Heap.get?_push_of_some _ q
  show wpAny (model X.prog X.w) X.A (subscriptTail e (.Slice none none (some (.UnaryOp .USub (.Constant (.int 1) k p1) p2)) p3) (.ref a) (.ref s4.heap.objs.size)) (EP X pins σ Q) X.xe { s4 with heap := s4.heap.push { cls := .type "slice", data := .fields #[vl, vu, vs] } }
  rcases q with ⟨hx, q⟩ | ⟨hx, q⟩
  · obtain ⟨its, r, ht, hz⟩ := I5.list hx
    have hlen := r.length
    refine PyProof.Rows.tail_any (ops := [.ref a, .ref s4.heap.objs.size]) ht.isList.typeIs (PySem.slot_list_getitem.lookup) ?_ (by with_unfolding_all rfl)
    refine wpAny_getItem_list_slice ht.isList (Heap.IsSliceOf.new _ vl vu vs) pl pu ps (by decide) ?_ (by rw [List.size_toArray]; omega)
    rw [PySem.W.krv_pick]
    refine ⟨.ref _, _, I5.laid (t' := s4.toks) (o := .lst xs.reverse) (fun b ob q => Heap.get?_push_of_some _ q) (Nat.le_refl _) ?_, rfl, q _ (I5.hok.fresh (Nat.le_refl _))⟩
    exact ⟨by rw [List.length_reverse]; exact hz, _, 0, r.reverse, Heap.get?_push_size _ rfl⟩
  · obtain ⟨its, r, ht, hz⟩ := I5.tuple hx
    have hlen := r.length
    have e1 : vl = .none := by cases pl; rfl
    have e2 : vu = .none := by cases pu; rfl
    subst e1 e2
    refine PyProof.Rows.tail_any (ops := [.ref a, .ref s4.heap.objs.size]) ht.typeIs (PyProof.Rows.slot_tuple_getitem.lookup) ?_ (by with_unfolding_all rfl)
    refine L4T.getItem_tuple_rev ht (Heap.IsSliceOf.new _ .none .none vs) ps ?_ (by rw [List.size_toArray]; omega)
    refine ⟨.ref _, _, I5.laid (t' := s4.toks) (o := .tup xs.reverse) (fun b ob q => Heap.get?_push_of_some _ q) (Nat.le_refl _) ?_, rfl, q _ (I5.hok.fresh (Nat.le_refl _))⟩
    exact ⟨by rw [List.length_reverse]; exact hz, _, r.reverse, PyProof.Rows.IsTup.new _ _⟩
end L2
namespace L4
open PySem L2
open PyProof.Rows (envOfC)
section
variable {X : Cx} {W : WX} {B B' : Hp} {m m' : List Addr} {ρ : Rho} {st st' : Sto} {σ : St} {H H' : Hp} {Q : VK} {a b c e : Expr} {fa fb fc fe : E}
theorem r_rev {k : Nat} {p1 p2 p3 pos : Pos} (ha : SE X W a fa) : SE X W (.Subscript a (.Slice none none (some (.UnaryOp .USub (.Constant (.int 1) k p1) p2)) p3) pos) (e1 revD fa) :=
  (pe_revA ha).weak fun σ H Q ⟨B, m, ρ, st, s, q⟩ => ⟨B, m, ρ, st, s, q.bind.mono fun v H1 ⟨B1, m1, st1, d, x1, s1, dv, q1⟩ => by
    obtain ⟨z, hz, q1⟩ := q1.of
    have k : ∀ v B' H', Ext B1 m1 H1 B' m1 H' → Sim X.K X.mg B' m1 st1 H' → DV X.K X.mg B' m1 z v → Q v H' := fun v B' H' e s dv => q1 v B' m1 H' e (s1.mono e s) dv
    unfold revD at hz
    split at hz
    · cases hz
      cases dv with
      | @tup _ a' xs h1 h2 => exact ⟨a', xs, rfl, .inr ⟨s1.sim.sub.sqT h1, done_new s1.sim (fun p hp => dv_newT s1.sim hp h2.reverse) k⟩⟩
    · split at hz
      · cases hz
        obtain ⟨a', xs, rfl, h1, h2⟩ := list_of s1.sim dv (by assumption)
        exact ⟨a', xs, rfl, .inl ⟨SqL.of h1, done_new s1.sim (fun p hp => dv_newL s1.sim hp h2.reverse) k⟩⟩
      · cases hz⟩
end
/-! ### x += e -/
def augA (x y : D) : Option D := match x, y with
  | .int i, .int j => some (.int (i + j))
  | _, _ => none
def augS (x y : D) : Option D := match x, y with
  | .int i, .int j => some (.int (i - j))
  | _, _ => none
def sAug (g : D → D → Option D) (i : Nat) (e : E) : S := fun ρ st => match ρ[i]? with
  | some (some x) => (e ρ st).toS ρ fun y st1 => match g x y with
    | some z => .nx (ρ.set i (some z)) st1
    | none => .stuck
  | _ => .stuck
def sPar3 (i j l : Nat) (a b c : E) : S := fun ρ st => (a ρ st).toS ρ fun x st1 => (b ρ st1).toS ρ fun y st2 => (c ρ st2).toS ρ fun z st3 => .nx (((ρ.set i (some x)).set j (some y)).set l (some z)) st3
section
variable {X : Cx} {W : WX} {B B' : Hp} {m m' : List Addr} {ρ : Rho} {st st' : Sto} {σ : St} {H H' : Hp} {Q : VK} {a b c e : Expr} {fa fb fc fe : E}
theorem s_aug {i : Nat} {x : Str} {op : Operator} {g : D → D → Option D} {f : Int → Int → Int} {pos pos' : Pos} (hp : PIp X op (ipI f)) (hg : ∀ x y z, g x y = some z → ∃ i j, x = .int i ∧ y = .int j ∧ z = .int (f i j)) (hN : X.N.Nodup) (hi : X.N[i]? = some x) (hx : Loc X.env.scope x) (he : SE X W e fe)
    (hf : X.fn x = true ∨ X.env.scope.names.lookup x = some .local := by first | exact .inl rfl | exact .inr rfl | assumption) : SS X W (.AugAssign (.Name x pos') op e pos) (sAug g i fe) :=
  (ps_aug hN hi hx he hp hf).weak fun Dn σ H ⟨B, m, ρ, st, s, q⟩ => by
    unfold sAug at q
    cases hr : ρ[i]? with
    | none => rw [hr] at q; exact q.elim
    | some o =>
      cases o with
      | none => rw [hr] at q; exact q.elim
      | some x =>
        rw [hr] at q
        obtain ⟨u, h1, h2⟩ := s.sl.2 i x hr
        refine ⟨u, h1, B, m, ρ, st, s, PostE.mono (PostS.toE q) fun w H1 ⟨B1, m1, st1, y, x1, s1, dy, q1⟩ => ?_⟩
        dsimp only at q1
        cases hz : g x y with
        | none => rw [hz] at q1; exact q1.elim
        | some z =>
          rw [hz] at q1
          obtain ⟨a, b, rfl, rfl, rfl⟩ := hg x y z hz
          cases h2
          cases dy
          exact ⟨a, b, rfl, rfl, PostS.nx (s1.setR (.int _) i) q1⟩
theorem augA_ok (x y z : D) (h : augA x y = some z) : ∃ i j, x = .int i ∧ y = .int j ∧ z = .int (i + j) := by
  unfold augA at h
  split at h
  · cases h; exact ⟨_, _, rfl, rfl, rfl⟩
  · cases h
theorem augS_ok (x y z : D) (h : augS x y = some z) : ∃ i j, x = .int i ∧ y = .int j ∧ z = .int (i - j) := by
  unfold augS at h
  split at h
  · cases h; exact ⟨_, _, rfl, rfl, rfl⟩
  · cases h
theorem s_augA {i : Nat} {x : Str} {pos pos' : Pos} (hN : X.N.Nodup) (hi : X.N[i]? = some x) (hx : Loc X.env.scope x) (he : SE X W e fe)
    (hf : X.fn x = true ∨ X.env.scope.names.lookup x = some .local := by first | exact .inl rfl | exact .inr rfl | assumption) : SS X W (.AugAssign (.Name x pos') .Add e pos) (sAug augA i fe) := s_aug ip_add augA_ok hN hi hx he hf
theorem s_augS {i : Nat} {x : Str} {pos pos' : Pos} (hN : X.N.Nodup) (hi : X.N[i]? = some x) (hx : Loc X.env.scope x) (he : SE X W e fe)
    (hf : X.fn x = true ∨ X.env.scope.names.lookup x = some .local := by first | exact .inl rfl | exact .inr rfl | assumption) : SS X W (.AugAssign (.Name x pos') .Sub e pos) (sAug augS i fe) := s_aug ip_sub augS_ok hN hi hx he hf
theorem call_stuck {P : Program} {w : World} {K : PySem.W.Frag} {mg : Str → Option Value} {base : Heap} {k : Nat} {x : Str} {st : Stmt} {ps : List Str} (Df : DefF K mg x st)
    (hbind : ∀ (kV doc pm : Value) (an : Option Addr) (cdv ct : Value) (us : List Value), us.length = ps.length → bindArgs (PySem.W.fnOf x x (defArgs st) (defBody st) (defScope st) .none kV doc pm an cdv ct) ⟨us, []⟩ = pure (ps.zip us)) :
    CallF P w K mg base k x ps (fun _ _ => .stuck) := by
  obtain ⟨f, fd, F, hm⟩ := Df
  exact ⟨f, fd, ⟨fun vs H Q Ex ⟨B, m, ds, st, s, dv, q⟩ => q.elim, fun A outer s H args us vs Q Ex hr e0 hb r ⟨B, m, ds, st, si, dv, q⟩ => q.elim⟩, hm, F.kp, F.binds hbind⟩
end
end L4
namespace L4
open PySem L2
section
variable {X : Cx} {W : WX} {e a b c : Expr} {fa fb fc fe : E}
theorem rt_e2 {r : R2} {g : D → D → Sto → Option D} (hr : ∀ {ta tb : TE}, PE X a ta → PE X b tb → PT X e (tTest (tOp r ta tb))) (ho : Op2 X r g) (ha : SE X W a fa) (hb : SE X W b fb) : ST X W e (e2 g fa fb) :=
  (hr ha hb).weak fun σ H Q ⟨B, m, ρ, st, s, q⟩ => ⟨B, m, ρ, st, s, q.bind.mono fun v H1 ⟨B1, m1, st1, d, x1, s1, dv, q1⟩ =>
    ⟨B1, m1, ρ, st1, s1, q1.bind.mono fun w H2 ⟨B2, m2, st2, d2, x2, s2, dw, q2⟩ => by
      obtain ⟨z, hz, q2⟩ := q2.of
      exact ho _ _ _ _ _ _ _ _ _ _ s2.sim (dv.mono x2.bb x2.mm) dw hz fun v' B' H' x3 k3 dv3 => q2 v' B' m2 H' x3 (s2.mono x3 k3) dv3⟩⟩
theorem tlt {pos} (ha : SE X W a fa) (hb : SE X W b fb) : ST X W (.Compare a [.Lt] [b] pos) (e2 ltD fa fb) := rt_e2 (fun a b => pt_cmpR op_lt a b (nomark _)) o_lt ha hb
theorem tle {pos} (ha : SE X W a fa) (hb : SE X W b fb) : ST X W (.Compare a [.LtE] [b] pos) (e2 leD fa fb) := rt_e2 (fun a b => pt_cmpR op_le a b (nomark _)) o_le ha hb
theorem tgt {pos} (ha : SE X W a fa) (hb : SE X W b fb) : ST X W (.Compare a [.Gt] [b] pos) (e2 gtD fa fb) := rt_e2 (fun a b => pt_cmpR op_gt a b (nomark _)) o_gt ha hb
theorem tge {pos} (ha : SE X W a fa) (hb : SE X W b fb) : ST X W (.Compare a [.GtE] [b] pos) (e2 geD fa fb) := rt_e2 (fun a b => pt_cmpR op_ge a b (nomark _)) o_ge ha hb
theorem teq (hu : X.A.units + 64 < cLine) {pos} (ha : SE X W a fa) (hb : SE X W b fb) : ST X W (.Compare a [.Eq] [b] pos) (e2 eqD fa fb) := rt_e2 (fun a b => pt_cmpR (op_eqD hu) a b (nomark _)) o_eq ha hb
theorem tne (hu : X.A.units + 64 < cLine) {pos} (ha : SE X W a fa) (hb : SE X W b fb) : ST X W (.Compare a [.NotEq] [b] pos) (e2 neD fa fb) := rt_e2 (fun a b => pt_cmpR (op_neD hu) a b (nomark _)) o_ne ha hb
theorem tis_ {pos} (ha : SE X W a fa) (hb : SE X W b fb) : ST X W (.Compare a [.Is] [b] pos) (e2 isD fa fb) := rt_e2 (fun a b => pt_cmpR op_isN a b (nomark _)) o_is ha hb
theorem tisnot {pos} (ha : SE X W a fa) (hb : SE X W b fb) : ST X W (.Compare a [.IsNot] [b] pos) (e2 isnotD fa fb) := rt_e2 (fun a b => pt_cmpR op_notN a b (nomark _)) o_isnot ha hb
end
end L4
namespace L4
open PySem L2
theorem mk_callF {P : Program} {w : World} {K : PySem.W.Frag} {mg : Str → Option Value} {base : Heap} {k : Nat} {x : Str} {st : Stmt} (N ps : List Str) (g : S) {F : List D → Sto → RE} (hF : F = mkF ps.length N.length g) (Df : DefF K mg x st) (Sc : FnScope N ps (defScope st))
    (hbind : ∀ (kV doc pm : Value) (an : Option Addr) (cdv ct : Value) (us : List Value), us.length = ps.length → bindArgs (PySem.W.fnOf x x (defArgs st) (defBody st) (defScope st) .none kV doc pm an cdv ct) ⟨us, []⟩ = pure (ps.zip us))
    (hb : BodyOk P w K mg base N x (defScope st) k (defBody st) g) : CallF P w K mg base (k + 1) x ps F := by
  subst hF
  exact mk_call Df Sc hbind hb
end L4
namespace L4
open PySem L2
/-- as many turns as the number in the slot i, and one -/
def muI (i : Nat) : Rho → Sto → Nat := fun ρ _ => match ρ[i]? with
  | some (some (.int n)) => n.natAbs + 1
  | _ => 0
def sWhileM (c : E) (b : S) (μ : Rho → Sto → Nat) : S := fun ρ st => sWhile c b (μ ρ st) ρ st
theorem s_whileM {X : Cx} {W : WX} {c : Expr} {fc : E} {gb : S} {pos} {body : List Stmt} (μ : Rho → Sto → Nat) (hp : PassesOwn (model X.prog X.w) X.A X.env X.xe) (hc : ST X W c fc) (hb : SSs X W body gb) : SS X W (.While c body [] pos) (sWhileM fc gb μ) :=
  ⟨fun pins s σ H D I ⟨B, m, ρ, st, h, q⟩ => (s_while (pos := pos) (μ ρ st) hp hc hb).run pins s σ H D I ⟨B, m, ρ, st, h, q⟩⟩
end L4
namespace L4
open PySem L2
/-! ### the law's end -/
def spLaw (K : PySem.W.Frag) : Sp := fun vs H Q _ => ∃ (a : Addr) (ns : List Int), vs = [.ref a] ∧ SqL K H a (ns.map V.int) ∧ ns.length ≤ 63 ∧ ∀ H', Q (.bl true) H'
theorem law_end {P : Program} {w : World} {K : PySem.W.Frag} {mg : Str → Option Value} {base : Heap} {k : Nat} {f : Addr} {fd : FuncData} {F : List D → Sto → RE} (G : FnOk P w K mg base (L2.CX P w) k f fd ["script"] (spF K mg F))
    (hl : ∀ ns : List Int, ns.length ≤ 63 → ∃ st, F [.scr ns] [] = .ok (.bl true) st) : FnOk P w K mg base (L2.CX P w) k f fd ["script"] (spLaw K) :=
  G.imp fun vs H Q Ex ⟨a, ns, e, hs, hn, q⟩ => by
    subst e
    refine ⟨H, [], [.scr ns], [], ⟨Sub.refl H, rfl, List.nodup_nil, fun n a o h => by simp at h, fun a h => by simp at h⟩, .cons (.scr hs) .nil, ?_⟩
    obtain ⟨st, h⟩ := hl ns hn
    rw [h]
    intro v B' m' H' e k dv
    cases dv
    exact q H'
theorem law_fd {K : PySem.W.Frag} {st : Stmt} {f : Addr} {fd : FuncData} (F : Fun K "law" "law" st f fd)
    (h : ∀ (kV doc pm : Value) (an : Option Addr) (cdv ct v : Value), bindArgs (PySem.W.fnOf "law" "law" (defArgs st) (defBody st) (defScope st) .none kV doc pm an cdv ct) ⟨[v], []⟩ = pure ([(("script" : Str), v)] : List (Str × Value))) :
    ∀ (s : Shared) (v : Value), BindsTo s fd ⟨[v], []⟩ [("script", v)] := by
  obtain ⟨oc, od, kV, doc, pm, an, cdv, ct, osl, rfl, lk, hcd⟩ := F.ex
  exact fun s v => .of_eq (h kV doc pm an cdv ct v)
theorem law_walk {l : PySem.W.OpenLaw} {q : Program} {loose : List Str} {XP : (Str → Option Value) → Heap → Prop} {YP : World → Heap → Prop} {d : DefRec} {K : Params → PySem.W.Frag} {k : Nat} (hn : l.most = some 63) (hdf : d.params.defaults = []) (hr : Room k callerA)
    (hY : ∀ (w : World) (h : Heap), YP w h → (K w.params).In h)
    (F : ∀ (w : World) (mg : Str → Option Value) (fa : Addr) (h : Heap), (K w.params).In h → h.Ns mainGlobals mg → mg d.name = some (.ref fa) →
      ∃ fd : FuncData, (∀ (s : Shared) (u : Value), BindsTo s fd ⟨[u], []⟩ [("script", u)]) ∧ ∀ base : Heap, (K w.params).In base → base.Ns mainGlobals mg → FnOk l.prog w (K w.params) mg base (L2.CX l.prog w) k fa fd ["script"] (spLaw (K w.params))) :
    PySem.W.WalkO q loose XP YP l.row.toRowW d [] (fun f vs => PySem.call f vs) :=
  L2.walk_of (n := 63) (k := k) (x := "script") (CX := fun w => L2.CX l.prog w) (sp := fun w => spLaw (K w.params)) hn (by decide) hdf hr hY F (fun _ _ a ns hl _ hS => ⟨a, ns, rfl, hS, hl, fun _ => rfl⟩) fun w H s e s' h => by
    obtain ⟨_, _, _, _, _, _, _, _, _, _, _, _, z⟩ := h
    exact z
theorem fn_okF {P : Program} {w : World} {K : PySem.W.Frag} {mg : Str → Option Value} {base : Heap} {k : Nat} {x : Str} {st : Stmt} {f : Addr} {fd : FuncData} (N ps : List Str) (g : S) {F : List D → Sto → RE} (hF : F = mkF ps.length N.length g) (Df : Fun K x x st f fd) (Sc : FnScope N ps (defScope st))
    (hb : BodyOk P w K mg base N x (defScope st) k (defBody st) g) : FnOk P w K mg base (L2.CX P w) (k + 1) f fd ps (spF K mg F) := by
  subst hF
  exact fn_ok Df Sc hb
end L4
namespace L4
open PySem L2
open PyProof.Rows (envOfC)
/-! ### try: .. except c as n: (a suite that looks at n alone) -/
def sTry (i : Nat) (l : List (Str × Bool)) (h : Str → Option D) (body : S) : S := fun ρ st => match body ρ st with
  | .exc x ρ1 st1 => if i < ρ1.length then (match l.lookup x.name with
    | some true => (match h x.name with
      | some d => .rt d st1
      | none => .nx (ρ1.set i none) st1)
    | some false => .exc x ρ1 st1
    | none => .stuck) else .stuck
  | r => r
/-- a plain constant -/
def cV : D → Option V
  | .bl b => some (.bl b)
  | .int i => some (.int i)
  | .str x => some (.str x)
  | .non => some .non
  | _ => none
theorem cV_dv {K : PySem.W.Frag} {mg : Str → Option Value} {B : Hp} {m : List Addr} {d : D} {v : V} (h : cV d = some v) : DV K mg B m d v := by
  cases d <;> cases h
  · exact .non
  · exact .bl _
  · exact .int _
  · exact .str _
/-- the class of the clause: which of the errors it takes -/
def TryF (K : PySem.W.Frag) (mg : Str → Option Value) (c : Str) (l : List (Str × Bool)) : Prop :=
  ∃ CT, mg c = some (.ref CT) ∧ ∀ x b, l.lookup x = some b → ∃ C, mg x = some (.ref C) ∧ PySem.W.exmOne K (.ref C) (.ref CT) = some b
/-- what a suite does: it comes to a value, or goes on -/
def tH (i : Nat) (a : Addr) (r : Option D) : TS := fun Dn σ H => σ[i]? = some (some (.ref a)) ∧ match r with
  | some d => ∃ v, cV d = some v ∧ Dn.rt v H
  | none => Dn.nx σ H
theorem SlR.off {K : PySem.W.Frag} {mg : Str → Option Value} {B : Hp} {m : List Addr} {ρ : Rho} {σ : St} (h : SlR K mg B m ρ σ) (i : Nat) : SlR K mg B m (ρ.set i none) (σ.set i none) := by
  refine ⟨by rw [List.length_set, List.length_set]; exact h.1, fun j e q => ?_⟩
  by_cases hj : i = j
  · subst hj
    by_cases hi : i < ρ.length
    · rw [List.getElem?_set_self hi] at q
      cases q
    · rw [List.getElem?_eq_none (by rw [List.length_set]; omega)] at q
      cases q
  · rw [List.getElem?_set_ne hj] at q ⊢
    exact h.2 j e q
theorem Stt.to {X Y : Cx} {B : Hp} {m : List Addr} {ρ : Rho} {st : Sto} {σ : St} {H : Hp} (hK : Y.K = X.K) (hm : Y.mg = X.mg) (s : Stt X B m ρ st σ H) : Stt Y B m ρ st σ H := ⟨by rw [hK, hm]; exact s.sim, by rw [hK, hm]; exact s.sl⟩
theorem PostS.to {X Y : Cx} {W : WX} {B : Hp} {m : List Addr} {H : Hp} {Dn : Ends} (hK : Y.K = X.K) (hm : Y.mg = X.mg) : ∀ {r : RS}, PostS X W B m H Dn r → PostS Y W B m H Dn r := fun {r} h => by
  cases r with
  | nx ρ st => exact fun B' m' σ' H' e s => h B' m' σ' H' e (s.to hK.symm hm.symm)
  | bk ρ st => exact fun B' m' σ' H' e s => h B' m' σ' H' e (s.to hK.symm hm.symm)
  | ct ρ st => exact fun B' m' σ' H' e s => h B' m' σ' H' e (s.to hK.symm hm.symm)
  | rt d st => exact fun v B' m' H' e s dv => h v B' m' H' e (by rw [← hK, ← hm]; exact s) (by rw [← hK, ← hm]; exact dv)
  | exc x ρ st => exact fun cls d B' m' σ' H' e s ⟨hd, C, hC, hc⟩ => h cls d B' m' σ' H' e (s.to hK.symm hm.symm) ⟨hd, C, by rw [← hm]; exact hC, hc⟩
  | stuck => exact h
theorem tS.to {X Y : Cx} {W : WX} {g : S} (hK : Y.K = X.K) (hm : Y.mg = X.mg) {Dn : Ends} {σ : St} {H : Hp} (q : tS X W g Dn σ H) : tS Y W g Dn σ H := by
  obtain ⟨B, m, ρ, st, s, q⟩ := q
  exact ⟨B, m, ρ, st, s.to hK hm, q.to hK hm⟩
section
variable {X : Cx} {W : WX} {c n : Str} {i : Nat} {body suite : List Stmt} {b₀ : Stmt} {np pos pos' : Pos} {g : S} {l : List (Str × Bool)} {h : Str → Option D}
theorem s_try (hN : X.N.Nodup) (hi : X.N[i]? = some n) (hln : X.env.kindOf n = some .local) (hg : Gl X c) (F : TryF X.K X.mg c l) (tk : Takes X W)
    (hb : ∀ (W : WX) (pn : List (Addr × Obj)) (xe : Value → Shared → Prop), Takes (X.tr pn xe) W → PassesOwn (model X.prog X.w) X.A X.env xe → SSs (X.tr pn xe) W body g)
    (hh : ∀ x d, h x = some d → (cV d).isSome)
    (hsu : ∀ (a C : Addr) (oe : Obj) (pn : List (Addr × Obj)) (x : Str), l.lookup x = some true → X.mg x = some (.ref C) → Zc (.ref C) none oe → (∃ vs, oe.data = .fields vs) → PSs (X.suite a ((a, oe) :: pn)) (b₀ :: suite) (tH i a (h x)))
    (hs : X.stack = X.env :: X.outer := by rfl) (hf : X.env.frame = some X.env.locals := by rfl) (hdb : (c == ("__debug__" : Str)) = false := by decide) :
    SS X W (.Try body [.ExceptHandler (some (.Name c np)) (some n) (b₀ :: suite) pos'] [] [] pos) (sTry i l h g) := by
  obtain ⟨CT, hm, hl⟩ := F
  refine (ps_try_as (X := X) (i := i) (n := n) (Wout := W) (c := .ref CT) (ts := fun a cls d Dn σ H => ∃ x, l.lookup x = some true ∧ d = none ∧ X.mg x = some cls ∧ tH i a (h x) Dn σ H) hs hf hN hi hln ⟨hg, hdb, .inl hm⟩ tk (tb := fun W => tS X W g) (fun W pn xe tk hp => (hb W pn xe tk hp).weak fun Dn σ H q => tS.to (X := X) (Y := X.tr pn xe) rfl rfl q) (fun a oe cls d pn hz hv => ⟨fun pins s σ H Dn I ⟨x, hx, hd, hc, q⟩ => ?_⟩)).weak fun Dn σ H ⟨B, m, ρ, st, s, q⟩ => ⟨B, m, ρ, st, s, ?_⟩
  · subst hd
    obtain ⟨C, hC, _⟩ := hl x true hx
    rw [hC] at hc
    cases hc
    exact (hsu a C oe pn x hx hC hz hv).run pins s σ H Dn I q
  · unfold sTry at q
    cases hr : g ρ st with
    | nx ρ1 st1 => rw [hr] at q; exact q
    | rt d st1 => rw [hr] at q; exact q
    | bk ρ1 st1 => rw [hr] at q; exact q
    | ct ρ1 st1 => rw [hr] at q; exact q
    | stuck => rw [hr] at q; exact q
    | exc x ρ1 st1 =>
      rw [hr] at q
      dsimp only at q
      intro cls d B' m' σ' H' e s' ⟨hd, C, hC, hcls⟩
      subst hd hcls
      split at q
      · rename_i hlen
        have hls : i < σ'.length := by rw [← s'.sl.1]; exact hlen
        cases hx : l.lookup x.name with
        | none => rw [hx] at q; exact q.elim
        | some b =>
          obtain ⟨C', hC', hex⟩ := hl x.name b hx
          rw [hC] at hC'
          cases hC'
          rw [hx] at q
          refine ⟨b, hex, fun hb a ha => ?_, fun hb => ?_⟩
          · subst hb
            refine ⟨x.name, hx, rfl, hC, List.getElem?_set_self hls, ?_⟩
            dsimp only at q
            cases hd : h x.name with
            | none =>
              rw [hd] at q
              have s2 : Stt X B' m' (ρ1.set i none) st1 ((σ'.set i (some (.ref a))).set i none) H' := ⟨s'.sim, by rw [List.set_set]; exact s'.sl.off i⟩
              exact q B' m' _ H' e s2
            | some d =>
              rw [hd] at q
              have := hh _ _ hd
              obtain ⟨v, hv⟩ := Option.isSome_iff_exists.mp this
              exact ⟨v, hv, q v B' m' H' e s'.sim (cV_dv hv)⟩
          · subst hb
            exact q (.ref C) none B' m' σ' H' e s' ⟨rfl, C, hC, rfl⟩
      · exact q.elim
/-! the suite's words: X' is the suite's context -/
def tX (i : Nat) (a : Addr) (d : D) : TE := fun σ H Q => σ[i]? = some (some (.ref a)) ∧ ∃ v, cV d = some v ∧ Q v H
def tXt (i : Nat) (a : Addr) (b : Bool) : TT := fun σ H Q => σ[i]? = some (some (.ref a)) ∧ Q b H
variable {a C : Addr} {oe : Obj} {pn : List (Addr × Obj)} {X' : Cx} {e ea eb : Expr} {d d' : D} {b : Bool}
theorem xe_str {x j pos} : PE X' (.Constant (.str x) j pos) (tX i a (.str x)) := pe_str.weak fun _ _ _ q => by
  obtain ⟨_, v, h, q⟩ := q
  cases h
  exact q
theorem xe_bl {x j pos} : PE X' (.Constant (.bool x) j pos) (tX i a (.bl x)) := pe_bl.weak fun _ _ _ q => by
  obtain ⟨_, v, h, q⟩ := q
  cases h
  exact q
theorem xe_is {x T : Str} {p p1 p2 pos : Pos} {u : Value} {cv : V} {b : Bool} (EC : ExcC X.K C) (hz : Zc (.ref C) none oe) (hv : ∃ vs, oe.data = .fields vs) (hi : X.N[i]? = some x) (hx : Vis X.env.scope x) (hgi : Gl X "isinstance") (hmi : X.mg "isinstance" = none)
    (hT : PE (X.suite a ((a, oe) :: pn)) (.Name T p2) (tC cv)) (hr : ∀ u', RelV cv u' → u' = u) (hk : PySem.W.kitOne X.K (.ref C) u = some b)
    (hdx : (x == ("__debug__" : Str)) = false := by decide) (hcx : (x == ("__classdict__" : Str)) = false := by decide) :
    PE (X.suite a ((a, oe) :: pn)) (.Call (.Name "isinstance" p) [.Name x p1, .Name T p2] [] pos) (tX i a (.bl b)) :=
  (pe_callB (call_isE EC hz hv) hgi hmi (by decide +kernel) (pa_cons (pe_var (X := X.suite a ((a, oe) :: pn)) hi hx hdx hcx) (pa_cons hT pa_nil))).weak fun σ H Q ⟨h1, v, h3, h2⟩ => by
    cases h3
    exact ⟨.ref a, h1, ⟨cv, u, b, rfl, hr, hk, h2⟩⟩
theorem xt (h : PE X' e (tX i a (.bl b))) (he : ∀ whole, isTrue e X'.env whole = (do let v ← whole; standAt e.pos; holding [v] (truthy v)) := by intro _; rfl) : PT X' e (tXt i a b) := (pt_val h he).weak fun σ H Q q => ⟨q.1, .bl b, rfl, b, rfl, q.2⟩
theorem xt_not {pos} (h : PT X' e (tXt i a b)) : PT X' (.UnaryOp .Not e pos) (tXt i a (!b)) := (pt_not h).weak fun σ H Q q => ⟨q.1, q.2⟩
theorem xe_if {c : Expr} {pos} (hc : PT X' c (tXt i a b)) (h1 : PE X' ea (tX i a d)) (h2 : PE X' eb (tX i a d')) : PE X' (.IfExp c ea eb pos) (tX i a (if b = true then d else d')) :=
  (pe_ifExp hc h1 h2).weak fun σ H Q q => ⟨q.1, by cases b <;> exact ⟨q.1, q.2⟩⟩
theorem xs_ret {pos} (h : PE X' e (tX i a d)) : PSs X' [.Return (some e) pos] (tH i a (some d)) := (pss_one (ps_ret h)).weak fun Dn σ H q => ⟨q.1, q.2⟩
theorem xs_if {c : Expr} {pos p2} (hc : PT X' c (tXt i a b)) (h : PE X' e (tX i a d)) : PSs X' [.If c [.Return (some e) p2] [] pos] (tH i a (if b = true then some d else none)) :=
  (pss_one (ps_if hc (xs_ret h) pss_nil)).weak fun Dn σ H q => ⟨q.1, by
    cases b with
    | true => exact ⟨q.1, q.2⟩
    | false => exact q.2⟩
end
/-- which errors are of a class -/
def isB (l : List (Str × Bool)) (x : Str) : Bool := (l.lookup x).getD false
/-- the clause's errors, each told: its class is in order, and isinstance answers so -/
def ExcCs (K : PySem.W.Frag) (mg : Str → Option Value) (l : List (Str × Bool)) : Prop := ∀ x C, l.lookup x = some true → mg x = some (.ref C) → ExcC K C
def IsCF (K : PySem.W.Frag) (mg : Str → Option Value) (l : List (Str × Bool)) (u : Value) (r : List (Str × Bool)) : Prop := ∀ x C, l.lookup x = some true → mg x = some (.ref C) → PySem.W.kitOne K (.ref C) u = some (isB r x)
theorem TryF.of {K : PySem.W.Frag} {mg : Str → Option Value} {c : Str} {CT : Addr} {l : List (Str × Bool)} (h : mg c = some (.ref CT)) (hl : ∀ p ∈ l, ∃ C, mg p.1 = some (.ref C) ∧ PySem.W.exmOne K (.ref C) (.ref CT) = some p.2) : TryF K mg c l :=
  ⟨CT, h, fun x b e => by
    have : (x, b) ∈ l := by
      clear hl
      induction l with
      | nil => cases e
      | cons p l ih =>
        obtain ⟨y, k⟩ := p
        rw [List.lookup_cons] at e
        split at e
        · rename_i hxy
          cases e
          rw [eq_of_beq hxy]
          exact List.mem_cons_self ..
        · exact List.mem_cons_of_mem _ (ih e)
    exact hl _ this⟩
end L4
namespace L4
open PySem L2
theorem fm_nil {α : Type} {P : α → Prop} : ∀ p ∈ ([] : List α), P p := fun _ h => by cases h
theorem fm_cons {α : Type} {P : α → Prop} {a : α} {l : List α} (h : P a) (hl : ∀ p ∈ l, P p) : ∀ p ∈ a :: l, P p := fun p hp => by
  rcases List.mem_cons.mp hp with e | e
  · rw [e]; exact h
  · exact hl p e
theorem mem_lookup {l : List (Str × Bool)} {x : Str} {b : Bool} (e : l.lookup x = some b) : (x, b) ∈ l := by
  induction l with
  | nil => cases e
  | cons p l ih =>
    obtain ⟨y, k⟩ := p
    rw [List.lookup_cons] at e
    split at e
    · rename_i hxy
      cases e
      rw [eq_of_beq hxy]
      exact List.mem_cons_self ..
    · exact List.mem_cons_of_mem _ (ih e)
theorem ExcCs.of {K : PySem.W.Frag} {mg : Str → Option Value} {l : List (Str × Bool)} (hl : ∀ p ∈ l, p.2 = true → ∃ C, mg p.1 = some (.ref C) ∧ ExcC K C) : ExcCs K mg l := fun x C e h => by
  obtain ⟨C', h', q⟩ := hl _ (mem_lookup e) rfl
  rw [show mg (x, true).1 = mg x from rfl, h] at h'
  cases h'
  exact q
theorem IsCF.of {K : PySem.W.Frag} {mg : Str → Option Value} {l r : List (Str × Bool)} {u : Value} (hl : ∀ p ∈ l, p.2 = true → ∃ C, mg p.1 = some (.ref C) ∧ PySem.W.kitOne K (.ref C) u = some (isB r p.1)) : IsCF K mg l u r := fun x C e h => by
  obtain ⟨C', h', q⟩ := hl _ (mem_lookup e) rfl
  rw [show mg (x, true).1 = mg x from rfl, h] at h'
  cases h'
  exact q
end L4
namespace L4
open PySem L2
theorem kitOne_ref {K : PySem.W.Frag} {t : Value} {C : Addr} {b : Bool} (hd : PySem.W.hasDictIn K C = true) (ht : PySem.W.typeIn K (.ref C) = some (.type "type")) (h : PySem.W.subIn K t (.ref C) = some b) (hs : PySem.W.subIn K (.ref C) (.ref C) = some true) : PySem.W.kitOne K t (.ref C) = some b := by
  obtain ⟨cd, hc, _⟩ := PySem.W.any_some hd
  have e2 : ((PySem.W.clsIn K C).isSome && PySem.W.typeIn K (.ref C) == some (.type "type")) = true := by rw [hc, ht] <;> rfl
  unfold PySem.W.kitOne
  split
  · rename_i e
    have e : t = .ref C := eq_of_beq e
    rw [e, hs] at h
    exact h
  · show (if ((PySem.W.clsIn K C).isSome && PySem.W.typeIn K (.ref C) == some (.type "type")) = true then PySem.W.subIn K t (.ref C) else none) = some b
    rw [if_pos e2]
    exact h
theorem kitOne_ty {K : PySem.W.Frag} {D : Addr} {T : String} {b : Bool} (hm : PySem.W.kitMeta T = true) (h : PySem.W.subIn K (.ref D) (.type T) = some b) : PySem.W.kitOne K (.ref D) (.type T) = some b := by
  unfold PySem.W.kitOne
  rw [if_neg (by intro e; exact absurd (eq_of_beq e) (fun e => nomatch e))]
  show (if PySem.W.kitMeta T = true then PySem.W.subIn K (.ref D) (.type T) else none) = some b
  rw [if_pos hm]
  exact h
end L4
namespace L4
open PySem L2
open PyProof.Rows (envOfC)
/-! ### x in xs, of flat items -/
def flD : D → Bool
  | .non => true | .bl _ => true | .int _ => true | .str _ => true
  | _ => false
def hasD (x : D) (ds : List D) : Bool := ds.any fun y => eqLeaf y x
def inF (neg : Bool) (x y : D) (st : Sto) : Option D := match seqOf y st with
  | some ds => if (flD x && ds.all flD) = true then some (.bl (if neg = true then !hasD x ds else hasD x ds)) else none
  | none => none
section
variable {X : Cx} {W : WX} {K : PySem.W.Frag} {mg : Str → Option Value} {B : Hp} {m : List Addr}
theorem flV_of {d : D} {v : V} (dv : DV K mg B m d v) (h : flD d = true) : flatV v = true := by
  cases dv <;> first | rfl | exact absurd h Bool.false_ne_true
theorem eqLeaf_of {d e : D} {v w : V} (dv : DV K mg B m d v) (dw : DV K mg B m e w) (h : flD d = true) (k : flD e = true) : eqV v w = eqLeaf d e := by
  cases dv <;> cases dw <;> first | rfl | exact absurd h Bool.false_ne_true | exact absurd k Bool.false_ne_true
theorem flVs_of : ∀ {ds : List D} {vs : List V}, DVs K mg B m ds vs → ds.all flD = true → vs.all flatV = true
  | _, _, .nil, _ => rfl
  | _, _, .cons h k, q => by
    rw [List.all_cons, Bool.and_eq_true] at q ⊢
    exact ⟨flV_of h q.1, flVs_of k q.2⟩
theorem hasD_of {x : D} {u : V} (dx : DV K mg B m x u) (hx : flD x = true) : ∀ {ds : List D} {vs : List V}, DVs K mg B m ds vs → ds.all flD = true → inV u vs = hasD x ds
  | _, _, .nil, _ => rfl
  | _, _, .cons h k, q => by
    rw [List.all_cons, Bool.and_eq_true] at q
    show (eqV _ u || inV u _) = (eqLeaf _ x || hasD x _)
    rw [eqLeaf_of h dx q.1 hx, hasD_of dx hx k q.2]
theorem o_in (neg : Bool) : Op2 X (rIn X.K neg) (inF neg) := fun B m st H x y u w d Q s dx dy hg k => by
  unfold inF at hg
  cases hq : seqOf y st with
  | none => rw [hq] at hg; cases hg
  | some ds =>
    rw [hq] at hg
    dsimp only at hg
    split at hg
    · rename_i hc
      rw [Bool.and_eq_true] at hc
      cases hg
      obtain ⟨a, xs, e, hs, dvs⟩ := seq_of s dy hq
      exact ⟨a, xs, e, hs, flV_of dx hc.1, flVs_of dvs hc.2, by
        rw [hasD_of dx hc.1 dvs hc.2]
        exact done s (.bl _) k⟩
    · cases hg
theorem in_ {a b : Expr} {fa fb : E} {pos} (ha : SE X W a fa) (hb : SE X W b fb) (hm : behindInMarks .In b = false := by first | exact nobehind _ (by decide) (by decide) | rfl) : SE X W (.Compare a [.In] [b] pos) (e2 (inF false) fa fb) := r_e2 (fun a b => pe_cmpR op_in_seq a b hm) (o_in false) ha hb
theorem notin {a b : Expr} {fa fb : E} {pos} (ha : SE X W a fa) (hb : SE X W b fb) (hm : behindInMarks .NotIn b = false := by first | exact nobehind _ (by decide) (by decide) | rfl) : SE X W (.Compare a [.NotIn] [b] pos) (e2 (inF true) fa fb) := r_e2 (fun a b => pe_cmpR op_notIn_seq a b hm) (o_in true) ha hb
theorem tin_ {a b : Expr} {fa fb : E} {pos} (ha : SE X W a fa) (hb : SE X W b fb) (hm : behindInMarks .In b = false := by first | exact nobehind _ (by decide) (by decide) | rfl) : ST X W (.Compare a [.In] [b] pos) (e2 (inF false) fa fb) := rt_e2 (fun a b => pt_cmpR op_in_seq a b hm) (o_in false) ha hb
theorem tnotin {a b : Expr} {fa fb : E} {pos} (ha : SE X W a fa) (hb : SE X W b fb) (hm : behindInMarks .NotIn b = false := by first | exact nobehind _ (by decide) (by decide) | rfl) : ST X W (.Compare a [.NotIn] [b] pos) (e2 (inF true) fa fb) := rt_e2 (fun a b => pt_cmpR op_notIn_seq a b hm) (o_in true) ha hb
end
end L4
namespace L4
open PySem L2
open PyProof.Rows (envOfC)
/-! ### xs[i], n = e -/
def sAsgP (e o i : E) (j : Nat) : S := fun ρ st => (e ρ st).toS ρ fun d st1 => match d with
  | .tup [d1, d2] => (o ρ st1).toS ρ fun x st2 => (i ρ st2).toS ρ fun y st3 => match putD x y d1 st3 with
    | some st4 => .nx (ρ.set j (some d2)) st4
    | none => .stuck
  | _ => .stuck
section
variable {X : Cx} {W : WX} {B B' : Hp} {m m' : List Addr} {ρ : Rho} {st st' : Sto} {σ : St} {H H' : Hp} {Q : VK} {x y d : D} {u w v : V} {ds : List D} {vs : List V} {o e i a : Expr} {fo fe fi fa fl fh : E}
theorem put_of {K : PySem.W.Frag} {mg : Str → Option Value} {st4 : Sto} (s : Sim K mg B m st H) (dw : DV K mg B m x w) (dz : DV K mg B m y u) (dv : DV K mg B m d v) (hp : putD x y d st = some st4) :
    ∃ a zs j jj, w = .ref a ∧ u = .int j ∧ H a = some (.lst zs) ∧ ixN zs.length j = some jj ∧ Ext B m H B m (upd H a (.lst (zs.set jj v))) ∧ Sim K mg B m st4 (upd H a (.lst (zs.set jj v))) := by
  unfold putD at hp
  cases dw with
  | @ref n a' hm =>
    cases dz with
    | int j =>
      dsimp only at hp
      split at hp
      · rename_i ds hn
        split at hp
        · rename_i jj hj
          cases hp
          obtain ⟨hB, zs, h1, h2⟩ := s.obj _ _ _ hm hn
          rw [h2.length] at hj
          exact ⟨a', zs, j, jj, rfl, rfl, h1, hj, ext_setM (B := B) (H := H) (o := .lst (zs.set jj v)) hm, s.setM (mo := .lst (ds.set jj d)) hm hB ⟨hB, _, upd_same, h2.set dv jj⟩⟩
        · cases hp
      · cases hp
    | _ => cases hp
  | _ => cases hp
theorem tup2 {K : PySem.W.Frag} {mg : Str → Option Value} {d1 d2 : D} (dv : DV K mg B m (.tup [d1, d2]) v) : ∃ a v1 v2, v = .ref a ∧ SqT K B a [v1, v2] ∧ DV K mg B m d1 v1 ∧ DV K mg B m d2 v2 := by
  cases dv with
  | tup hq dvs =>
    cases dvs with
    | cons h1 h2 =>
      cases h2 with
      | cons h2 h3 =>
        cases h3
        exact ⟨_, _, _, rfl, hq, h1, h2⟩
theorem s_asgP {j : Nat} {n : Str} {k : Nat} {pos p2 p3 pos' : Pos} (hc : X.calm = true) (he : SE X W e fe) (ho : SE X W o fo) (hi : SE X W i fi) (hN : X.N.Nodup) (hj : X.N[j]? = some n) (hx : Loc X.env.scope n)
    (hf : X.fn n = true ∨ X.env.scope.names.lookup n = some .local := by first | exact .inl rfl | exact .inr rfl | assumption)
    (ha : ∀ v, assign (.Subscript o i pos) X.env v = (do
      let ov ← holding [v] (eval o X.env)
      let iv ← holding [v, ov] (eval i X.env)
      standAt pos
      holding [v, ov, iv] (setItem ov iv v)
      release [v, ov, iv] []) := by intro _; rfl)
    (hs : swapsWithSole [.Tuple [.Subscript o i pos, .Name n p2] k p3] e pos'.line X.env = pure false := by rfl) (hw : swappedStores [.Tuple [.Subscript o i pos, .Name n p2] k p3] e X.env = pure none := by rfl)
    (h1 : (assignEach [.Tuple [.Subscript o i pos, .Name n p2] k p3] X.env).map (·.2) = [assign (.Tuple [.Subscript o i pos, .Name n p2] k p3) X.env] := by rfl)
    (h2 : (assignEach [.Subscript o i pos, .Name n p2] X.env).map (·.2) = assign (.Subscript o i pos) X.env :: (assignEach [.Name n p2] X.env).map (·.2) := by rfl)
    (h3 : (assignEach [.Name n p2] X.env).map (·.2) = assign (.Name n p2) X.env :: (assignEach [] X.env).map (·.2) := by rfl)
    (h4 : (assignEach [.Subscript o i pos, .Name n p2] X.env).length = 2 := by rfl) (h5 : (assignEach [.Subscript o i pos, .Name n p2] X.env).findIdx? (·.1) = none := by rfl) :
    SS X W (.Assign [.Tuple [.Subscript o i pos, .Name n p2] k p3] e pos') (sAsgP fe fo fi j) :=
  (ps_asg he (pg_tup hc (pgs_cons (pg_sub ho hi set_list ha) (pgs_cons (pg_name hN hj hx hf) pgs_nil h3) h2) h4 h5) hs hw h1).weak fun Dn σ H ⟨B, m, ρ, st, s, q⟩ => ⟨B, m, ρ, st, s, q.toE.mono fun v H1 ⟨B1, m1, st1, d, x1, s1, dv, q1⟩ => by
    dsimp only at q1
    split at q1
    · rename_i d1 d2
      obtain ⟨a, v1, v2, ev, hq, dv1, dv2⟩ := tup2 dv
      subst ev
      refine ⟨a, [v1, v2], rfl, s1.sim.sub.sqT hq, rfl, v1, [v2], rfl, B1, m1, ρ, st1, s1, q1.toE.mono fun w H2 ⟨B2, m2, st2, e2, x2, s2, dw, q2⟩ => ⟨B2, m2, ρ, st2, s2, q2.toE.mono fun z H3 ⟨B3, m3, st3, e3, x3, s3, dz, q3⟩ => ?_⟩⟩
      dsimp only at q3
      cases hp : putD e2 e3 d1 st3 with
      | none => rw [hp] at q3; exact q3.elim
      | some st4 =>
        rw [hp] at q3
        dsimp only at q3
        obtain ⟨a', zs, jj, j2, ea, ez, hz, hjj, ex, k4⟩ := put_of s3.sim (dw.mono x3.bb x3.mm) dz ((dv1.mono x2.bb x2.mm).mono x3.bb x3.mm) hp
        subst ea ez
        refine ⟨a', zs, jj, j2, rfl, rfl, hz, hjj, v2, [], rfl, ⟨rfl, ?_⟩⟩
        exact PostS.nx ⟨k4, (s3.mono ex k4).sl.set ((dv2.mono x2.bb x2.mm).mono x3.bb x3.mm) j⟩ (PostS.ext ex q3)
    · exact q1.elim⟩
/-! xs * k, a new list of the store -/
def eMulM (a b : E) : E := fun ρ st => (a ρ st).bind fun x st1 => (b ρ st1).bind fun y st2 => match listOf x st2, y with
  | some xs, .int k => if xs.length ≤ 1000 ∧ 0 ≤ k ∧ k ≤ 1000 then .ok (.ref st2.length) (st2 ++ [.lst (List.replicate k.toNat xs).flatten]) else .stuck
  | _, _ => .stuck
theorem r_mulM {a b : Expr} {fa fb : E} {pos} (ha : SE X W a fa) (hb : SE X W b fb) : SE X W (.BinOp a .Mult b pos) (eMulM fa fb) :=
  (pe_op op_rep ha hb).weak fun σ H Q ⟨B, m, ρ, st, s, q⟩ => ⟨B, m, ρ, st, s, q.bind.mono fun v H1 ⟨B1, m1, st1, d, x1, s1, dv, q1⟩ =>
    ⟨B1, m1, ρ, st1, s1, q1.bind.mono fun w H2 ⟨B2, m2, st2, d2, x2, s2, dw, q2⟩ => by
      dsimp only at q2
      split at q2
      · rename_i xs k hx
        split at q2
        · rename_i hl
          obtain ⟨a, us, rfl, ha, hu⟩ := list_of s2.sim (dv.mono x2.bb x2.mm) hx
          cases dw
          refine ⟨a, k, us, rfl, rfl, ha, by omega, by omega, ?_, fun p hp => ?_⟩
          · rw [← hu.length]
            have h1 : k.toNat ≤ 1000 := by omega
            exact le_line (Nat.mul_le_mul hl.1 h1)
          · exact q2 _ _ _ _ (s2.sim.ext_newM hp) (s2.mono (s2.sim.ext_newM hp) (s2.sim.newM hp (oa_lst s2.sim hp (hu.rep _)))) (dv_newR s2.sim)
        · exact q2.elim
      · exact q2.elim⟩⟩
end
end L4
namespace L4
open PySem L2
theorem callWith_typeKw {M : Model} {A : Around} {E : Value → Shared → Prop} {s : Shared} {env : Env} {pos : Pos} {T : String} {e : Expr} {rest : List Expr} {kws : List Keyword} {Q : Value → Shared → Prop}
    (h : wpAny M A (spliced (backTo pos (starEach (e :: rest) env))) (fun vs s₁ => wpAny M A (evalAll ((backToKw pos (keywordEach kws env)).map (·.2)))
      (fun kvs s₂ => wpAny M A (PySem.call (.type T) vs (((backToKw pos (keywordEach kws env)).filterMap (·.1)).zip kvs)) Q E s₂) E s₁) E s)
    (he : backTo pos (starEach (e :: rest) env) = (false, eval e env) :: backTo pos (starEach rest env))
    (hplain : (backTo pos (starEach (e :: rest) env)).any (·.1) = false)
    (hall : (backToKw pos (keywordEach kws env)).all (·.1.isSome) = true)
    (hkw : (backToKw pos (keywordEach kws env)).any (·.1.isNone) = false) :
    wpAny M A (callWith pos (.type T) [] (backTo pos (starEach (e :: rest) env)) (backToKw pos (keywordEach kws env))) Q E s := by
  have h' : wpAny M A (evalArgs (.type T) true (backTo pos (starEach (e :: rest) env)) (backToKw pos (keywordEach kws env))) (fun a s₁ => wpAny M A (PySem.call (.type T) ([] ++ a.pos) a.kw) Q E s₁) E s := by
    rw [he] at h ⊢
    exact PyProof.Rows.evalArgs_kwB hall h
  unfold callWith
  refine wpAny_bind (wpAny_holding (wpAny_mono h' (fun a s₁ h₁ => wpAny_bind (wpAny_standAt ?_)) fun _ _ x => x))
  simp only [hplain, hkw, Bool.or_false]
  refine wpAny_bind (wpAny_pure ?_)
  exact wpAny_bind (wpAny_mono h₁ (fun r s₂ hr => wpAny_bind (wpAny_holding (wpAny_point (wpAny_pure hr)))) fun _ _ x => x)
set_option maxHeartbeats 1000000 in
theorem meets_enumerate_newB1 {v : Value} {o : Obj} {H : Heap → Prop} (B : Begins v o H) :
    Meets (Builtin.«enumerate.__new__» ⟨[.type "enumerate", v], []⟩) (fun _ R s => H s.heap ∧
      R (.ok (.ret (.ref (s.heap.push o).objs.size))) { s with heap := (s.heap.push o).push { cls := .type "enumerate", data := .fields #[.none, .bool false, .ref s.heap.objs.size, rawInt 0, .none, .none] } }) :=
  .of_wp fun prog w A R s h => by
    obtain ⟨hp, g, d, tk, os⟩ := s; obtain ⟨h1, h⟩ := h
    have hsub := sub_enumerate
    have q1 : ∀ {A' : Around} {E : Value → Shared → Prop} {Q : Value → Shared → Prop}, Q (.ref hp.objs.size) ⟨hp.push o, g, d, tk, os⟩ → wpAny (model prog w) A' (pyIter v) Q E ⟨hp, g, d, tk, os⟩ :=
      fun q => B.iter prog w _ _ ⟨hp, g, d, tk, os⟩ _ h1 q
    wp_walk using q1
    refine wpAny_stack_any fun st => wpAny_pure ?_
    split
    · rename_i c _ _ _ _ _
      cases (c == Value.type "enumerate")
      · wp_walk using q1
        exact ⟨_, rfl, h⟩
      · wp_walk using q1
        exact ⟨_, rfl, h⟩
    · wp_walk using q1
      exact ⟨_, rfl, h⟩
theorem enum_begins1 {prog : Program} {w : World} {A : Around} {E : Value → Shared → Prop} {s : Shared} {v : Value} {o : Obj} {H : Heap → Prop} {Q : Value → Shared → Prop} (B : Begins v o H) (h1 : H s.heap)
    (h : ∀ h', IsEnum h' (s.heap.objs.size + 1) s.heap.objs.size 0 .none → h'.get? s.heap.objs.size = some o → h'.objs.size = s.heap.objs.size + 2 →
      (∀ b o, s.heap.get? b = some o → h'.get? b = some o) → Q (.ref (s.heap.objs.size + 1)) { s with heap := h' }) :
    wpAny (model prog w) A (PySem.call (.type "enumerate") [v]) Q E s := by
  refine callType_new F.called_enumerate (by decide) (F.typeCall_enumerate_1 _) (F.newCall_enumerate_1 _) (fun obj => F.args_object_init_2 obj _) F.entry_enumerate_new
    (meets_enumerate_newB1 B) ⟨h1, ?_⟩
  have hz : (s.heap.push o).objs.size = s.heap.objs.size + 1 := Heap.size_push ..
  show _ ∧ _
  rw [hz]
  have he : IsEnum ((s.heap.push o).push { cls := .type "enumerate", data := .fields #[.none, .bool false, .ref s.heap.objs.size, rawInt 0, .none, .none] }) (s.heap.objs.size + 1) s.heap.objs.size 0 .none := by
    have := Heap.get?_push_size (s.heap.push o) (o := { cls := .type "enumerate", data := .fields #[.none, .bool false, .ref s.heap.objs.size, rawInt 0, .none, .none] }) rfl
    rw [hz] at this; exact this
  refine ⟨⟨_, he, rfl⟩, h _ he (Heap.get?_push_of_some _ (Heap.get?_push_size _ B.free)) (by rw [Heap.size_push, hz]) fun b o x => Heap.get?_push_of_some _ (Heap.get?_push_of_some _ x)⟩
def enumL (k : Int) : List D → List D
  | [] => []
  | d :: ds => .tup [.int k, d] :: enumL (k + 1) ds
theorem enumL_len (k : Int) (ds : List D) : (enumL k ds).length = ds.length := by
  induction ds generalizing k with
  | nil => rfl
  | cons d ds ih => rw [enumL, List.length_cons, List.length_cons, ih]
theorem enumL_get (k : Int) (ds : List D) (i : Nat) : (enumL k ds)[i]? = (ds[i]?).map fun d => .tup [.int (k + i), d] := by
  induction ds generalizing k i with
  | nil => rfl
  | cons d ds ih =>
    cases i with
    | zero => rw [enumL, List.getElem?_cons_zero, List.getElem?_cons_zero]; simp
    | succ i =>
      rw [enumL, List.getElem?_cons_succ, List.getElem?_cons_succ, ih]
      have : k + 1 + (i : Int) = k + ((i + 1 : Nat) : Int) := by omega
      rw [this]

/-! enumerate over a list -/
def IteL (K : PySem.W.Frag) (a : Addr) (k0 : Int) : It :=
  ⟨fun i H => ∃ (xs : List V) (x : V), SqL K H a xs ∧ xs[i]? = some x, fun i H v H' => ∃ T x, v = .ref T ∧ H T = none ∧ H' = upd H T (.tup [.int (k0 + (i : Nat)), x]) ∧ ∀ xs, SqL K H a xs → xs[i]? = some x, fun i H => ∃ xs : List V, SqL K H a xs ∧ xs.length ≤ i⟩
theorem turn_enumL {P : Program} {w : World} {K : PySem.W.Frag} {elts : List Expr} {kk : Nat} {tpos : Pos} (a e it : Addr) (k0 : Int) (hei : e ≠ it) (hai : a ≠ it) (hea : e ≠ a) :
    Turn P w K (.Tuple elts kk tpos) (IteL K a k0) [e, it] e (fun i h => (∃ old, IsEnum h e it (k0 + ((i : Nat) : Int)) old) ∧ h.IsListIter it a i) where
  mem := by simp
  obj := fun i h st b hb => by
    obtain ⟨⟨old, he⟩, ⟨o, ho, hc, hd⟩⟩ := st
    have e' : b = e ∨ b = it := by simpa using hb
    rcases e' with z | z
    · rw [z]; exact ⟨_, he, fun v q => nomatch q⟩
    · rw [z]; exact ⟨o, ho, fun v q => by rw [hd] at q; cases q⟩
  keep := fun i h h' st k => let ⟨⟨old, he⟩, hi⟩ := st; ⟨⟨old, k e (by simp) _ he⟩, hi.at fun o q => k it (by simp) o q⟩
  item := by
    intro X hP hw hK hc i pins s σ H E I hf st hg
    subst hP hw hK
    obtain ⟨⟨old, he⟩, hit⟩ := st
    obtain ⟨xs, x, hq, hx⟩ := hg
    obtain ⟨its, rv, p, hz⟩ := I.list hq
    obtain ⟨u, hu, ru⟩ := rv.get hx
    have hel : e < s.heap.objs.size := Heap.lt_size he
    have hil : it < s.heap.objs.size := by obtain ⟨_, q, _⟩ := hit; exact Heap.lt_size q
    have hlt : i < its.toArray.size := by
      rw [List.size_toArray]
      exact (List.getElem?_eq_some_iff.mp hu).1
    refine wpAny_pyNext_enum_itemC (Draws.list (show X.A.in1.handled = none from I.ok.hd hc) it a hai its.toArray) he ⟨hit, p.isList⟩ hlt hei (by simp [hei, hea]) fun u' h' tk hP ho hst' hT hsz hk => ?_
    have eu : u' = u := by
      have hP : its.toArray[i]? = some u' := hP
      rw [List.getElem?_toArray, hu] at hP
      exact (Option.some.inj hP).symm
    subst eu
    obtain ⟨hit', _⟩ := hst'
    refine ⟨_, rfl, wpAny_letOwnedTupleGo_enum (s := { s with heap := h', toks := tk + 1 }) ho fun h'' he' sb => ?_⟩
    have hT2 : h''.get? s.heap.objs.size = some { cls := .type "tuple", data := .seq #[.int (k0 + (i : Nat)) tk, u'] } := (sb.2 _ (Nat.ne_of_gt hel)).trans hT
    have new : ObjOk X.prog X.w (upd H s.heap.objs.size (.tup [.int (k0 + (i : Nat)), x])) h'' s.heap.objs.size (.tup [.int (k0 + (i : Nat)), x]) :=
      ⟨by show 2 ≤ sizeLine; decide, [.int (k0 + (i : Nat)) tk, u'], .cons ⟨_, rfl⟩ (.cons ru .nil), ⟨_, hT2, rfl, _, rfl⟩⟩
    have I1 : Inv X pins σ (upd H s.heap.objs.size (.tup [.int (k0 + (i : Nat)), x])) { s with heap := h'', toks := tk + 1 } :=
      I.turnedNew (ch := [e, it]) (fun b ob hb q => (sb.2 b (fun z => hb (by simp [z]))).trans (hk b ob (fun z => hb (by simp [z])) (fun z => hb (by simp [z])) q)) hf (Nat.le_refl _) new
    refine ⟨.ref s.heap.objs.size, _, I1, rfl, ⟨_, x, rfl, I.hok.fresh (Nat.le_refl _), rfl, fun ys hy => by rw [I.list_inj hy hq]; exact hx⟩, ⟨⟨u', ?_⟩, hit'.at fun o q => (sb.2 it (Ne.symm hei)).trans q⟩, fun b hb => ?_⟩
    · have e1 : k0 + ((i + 1 : Nat) : Int) = k0 + (i : Int) + 1 := by omega
      rw [e1]; exact he'
    · have hb' : b < s.heap.objs.size := by
        have e' : b = e ∨ b = it := by simpa using hb
        rcases e' with z | z
        · rw [z]; exact hel
        · rw [z]; exact hil
      rw [upd_ne (Nat.ne_of_lt hb')]
      exact (hf b hb).1
  done := by
    intro X hP hw hK hc i pins s σ H E I hf st hg
    subst hP hw hK
    obtain ⟨⟨old, he⟩, hit⟩ := st
    obtain ⟨xs, hq, hx⟩ := hg
    obtain ⟨its, rv, p, hz⟩ := I.list hq
    obtain ⟨f0, f1, f2, f3, f4, f5⟩ := hf it (by simp)
    have hl := rv.length
    have hT : s.TypeIs (.ref e) "enumerate" := ⟨_, he, rfl⟩
    unfold pyNext
    refine wpAny_bind (wpAny_attempt (wpAny_callSpecial?_slot (name := Str.ofString "__next__") hT F.slot_enumerate_next
      (wpAny_call_entry F.slot_enumerate_next hT F.entry_enumerate_next ?_ (F.args_enumerate_next_1 _))))
    show wpAny _ _ (field (.ref e) 2 >>= _) _ _ _
    refine wpAny_bind (wpAny_field he rfl (x := .ref it) rfl ?_)
    refine wpAny_bind (wpAny_nextOf_list_end (show X.A.in1.handled = none from I.ok.hd hc) hit p.isList (by simp; omega) fun h' x he' hx' => ?_)
    obtain ⟨o, ho, hc⟩ := hx'
    refine wpAny_bind (wpAny_isInstance (T := "StopIteration") (b := true) ⟨o, ho, hc⟩ isSubtype_stop ?_)
    exact wpAny_pure ⟨rfl, I.turned (t' := s.toks) (fun b o hb q => he' b o hb q) f0 f1 f3 f4 f5⟩
  self := fun A i s Q E st h => let ⟨⟨_, he⟩, _⟩ := st; wpAny_pyIter_enum he h

/-! enumerate over a tuple -/
def IteT (K : PySem.W.Frag) (a : Addr) (k0 : Int) : It :=
  ⟨fun i H => ∃ (xs : List V) (x : V), SqT K H a xs ∧ xs[i]? = some x, fun i H v H' => ∃ T x, v = .ref T ∧ H T = none ∧ H' = upd H T (.tup [.int (k0 + (i : Nat)), x]) ∧ ∀ xs, SqT K H a xs → xs[i]? = some x, fun i H => ∃ xs : List V, SqT K H a xs ∧ xs.length ≤ i⟩
theorem turn_enumT {P : Program} {w : World} {K : PySem.W.Frag} {elts : List Expr} {kk : Nat} {tpos : Pos} (a e it : Addr) (k0 : Int) (hei : e ≠ it) (hai : a ≠ it) (hea : e ≠ a) :
    Turn P w K (.Tuple elts kk tpos) (IteT K a k0) [e, it] e (fun i h => (∃ old, IsEnum h e it (k0 + ((i : Nat) : Int)) old) ∧ h.IsTupleIter it a i) where
  mem := by simp
  obj := fun i h st b hb => by
    obtain ⟨⟨old, he⟩, ⟨o, ho, hc, hd⟩⟩ := st
    have e' : b = e ∨ b = it := by simpa using hb
    rcases e' with z | z
    · rw [z]; exact ⟨_, he, fun v q => nomatch q⟩
    · rw [z]; exact ⟨o, ho, fun v q => by rw [hd] at q; cases q⟩
  keep := fun i h h' st k => let ⟨⟨old, he⟩, hi⟩ := st; ⟨⟨old, k e (by simp) _ he⟩, hi.at fun o q => k it (by simp) o q⟩
  item := by
    intro X hP hw hK hc i pins s σ H E I hf st hg
    subst hP hw hK
    obtain ⟨⟨old, he⟩, hit⟩ := st
    obtain ⟨xs, x, hq, hx⟩ := hg
    obtain ⟨its, rv, p, hz⟩ := I.tuple hq
    obtain ⟨u, hu, ru⟩ := rv.get hx
    have hel : e < s.heap.objs.size := Heap.lt_size he
    have hil : it < s.heap.objs.size := by obtain ⟨_, q, _⟩ := hit; exact Heap.lt_size q
    have hlt : i < its.toArray.size := by
      rw [List.size_toArray]
      exact (List.getElem?_eq_some_iff.mp hu).1
    refine wpAny_pyNext_enum_itemC (Draws.tuple (show X.A.in1.handled = none from I.ok.hd hc) it a hai its.toArray) he ⟨hit, p⟩ hlt hei (by simp [hei, hea]) fun u' h' tk hP ho hst' hT hsz hk => ?_
    have eu : u' = u := by
      have hP : its.toArray[i]? = some u' := hP
      rw [List.getElem?_toArray, hu] at hP
      exact (Option.some.inj hP).symm
    subst eu
    obtain ⟨hit', _⟩ := hst'
    refine ⟨_, rfl, wpAny_letOwnedTupleGo_enum (s := { s with heap := h', toks := tk + 1 }) ho fun h'' he' sb => ?_⟩
    have hT2 : h''.get? s.heap.objs.size = some { cls := .type "tuple", data := .seq #[.int (k0 + (i : Nat)) tk, u'] } := (sb.2 _ (Nat.ne_of_gt hel)).trans hT
    have new : ObjOk X.prog X.w (upd H s.heap.objs.size (.tup [.int (k0 + (i : Nat)), x])) h'' s.heap.objs.size (.tup [.int (k0 + (i : Nat)), x]) :=
      ⟨by show 2 ≤ sizeLine; decide, [.int (k0 + (i : Nat)) tk, u'], .cons ⟨_, rfl⟩ (.cons ru .nil), ⟨_, hT2, rfl, _, rfl⟩⟩
    have I1 : Inv X pins σ (upd H s.heap.objs.size (.tup [.int (k0 + (i : Nat)), x])) { s with heap := h'', toks := tk + 1 } :=
      I.turnedNew (ch := [e, it]) (fun b ob hb q => (sb.2 b (fun z => hb (by simp [z]))).trans (hk b ob (fun z => hb (by simp [z])) (fun z => hb (by simp [z])) q)) hf (Nat.le_refl _) new
    refine ⟨.ref s.heap.objs.size, _, I1, rfl, ⟨_, x, rfl, I.hok.fresh (Nat.le_refl _), rfl, fun ys hy => by rw [I.tuple_inj hy hq]; exact hx⟩, ⟨⟨u', ?_⟩, hit'.at fun o q => (sb.2 it (Ne.symm hei)).trans q⟩, fun b hb => ?_⟩
    · have e1 : k0 + ((i + 1 : Nat) : Int) = k0 + (i : Int) + 1 := by omega
      rw [e1]; exact he'
    · have hb' : b < s.heap.objs.size := by
        have e' : b = e ∨ b = it := by simpa using hb
        rcases e' with z | z
        · rw [z]; exact hel
        · rw [z]; exact hil
      rw [upd_ne (Nat.ne_of_lt hb')]
      exact (hf b hb).1
  done := by
    intro X hP hw hK hc i pins s σ H E I hf st hg
    subst hP hw hK
    obtain ⟨⟨old, he⟩, hit⟩ := st
    obtain ⟨xs, hq, hx⟩ := hg
    obtain ⟨its, rv, p, hz⟩ := I.tuple hq
    obtain ⟨f0, f1, f2, f3, f4, f5⟩ := hf it (by simp)
    have hl := rv.length
    have hT : s.TypeIs (.ref e) "enumerate" := ⟨_, he, rfl⟩
    unfold pyNext
    refine wpAny_bind (wpAny_attempt (wpAny_callSpecial?_slot (name := Str.ofString "__next__") hT F.slot_enumerate_next
      (wpAny_call_entry F.slot_enumerate_next hT F.entry_enumerate_next ?_ (F.args_enumerate_next_1 _))))
    show wpAny _ _ (field (.ref e) 2 >>= _) _ _ _
    refine wpAny_bind (wpAny_field he rfl (x := .ref it) rfl ?_)
    refine wpAny_bind (wpAny_nextOf_tuple_end (show X.A.in1.handled = none from I.ok.hd hc) hit p (by simp; omega) fun h' x he' hx' => ?_)
    obtain ⟨o, ho, hc⟩ := hx'
    refine wpAny_bind (wpAny_isInstance (T := "StopIteration") (b := true) ⟨o, ho, hc⟩ isSubtype_stop ?_)
    exact wpAny_pure ⟨rfl, I.turned (t' := s.toks) (fun b o hb q => he' b o hb q) f0 f1 f3 f4 f5⟩
  self := fun A i s Q E st h => let ⟨⟨_, he⟩, _⟩ := st; wpAny_pyIter_enum he h

/-! zip of two, LL -/
def ItzLL (K : PySem.W.Frag) (a b : Addr) (n1 n2 : Nat) : It :=
  ⟨fun i H => ∃ (xs ys : List V) (x y : V), SqL K H a xs ∧ SqL K H b ys ∧ xs.length = n1 ∧ ys.length = n2 ∧ xs[i]? = some x ∧ ys[i]? = some y,
    fun i H v H' => ∃ T x y, v = .ref T ∧ H T = none ∧ H' = upd H T (.tup [x, y]) ∧ (∀ xs, SqL K H a xs → xs[i]? = some x) ∧ ∀ ys, SqL K H b ys → ys[i]? = some y,
    fun i H => ∃ xs ys : List V, SqL K H a xs ∧ SqL K H b ys ∧ xs.length = n1 ∧ ys.length = n2 ∧ (n1 ≤ i ∨ n2 ≤ i)⟩
theorem turn_zipLL {P : Program} {w : World} {K : PySem.W.Frag} {elts : List Expr} {kk : Nat} {tpos : Pos} {a b z TI TO i1 i2 : Addr} (S : ZipSep2 z TI TO i1 i2 [i1, a] [i2, b]) (h1a : a ≠ i1) (h2b : b ≠ i2) (n1 n2 : Nat) :
    Turn P w K (.Tuple elts kk tpos) (ItzLL K a b n1 n2) [z, TI, TO, i1, i2] z (fun i h => IsZip h z TI TO .none ∧ IsTupOf2 h TI (.ref i1) (.ref i2) ∧ (∃ x y, IsTupOf2 h TO x y) ∧ h.IsListIter i1 a i ∧ h.IsListIter i2 b i ∧ i ≤ n1 ∧ i ≤ n2) where
  mem := by simp
  obj := fun i h st c hc => by
    obtain ⟨hz, hTI, ⟨x, y, hTO⟩, ⟨o1, e1, _, d1⟩, ⟨o2, e2, _, d2⟩, _⟩ := st
    have e' : c = z ∨ c = TI ∨ c = TO ∨ c = i1 ∨ c = i2 := by simpa using hc
    rcases e' with q | q | q | q | q
    · rw [q]; exact ⟨_, hz, fun v q => nomatch q⟩
    · rw [q]; exact ⟨_, hTI, fun v q => nomatch q⟩
    · rw [q]; exact ⟨_, hTO, fun v q => nomatch q⟩
    · rw [q]; exact ⟨o1, e1, fun v q => by rw [d1] at q; cases q⟩
    · rw [q]; exact ⟨o2, e2, fun v q => by rw [d2] at q; cases q⟩
  keep := fun i h h' st k => by
    obtain ⟨hz, hTI, ⟨x, y, hTO⟩, h1, h2, l1, l2⟩ := st
    exact ⟨k z (by simp) _ hz, k TI (by simp) _ hTI, ⟨x, y, k TO (by simp) _ hTO⟩, h1.at fun o q => k i1 (by simp) o q, h2.at fun o q => k i2 (by simp) o q, l1, l2⟩
  item := by
    intro X hP hw hK hc i pins s σ H E I hf st hg
    subst hP hw hK
    obtain ⟨hz, hTI, ⟨x0, y0, hTO⟩, h1, h2, l1, l2⟩ := st
    obtain ⟨xs, ys, x, y, hqx, hqy, hn1, hn2, hx, hy⟩ := hg
    obtain ⟨its, rv, p1, _⟩ := I.list hqx
    obtain ⟨its2, rv2, p2, _⟩ := I.list hqy
    obtain ⟨u, hu, ru⟩ := rv.get hx
    obtain ⟨u2, hu2, ru2⟩ := rv2.get hy
    have hzl : z < s.heap.objs.size := Heap.lt_size hz
    have hlt1 : i < its.toArray.size := by rw [List.size_toArray]; exact (List.getElem?_eq_some_iff.mp hu).1
    have hlt2 : i < its2.toArray.size := by rw [List.size_toArray]; exact (List.getElem?_eq_some_iff.mp hu2).1
    have m1 : i < n1 := by rw [← hn1]; exact (List.getElem?_eq_some_iff.mp hx).1
    have m2 : i < n2 := by rw [← hn2]; exact (List.getElem?_eq_some_iff.mp hy).1
    have hh : X.A.in1.handled = none := I.ok.hd hc
    refine wpAny_pyNext_zipD2_item S (Draws.list hh i1 a h1a its.toArray) (Draws.list hh i2 b h2b its2.toArray) hz hTI hTO ⟨h1, p1.isList⟩ ⟨h2, p2.isList⟩ hlt1 hlt2 fun u' u2' h' tk hP1 hP2 z' TO' st1' st2' hT hsz hk => ?_
    have eu : u' = u := by
      have hP : its.toArray[i]? = some u' := hP1
      rw [List.getElem?_toArray, hu] at hP
      exact (Option.some.inj hP).symm
    have eu2 : u2' = u2 := by
      have hP : its2.toArray[i]? = some u2' := hP2
      rw [List.getElem?_toArray, hu2] at hP
      exact (Option.some.inj hP).symm
    subst eu eu2
    obtain ⟨h1', _⟩ := st1'
    obtain ⟨h2', _⟩ := st2'
    refine ⟨_, rfl, wpAny_letOwnedTupleGo_zip (s := { s with heap := h', toks := tk }) z' fun h'' z'' sb => ?_⟩
    have hT2 : h''.get? s.heap.objs.size = some { cls := .type "tuple", data := .seq #[u', u2'] } := (sb.2 _ (Nat.ne_of_gt hzl)).trans hT
    have new : ObjOk X.prog X.w (upd H s.heap.objs.size (.tup [x, y])) h'' s.heap.objs.size (.tup [x, y]) :=
      ⟨by show 2 ≤ sizeLine; decide, [u', u2'], .cons ru (.cons ru2 .nil), ⟨_, hT2, rfl, _, rfl⟩⟩
    have n1z : i1 ≠ z := fun e => S.zf1 (by rw [← e]; simp)
    have n2z : i2 ≠ z := fun e => S.zf2 (by rw [← e]; simp)
    have nTO1 : TI ≠ i1 := S.TIi1
    have I1 : Inv X pins σ (upd H s.heap.objs.size (.tup [x, y])) { s with heap := h'', toks := tk } :=
      I.turnedNew (t' := tk) (ch := [z, TI, TO, i1, i2]) (fun c o hb q => (sb.2 c (fun q' => hb (by simp [q']))).trans (hk c o (fun q' => hb (by simp [q'])) (fun q' => hb (by simp [q'])) (fun q' => hb (by simp [q'])) (fun q' => hb (by simp [q'])) q)) hf (Nat.le_refl _) new
    refine ⟨.ref s.heap.objs.size, _, I1, rfl, ⟨_, x, y, rfl, I.hok.fresh (Nat.le_refl _), rfl, fun l hl => by rw [I.list_inj hl hqx]; exact hx, fun l hl => by rw [I.list_inj hl hqy]; exact hy⟩, ⟨z'', ?_, ⟨u', u2', ?_⟩, ?_, ?_, by omega, by omega⟩, fun c hcm => ?_⟩
    · exact (sb.2 _ S.TIz).trans (hk _ _ S.TIz S.TITO S.TIi1 S.TIi2 hTI)
    · exact (sb.2 _ S.TOz).trans TO'
    · exact h1'.at fun o q => (sb.2 _ n1z).trans q
    · exact h2'.at fun o q => (sb.2 _ n2z).trans q
    · have hlt : c < s.heap.objs.size := by
        have e' : c = z ∨ c = TI ∨ c = TO ∨ c = i1 ∨ c = i2 := by simpa using hcm
        rcases e' with q | q | q | q | q
        · rw [q]; exact hzl
        · rw [q]; exact Heap.lt_size hTI
        · rw [q]; exact Heap.lt_size hTO
        · rw [q]; obtain ⟨_, e1, _⟩ := h1; exact Heap.lt_size e1
        · rw [q]; obtain ⟨_, e2, _⟩ := h2; exact Heap.lt_size e2
      rw [upd_ne (Nat.ne_of_lt hlt)]
      exact (hf c hcm).1
  done := by
    intro X hP hw hK hc i pins s σ H E I hf st hg
    subst hP hw hK
    obtain ⟨hz, hTI, ⟨x0, y0, hTO⟩, h1, h2, l1, l2⟩ := st
    obtain ⟨xs, ys, hqx, hqy, hn1, hn2, hend⟩ := hg
    obtain ⟨its, rv, p1, _⟩ := I.list hqx
    obtain ⟨its2, rv2, p2, _⟩ := I.list hqy
    have e1 := rv.length
    have e2 := rv2.length
    have hh : X.A.in1.handled = none := I.ok.hd hc
    exact wpAny_pyNext_zipD2_end S (Draws.list hh i1 a h1a its.toArray) (Draws.list hh i2 b h2b its2.toArray) hz hTI hTO ⟨h1, p1.isList⟩ ⟨h2, p2.isList⟩ (by rw [List.size_toArray]; omega) (by rw [List.size_toArray]; omega) (by rw [List.size_toArray, List.size_toArray]; omega)
      fun h' tk hk => ⟨rfl, I.turnedL (t' := tk) (ch := [z, TI, TO, i1, i2]) (fun c o hb q =>
        hk c o (fun q' => hb (by simp [q'])) (fun q' => hb (by simp [q'])) (fun q' => hb (by simp [q'])) (fun q' => hb (by simp [q'])) q) hf⟩
  self := fun A i s Q E st h => wpAny_pyIter_zip st.1 h

/-! zip of two, LT -/
def ItzLT (K : PySem.W.Frag) (a b : Addr) (n1 n2 : Nat) : It :=
  ⟨fun i H => ∃ (xs ys : List V) (x y : V), SqL K H a xs ∧ SqT K H b ys ∧ xs.length = n1 ∧ ys.length = n2 ∧ xs[i]? = some x ∧ ys[i]? = some y,
    fun i H v H' => ∃ T x y, v = .ref T ∧ H T = none ∧ H' = upd H T (.tup [x, y]) ∧ (∀ xs, SqL K H a xs → xs[i]? = some x) ∧ ∀ ys, SqT K H b ys → ys[i]? = some y,
    fun i H => ∃ xs ys : List V, SqL K H a xs ∧ SqT K H b ys ∧ xs.length = n1 ∧ ys.length = n2 ∧ (n1 ≤ i ∨ n2 ≤ i)⟩
theorem turn_zipLT {P : Program} {w : World} {K : PySem.W.Frag} {elts : List Expr} {kk : Nat} {tpos : Pos} {a b z TI TO i1 i2 : Addr} (S : ZipSep2 z TI TO i1 i2 [i1, a] [i2, b]) (h1a : a ≠ i1) (h2b : b ≠ i2) (n1 n2 : Nat) :
    Turn P w K (.Tuple elts kk tpos) (ItzLT K a b n1 n2) [z, TI, TO, i1, i2] z (fun i h => IsZip h z TI TO .none ∧ IsTupOf2 h TI (.ref i1) (.ref i2) ∧ (∃ x y, IsTupOf2 h TO x y) ∧ h.IsListIter i1 a i ∧ h.IsTupleIter i2 b i ∧ i ≤ n1 ∧ i ≤ n2) where
  mem := by simp
  obj := fun i h st c hc => by
    obtain ⟨hz, hTI, ⟨x, y, hTO⟩, ⟨o1, e1, _, d1⟩, ⟨o2, e2, _, d2⟩, _⟩ := st
    have e' : c = z ∨ c = TI ∨ c = TO ∨ c = i1 ∨ c = i2 := by simpa using hc
    rcases e' with q | q | q | q | q
    · rw [q]; exact ⟨_, hz, fun v q => nomatch q⟩
    · rw [q]; exact ⟨_, hTI, fun v q => nomatch q⟩
    · rw [q]; exact ⟨_, hTO, fun v q => nomatch q⟩
    · rw [q]; exact ⟨o1, e1, fun v q => by rw [d1] at q; cases q⟩
    · rw [q]; exact ⟨o2, e2, fun v q => by rw [d2] at q; cases q⟩
  keep := fun i h h' st k => by
    obtain ⟨hz, hTI, ⟨x, y, hTO⟩, h1, h2, l1, l2⟩ := st
    exact ⟨k z (by simp) _ hz, k TI (by simp) _ hTI, ⟨x, y, k TO (by simp) _ hTO⟩, h1.at fun o q => k i1 (by simp) o q, h2.at fun o q => k i2 (by simp) o q, l1, l2⟩
  item := by
    intro X hP hw hK hc i pins s σ H E I hf st hg
    subst hP hw hK
    obtain ⟨hz, hTI, ⟨x0, y0, hTO⟩, h1, h2, l1, l2⟩ := st
    obtain ⟨xs, ys, x, y, hqx, hqy, hn1, hn2, hx, hy⟩ := hg
    obtain ⟨its, rv, p1, _⟩ := I.list hqx
    obtain ⟨its2, rv2, p2, _⟩ := I.tuple hqy
    obtain ⟨u, hu, ru⟩ := rv.get hx
    obtain ⟨u2, hu2, ru2⟩ := rv2.get hy
    have hzl : z < s.heap.objs.size := Heap.lt_size hz
    have hlt1 : i < its.toArray.size := by rw [List.size_toArray]; exact (List.getElem?_eq_some_iff.mp hu).1
    have hlt2 : i < its2.toArray.size := by rw [List.size_toArray]; exact (List.getElem?_eq_some_iff.mp hu2).1
    have m1 : i < n1 := by rw [← hn1]; exact (List.getElem?_eq_some_iff.mp hx).1
    have m2 : i < n2 := by rw [← hn2]; exact (List.getElem?_eq_some_iff.mp hy).1
    have hh : X.A.in1.handled = none := I.ok.hd hc
    refine wpAny_pyNext_zipD2_item S (Draws.list hh i1 a h1a its.toArray) (Draws.tuple hh i2 b h2b its2.toArray) hz hTI hTO ⟨h1, p1.isList⟩ ⟨h2, p2⟩ hlt1 hlt2 fun u' u2' h' tk hP1 hP2 z' TO' st1' st2' hT hsz hk => ?_
    have eu : u' = u := by
      have hP : its.toArray[i]? = some u' := hP1
      rw [List.getElem?_toArray, hu] at hP
      exact (Option.some.inj hP).symm
    have eu2 : u2' = u2 := by
      have hP : its2.toArray[i]? = some u2' := hP2
      rw [List.getElem?_toArray, hu2] at hP
      exact (Option.some.inj hP).symm
    subst eu eu2
    obtain ⟨h1', _⟩ := st1'
    obtain ⟨h2', _⟩ := st2'
    refine ⟨_, rfl, wpAny_letOwnedTupleGo_zip (s := { s with heap := h', toks := tk }) z' fun h'' z'' sb => ?_⟩
    have hT2 : h''.get? s.heap.objs.size = some { cls := .type "tuple", data := .seq #[u', u2'] } := (sb.2 _ (Nat.ne_of_gt hzl)).trans hT
    have new : ObjOk X.prog X.w (upd H s.heap.objs.size (.tup [x, y])) h'' s.heap.objs.size (.tup [x, y]) :=
      ⟨by show 2 ≤ sizeLine; decide, [u', u2'], .cons ru (.cons ru2 .nil), ⟨_, hT2, rfl, _, rfl⟩⟩
    have n1z : i1 ≠ z := fun e => S.zf1 (by rw [← e]; simp)
    have n2z : i2 ≠ z := fun e => S.zf2 (by rw [← e]; simp)
    have nTO1 : TI ≠ i1 := S.TIi1
    have I1 : Inv X pins σ (upd H s.heap.objs.size (.tup [x, y])) { s with heap := h'', toks := tk } :=
      I.turnedNew (t' := tk) (ch := [z, TI, TO, i1, i2]) (fun c o hb q => (sb.2 c (fun q' => hb (by simp [q']))).trans (hk c o (fun q' => hb (by simp [q'])) (fun q' => hb (by simp [q'])) (fun q' => hb (by simp [q'])) (fun q' => hb (by simp [q'])) q)) hf (Nat.le_refl _) new
    refine ⟨.ref s.heap.objs.size, _, I1, rfl, ⟨_, x, y, rfl, I.hok.fresh (Nat.le_refl _), rfl, fun l hl => by rw [I.list_inj hl hqx]; exact hx, fun l hl => by rw [I.tuple_inj hl hqy]; exact hy⟩, ⟨z'', ?_, ⟨u', u2', ?_⟩, ?_, ?_, by omega, by omega⟩, fun c hcm => ?_⟩
    · exact (sb.2 _ S.TIz).trans (hk _ _ S.TIz S.TITO S.TIi1 S.TIi2 hTI)
    · exact (sb.2 _ S.TOz).trans TO'
    · exact h1'.at fun o q => (sb.2 _ n1z).trans q
    · exact h2'.at fun o q => (sb.2 _ n2z).trans q
    · have hlt : c < s.heap.objs.size := by
        have e' : c = z ∨ c = TI ∨ c = TO ∨ c = i1 ∨ c = i2 := by simpa using hcm
        rcases e' with q | q | q | q | q
        · rw [q]; exact hzl
        · rw [q]; exact Heap.lt_size hTI
        · rw [q]; exact Heap.lt_size hTO
        · rw [q]; obtain ⟨_, e1, _⟩ := h1; exact Heap.lt_size e1
        · rw [q]; obtain ⟨_, e2, _⟩ := h2; exact Heap.lt_size e2
      rw [upd_ne (Nat.ne_of_lt hlt)]
      exact (hf c hcm).1
  done := by
    intro X hP hw hK hc i pins s σ H E I hf st hg
    subst hP hw hK
    obtain ⟨hz, hTI, ⟨x0, y0, hTO⟩, h1, h2, l1, l2⟩ := st
    obtain ⟨xs, ys, hqx, hqy, hn1, hn2, hend⟩ := hg
    obtain ⟨its, rv, p1, _⟩ := I.list hqx
    obtain ⟨its2, rv2, p2, _⟩ := I.tuple hqy
    have e1 := rv.length
    have e2 := rv2.length
    have hh : X.A.in1.handled = none := I.ok.hd hc
    exact wpAny_pyNext_zipD2_end S (Draws.list hh i1 a h1a its.toArray) (Draws.tuple hh i2 b h2b its2.toArray) hz hTI hTO ⟨h1, p1.isList⟩ ⟨h2, p2⟩ (by rw [List.size_toArray]; omega) (by rw [List.size_toArray]; omega) (by rw [List.size_toArray, List.size_toArray]; omega)
      fun h' tk hk => ⟨rfl, I.turnedL (t' := tk) (ch := [z, TI, TO, i1, i2]) (fun c o hb q =>
        hk c o (fun q' => hb (by simp [q'])) (fun q' => hb (by simp [q'])) (fun q' => hb (by simp [q'])) (fun q' => hb (by simp [q'])) q) hf⟩
  self := fun A i s Q E st h => wpAny_pyIter_zip st.1 h

/-! zip of two, TL -/
def ItzTL (K : PySem.W.Frag) (a b : Addr) (n1 n2 : Nat) : It :=
  ⟨fun i H => ∃ (xs ys : List V) (x y : V), SqT K H a xs ∧ SqL K H b ys ∧ xs.length = n1 ∧ ys.length = n2 ∧ xs[i]? = some x ∧ ys[i]? = some y,
    fun i H v H' => ∃ T x y, v = .ref T ∧ H T = none ∧ H' = upd H T (.tup [x, y]) ∧ (∀ xs, SqT K H a xs → xs[i]? = some x) ∧ ∀ ys, SqL K H b ys → ys[i]? = some y,
    fun i H => ∃ xs ys : List V, SqT K H a xs ∧ SqL K H b ys ∧ xs.length = n1 ∧ ys.length = n2 ∧ (n1 ≤ i ∨ n2 ≤ i)⟩
theorem turn_zipTL {P : Program} {w : World} {K : PySem.W.Frag} {elts : List Expr} {kk : Nat} {tpos : Pos} {a b z TI TO i1 i2 : Addr} (S : ZipSep2 z TI TO i1 i2 [i1, a] [i2, b]) (h1a : a ≠ i1) (h2b : b ≠ i2) (n1 n2 : Nat) :
    Turn P w K (.Tuple elts kk tpos) (ItzTL K a b n1 n2) [z, TI, TO, i1, i2] z (fun i h => IsZip h z TI TO .none ∧ IsTupOf2 h TI (.ref i1) (.ref i2) ∧ (∃ x y, IsTupOf2 h TO x y) ∧ h.IsTupleIter i1 a i ∧ h.IsListIter i2 b i ∧ i ≤ n1 ∧ i ≤ n2) where
  mem := by simp
  obj := fun i h st c hc => by
    obtain ⟨hz, hTI, ⟨x, y, hTO⟩, ⟨o1, e1, _, d1⟩, ⟨o2, e2, _, d2⟩, _⟩ := st
    have e' : c = z ∨ c = TI ∨ c = TO ∨ c = i1 ∨ c = i2 := by simpa using hc
    rcases e' with q | q | q | q | q
    · rw [q]; exact ⟨_, hz, fun v q => nomatch q⟩
    · rw [q]; exact ⟨_, hTI, fun v q => nomatch q⟩
    · rw [q]; exact ⟨_, hTO, fun v q => nomatch q⟩
    · rw [q]; exact ⟨o1, e1, fun v q => by rw [d1] at q; cases q⟩
    · rw [q]; exact ⟨o2, e2, fun v q => by rw [d2] at q; cases q⟩
  keep := fun i h h' st k => by
    obtain ⟨hz, hTI, ⟨x, y, hTO⟩, h1, h2, l1, l2⟩ := st
    exact ⟨k z (by simp) _ hz, k TI (by simp) _ hTI, ⟨x, y, k TO (by simp) _ hTO⟩, h1.at fun o q => k i1 (by simp) o q, h2.at fun o q => k i2 (by simp) o q, l1, l2⟩
  item := by
    intro X hP hw hK hc i pins s σ H E I hf st hg
    subst hP hw hK
    obtain ⟨hz, hTI, ⟨x0, y0, hTO⟩, h1, h2, l1, l2⟩ := st
    obtain ⟨xs, ys, x, y, hqx, hqy, hn1, hn2, hx, hy⟩ := hg
    obtain ⟨its, rv, p1, _⟩ := I.tuple hqx
    obtain ⟨its2, rv2, p2, _⟩ := I.list hqy
    obtain ⟨u, hu, ru⟩ := rv.get hx
    obtain ⟨u2, hu2, ru2⟩ := rv2.get hy
    have hzl : z < s.heap.objs.size := Heap.lt_size hz
    have hlt1 : i < its.toArray.size := by rw [List.size_toArray]; exact (List.getElem?_eq_some_iff.mp hu).1
    have hlt2 : i < its2.toArray.size := by rw [List.size_toArray]; exact (List.getElem?_eq_some_iff.mp hu2).1
    have m1 : i < n1 := by rw [← hn1]; exact (List.getElem?_eq_some_iff.mp hx).1
    have m2 : i < n2 := by rw [← hn2]; exact (List.getElem?_eq_some_iff.mp hy).1
    have hh : X.A.in1.handled = none := I.ok.hd hc
    refine wpAny_pyNext_zipD2_item S (Draws.tuple hh i1 a h1a its.toArray) (Draws.list hh i2 b h2b its2.toArray) hz hTI hTO ⟨h1, p1⟩ ⟨h2, p2.isList⟩ hlt1 hlt2 fun u' u2' h' tk hP1 hP2 z' TO' st1' st2' hT hsz hk => ?_
    have eu : u' = u := by
      have hP : its.toArray[i]? = some u' := hP1
      rw [List.getElem?_toArray, hu] at hP
      exact (Option.some.inj hP).symm
    have eu2 : u2' = u2 := by
      have hP : its2.toArray[i]? = some u2' := hP2
      rw [List.getElem?_toArray, hu2] at hP
      exact (Option.some.inj hP).symm
    subst eu eu2
    obtain ⟨h1', _⟩ := st1'
    obtain ⟨h2', _⟩ := st2'
    refine ⟨_, rfl, wpAny_letOwnedTupleGo_zip (s := { s with heap := h', toks := tk }) z' fun h'' z'' sb => ?_⟩
    have hT2 : h''.get? s.heap.objs.size = some { cls := .type "tuple", data := .seq #[u', u2'] } := (sb.2 _ (Nat.ne_of_gt hzl)).trans hT
    have new : ObjOk X.prog X.w (upd H s.heap.objs.size (.tup [x, y])) h'' s.heap.objs.size (.tup [x, y]) :=
      ⟨by show 2 ≤ sizeLine; decide, [u', u2'], .cons ru (.cons ru2 .nil), ⟨_, hT2, rfl, _, rfl⟩⟩
    have n1z : i1 ≠ z := fun e => S.zf1 (by rw [← e]; simp)
    have n2z : i2 ≠ z := fun e => S.zf2 (by rw [← e]; simp)
    have nTO1 : TI ≠ i1 := S.TIi1
    have I1 : Inv X pins σ (upd H s.heap.objs.size (.tup [x, y])) { s with heap := h'', toks := tk } :=
      I.turnedNew (t' := tk) (ch := [z, TI, TO, i1, i2]) (fun c o hb q => (sb.2 c (fun q' => hb (by simp [q']))).trans (hk c o (fun q' => hb (by simp [q'])) (fun q' => hb (by simp [q'])) (fun q' => hb (by simp [q'])) (fun q' => hb (by simp [q'])) q)) hf (Nat.le_refl _) new
    refine ⟨.ref s.heap.objs.size, _, I1, rfl, ⟨_, x, y, rfl, I.hok.fresh (Nat.le_refl _), rfl, fun l hl => by rw [I.tuple_inj hl hqx]; exact hx, fun l hl => by rw [I.list_inj hl hqy]; exact hy⟩, ⟨z'', ?_, ⟨u', u2', ?_⟩, ?_, ?_, by omega, by omega⟩, fun c hcm => ?_⟩
    · exact (sb.2 _ S.TIz).trans (hk _ _ S.TIz S.TITO S.TIi1 S.TIi2 hTI)
    · exact (sb.2 _ S.TOz).trans TO'
    · exact h1'.at fun o q => (sb.2 _ n1z).trans q
    · exact h2'.at fun o q => (sb.2 _ n2z).trans q
    · have hlt : c < s.heap.objs.size := by
        have e' : c = z ∨ c = TI ∨ c = TO ∨ c = i1 ∨ c = i2 := by simpa using hcm
        rcases e' with q | q | q | q | q
        · rw [q]; exact hzl
        · rw [q]; exact Heap.lt_size hTI
        · rw [q]; exact Heap.lt_size hTO
        · rw [q]; obtain ⟨_, e1, _⟩ := h1; exact Heap.lt_size e1
        · rw [q]; obtain ⟨_, e2, _⟩ := h2; exact Heap.lt_size e2
      rw [upd_ne (Nat.ne_of_lt hlt)]
      exact (hf c hcm).1
  done := by
    intro X hP hw hK hc i pins s σ H E I hf st hg
    subst hP hw hK
    obtain ⟨hz, hTI, ⟨x0, y0, hTO⟩, h1, h2, l1, l2⟩ := st
    obtain ⟨xs, ys, hqx, hqy, hn1, hn2, hend⟩ := hg
    obtain ⟨its, rv, p1, _⟩ := I.tuple hqx
    obtain ⟨its2, rv2, p2, _⟩ := I.list hqy
    have e1 := rv.length
    have e2 := rv2.length
    have hh : X.A.in1.handled = none := I.ok.hd hc
    exact wpAny_pyNext_zipD2_end S (Draws.tuple hh i1 a h1a its.toArray) (Draws.list hh i2 b h2b its2.toArray) hz hTI hTO ⟨h1, p1⟩ ⟨h2, p2.isList⟩ (by rw [List.size_toArray]; omega) (by rw [List.size_toArray]; omega) (by rw [List.size_toArray, List.size_toArray]; omega)
      fun h' tk hk => ⟨rfl, I.turnedL (t' := tk) (ch := [z, TI, TO, i1, i2]) (fun c o hb q =>
        hk c o (fun q' => hb (by simp [q'])) (fun q' => hb (by simp [q'])) (fun q' => hb (by simp [q'])) (fun q' => hb (by simp [q'])) q) hf⟩
  self := fun A i s Q E st h => wpAny_pyIter_zip st.1 h

/-! zip of two, TT -/
def ItzTT (K : PySem.W.Frag) (a b : Addr) (n1 n2 : Nat) : It :=
  ⟨fun i H => ∃ (xs ys : List V) (x y : V), SqT K H a xs ∧ SqT K H b ys ∧ xs.length = n1 ∧ ys.length = n2 ∧ xs[i]? = some x ∧ ys[i]? = some y,
    fun i H v H' => ∃ T x y, v = .ref T ∧ H T = none ∧ H' = upd H T (.tup [x, y]) ∧ (∀ xs, SqT K H a xs → xs[i]? = some x) ∧ ∀ ys, SqT K H b ys → ys[i]? = some y,
    fun i H => ∃ xs ys : List V, SqT K H a xs ∧ SqT K H b ys ∧ xs.length = n1 ∧ ys.length = n2 ∧ (n1 ≤ i ∨ n2 ≤ i)⟩
theorem turn_zipTT {P : Program} {w : World} {K : PySem.W.Frag} {elts : List Expr} {kk : Nat} {tpos : Pos} {a b z TI TO i1 i2 : Addr} (S : ZipSep2 z TI TO i1 i2 [i1, a] [i2, b]) (h1a : a ≠ i1) (h2b : b ≠ i2) (n1 n2 : Nat) :
    Turn P w K (.Tuple elts kk tpos) (ItzTT K a b n1 n2) [z, TI, TO, i1, i2] z (fun i h => IsZip h z TI TO .none ∧ IsTupOf2 h TI (.ref i1) (.ref i2) ∧ (∃ x y, IsTupOf2 h TO x y) ∧ h.IsTupleIter i1 a i ∧ h.IsTupleIter i2 b i ∧ i ≤ n1 ∧ i ≤ n2) where
  mem := by simp
  obj := fun i h st c hc => by
    obtain ⟨hz, hTI, ⟨x, y, hTO⟩, ⟨o1, e1, _, d1⟩, ⟨o2, e2, _, d2⟩, _⟩ := st
    have e' : c = z ∨ c = TI ∨ c = TO ∨ c = i1 ∨ c = i2 := by simpa using hc
    rcases e' with q | q | q | q | q
    · rw [q]; exact ⟨_, hz, fun v q => nomatch q⟩
    · rw [q]; exact ⟨_, hTI, fun v q => nomatch q⟩
    · rw [q]; exact ⟨_, hTO, fun v q => nomatch q⟩
    · rw [q]; exact ⟨o1, e1, fun v q => by rw [d1] at q; cases q⟩
    · rw [q]; exact ⟨o2, e2, fun v q => by rw [d2] at q; cases q⟩
  keep := fun i h h' st k => by
    obtain ⟨hz, hTI, ⟨x, y, hTO⟩, h1, h2, l1, l2⟩ := st
    exact ⟨k z (by simp) _ hz, k TI (by simp) _ hTI, ⟨x, y, k TO (by simp) _ hTO⟩, h1.at fun o q => k i1 (by simp) o q, h2.at fun o q => k i2 (by simp) o q, l1, l2⟩
  item := by
    intro X hP hw hK hc i pins s σ H E I hf st hg
    subst hP hw hK
    obtain ⟨hz, hTI, ⟨x0, y0, hTO⟩, h1, h2, l1, l2⟩ := st
    obtain ⟨xs, ys, x, y, hqx, hqy, hn1, hn2, hx, hy⟩ := hg
    obtain ⟨its, rv, p1, _⟩ := I.tuple hqx
    obtain ⟨its2, rv2, p2, _⟩ := I.tuple hqy
    obtain ⟨u, hu, ru⟩ := rv.get hx
    obtain ⟨u2, hu2, ru2⟩ := rv2.get hy
    have hzl : z < s.heap.objs.size := Heap.lt_size hz
    have hlt1 : i < its.toArray.size := by rw [List.size_toArray]; exact (List.getElem?_eq_some_iff.mp hu).1
    have hlt2 : i < its2.toArray.size := by rw [List.size_toArray]; exact (List.getElem?_eq_some_iff.mp hu2).1
    have m1 : i < n1 := by rw [← hn1]; exact (List.getElem?_eq_some_iff.mp hx).1
    have m2 : i < n2 := by rw [← hn2]; exact (List.getElem?_eq_some_iff.mp hy).1
    have hh : X.A.in1.handled = none := I.ok.hd hc
    refine wpAny_pyNext_zipD2_item S (Draws.tuple hh i1 a h1a its.toArray) (Draws.tuple hh i2 b h2b its2.toArray) hz hTI hTO ⟨h1, p1⟩ ⟨h2, p2⟩ hlt1 hlt2 fun u' u2' h' tk hP1 hP2 z' TO' st1' st2' hT hsz hk => ?_
    have eu : u' = u := by
      have hP : its.toArray[i]? = some u' := hP1
      rw [List.getElem?_toArray, hu] at hP
      exact (Option.some.inj hP).symm
    have eu2 : u2' = u2 := by
      have hP : its2.toArray[i]? = some u2' := hP2
      rw [List.getElem?_toArray, hu2] at hP
      exact (Option.some.inj hP).symm
    subst eu eu2
    obtain ⟨h1', _⟩ := st1'
    obtain ⟨h2', _⟩ := st2'
    refine ⟨_, rfl, wpAny_letOwnedTupleGo_zip (s := { s with heap := h', toks := tk }) z' fun h'' z'' sb => ?_⟩
    have hT2 : h''.get? s.heap.objs.size = some { cls := .type "tuple", data := .seq #[u', u2'] } := (sb.2 _ (Nat.ne_of_gt hzl)).trans hT
    have new : ObjOk X.prog X.w (upd H s.heap.objs.size (.tup [x, y])) h'' s.heap.objs.size (.tup [x, y]) :=
      ⟨by show 2 ≤ sizeLine; decide, [u', u2'], .cons ru (.cons ru2 .nil), ⟨_, hT2, rfl, _, rfl⟩⟩
    have n1z : i1 ≠ z := fun e => S.zf1 (by rw [← e]; simp)
    have n2z : i2 ≠ z := fun e => S.zf2 (by rw [← e]; simp)
    have nTO1 : TI ≠ i1 := S.TIi1
    have I1 : Inv X pins σ (upd H s.heap.objs.size (.tup [x, y])) { s with heap := h'', toks := tk } :=
      I.turnedNew (t' := tk) (ch := [z, TI, TO, i1, i2]) (fun c o hb q => (sb.2 c (fun q' => hb (by simp [q']))).trans (hk c o (fun q' => hb (by simp [q'])) (fun q' => hb (by simp [q'])) (fun q' => hb (by simp [q'])) (fun q' => hb (by simp [q'])) q)) hf (Nat.le_refl _) new
    refine ⟨.ref s.heap.objs.size, _, I1, rfl, ⟨_, x, y, rfl, I.hok.fresh (Nat.le_refl _), rfl, fun l hl => by rw [I.tuple_inj hl hqx]; exact hx, fun l hl => by rw [I.tuple_inj hl hqy]; exact hy⟩, ⟨z'', ?_, ⟨u', u2', ?_⟩, ?_, ?_, by omega, by omega⟩, fun c hcm => ?_⟩
    · exact (sb.2 _ S.TIz).trans (hk _ _ S.TIz S.TITO S.TIi1 S.TIi2 hTI)
    · exact (sb.2 _ S.TOz).trans TO'
    · exact h1'.at fun o q => (sb.2 _ n1z).trans q
    · exact h2'.at fun o q => (sb.2 _ n2z).trans q
    · have hlt : c < s.heap.objs.size := by
        have e' : c = z ∨ c = TI ∨ c = TO ∨ c = i1 ∨ c = i2 := by simpa using hcm
        rcases e' with q | q | q | q | q
        · rw [q]; exact hzl
        · rw [q]; exact Heap.lt_size hTI
        · rw [q]; exact Heap.lt_size hTO
        · rw [q]; obtain ⟨_, e1, _⟩ := h1; exact Heap.lt_size e1
        · rw [q]; obtain ⟨_, e2, _⟩ := h2; exact Heap.lt_size e2
      rw [upd_ne (Nat.ne_of_lt hlt)]
      exact (hf c hcm).1
  done := by
    intro X hP hw hK hc i pins s σ H E I hf st hg
    subst hP hw hK
    obtain ⟨hz, hTI, ⟨x0, y0, hTO⟩, h1, h2, l1, l2⟩ := st
    obtain ⟨xs, ys, hqx, hqy, hn1, hn2, hend⟩ := hg
    obtain ⟨its, rv, p1, _⟩ := I.tuple hqx
    obtain ⟨its2, rv2, p2, _⟩ := I.tuple hqy
    have e1 := rv.length
    have e2 := rv2.length
    have hh : X.A.in1.handled = none := I.ok.hd hc
    exact wpAny_pyNext_zipD2_end S (Draws.tuple hh i1 a h1a its.toArray) (Draws.tuple hh i2 b h2b its2.toArray) hz hTI hTO ⟨h1, p1⟩ ⟨h2, p2⟩ (by rw [List.size_toArray]; omega) (by rw [List.size_toArray]; omega) (by rw [List.size_toArray, List.size_toArray]; omega)
      fun h' tk hk => ⟨rfl, I.turnedL (t' := tk) (ch := [z, TI, TO, i1, i2]) (fun c o hb q =>
        hk c o (fun q' => hb (by simp [q'])) (fun q' => hb (by simp [q'])) (fun q' => hb (by simp [q'])) (fun q' => hb (by simp [q'])) q) hf⟩
  self := fun A i s Q E st h => wpAny_pyIter_zip st.1 h

end L4
namespace L4
open PySem L2
section
variable {X : Cx} {W : WX} {B : Hp} {m : List Addr} {σ : St} {ρ : Rho} {st : Sto} {H : Hp} {a b tg : Expr} {fa fb : E}
/-! ### enumerate, zip as sources -/
def iEnuT (K : PySem.W.Frag) (ta : TA) : TI := fun σ H R => ta σ H fun vs H1 => ∃ a xs, vs = [.ref a] ∧ SqT K H1 a xs ∧ R (IteT K a 0) H1
def iEnuL (K : PySem.W.Frag) (ta : TA) : TI := fun σ H R => ta σ H fun vs H1 => ∃ a xs, vs = [.ref a] ∧ SqL K H1 a xs ∧ R (IteL K a 0) H1
theorem pi_enumT {e : Expr} {ta : TA} {p pos tpos : Pos} {elts : List Expr} {kk : Nat} (hg : Gl X "enumerate") (hm : X.mg "enumerate" = none) (ha : PA X [e] ta) (hs : starEach [e] X.env = [(false, eval e X.env)] := by rfl) :
    PI X (.Tuple elts kk tpos) (.Call (.Name "enumerate" p) [e] [] pos) (iEnuT X.K ta) := by
  refine ⟨fun pins s σ H R I h => ?_⟩
  refine PyProof.Rows.Call_ (ld_blt I hg hm PyProof.Rows.boot_enumerate (PyProof.Rows.callWith_type1 (thn (ha.run pos pins s σ H _ I h) fun us s1 ⟨vs, H1, I1, r1, q1⟩ => ?_) hs rfl))
  obtain ⟨a, xs, ex, hq, q⟩ := q1
  subst ex
  cases r1 with
  | cons r rr =>
    cases rr
    cases r
    obtain ⟨its, rv, p', hz⟩ := I1.tuple hq
    have la : a < s1.heap.objs.size := by obtain ⟨_, q, _⟩ := p'; exact Heap.lt_size q
    refine enum_begins1 (begins_tuple a its.toArray) p' fun h' he hit hsz hk => wpAny_pyIter_enum he ?_
    have I2 : Inv X pins σ H1 { s1 with heap := h' } := I1.kept (t' := s1.toks) hk
    refine ⟨s1.heap.objs.size + 1, [s1.heap.objs.size + 1, s1.heap.objs.size], _, _, H1, rfl, I2, turn_enumT a (s1.heap.objs.size + 1) s1.heap.objs.size 0 (Nat.succ_ne_self _) (Nat.ne_of_lt la) (Nat.ne_of_gt (Nat.lt_succ_of_lt la)), ⟨⟨.none, he⟩, ⟨_, hit, rfl, rfl⟩⟩, fun b hb => ?_, q⟩
    have e' : b = s1.heap.objs.size + 1 ∨ b = s1.heap.objs.size := by simpa using hb
    have hle : s1.heap.objs.size ≤ b := by
      rcases e' with z | z
      · rw [z]; exact Nat.le_add_right _ _
      · rw [z]; exact Nat.le_refl _
    exact I1.fpOk hle (I1.hok.fresh hle)
theorem pi_enumL {e : Expr} {ta : TA} {p pos tpos : Pos} {elts : List Expr} {kk : Nat} (hg : Gl X "enumerate") (hm : X.mg "enumerate" = none) (ha : PA X [e] ta) (hs : starEach [e] X.env = [(false, eval e X.env)] := by rfl) :
    PI X (.Tuple elts kk tpos) (.Call (.Name "enumerate" p) [e] [] pos) (iEnuL X.K ta) := by
  refine ⟨fun pins s σ H R I h => ?_⟩
  refine PyProof.Rows.Call_ (ld_blt I hg hm PyProof.Rows.boot_enumerate (PyProof.Rows.callWith_type1 (thn (ha.run pos pins s σ H _ I h) fun us s1 ⟨vs, H1, I1, r1, q1⟩ => ?_) hs rfl))
  obtain ⟨a, xs, ex, hq, q⟩ := q1
  subst ex
  cases r1 with
  | cons r rr =>
    cases rr
    cases r
    obtain ⟨its, rv, p', hz⟩ := I1.list hq
    have la : a < s1.heap.objs.size := p'.lt
    refine enum_begins1 (begins_list a its.toArray) p'.isList fun h' he hit hsz hk => wpAny_pyIter_enum he ?_
    have I2 : Inv X pins σ H1 { s1 with heap := h' } := I1.kept (t' := s1.toks) hk
    refine ⟨s1.heap.objs.size + 1, [s1.heap.objs.size + 1, s1.heap.objs.size], _, _, H1, rfl, I2, turn_enumL a (s1.heap.objs.size + 1) s1.heap.objs.size 0 (Nat.succ_ne_self _) (Nat.ne_of_lt la) (Nat.ne_of_gt (Nat.lt_succ_of_lt la)), ⟨⟨.none, he⟩, ⟨_, hit, rfl, rfl⟩⟩, fun b hb => ?_, q⟩
    have e' : b = s1.heap.objs.size + 1 ∨ b = s1.heap.objs.size := by simpa using hb
    have hle : s1.heap.objs.size ≤ b := by
      rcases e' with z | z
      · rw [z]; exact Nat.le_add_right _ _
      · rw [z]; exact Nat.le_refl _
    exact I1.fpOk hle (I1.hok.fresh hle)
theorem serves_new {J : It} {items : List D} {f : Nat → D} {x y : Nat → V → V}
    (hgo : ∀ B1 m1 st1 H1, Sub B B1 → Pre m m1 → Sim X.K X.mg B1 m1 st1 H1 → ∀ i d, items[i]? = some d → J.go i H1 ∧ ∀ u H2, J.yld i H1 u H2 → ∃ T vs ds, u = .ref T ∧ H1 T = none ∧ H2 = upd H1 T (.tup vs) ∧ d = .tup ds ∧ DVs X.K X.mg B1 m1 ds vs)
    (hst : ∀ B1 m1 st1 H1, Sub B B1 → Pre m m1 → Sim X.K X.mg B1 m1 st1 H1 → ∀ i, items.length ≤ i → J.stop i H1) : Serves X J B m items := fun B1 m1 st1 H1 hB hm s i => by
  refine ⟨fun d hd => ?_, fun hl => hst B1 m1 st1 H1 hB hm s i hl⟩
  obtain ⟨g, y⟩ := hgo B1 m1 st1 H1 hB hm s i d hd
  refine ⟨g, fun u H2 hy => ?_⟩
  obtain ⟨T, vs, ds, e1, e2, e3, e4, dv⟩ := y u H2 hy
  subst e1 e3 e4
  exact ⟨_, s.ext_newB e2, s.newB e2, dv_newT s e2 dv⟩
theorem serves_enumT {xs : List V} {ds : List D} {a : Addr} (h : SqT X.K B a xs) (hd : DVs X.K X.mg B m ds xs) : Serves X (IteT X.K a 0) B m (enumL 0 ds) := by
  refine serves_new (x := fun _ v => v) (y := fun _ v => v) (f := fun _ => .non) ?_ ?_
  · intro B1 m1 st1 H1 hB hm s i d hi
    have hs : SqT X.K H1 a xs := s.sub.sqT (hB.sqT h)
    rw [enumL_get] at hi
    cases hdi : ds[i]? with
    | none => rw [hdi] at hi; cases hi
    | some d0 =>
      rw [hdi] at hi
      cases hi
      obtain ⟨v, hv, dv⟩ := hd.get hdi
      refine ⟨⟨xs, v, hs, hv⟩, fun u H2 hy => ?_⟩
      obtain ⟨T, x, e1, e2, e3, e4⟩ := hy
      have e5 := e4 xs hs
      rw [hv] at e5
      cases e5
      exact ⟨T, _, _, e1, e2, e3, rfl, .cons (.int _) (.cons (dv.mono hB hm) .nil)⟩
  · intro B1 m1 st1 H1 hB hm s i hl
    rw [enumL_len] at hl
    exact ⟨xs, s.sub.sqT (hB.sqT h), by rw [← hd.length]; exact hl⟩
theorem serves_enumL {xs : List V} {ds : List D} {a : Addr} (h : SqL X.K B a xs) (hd : DVs X.K X.mg B m ds xs) : Serves X (IteL X.K a 0) B m (enumL 0 ds) := by
  refine serves_new (x := fun _ v => v) (y := fun _ v => v) (f := fun _ => .non) ?_ ?_
  · intro B1 m1 st1 H1 hB hm s i d hi
    have hs : SqL X.K H1 a xs := s.sub.sqL (hB.sqL h)
    rw [enumL_get] at hi
    cases hdi : ds[i]? with
    | none => rw [hdi] at hi; cases hi
    | some d0 =>
      rw [hdi] at hi
      cases hi
      obtain ⟨v, hv, dv⟩ := hd.get hdi
      refine ⟨⟨xs, v, hs, hv⟩, fun u H2 hy => ?_⟩
      obtain ⟨T, x, e1, e2, e3, e4⟩ := hy
      have e5 := e4 xs hs
      rw [hv] at e5
      cases e5
      exact ⟨T, _, _, e1, e2, e3, rfl, .cons (.int _) (.cons (dv.mono hB hm) .nil)⟩
  · intro B1 m1 st1 H1 hB hm s i hl
    rw [enumL_len] at hl
    exact ⟨xs, s.sub.sqL (hB.sqL h), by rw [← hd.length]; exact hl⟩
def iEnumE (a : E) : EA := fun ρ st => (a ρ st).toA fun d st1 => match d with
  | .lst ds => .ok (enumL 0 ds) st1
  | .tup ds => .ok (enumL 0 ds) st1
  | _ => .stuck
theorem i_enum {p pos tpos : Pos} {elts : List Expr} {kk : Nat} (hg : Gl X "enumerate") (hm : X.mg "enumerate" = none) (ha : SE X W a fa) (h1 : starEach [a] X.env = (false, eval a X.env) :: starEach [] X.env := by rfl) (hs : starEach [a] X.env = [(false, eval a X.env)] := by rfl) :
    SI X W (.Tuple elts kk tpos) (.Call (.Name "enumerate" p) [a] [] pos) (iEnumE fa) :=
  (PI.or (pi_enumL hg hm (pa_cons ha pa_nil h1) hs) (pi_enumT hg hm (pa_cons ha pa_nil h1) hs)).weak fun σ H R ⟨B, m, ρ, st, s, q⟩ => by
    unfold iEnumE at q
    cases h : fa ρ st with
    | exc x st1 => rw [h] at q; exact .inl ⟨B, m, ρ, st, s, by rw [h]; exact q⟩
    | stuck => rw [h] at q; exact q.elim
    | ok d st1 =>
      rw [h] at q
      match d, q, h with
      | .lst ds, q, h =>
        refine .inl ⟨B, m, ρ, st, s, ?_⟩
        rw [h]
        intro v B1 m1 H1 x1 s1 dv
        cases dv with
        | lst h1 h2 => exact ⟨_, _, rfl, SqL.of (s1.sim.sub _ _ h1), q _ B1 m1 H1 x1 s1 (serves_enumL (SqL.of h1) h2)⟩
      | .tup ds, q, h =>
        refine .inr ⟨B, m, ρ, st, s, ?_⟩
        rw [h]
        intro v B1 m1 H1 x1 s1 dv
        cases dv with
        | tup h1 h2 => exact ⟨_, _, rfl, s1.sim.sub.sqT h1, q _ B1 m1 H1 x1 s1 (serves_enumT h1 h2)⟩
      | .non, q, _ => exact q.elim
      | .bl _, q, _ => exact q.elim
      | .int _, q, _ => exact q.elim
      | .str _, q, _ => exact q.elim
      | .ref _, q, _ => exact q.elim
      | .fn _, q, _ => exact q.elim
      | .ty _, q, _ => exact q.elim
      | .scr _, q, _ => exact q.elim
/-! zip of two lists, of two tuples -/
def zipL : List D → List D → List D
  | d :: ds, e :: es => .tup [d, e] :: zipL ds es
  | _, _ => []
theorem zipL_len : ∀ (ds es : List D), (zipL ds es).length = min ds.length es.length
  | [], es => by simp [zipL]
  | d :: ds, [] => by simp [zipL]
  | d :: ds, e :: es => by rw [zipL, List.length_cons, zipL_len ds es, List.length_cons, List.length_cons]; omega
theorem zipL_get : ∀ (ds es : List D) (i : Nat), (zipL ds es)[i]? = (match ds[i]?, es[i]? with | some d, some e => some (.tup [d, e]) | _, _ => none)
  | [], es, i => by simp [zipL]
  | d :: ds, [], i => by simp [zipL]
  | d :: ds, e :: es, 0 => rfl
  | d :: ds, e :: es, i + 1 => by rw [zipL, List.getElem?_cons_succ, List.getElem?_cons_succ, List.getElem?_cons_succ]; exact zipL_get ds es i
def iZipL (K : PySem.W.Frag) (ta : TA) : TI := fun σ H R => ta σ H fun vs H1 => ∃ a b xs ys, vs = [.ref a, .ref b] ∧ SqL K H1 a xs ∧ SqL K H1 b ys ∧ R (ItzLL K a b xs.length ys.length) H1
theorem pi_zipL {e e2 : Expr} {ta : TA} {p pos tpos : Pos} {elts : List Expr} {kk : Nat} (hg : Gl X "zip") (hm : X.mg "zip" = none) (ha : PA X [e, e2] ta)
    (hs : starEach [e, e2] X.env = (false, eval e X.env) :: starEach [e2] X.env := by rfl) (hpl : (backTo pos (starEach [e2] X.env)).any (·.1) = false := by rfl) :
    PI X (.Tuple elts kk tpos) (.Call (.Name "zip" p) [e, e2] [] pos) (iZipL X.K ta) := by
  refine ⟨fun pins s σ H R I h => ?_⟩
  refine PyProof.Rows.Call_ (ld_blt I hg hm PyProof.Rows.boot_zip (PyProof.Rows.callWith_type1 (thn (ha.run pos pins s σ H _ I h) fun us s1 ⟨vs, H1, I1, r1, q1⟩ => ?_) hs hpl))
  obtain ⟨a, b, xs, ys, ex, hqx, hqy, q⟩ := q1
  subst ex
  cases r1 with
  | cons r rr =>
    cases rr with
    | cons r' rr =>
      cases rr
      cases r
      cases r'
      obtain ⟨its, rv, p1, _⟩ := I1.list hqx
      obtain ⟨its2, rv2, p2, _⟩ := I1.list hqy
      have la : a < s1.heap.objs.size := p1.lt
      have lb : b < s1.heap.objs.size := p2.lt
      refine zip_begins2 (begins_list a its.toArray) (begins_list b its2.toArray) p1.isList p2.isList fun h' hz hTI hTO h1 h2 hsz hk => wpAny_pyIter_zip hz ?_
      have I2 : Inv X pins σ H1 { s1 with heap := h' } := I1.kept (t' := s1.toks) hk
      have sep := zip_sep2 (N := s1.heap.objs.size) (fp1 := [a]) (fp2 := [b]) (fun c hc => by rw [List.mem_singleton.mp hc]; exact la) (fun c hc => by rw [List.mem_singleton.mp hc]; exact lb)
      refine ⟨s1.heap.objs.size + 4, [s1.heap.objs.size + 4, s1.heap.objs.size + 2, s1.heap.objs.size + 3, s1.heap.objs.size, s1.heap.objs.size + 1], _, _, H1, rfl, I2, turn_zipLL sep (Nat.ne_of_lt la) (Nat.ne_of_lt (Nat.lt_succ_of_lt lb)) xs.length ys.length,
        ⟨hz, hTI, ⟨_, _, hTO⟩, ⟨_, h1, rfl, rfl⟩, ⟨_, h2, rfl, rfl⟩, Nat.zero_le _, Nat.zero_le _⟩, fun c hcm => ?_, q⟩
      have e' : c = s1.heap.objs.size + 4 ∨ c = s1.heap.objs.size + 2 ∨ c = s1.heap.objs.size + 3 ∨ c = s1.heap.objs.size ∨ c = s1.heap.objs.size + 1 := by simpa using hcm
      have hle : s1.heap.objs.size ≤ c := by
        rcases e' with z | z | z | z | z
        · rw [z]; exact Nat.le_add_right _ _
        · rw [z]; exact Nat.le_add_right _ _
        · rw [z]; exact Nat.le_add_right _ _
        · rw [z]; exact Nat.le_refl _
        · rw [z]; exact Nat.le_add_right _ _
      exact I1.fpOk hle (I1.hok.fresh hle)
theorem serves_zipL {xs ys : List V} {ds es : List D} {a b : Addr} (h : SqL X.K B a xs) (hd : DVs X.K X.mg B m ds xs) (h' : SqL X.K B b ys) (he : DVs X.K X.mg B m es ys) : Serves X (ItzLL X.K a b xs.length ys.length) B m (zipL ds es) := by
  refine serves_new (x := fun _ v => v) (y := fun _ v => v) (f := fun _ => .non) ?_ ?_
  · intro B1 m1 st1 H1 hB hm s i d hi
    have hs : SqL X.K H1 a xs := s.sub.sqL (hB.sqL h)
    have hs' : SqL X.K H1 b ys := s.sub.sqL (hB.sqL h')
    rw [zipL_get] at hi
    cases hdi : ds[i]? with
    | none => rw [hdi] at hi; cases hi
    | some d0 =>
      cases hei : es[i]? with
      | none => rw [hdi, hei] at hi; cases hi
      | some e0 =>
        rw [hdi, hei] at hi
        cases hi
        obtain ⟨v, hv, dv⟩ := hd.get hdi
        obtain ⟨v', hv', dv'⟩ := he.get hei
        refine ⟨⟨xs, ys, v, v', hs, hs', rfl, rfl, hv, hv'⟩, fun u H2 hy => ?_⟩
        obtain ⟨T, x, y, e1, e2, e3, e4, e5⟩ := hy
        have e6 := e4 xs hs
        have e7 := e5 ys hs'
        rw [hv] at e6
        rw [hv'] at e7
        cases e6
        cases e7
        exact ⟨T, _, _, e1, e2, e3, rfl, .cons (dv.mono hB hm) (.cons (dv'.mono hB hm) .nil)⟩
  · intro B1 m1 st1 H1 hB hm s i hl
    rw [zipL_len] at hl
    have l1 := hd.length
    have l2 := he.length
    exact ⟨xs, ys, s.sub.sqL (hB.sqL h), s.sub.sqL (hB.sqL h'), rfl, rfl, by omega⟩
def iZipT (K : PySem.W.Frag) (ta : TA) : TI := fun σ H R => ta σ H fun vs H1 => ∃ a b xs ys, vs = [.ref a, .ref b] ∧ SqT K H1 a xs ∧ SqT K H1 b ys ∧ R (ItzTT K a b xs.length ys.length) H1
theorem pi_zipT {e e2 : Expr} {ta : TA} {p pos tpos : Pos} {elts : List Expr} {kk : Nat} (hg : Gl X "zip") (hm : X.mg "zip" = none) (ha : PA X [e, e2] ta)
    (hs : starEach [e, e2] X.env = (false, eval e X.env) :: starEach [e2] X.env := by rfl) (hpl : (backTo pos (starEach [e2] X.env)).any (·.1) = false := by rfl) :
    PI X (.Tuple elts kk tpos) (.Call (.Name "zip" p) [e, e2] [] pos) (iZipT X.K ta) := by
  refine ⟨fun pins s σ H R I h => ?_⟩
  refine PyProof.Rows.Call_ (ld_blt I hg hm PyProof.Rows.boot_zip (PyProof.Rows.callWith_type1 (thn (ha.run pos pins s σ H _ I h) fun us s1 ⟨vs, H1, I1, r1, q1⟩ => ?_) hs hpl))
  obtain ⟨a, b, xs, ys, ex, hqx, hqy, q⟩ := q1
  subst ex
  cases r1 with
  | cons r rr =>
    cases rr with
    | cons r' rr =>
      cases rr
      cases r
      cases r'
      obtain ⟨its, rv, p1, _⟩ := I1.tuple hqx
      obtain ⟨its2, rv2, p2, _⟩ := I1.tuple hqy
      have la : a < s1.heap.objs.size := (by obtain ⟨_, q, _⟩ := p1; exact Heap.lt_size q)
      have lb : b < s1.heap.objs.size := (by obtain ⟨_, q, _⟩ := p2; exact Heap.lt_size q)
      refine zip_begins2 (begins_tuple a its.toArray) (begins_tuple b its2.toArray) p1 p2 fun h' hz hTI hTO h1 h2 hsz hk => wpAny_pyIter_zip hz ?_
      have I2 : Inv X pins σ H1 { s1 with heap := h' } := I1.kept (t' := s1.toks) hk
      have sep := zip_sep2 (N := s1.heap.objs.size) (fp1 := [a]) (fp2 := [b]) (fun c hc => by rw [List.mem_singleton.mp hc]; exact la) (fun c hc => by rw [List.mem_singleton.mp hc]; exact lb)
      refine ⟨s1.heap.objs.size + 4, [s1.heap.objs.size + 4, s1.heap.objs.size + 2, s1.heap.objs.size + 3, s1.heap.objs.size, s1.heap.objs.size + 1], _, _, H1, rfl, I2, turn_zipTT sep (Nat.ne_of_lt la) (Nat.ne_of_lt (Nat.lt_succ_of_lt lb)) xs.length ys.length,
        ⟨hz, hTI, ⟨_, _, hTO⟩, ⟨_, h1, rfl, rfl⟩, ⟨_, h2, rfl, rfl⟩, Nat.zero_le _, Nat.zero_le _⟩, fun c hcm => ?_, q⟩
      have e' : c = s1.heap.objs.size + 4 ∨ c = s1.heap.objs.size + 2 ∨ c = s1.heap.objs.size + 3 ∨ c = s1.heap.objs.size ∨ c = s1.heap.objs.size + 1 := by simpa using hcm
      have hle : s1.heap.objs.size ≤ c := by
        rcases e' with z | z | z | z | z
        · rw [z]; exact Nat.le_add_right _ _
        · rw [z]; exact Nat.le_add_right _ _
        · rw [z]; exact Nat.le_add_right _ _
        · rw [z]; exact Nat.le_refl _
        · rw [z]; exact Nat.le_add_right _ _
      exact I1.fpOk hle (I1.hok.fresh hle)
theorem serves_zipT {xs ys : List V} {ds es : List D} {a b : Addr} (h : SqT X.K B a xs) (hd : DVs X.K X.mg B m ds xs) (h' : SqT X.K B b ys) (he : DVs X.K X.mg B m es ys) : Serves X (ItzTT X.K a b xs.length ys.length) B m (zipL ds es) := by
  refine serves_new (x := fun _ v => v) (y := fun _ v => v) (f := fun _ => .non) ?_ ?_
  · intro B1 m1 st1 H1 hB hm s i d hi
    have hs : SqT X.K H1 a xs := s.sub.sqT (hB.sqT h)
    have hs' : SqT X.K H1 b ys := s.sub.sqT (hB.sqT h')
    rw [zipL_get] at hi
    cases hdi : ds[i]? with
    | none => rw [hdi] at hi; cases hi
    | some d0 =>
      cases hei : es[i]? with
      | none => rw [hdi, hei] at hi; cases hi
      | some e0 =>
        rw [hdi, hei] at hi
        cases hi
        obtain ⟨v, hv, dv⟩ := hd.get hdi
        obtain ⟨v', hv', dv'⟩ := he.get hei
        refine ⟨⟨xs, ys, v, v', hs, hs', rfl, rfl, hv, hv'⟩, fun u H2 hy => ?_⟩
        obtain ⟨T, x, y, e1, e2, e3, e4, e5⟩ := hy
        have e6 := e4 xs hs
        have e7 := e5 ys hs'
        rw [hv] at e6
        rw [hv'] at e7
        cases e6
        cases e7
        exact ⟨T, _, _, e1, e2, e3, rfl, .cons (dv.mono hB hm) (.cons (dv'.mono hB hm) .nil)⟩
  · intro B1 m1 st1 H1 hB hm s i hl
    rw [zipL_len] at hl
    have l1 := hd.length
    have l2 := he.length
    exact ⟨xs, ys, s.sub.sqT (hB.sqT h), s.sub.sqT (hB.sqT h'), rfl, rfl, by omega⟩
def zipA (x y : D) (st : Sto) : RA := match x, y with
  | .lst ds, .lst es => .ok (zipL ds es) st
  | .tup ds, .tup es => .ok (zipL ds es) st
  | _, _ => .stuck
def iZipE (a b : E) : EA := fun ρ st => (a ρ st).toA fun x st1 => (b ρ st1).toA fun y st2 => zipA x y st2
theorem i_zip {p pos tpos : Pos} {elts : List Expr} {kk : Nat} (hg : Gl X "zip") (hm : X.mg "zip" = none) (ha : SE X W a fa) (hb : SE X W b fb) (h1 : starEach [a, b] X.env = (false, eval a X.env) :: starEach [b] X.env := by rfl) (h2 : starEach [b] X.env = (false, eval b X.env) :: starEach [] X.env := by rfl)
    (hpl : (backTo pos (starEach [b] X.env)).any (·.1) = false := by rfl) :
    SI X W (.Tuple elts kk tpos) (.Call (.Name "zip" p) [a, b] [] pos) (iZipE fa fb) :=
  (PI.or (pi_zipL hg hm (pa_cons ha (pa_cons hb pa_nil h2) h1) h1 hpl) (pi_zipT hg hm (pa_cons ha (pa_cons hb pa_nil h2) h1) h1 hpl)).weak fun σ H R ⟨B, m, ρ, st, s, q⟩ => by
    unfold iZipE at q
    cases hf : fa ρ st with
    | exc x st1 => rw [hf] at q; exact .inl ⟨B, m, ρ, st, s, by rw [hf]; exact q⟩
    | stuck => rw [hf] at q; exact q.elim
    | ok d st1 =>
      rw [hf] at q
      have q : PostI X W B m H ρ σ R ((fb ρ st1).toA fun y st2 => zipA d y st2) := q
      cases hf2 : fb ρ st1 with
      | exc x st2 =>
        rw [hf2] at q
        refine .inl ⟨B, m, ρ, st, s, ?_⟩
        rw [hf]
        intro v B1 m1 H1 x1 s1 dv
        refine ⟨B1, m1, ρ, st1, s1, ?_⟩
        rw [hf2]
        exact PostX.ext x1 q
      | stuck => rw [hf2] at q; exact q.elim
      | ok e st2 =>
        rw [hf2] at q
        have q : PostI X W B m H ρ σ R (zipA d e st2) := q
        match d, e, q, hf, hf2 with
        | .lst ds, .lst es, q, hf, hf2 =>
          refine .inl ⟨B, m, ρ, st, s, ?_⟩
          rw [hf]
          intro v B1 m1 H1 x1 s1 dv
          refine ⟨B1, m1, ρ, st1, s1, ?_⟩
          rw [hf2]
          intro w B2 m2 H2 x2 s2 dw
          cases dv.mono x2.bb x2.mm with
          | lst h1 h2 =>
            cases dw with
            | lst k1 k2 => exact ⟨_, _, _, _, rfl, SqL.of (s2.sim.sub _ _ h1), SqL.of (s2.sim.sub _ _ k1), q _ B2 m2 H2 (x1.trans x2) s2 (serves_zipL (SqL.of h1) h2 (SqL.of k1) k2)⟩
        | .tup ds, .tup es, q, hf, hf2 =>
          refine .inr ⟨B, m, ρ, st, s, ?_⟩
          rw [hf]
          intro v B1 m1 H1 x1 s1 dv
          refine ⟨B1, m1, ρ, st1, s1, ?_⟩
          rw [hf2]
          intro w B2 m2 H2 x2 s2 dw
          cases dv.mono x2.bb x2.mm with
          | tup h1 h2 =>
            cases dw with
            | tup k1 k2 => exact ⟨_, _, _, _, rfl, s2.sim.sub.sqT h1, s2.sim.sub.sqT k1, q _ B2 m2 H2 (x1.trans x2) s2 (serves_zipT h1 h2 k1 k2)⟩
        | .lst _, .tup _, q, _, _ => exact q.elim
        | .lst _, .non, q, _, _ => exact q.elim
        | .lst _, .bl _, q, _, _ => exact q.elim
        | .lst _, .int _, q, _, _ => exact q.elim
        | .lst _, .str _, q, _, _ => exact q.elim
        | .lst _, .ref _, q, _, _ => exact q.elim
        | .lst _, .fn _, q, _, _ => exact q.elim
        | .lst _, .ty _, q, _, _ => exact q.elim
        | .lst _, .scr _, q, _, _ => exact q.elim
        | .tup _, .lst _, q, _, _ => exact q.elim
        | .tup _, .non, q, _, _ => exact q.elim
        | .tup _, .bl _, q, _, _ => exact q.elim
        | .tup _, .int _, q, _, _ => exact q.elim
        | .tup _, .str _, q, _, _ => exact q.elim
        | .tup _, .ref _, q, _, _ => exact q.elim
        | .tup _, .fn _, q, _, _ => exact q.elim
        | .tup _, .ty _, q, _, _ => exact q.elim
        | .tup _, .scr _, q, _, _ => exact q.elim
        | .non, _, q, _, _ => exact q.elim
        | .bl _, _, q, _, _ => exact q.elim
        | .int _, _, q, _, _ => exact q.elim
        | .str _, _, q, _, _ => exact q.elim
        | .ref _, _, q, _, _ => exact q.elim
        | .fn _, _, q, _, _ => exact q.elim
        | .ty _, _, q, _, _ => exact q.elim
        | .scr _, _, q, _, _ => exact q.elim
end
end L4
namespace L4
open PySem L2
/-! ### dicts of the store with keys ints and texts -/
section
variable {κ : Type} [DecidableEq κ]
def getK (kvs : List (κ × D)) (k : κ) : Option D := (kvs.find? fun kv => decide (kv.1 = k)).map (·.2)
def putKD (kvs : List (κ × D)) (k : κ) (d : D) : List (κ × D) :=
  if (kvs.any fun kv => decide (kv.1 = k)) = true then kvs.map (fun kv => if kv.1 = k then (kv.1, d) else kv) else kvs ++ [(k, d)]
variable {K : PySem.W.Frag} {mg : Str → Option Value} {B : Hp} {m : List Addr}
theorem DVd.length : ∀ {ds : List (κ × D)} {vs : List (κ × V)}, DVd K mg B m ds vs → ds.length = vs.length
  | _, _, .nil => rfl
  | _, _, .cons _ k => by simp [DVd.length k]
theorem DVd.any (k : κ) : ∀ {ds : List (κ × D)} {vs : List (κ × V)}, DVd K mg B m ds vs → (ds.any fun kv => decide (kv.1 = k)) = (vs.any fun kv => decide (kv.1 = k))
  | _, _, .nil => rfl
  | _, _, .cons _ h => by rw [List.any_cons, List.any_cons, DVd.any k h]
theorem DVd.val (k : κ) : ∀ {ds : List (κ × D)} {vs : List (κ × V)}, DVd K mg B m ds vs → (∃ d v, getK ds k = some d ∧ valV vs k = some v ∧ DV K mg B m d v) ∨ (getK ds k = none ∧ valV vs k = none)
  | _, _, .nil => .inr ⟨rfl, rfl⟩
  | _, _, .cons (k := j) (d := d) (v := v) (ds := ds) (vs := vs) hd h => by
    by_cases e : j = k
    · exact .inl ⟨d, v, by simp [getK, e], by simp [valV, e], hd⟩
    · have h1 : getK ((j, d) :: ds) k = getK ds k := by simp [getK, List.find?_cons, e]
      have h2 : valV ((j, v) :: vs) k = valV vs k := by simp [valV, List.find?_cons, e]
      rw [h1, h2]
      exact DVd.val k h
theorem DVd.mapK (k : κ) {d : D} {v : V} (hd : DV K mg B m d v) : ∀ {ds : List (κ × D)} {vs : List (κ × V)}, DVd K mg B m ds vs → DVd K mg B m (ds.map fun kv => if kv.1 = k then (kv.1, d) else kv) (vs.map fun kv => if kv.1 = k then (kv.1, v) else kv)
  | _, _, .nil => .nil
  | _, _, .cons (k := j) h1 h => by
    rw [List.map_cons, List.map_cons]
    by_cases e : j = k
    · rw [if_pos e, if_pos e]; exact .cons hd (DVd.mapK k hd h)
    · rw [if_neg e, if_neg e]; exact .cons h1 (DVd.mapK k hd h)
theorem DVd.snoc (k : κ) {d : D} {v : V} (hd : DV K mg B m d v) : ∀ {ds : List (κ × D)} {vs : List (κ × V)}, DVd K mg B m ds vs → DVd K mg B m (ds ++ [(k, d)]) (vs ++ [(k, v)])
  | _, _, .nil => .cons hd .nil
  | _, _, .cons h1 h => .cons h1 (DVd.snoc k hd h)
theorem DVd.put (k : κ) {d : D} {v : V} (hd : DV K mg B m d v) {ds : List (κ × D)} {vs : List (κ × V)} (h : DVd K mg B m ds vs) : DVd K mg B m (putKD ds k d) (putK vs k v) := by
  unfold putKD putK
  rw [h.any k]
  by_cases e : (vs.any fun kv => decide (kv.1 = k)) = true
  · rw [if_pos e, if_pos e]; exact h.mapK k hd
  · rw [if_neg e, if_neg e]; exact h.snoc k hd
end
def keyD : D → Option Key
  | .int i => some (.inl i)
  | .str x => some (.inr x)
  | _ => none
theorem keyD_of {K : PySem.W.Frag} {mg : Str → Option Value} {B : Hp} {m : List Addr} {d : D} {v : V} {k : Key} (h : DV K mg B m d v) (e : keyD d = some k) : v = kV k := by
  cases h <;> first | (cases e; rfl) | cases e
/-- the dict's pairs, the key -/
def dkOf (x y : D) (st : Sto) : Option (List (Key × D) × Key) := match x with
  | .ref n => (match st[n]?, keyD y with
    | some (.dK kvs), some k => some (kvs, k)
    | _, _ => none)
  | _ => none
def dinD (neg : Bool) (y x : D) (st : Sto) : Option D := match dkOf x y st with
  | some (kvs, k) => some (.bl (if neg = true then !(getK kvs k).isSome else (getK kvs k).isSome))
  | none => none
def dgetD (x y : D) (st : Sto) : Option D := match dkOf x y st with
  | some (kvs, k) => getK kvs k
  | none => none
def dputD (x y d : D) (st : Sto) : Option Sto := match x with
  | .ref n => (match st[n]?, keyD y with
    | some (.dK kvs), some k => if kvs.length < 1000000 then some (st.set n (.dK (putKD kvs k d))) else none
    | _, _ => none)
  | _ => none
def sDPutE (e o i : E) : S := fun ρ st => (e ρ st).toS ρ fun d st1 => (o ρ st1).toS ρ fun x st2 => (i ρ st2).toS ρ fun y st3 => match dputD x y d st3 with
  | some st4 => .nx ρ st4
  | none => .stuck
def eDictM : E := fun _ st => .ok (.ref st.length) (st ++ [.dK []])
section
variable {X : Cx} {W : WX} {B B' : Hp} {m m' : List Addr} {ρ : Rho} {st st' : Sto} {σ : St} {H H' : Hp} {Q : VK} {o e i : Expr} {fo fe fi : E}
theorem r_dnew {pos : Pos} : SE X W (.Dict [] [] pos) eDictM :=
  pe_dnewK.weak fun σ H Q ⟨B, m, ρ, st, s, q⟩ p hp =>
    q _ _ _ _ (s.sim.ext_newM hp) (s.mono (s.sim.ext_newM hp) (s.sim.newM hp ⟨s.sim.bnone hp, [], upd_same, .nil⟩)) (dv_newR s.sim)
theorem dk_at {x y : D} {u w : V} {kvs : List (Key × D)} {k : Key} (s : Sim X.K X.mg B m st H) (dx : DV X.K X.mg B m x u) (dy : DV X.K X.mg B m y w) (h : dkOf x y st = some (kvs, k)) :
    ∃ a xs, u = .ref a ∧ w = kV k ∧ H a = some (.dK xs) ∧ DVd X.K X.mg B m kvs xs := by
  unfold dkOf at h
  cases dx with
  | @ref n a hm =>
    dsimp only at h
    split at h
    · rename_i kvs' k' hn hk
      cases h
      obtain ⟨hB, zs, h1, h2⟩ := s.obj _ _ _ hm hn
      exact ⟨a, zs, rfl, keyD_of dy hk, h1, h2⟩
    · cases h
  | _ => cases h
def rDIn (neg : Bool) : R2 := fun y x H Q => ∃ a o, x = .ref a ∧ DGet H a y o ∧ Q (.bl (if neg = true then !o.isSome else o.isSome)) H
def rDGetI : R2 := fun x y H Q => ∃ a v, x = .ref a ∧ DGet H a y (some v) ∧ Q v H
theorem o_din (neg : Bool) : Op2 X (rDIn neg) (dinD neg) := fun B m st H y x w u d Q s dy dx hg k => by
  unfold dinD at hg
  cases h : dkOf x y st with
  | none => rw [h] at hg; cases hg
  | some p =>
    obtain ⟨kvs, key⟩ := p
    rw [h] at hg
    cases hg
    obtain ⟨a, xs, e1, e2, e3, dv⟩ := dk_at s dx dy h
    subst e1 e2
    refine ⟨a, _, rfl, DGet.k e3, ?_⟩
    rcases dv.val key with ⟨d, v, h1, h2, _⟩ | ⟨h1, h2⟩
    · rw [h2]
      rw [h1] at k
      exact done s (.bl _) k
    · rw [h2]
      rw [h1] at k
      exact done s (.bl _) k
theorem o_dget : Op2 X rDGetI dgetD := fun B m st H x y u w d Q s dx dy hg k => by
  unfold dgetD at hg
  cases h : dkOf x y st with
  | none => rw [h] at hg; cases hg
  | some p =>
    obtain ⟨kvs, key⟩ := p
    rw [h] at hg
    have hg : getK kvs key = some d := hg
    obtain ⟨a, xs, e1, e2, e3, dv⟩ := dk_at s dx dy h
    subst e1 e2
    rcases dv.val key with ⟨d', v, h1, h2, hd⟩ | ⟨h1, h2⟩
    · rw [hg] at h1
      cases h1
      exact ⟨a, v, rfl, by rw [← h2]; exact DGet.k e3, done s hd k⟩
    · rw [hg] at h1; cases h1
theorem din {pos : Pos} (hu : X.A.units + 64 < cLine) (hi : SE X W i fi) (ho : SE X W o fo) (hm : behindInMarks .In o = false := by first | exact nobehind _ (by decide) (by decide) | rfl) : SE X W (.Compare i [.In] [o] pos) (e2 (dinD false) fi fo) :=
  r_e2 (r := rDIn false) (fun a b => pe_cmp (pc_din (Nat.lt_of_le_of_lt (by omega) hu) a b) hm) (o_din false) hi ho
theorem dnotin {pos : Pos} (hu : X.A.units + 64 < cLine) (hi : SE X W i fi) (ho : SE X W o fo) (hm : behindInMarks .NotIn o = false := by first | exact nobehind _ (by decide) (by decide) | rfl) : SE X W (.Compare i [.NotIn] [o] pos) (e2 (dinD true) fi fo) :=
  r_e2 (r := rDIn true) (fun a b => pe_cmp (pc_dnotin (Nat.lt_of_le_of_lt (by omega) hu) a b) hm) (o_din true) hi ho
theorem tdin {pos : Pos} (hu : X.A.units + 64 < cLine) (hi : SE X W i fi) (ho : SE X W o fo) (hm : behindInMarks .In o = false := by first | exact nobehind _ (by decide) (by decide) | rfl) : ST X W (.Compare i [.In] [o] pos) (e2 (dinD false) fi fo) :=
  rt_e2 (r := rDIn false) (fun a b => pt_cmp (pc_din (Nat.lt_of_le_of_lt (by omega) hu) a b) hm) (o_din false) hi ho
theorem tdnotin {pos : Pos} (hu : X.A.units + 64 < cLine) (hi : SE X W i fi) (ho : SE X W o fo) (hm : behindInMarks .NotIn o = false := by first | exact nobehind _ (by decide) (by decide) | rfl) : ST X W (.Compare i [.NotIn] [o] pos) (e2 (dinD true) fi fo) :=
  rt_e2 (r := rDIn true) (fun a b => pt_cmp (pc_dnotin (Nat.lt_of_le_of_lt (by omega) hu) a b) hm) (o_din true) hi ho
theorem dget {pos : Pos} (hu : X.A.units + 64 < cLine) (ho : SE X W o fo) (hi : SE X W i fi) (hs : NoSl i := by intro _ _; rfl) : SE X W (.Subscript o i pos) (e2 dgetD fo fi) :=
  r_e2 (r := rDGetI) (fun a b => pe_dget (Nat.lt_of_le_of_lt (by omega) hu) a b hs) o_dget ho hi
theorem s_dput {pos pos' : Pos} (hu : X.A.units + 64 < cLine) (he : SE X W e fe) (ho : SE X W o fo) (hi : SE X W i fi) (hs : swapsWith e (some (.Subscript o i pos')) pos.line X.env = pure false := by rfl) :
    SS X W (.Assign [.Subscript o i pos'] e pos) (sDPutE fe fo fi) :=
  (ps_dput (Nat.lt_of_le_of_lt (by omega) hu) ho hi he hs).weak fun Dn σ H ⟨B, m, ρ, st, s, q⟩ => ⟨B, m, ρ, st, s, q.toE.mono fun v H1 ⟨B1, m1, st1, d, x1, s1, dv, q1⟩ =>
    ⟨B1, m1, ρ, st1, s1, q1.toE.mono fun w H2 ⟨B2, m2, st2, d2, x2, s2, dw, q2⟩ => ⟨B2, m2, ρ, st2, s2, q2.toE.mono fun z H3 ⟨B3, m3, st3, d3, x3, s3, dz, q3⟩ => by
      dsimp only at q3
      cases hp : dputD d2 d3 d st3 with
      | none => rw [hp] at q3; exact q3.elim
      | some st4 =>
        rw [hp] at q3
        dsimp only at q3
        have dw := dw.mono x3.bb x3.mm
        have dv := (dv.mono x2.bb x2.mm).mono x3.bb x3.mm
        unfold dputD at hp
        cases dw with
        | @ref n a' hm =>
          dsimp only at hp
          split at hp
          · rename_i kvs k hn hk
            split at hp
            · rename_i hl
              cases hp
              obtain ⟨hB, zs, h1, h2⟩ := s3.sim.obj _ _ _ hm hn
              have ek := keyD_of dz hk
              subst ek
              have e := ext_setM (B := B3) (H := H3) (o := .dK (putK zs k v)) hm
              have k' := s3.sim.setM (mo := .dK (putKD kvs k d)) hm hB ⟨hB, _, upd_same, h2.put k dv⟩
              exact ⟨a', _, rfl, DPut.k h1 (by rw [← h2.length]; exact lt_line (Nat.le_of_lt hl)), PostS.nx (s3.mono e k') (PostS.ext e q3)⟩
            · cases hp
          · cases hp
        | _ => cases hp⟩⟩⟩
end
end L4
namespace L4
open PySem L2
/-! ### plain: reckoning the combinators, the first part first -/
def rgOk (n : Int) : Bool := decide (n ≤ 1000000 ∧ -1000000 ≤ n)
theorem rgOk_of {n : Int} (h1 : -1000000 ≤ n) (h2 : n ≤ 1000000) : rgOk n = true := decide_eq_true ⟨h2, h1⟩
theorem rgOk_nat {n : Nat} (h2 : n ≤ 1000000) : rgOk (n : Int) = true := rgOk_of (by omega) (by omega)
@[simp] theorem rgOk_0 : rgOk 0 = true := rgOk_of (by decide) (by decide)
@[simp] theorem rgOk_1 : rgOk 1 = true := rgOk_of (by decide) (by decide)
@[simp] theorem rgOk_2 : rgOk 2 = true := rgOk_of (by decide) (by decide)
theorem rgOk_succ {n : Nat} (h2 : n < 1000000) : rgOk ((n : Int) + 1) = true := rgOk_of (by omega) (by omega)
def lenOk (n : Nat) : Bool := decide (n ≤ 1000000)
theorem lenOk_of {n : Nat} (h : n ≤ 1000000) : lenOk n = true := decide_eq_true h
def un1 (g : D → Sto → Option D) : RE → RE
  | .ok x st => RE.of (g x st) st | .exc x st => .exc x st | .stuck => .stuck
def bn' (g : D → D → Sto → Option D) (x : D) : RE → RE
  | .ok y st => RE.of (g x y st) st | .exc x st => .exc x st | .stuck => .stuck
def bn (g : D → D → Sto → Option D) (b : E) (ρ : Rho) : RE → RE
  | .ok x st => bn' g x (b ρ st) | .exc x st => .exc x st | .stuck => .stuck
def nN (g : List D → Sto → Option (D × Sto)) : RA → RE
  | .ok ds st => RE.of2 (g ds st) | .exc x st => .exc x st | .stuck => .stuck
def ac' (d : D) : RA → RA
  | .ok ds st => .ok (d :: ds) st | .exc x st => .exc x st | .stuck => .stuck
def ac (as : EA) (ρ : Rho) : RE → RA
  | .ok d st => ac' d (as ρ st) | .exc x st => .exc x st | .stuck => .stuck
def tp : RA → RE
  | .ok ds st => if ds.length ≤ 1000000 then .ok (.tup ds) st else .stuck | .exc x st => .exc x st | .stuck => .stuck
def lp : RA → RE
  | .ok ds st => if ds.length ≤ 1000000 then .ok (.lst ds) st else .stuck | .exc x st => .exc x st | .stuck => .stuck
def lpM : RA → RE
  | .ok ds st => if ds.length ≤ 1000000 then .ok (.ref st.length) (st ++ [.lst ds]) else .stuck | .exc x st => .exc x st | .stuck => .stuck
def ifE (a b : E) (ρ : Rho) : RE → RE
  | .ok (.bl true) st => a ρ st | .ok (.bl false) st => b ρ st | .ok _ _ => .stuck | .exc x st => .exc x st | .stuck => .stuck
def notE : RE → RE
  | .ok (.bl b) st => .ok (.bl (!b)) st | .ok _ _ => .stuck | .exc x st => .exc x st | .stuck => .stuck
def cl (F : List D → Sto → RE) : RA → RE
  | .ok ds st => callP F ds st | .exc x st => .exc x st | .stuck => .stuck
def clM (F : List D → Sto → RE) : RA → RE
  | .ok ds st => callM F ds st | .exc x st => .exc x st | .stuck => .stuck
def clN (F : List D → Sto → RE) : RA → RE
  | .ok ds st => callN F ds st | .exc x st => .exc x st | .stuck => .stuck
def clP (st0 : Sto) : RE → RE
  | .ok d _ => if nr 12 d = true then .ok d st0 else .stuck | .exc x _ => .exc x st0 | .stuck => .stuck
def thn' (b : S) : RS → RS
  | .nx ρ st => b ρ st | r => r
def st' (i : Nat) (ρ : Rho) : RE → RS
  | .ok d st => .nx (ρ.set i (some d)) st | .exc x st => .exc x ρ st | .stuck => .stuck
def rt' (ρ : Rho) : RE → RS
  | .ok d st => .rt d st | .exc x st => .exc x ρ st | .stuck => .stuck
def dr' (ρ : Rho) : RE → RS
  | .ok _ st => .nx ρ st | .exc x st => .exc x ρ st | .stuck => .stuck
def ifS (a b : S) (ρ : Rho) : RE → RS
  | .ok (.bl true) st => a ρ st | .ok (.bl false) st => b ρ st | .ok _ _ => .stuck | .exc x st => .exc x ρ st | .stuck => .stuck
def pr' (i j : Nat) (ρ : Rho) (x : D) : RE → RS
  | .ok y st => .nx ((ρ.set i (some x)).set j (some y)) st | .exc x st => .exc x ρ st | .stuck => .stuck
def pr (i j : Nat) (b : E) (ρ : Rho) : RE → RS
  | .ok x st => pr' i j ρ x (b ρ st) | .exc x st => .exc x ρ st | .stuck => .stuck
def asg' (ρ : Rho) (b : Bd) : RE → RS
  | .ok d st => (match b d ρ with | some ρ1 => .nx ρ1 st | none => .stuck) | .exc x st => .exc x ρ st | .stuck => .stuck
def fr' (b : Bd) (body : S) (ρ : Rho) : RA → RS
  | .ok items st => sForGo b body items ρ st | .exc x st => .exc x ρ st | .stuck => .stuck
def rg1' : RE → RA
  | .ok (.int n) st => if n ≤ 1000000 ∧ -1000000 ≤ n then .ok (rgD 0 n.toNat) st else .stuck | .ok _ _ => .stuck | .exc x st => .exc x st | .stuck => .stuck
def rg2' (i : Int) : RE → RA
  | .ok (.int j) st => if i ≤ 1000000 ∧ -1000000 ≤ i ∧ j ≤ 1000000 ∧ -1000000 ≤ j then .ok (rgD i (j - i).toNat) st else .stuck | .ok _ _ => .stuck | .exc x st => .exc x st | .stuck => .stuck
def rg2 (b : E) (ρ : Rho) : RE → RA
  | .ok (.int i) st => rg2' i (b ρ st) | .ok _ st => (match b ρ st with | .exc x st => .exc x st | _ => .stuck) | .exc x st => .exc x st | .stuck => .stuck
def sq' : RE → RA
  | .ok (.lst ds) st => .ok ds st | .ok (.tup ds) st => .ok ds st | .ok _ _ => .stuck | .exc x st => .exc x st | .stuck => .stuck
def lc' (fin : List D → Sto → RE) (b : Bd) (t f : E) (ρ0 : Rho) : RA → RE
  | .ok items st => if items.length ≤ 1000000 then lcGo b t f ρ0 fin items st [] else .stuck | .exc x st => .exc x st | .stuck => .stuck
def ch3 (g : D → D → Sto → Option D) (y : D) : RE → RE
  | .ok w st => RE.of (g y w st) st | .exc x st => .exc x st | .stuck => .stuck
def ch2 (g : D → D → Sto → Option D) (y : D) (c : E) (ρ : Rho) : RE → RE
  | .ok (.bl true) st => ch3 g y (c ρ st) | .ok (.bl false) st => .ok (.bl false) st | .ok _ _ => .stuck | .exc x st => .exc x st | .stuck => .stuck
def ch1 (g g' : D → D → Sto → Option D) (x : D) (c : E) (ρ : Rho) : RE → RE
  | .ok y st => ch2 g' y c ρ (RE.of (g x y st) st) | .exc x st => .exc x st | .stuck => .stuck
def ch0 (g g' : D → D → Sto → Option D) (b c : E) (ρ : Rho) : RE → RE
  | .ok x st => ch1 g g' x c ρ (b ρ st) | .exc x st => .exc x st | .stuck => .stuck
section
variable {g g' : D → D → Sto → Option D} {a b c : E} {as : EA} {ρ : Rho} {st : Sto} {i j : Nat} {F : List D → Sto → RE} {sa sb : S}
@[simp] theorem x_V : eV i ρ st = (match ρ[i]? with | some (some d) => .ok d st | _ => .stuck) := rfl
@[simp] theorem x_C {d : D} : eC d ρ st = .ok d st := rfl
@[simp] theorem x_1 {g : D → Sto → Option D} : e1 g a ρ st = un1 g (a ρ st) := by unfold e1; cases a ρ st <;> rfl
@[simp] theorem x_2 : e2 g a b ρ st = bn g b ρ (a ρ st) := by
  unfold e2
  cases a ρ st with
  | ok x st1 => show (b ρ st1).bind _ = bn' g x (b ρ st1); cases b ρ st1 <;> rfl
  | exc _ _ => rfl
  | stuck => rfl
@[simp] theorem x_N {g : List D → Sto → Option (D × Sto)} : eN g as ρ st = nN g (as ρ st) := by unfold eN; cases as ρ st <;> rfl
@[simp] theorem x_nil : aNil ρ st = .ok [] st := rfl
@[simp] theorem x_cons : aCons a as ρ st = ac as ρ (a ρ st) := by
  unfold aCons
  cases a ρ st with
  | ok x st1 => show _ = ac' x (as ρ st1); cases h : as ρ st1 <;> simp [h] <;> rfl
  | exc _ _ => rfl
  | stuck => rfl
@[simp] theorem x_tup : eTup as ρ st = tp (as ρ st) := by unfold eTup; cases as ρ st <;> rfl
@[simp] theorem x_lst : eLst as ρ st = lp (as ρ st) := by unfold eLst; cases as ρ st <;> rfl
@[simp] theorem x_lstM : eLstM as ρ st = lpM (as ρ st) := by unfold eLstM; cases as ρ st <;> rfl
@[simp] theorem x_ifE : eIf c a b ρ st = ifE a b ρ (c ρ st) := by
  unfold eIf; cases c ρ st with
  | ok d st1 => cases d <;> first | rfl | (rename_i k; cases k <;> rfl)
  | exc _ _ => rfl
  | stuck => rfl
@[simp] theorem x_and : eAnd a b ρ st = ifE b (eC (.bl false)) ρ (a ρ st) := by
  unfold eAnd; cases a ρ st with
  | ok d st1 => cases d <;> first | rfl | (rename_i k; cases k <;> rfl)
  | exc _ _ => rfl
  | stuck => rfl
@[simp] theorem x_or : eOr a b ρ st = ifE (eC (.bl true)) b ρ (a ρ st) := by
  unfold eOr; cases a ρ st with
  | ok d st1 => cases d <;> first | rfl | (rename_i k; cases k <;> rfl)
  | exc _ _ => rfl
  | stuck => rfl
@[simp] theorem x_not : eNot a ρ st = notE (a ρ st) := by
  unfold eNot; cases a ρ st with
  | ok d st1 => cases d <;> rfl
  | exc _ _ => rfl
  | stuck => rfl
@[simp] theorem x_call : eCall F as ρ st = cl F (as ρ st) := by unfold eCall; cases as ρ st <;> rfl
@[simp] theorem x_callM : eCallM F as ρ st = clM F (as ρ st) := by unfold eCallM; cases as ρ st <;> rfl
@[simp] theorem x_callN : eCallN F as ρ st = clN F (as ρ st) := by unfold eCallN; cases as ρ st <;> rfl
@[simp] theorem x_callP {ds : List D} : callP F ds st = if ds.all (nr 12) = true then clP st (F ds []) else .stuck := by
  unfold callP clP; split <;> rfl
@[simp] theorem x_chain : eChain g g' a b c ρ st = ch0 g g' b c ρ (a ρ st) := by
  unfold eChain
  cases a ρ st with
  | ok x st1 =>
    show (b ρ st1).bind _ = ch1 g g' x c ρ (b ρ st1)
    cases b ρ st1 with
    | ok y st2 =>
      show (RE.of (g x y st2) st2).bind _ = ch2 g' y c ρ (RE.of (g x y st2) st2)
      cases g x y st2 with
      | none => rfl
      | some z =>
        cases z with
        | bl k => cases k with
          | true => show (c ρ st2).bind _ = ch3 g' y (c ρ st2); cases c ρ st2 <;> rfl
          | false => rfl
        | _ => rfl
    | exc _ _ => rfl
    | stuck => rfl
  | exc _ _ => rfl
  | stuck => rfl
@[simp] theorem x_seq : sSeq sa sb ρ st = thn' sb (sa ρ st) := by unfold sSeq thn'; cases sa ρ st <;> rfl
@[simp] theorem x_nx : sNx ρ st = .nx ρ st := rfl
@[simp] theorem x_no : sNo ρ st = .stuck := rfl
@[simp] theorem x_set : sSet i a ρ st = st' i ρ (a ρ st) := by unfold sSet; cases a ρ st <;> rfl
@[simp] theorem x_ret : sRet a ρ st = rt' ρ (a ρ st) := by unfold sRet; cases a ρ st <;> rfl
@[simp] theorem x_retN : sRetN ρ st = .rt .non st := rfl
@[simp] theorem x_drop : sDrop a ρ st = dr' ρ (a ρ st) := by unfold sDrop; cases a ρ st <;> rfl
@[simp] theorem x_raise {x : Str} : sRaise x ρ st = .exc ⟨x⟩ ρ st := rfl
@[simp] theorem x_ifS : sIf c sa sb ρ st = ifS sa sb ρ (c ρ st) := by
  unfold sIf; cases c ρ st with
  | ok d st1 => cases d <;> first | rfl | (rename_i k; cases k <;> rfl)
  | exc _ _ => rfl
  | stuck => rfl
@[simp] theorem x_par : sPar i j a b ρ st = pr i j b ρ (a ρ st) := by
  unfold sPar
  cases a ρ st with
  | ok x st1 => show (b ρ st1).toS ρ _ = pr' i j ρ x (b ρ st1); cases b ρ st1 <;> rfl
  | exc _ _ => rfl
  | stuck => rfl
@[simp] theorem x_asg {bd : Bd} : sAsg a bd ρ st = asg' ρ bd (a ρ st) := by unfold sAsg; cases a ρ st <;> rfl
@[simp] theorem x_for {bd : Bd} {src : EA} : sFor src bd sa ρ st = fr' bd sa ρ (src ρ st) := by unfold sFor; cases src ρ st <;> rfl
@[simp] theorem x_rg1 : iRg1 a ρ st = rg1' (a ρ st) := by
  unfold iRg1; cases a ρ st with
  | ok d st1 => cases d <;> rfl
  | exc _ _ => rfl
  | stuck => rfl
@[simp] theorem x_rg2 : iRg2 a b ρ st = rg2 b ρ (a ρ st) := by
  unfold iRg2; cases a ρ st with
  | ok d st1 =>
    show (b ρ st1).toA _ = rg2 b ρ (.ok d st1)
    cases d with
    | int i => show _ = rg2' i (b ρ st1); cases b ρ st1 with
      | ok y st2 => cases y <;> rfl
      | exc _ _ => rfl
      | stuck => rfl
    | _ => (simp only [rg2]; cases b ρ st1 with
      | ok y st2 => cases y <;> rfl
      | exc _ _ => rfl
      | stuck => rfl)
  | exc _ _ => rfl
  | stuck => rfl
@[simp] theorem x_iseq : iSeq a ρ st = sq' (a ρ st) := by
  unfold iSeq; cases a ρ st with
  | ok d st1 => cases d <;> rfl
  | exc _ _ => rfl
  | stuck => rfl
@[simp] theorem x_lc {fin : List D → Sto → RE} {src : EA} {own : List Nat} {bd : Bd} : eLcB fin src own bd a b ρ st = lc' fin bd a b (wipeD ρ own) (src ρ st) := by unfold eLcB; cases src ρ st <;> rfl
@[simp] theorem x_bname {d : D} : bName i d ρ = some (ρ.set i (some d)) := rfl
@[simp] theorem x_fnil {bd : Bd} : sForGo bd sa [] ρ st = .nx ρ st := rfl
end
/-! .. and on -/
section
variable {g g' : D → D → Sto → Option D} {g1 : D → Sto → Option D} {gn : List D → Sto → Option (D × Sto)} {a b c : E} {as : EA} {ρ : Rho} {st st0 : Sto} {i j : Nat} {F : List D → Sto → RE} {sa sb : S} {x y d : D} {ds : List D} {ex : Exn} {bd : Bd} {fin : List D → Sto → RE} {k n : Int}
@[simp] theorem y_un : un1 g1 (.ok x st) = RE.of (g1 x st) st := rfl
@[simp] theorem y_bn : bn g b ρ (.ok x st) = bn' g x (b ρ st) := rfl
@[simp] theorem y_bn' : bn' g x (.ok y st) = RE.of (g x y st) st := rfl
@[simp] theorem y_of : RE.of (some d) st = .ok d st := rfl
@[simp] theorem y_of2 : RE.of2 (some (d, st)) = .ok d st := rfl
@[simp] theorem y_nN : nN gn (.ok ds st) = RE.of2 (gn ds st) := rfl
@[simp] theorem y_ac : ac as ρ (.ok d st) = ac' d (as ρ st) := rfl
@[simp] theorem y_ac' : ac' d (.ok ds st) = .ok (d :: ds) st := rfl
@[simp] theorem y_tp : tp (.ok ds st) = if ds.length ≤ 1000000 then .ok (.tup ds) st else .stuck := rfl
@[simp] theorem y_lp : lp (.ok ds st) = if ds.length ≤ 1000000 then .ok (.lst ds) st else .stuck := rfl
@[simp] theorem y_lpM : lpM (.ok ds st) = if ds.length ≤ 1000000 then .ok (.ref st.length) (st ++ [.lst ds]) else .stuck := rfl
@[simp] theorem y_ift : ifE a b ρ (.ok (.bl true) st) = a ρ st := rfl
@[simp] theorem y_iff : ifE a b ρ (.ok (.bl false) st) = b ρ st := rfl
@[simp] theorem y_not {k : Bool} : notE (.ok (.bl k) st) = .ok (.bl (!k)) st := rfl
@[simp] theorem y_cl : cl F (.ok ds st) = callP F ds st := rfl
@[simp] theorem y_clM : clM F (.ok ds st) = callM F ds st := rfl
@[simp] theorem y_clN : clN F (.ok ds st) = callN F ds st := rfl
@[simp] theorem y_clP : clP st0 (.ok d st) = if nr 12 d = true then .ok d st0 else .stuck := rfl
@[simp] theorem y_clPx : clP st0 (.exc ex st) = .exc ex st0 := rfl
@[simp] theorem y_thn : thn' sb (.nx ρ st) = sb ρ st := rfl
@[simp] theorem y_thr : thn' sb (.rt d st) = .rt d st := rfl
@[simp] theorem y_thx : thn' sb (.exc ex ρ st) = .exc ex ρ st := rfl
@[simp] theorem y_st : st' i ρ (.ok d st) = .nx (ρ.set i (some d)) st := rfl
@[simp] theorem y_rt : rt' ρ (.ok d st) = .rt d st := rfl
@[simp] theorem y_rtx : rt' ρ (.exc ex st) = .exc ex ρ st := rfl
@[simp] theorem y_dr : dr' ρ (.ok d st) = .nx ρ st := rfl
@[simp] theorem y_drx : dr' ρ (.exc ex st) = .exc ex ρ st := rfl
@[simp] theorem y_ifst : ifS sa sb ρ (.ok (.bl true) st) = sa ρ st := rfl
@[simp] theorem y_ifsf : ifS sa sb ρ (.ok (.bl false) st) = sb ρ st := rfl
@[simp] theorem y_pr : pr i j b ρ (.ok x st) = pr' i j ρ x (b ρ st) := rfl
@[simp] theorem y_pr' : pr' i j ρ x (.ok y st) = .nx ((ρ.set i (some x)).set j (some y)) st := rfl
@[simp] theorem y_asg : asg' ρ bd (.ok d st) = (match bd d ρ with | some ρ1 => .nx ρ1 st | none => .stuck) := rfl
@[simp] theorem y_fr : fr' bd sa ρ (.ok ds st) = sForGo bd sa ds ρ st := rfl
@[simp] theorem y_rg1 : rg1' (.ok (.int n) st) = if rgOk n = true then .ok (rgD 0 n.toNat) st else .stuck := by
  show (if n ≤ 1000000 ∧ -1000000 ≤ n then RA.ok (rgD 0 n.toNat) st else RA.stuck) = _
  unfold rgOk
  by_cases h : n ≤ 1000000 ∧ -1000000 ≤ n
  · rw [if_pos h, if_pos (decide_eq_true h)]
  · rw [if_neg h, if_neg (fun z => h (of_decide_eq_true z))]
@[simp] theorem y_rg2 : rg2 b ρ (.ok (.int k) st) = rg2' k (b ρ st) := rfl
@[simp] theorem y_rg2' : rg2' k (.ok (.int n) st) = if rgOk k = true ∧ rgOk n = true then .ok (rgD k (n - k).toNat) st else .stuck := by
  have e : (k ≤ 1000000 ∧ -1000000 ≤ k ∧ n ≤ 1000000 ∧ -1000000 ≤ n) ↔ (rgOk k = true ∧ rgOk n = true) := by
    unfold rgOk
    rw [decide_eq_true_iff, decide_eq_true_iff]
    exact ⟨fun ⟨a, b, c, d⟩ => ⟨⟨a, b⟩, c, d⟩, fun ⟨⟨a, b⟩, c, d⟩ => ⟨a, b, c, d⟩⟩
  show (if k ≤ 1000000 ∧ -1000000 ≤ k ∧ n ≤ 1000000 ∧ -1000000 ≤ n then RA.ok (rgD k (n - k).toNat) st else RA.stuck) = _
  by_cases h : rgOk k = true ∧ rgOk n = true
  · rw [if_pos h, if_pos (e.mpr h)]
  · rw [if_neg h, if_neg (fun z => h (e.mp z))]
@[simp] theorem y_sql : sq' (.ok (.lst ds) st) = .ok ds st := rfl
@[simp] theorem y_sqt : sq' (.ok (.tup ds) st) = .ok ds st := rfl
@[simp] theorem y_lc : lc' fin bd a b ρ (.ok ds st) = if lenOk ds.length = true then lcGo bd a b ρ fin ds st [] else .stuck := by
  show (if ds.length ≤ 1000000 then lcGo bd a b ρ fin ds st [] else .stuck) = _
  unfold lenOk
  by_cases h : ds.length ≤ 1000000
  · rw [if_pos h, if_pos (decide_eq_true h)]
  · rw [if_neg h, if_neg (by simpa using h)]
@[simp] theorem y_ch0 : ch0 g g' b c ρ (.ok x st) = ch1 g g' x c ρ (b ρ st) := rfl
@[simp] theorem y_ch1 : ch1 g g' x c ρ (.ok y st) = ch2 g' y c ρ (RE.of (g x y st) st) := rfl
@[simp] theorem y_ch2t : ch2 g y c ρ (.ok (.bl true) st) = ch3 g y (c ρ st) := rfl
@[simp] theorem y_ch2f : ch2 g y c ρ (.ok (.bl false) st) = .ok (.bl false) st := rfl
@[simp] theorem y_ch3 : ch3 g y (.ok x st) = RE.of (g y x st) st := rfl
end
/-! operators on ints -/
section
variable {i j : Int} {st : Sto}
@[simp] theorem z_add : addD (.int i) (.int j) st = some (.int (i + j)) := rfl
@[simp] theorem z_sub : subD (.int i) (.int j) st = some (.int (i - j)) := rfl
@[simp] theorem z_mul : mulD (.int i) (.int j) st = if i.natAbs.log2 + j.natAbs.log2 < 100000000 then some (.int (i * j)) else none := rfl
@[simp] theorem z_fdiv : fdivD (.int i) (.int j) st = if j ≠ 0 ∧ j.natAbs.log2 < 9000 then some (.int (i.fdiv j)) else none := rfl
@[simp] theorem z_mod : modD (.int i) (.int j) st = if j ≠ 0 then some (.int (i.fmod j)) else none := rfl
@[simp] theorem z_shl : shlD (.int i) (.int j) st = if 0 ≤ j ∧ j ≤ 1000000 ∧ i.natAbs < 18446744073709551616 then some (.int (i * 2 ^ j.toNat)) else none := rfl
@[simp] theorem z_neg : negD (.int i) st = some (.int (-i)) := rfl
@[simp] theorem z_lt : ltD (.int i) (.int j) st = some (.bl (decide (i < j))) := rfl
@[simp] theorem z_le : leD (.int i) (.int j) st = some (.bl (decide (i ≤ j))) := rfl
@[simp] theorem z_gt : gtD (.int i) (.int j) st = some (.bl (decide (j < i))) := rfl
@[simp] theorem z_ge : geD (.int i) (.int j) st = some (.bl (decide (j ≤ i))) := rfl
@[simp] theorem z_eq : eqD (.int i) (.int j) st = some (.bl (decide (i = j))) := by
  unfold eqD
  simp [shp, eqvN, eqLeaf, Bool.beq_eq_decide_eq]
@[simp] theorem z_ne : neD (.int i) (.int j) st = some (.bl (!decide (i = j))) := by
  unfold neD
  simp [shp, eqvN, eqLeaf, Bool.beq_eq_decide_eq]
@[simp] theorem z_eqb {p q : Bool} : eqD (.bl p) (.bl q) st = some (.bl (p == q)) := by
  unfold eqD
  simp [shp, eqvN, eqLeaf]
@[simp] theorem z_neb {p q : Bool} : neD (.bl p) (.bl q) st = some (.bl (!(p == q))) := by
  unfold neD
  simp [shp, eqvN, eqLeaf]
@[simp] theorem z_nri {n : Nat} : nr n (.int i) = true := by cases n <;> rfl
@[simp] theorem z_nrb {n : Nat} {b : Bool} : nr n (.bl b) = true := by cases n <;> rfl
@[simp] theorem z_nrn {n : Nat} : nr n .non = true := by cases n <;> rfl
@[simp] theorem z_nrt {n : Nat} {ds : List D} : nr (n + 1) (.tup ds) = ds.all (nr n) := rfl
@[simp] theorem z_nrl {n : Nat} {ds : List D} : nr (n + 1) (.lst ds) = ds.all (nr n) := rfl
end
theorem get_set_self {α : Type} {l : List α} {i : Nat} {x y : α} (h : l[i]? = some y) : (l.set i x)[i]? = some x := by
  rw [List.getElem?_set_self]
  exact (List.getElem?_eq_some_iff.mp h).1
theorem get_set_ne {α : Type} {l : List α} {i j : Nat} {x : α} (h : i ≠ j) : (l.set i x)[j]? = l[j]? := List.getElem?_set_ne h
/-- Euclid's loop -/
theorem while_gcd {c : E} {body : S} {i j : Nat} (hij : i ≠ j) (st : Sto) {MA MB : Nat} (hM : MB ≤ MA) (hc : ∀ (ρ : Rho) (y : Nat), ρ[j]? = some (some (.int y)) → c ρ st = .ok (.bl (decide (0 < y))) st)
    (hb : ∀ (ρ : Rho) (x y : Nat), ρ[i]? = some (some (.int x)) → ρ[j]? = some (some (.int y)) → 0 < y → x ≤ MA → y ≤ MB → body ρ st = .nx ((ρ.set i (some (.int y))).set j (some (.int (x % y : Nat)))) st) :
    ∀ (y x n : Nat) (ρ : Rho), y < n → x ≤ MA → y ≤ MB → ρ[i]? = some (some (.int x)) → ρ[j]? = some (some (.int y)) → sWhile c body n ρ st = .nx ((ρ.set i (some (.int (Nat.gcd x y : Nat)))).set j (some (.int 0))) st := fun y => by
  induction y using Nat.strongRecOn with
  | ind y ih =>
    intro x n ρ hn hxM hyM hi hj
    cases n with
    | zero => omega
    | succ n =>
      unfold sWhile
      rw [hc ρ y hj]
      by_cases hy : 0 < y
      · simp only [RE.toS, decide_eq_true hy]
        rw [hb ρ x y hi hj hy hxM hyM]
        dsimp only
        have hlt : x % y < y := Nat.mod_lt _ hy
        have h1 : ((ρ.set i (some (D.int y))).set j (some (.int (x % y : Nat))))[i]? = some (some (.int y)) := by
          rw [get_set_ne (Ne.symm hij), get_set_self hi]
        have h2 : ((ρ.set i (some (D.int y))).set j (some (.int (x % y : Nat))))[j]? = some (some (.int (x % y : Nat))) := by
          rw [get_set_self (y := some (.int y)) (by rw [get_set_ne hij]; exact hj)]
        rw [ih (x % y) hlt y n _ (by omega) (by omega) (by omega) h1 h2]
        congr 1
        rw [List.set_comm _ _ (Ne.symm hij), List.set_set, List.set_set]
        rw [show Nat.gcd y (x % y) = Nat.gcd x y by rw [Nat.gcd_comm x y, Nat.gcd_rec y x, Nat.gcd_comm]]
      · have e : y = 0 := by omega
        subst e
        simp only [RE.toS, decide_eq_false hy]
        congr 1
        rw [Nat.gcd_zero_right, set_self hi]
        exact (set_self hj).symm
@[simp] theorem fmod_nat (x y : Nat) : ((x : Int).fmod (y : Int)) = ((x % y : Nat) : Int) := by
  rw [Int.fmod_eq_emod_of_nonneg _ (Int.natCast_nonneg y)]
  rfl
@[simp] theorem fdiv_nat (x y : Nat) : ((x : Int).fdiv (y : Int)) = ((x / y : Nat) : Int) := by
  rw [Int.fdiv_eq_ediv_of_nonneg _ (Int.natCast_nonneg y)]
  rfl
theorem pow_lt' {a b : Nat} (n : Nat) (h : a < 2 ^ b) (hb : b ≤ n) : a < 2 ^ n := Nat.lt_of_lt_of_le h (Nat.pow_le_pow_right (by decide) hb)
theorem log_lt {n k : Nat} (h : n < 2 ^ k) (hk : 0 < k) : n.log2 < k := by
  by_cases h0 : n = 0
  · subst h0; simpa using hk
  · exact (Nat.log2_lt h0).mpr h
theorem absn (x : Int) : (if x < 0 then -x else x) = (x.natAbs : Int) := by split <;> omega
@[simp] theorem z_abs {i : Int} {st : Sto} : g0 absD [.int i] st = some (.int (i.natAbs : Int), st) := by
  simp only [g0, absD]
  rw [absn]
@[simp] theorem x_mkF {np nl : Nat} {g : S} {ds : List D} {st : Sto} : mkF np nl g ds st = if ds.length = np then (match g (ds.map some ++ List.replicate (nl - np) none) st with
  | .rt d st' => .ok d st'
  | .nx _ st' => .ok .non st'
  | .exc x _ st' => .exc x st'
  | _ => .stuck) else .stuck := rfl
end L4
namespace L4
open PySem L2
theorem fn_rt {np nl : Nat} {g : S} {ds : List D} {st st' : Sto} {d : D} (hl : ds.length = np) (h : g (ds.map some ++ List.replicate (nl - np) none) st = .rt d st') : mkF np nl g ds st = .ok d st' := by
  rw [x_mkF, if_pos hl, h]
def pt3 (ρ : Rho) (d x : D) : RE → RS
  | .ok y st => (match putD x y d st with | some st4 => .nx ρ st4 | none => .stuck) | .exc x st => .exc x ρ st | .stuck => .stuck
def pt2 (i : E) (ρ : Rho) (d : D) : RE → RS
  | .ok x st => pt3 ρ d x (i ρ st) | .exc x st => .exc x ρ st | .stuck => .stuck
def pt1 (o i : E) (ρ : Rho) : RE → RS
  | .ok d st => pt2 i ρ d (o ρ st) | .exc x st => .exc x ρ st | .stuck => .stuck
section
variable {e o i : E} {ρ : Rho} {st st4 : Sto} {d x y : D} {ds : List D} {j : Int}
@[simp] theorem x_put : sPut e o i ρ st = pt1 o i ρ (e ρ st) := by
  unfold sPut
  cases e ρ st with
  | ok d st1 =>
    show (o ρ st1).toS ρ _ = pt2 i ρ d (o ρ st1)
    cases o ρ st1 with
    | ok x st2 => show (i ρ st2).toS ρ _ = pt3 ρ d x (i ρ st2); cases i ρ st2 <;> rfl
    | exc _ _ => rfl
    | stuck => rfl
  | exc _ _ => rfl
  | stuck => rfl
@[simp] theorem y_pt1 : pt1 o i ρ (.ok d st) = pt2 i ρ d (o ρ st) := rfl
@[simp] theorem y_pt2 : pt2 i ρ d (.ok x st) = pt3 ρ d x (i ρ st) := rfl
theorem y_pt3 (h : putD x y d st = some st4) : pt3 ρ d x (.ok y st) = .nx ρ st4 := by unfold pt3; dsimp only; rw [h]
@[simp] theorem z_ixt : ixD (.tup ds) (.int j) st = atI ds j := rfl
@[simp] theorem z_ixl : ixD (.lst ds) (.int j) st = atI ds j := rfl
end
theorem z_ixr {n : Nat} {st : Sto} {ds : List D} {j : Int} (h : st[n]? = some (.lst ds)) : ixD (.ref n) (.int j) st = atI ds j := by
  simp only [ixD, listOf, h]
theorem ixN_nat {n i : Nat} (h : i < n) : ixN n (i : Int) = some i := by
  unfold ixN
  rw [if_pos (Int.natCast_nonneg i), if_pos (by omega)]
  rfl
theorem at_nat {α : Type} {ds : List α} {i : Nat} (h : i < ds.length) : atI ds (i : Int) = ds[i]? := by
  unfold atI
  rw [ixN_nat h]
  rfl
@[simp] theorem at_0 {α : Type} {a : α} {ds : List α} : atI (a :: ds) 0 = some a := at_nat (i := 0) (by simp)
@[simp] theorem at_1 {α : Type} {a b : α} {ds : List α} : atI (a :: b :: ds) 1 = some b := at_nat (i := 1) (by simp)
@[simp] theorem at_2 {α : Type} {a b c : α} {ds : List α} : atI (a :: b :: c :: ds) 2 = some c := at_nat (i := 2) (by simp)
@[simp] theorem at_3 {α : Type} {a b c d : α} {ds : List α} : atI (a :: b :: c :: d :: ds) 3 = some d := at_nat (i := 3) (by simp)
/-! types -/
theorem z_isi {x : D} {u t : String} {b : Bool} {st : Sto} (h1 : tyOf x st = some t) (h2 : isOne t u = some b) : g0 isiD [x, .ty u] st = some (.bl b, st) := by
  simp only [g0, isiD, h1, h2]
section
variable {i : Int} {st : Sto} {k : Bool} {ds : List D} {z : Str}
@[simp] theorem z_isi_ii : g0 isiD [.int i, .ty "int"] st = some (.bl true, st) := z_isi rfl (by decide +kernel)
@[simp] theorem z_isi_ib : g0 isiD [.int i, .ty "bool"] st = some (.bl false, st) := z_isi rfl (by decide +kernel)
@[simp] theorem z_isi_is : g0 isiD [.int i, .ty "str"] st = some (.bl false, st) := z_isi rfl (by decide +kernel)
@[simp] theorem z_isi_it : g0 isiD [.int i, .ty "tuple"] st = some (.bl false, st) := z_isi rfl (by decide +kernel)
@[simp] theorem z_isi_il : g0 isiD [.int i, .ty "list"] st = some (.bl false, st) := z_isi rfl (by decide +kernel)
@[simp] theorem z_isi_tt : g0 isiD [.tup ds, .ty "tuple"] st = some (.bl true, st) := z_isi rfl (by decide +kernel)
@[simp] theorem z_isi_tl : g0 isiD [.tup ds, .ty "list"] st = some (.bl false, st) := z_isi rfl (by decide +kernel)
@[simp] theorem z_isi_ti : g0 isiD [.tup ds, .ty "int"] st = some (.bl false, st) := z_isi rfl (by decide +kernel)
@[simp] theorem z_isi_tb : g0 isiD [.tup ds, .ty "bool"] st = some (.bl false, st) := z_isi rfl (by decide +kernel)
@[simp] theorem z_isi_lt : g0 isiD [.lst ds, .ty "tuple"] st = some (.bl false, st) := z_isi rfl (by decide +kernel)
@[simp] theorem z_isi_ll : g0 isiD [.lst ds, .ty "list"] st = some (.bl true, st) := z_isi rfl (by decide +kernel)
@[simp] theorem z_isi_bb : g0 isiD [.bl k, .ty "bool"] st = some (.bl true, st) := z_isi rfl (by decide +kernel)
@[simp] theorem z_isi_bi : g0 isiD [.bl k, .ty "int"] st = some (.bl true, st) := z_isi rfl (by decide +kernel)
@[simp] theorem z_isi_bt : g0 isiD [.bl k, .ty "tuple"] st = some (.bl false, st) := z_isi rfl (by decide +kernel)
@[simp] theorem z_isi_bls : g0 isiD [.bl k, .ty "list"] st = some (.bl false, st) := z_isi rfl (by decide +kernel)
@[simp] theorem z_lent : g0 lenD [.tup ds] st = some (.int (ds.length : Int), st) := rfl
@[simp] theorem z_lenl : g0 lenD [.lst ds] st = some (.int (ds.length : Int), st) := rfl
@[simp] theorem z_inti : g0 intD [.int i] st = some (.int i, st) := rfl
@[simp] theorem z_tupt : g0 tupleD [.tup ds] st = some (.tup ds, st) := rfl
@[simp] theorem z_tupl : g0 tupleD [.lst ds] st = some (.tup ds, st) := rfl
@[simp] theorem z_lstt : g0 listD [.tup ds] st = some (.lst ds, st) := rfl
@[simp] theorem z_lstl : g0 listD [.lst ds] st = some (.lst ds, st) := rfl
@[simp] theorem z_max {j : Int} : g0 max2D [.int i, .int j] st = some (.int (max i j), st) := by
  have : (if j > i then j else i) = max i j := by split <;> omega
  simp only [g0, max2D, this]
@[simp] theorem z_min {j : Int} : g0 min2D [.int i, .int j] st = some (.int (min i j), st) := by
  have : (if j < i then j else i) = min i j := by split <;> omega
  simp only [g0, min2D, this]
@[simp] theorem z_ison : isD (.int i) .non st = some (.bl false) := rfl
@[simp] theorem z_revt : revD (.tup ds) st = some (.tup ds.reverse) := rfl
@[simp] theorem z_revl : revD (.lst ds) st = some (.lst ds.reverse) := rfl
end
theorem tyOf_ref {n : Nat} {st : Sto} {ds : List D} (h : st[n]? = some (.lst ds)) : tyOf (.ref n) st = some "list" := by simp only [tyOf, h]
/-! drawing from the script -/
def drawA : S := (sIf (eAnd (e2 eqD (e2 ixD (eV 0) (eC (.int 2))) (eC (.int 0))) (e2 ltD (e2 ixD (eV 0) (eC (.int 1))) (eN (g0 lenD) (aCons (e2 ixD (eV 0) (eC (.int 0))) aNil)))) (sSeq (sSet 2 (e2 ixD (e2 ixD (eV 0) (eC (.int 0))) (e2 ixD (eV 0) (eC (.int 1)))))
    (sSeq (sPut (e2 addD (e2 ixD (eV 0) (eC (.int 1))) (eC (.int 1))) (eV 0) (eC (.int 1)))
    (sSeq (sIf (e2 geD (eV 2) (e2 powD (eC (.int 10)) (eC (.int 18)))) (sPut (eV 2) (eV 0) (eC (.int 2))) sNx)
    (sPut (e2 modD (eN (g0 intD) (aCons (e2 addD (e2 addD (e2 mulD (e2 ixD (eV 0) (eC (.int 3))) (eC (.int 48271))) (eV 2)) (eC (.int 13))) aNil)) (eC (.int 2147483647))) (eV 0) (eC (.int 3)))))) sNx)
def drawB : S := (sSeq (sIf (e2 gtD (e2 ixD (eV 0) (eC (.int 2))) (eC (.int 0))) (sSeq (sSet 3 (e2 modD (eN (g0 intD) (aCons (e2 ixD (eV 0) (eC (.int 2))) aNil)) (eV 1)))
    (sSeq (sPut (e2 fdivD (e2 ixD (eV 0) (eC (.int 2))) (eV 1)) (eV 0) (eC (.int 2)))
    (sRet (eV 3)))) sNx)
    (sSeq (sPut (e2 modD (eN (g0 intD) (aCons (e2 addD (e2 mulD (e2 ixD (eV 0) (eC (.int 3))) (eC (.int 69621))) (eC (.int 7))) aNil)) (eC (.int 2147483629))) (eV 0) (eC (.int 3)))
    (sRet (e2 modD (eN (g0 intD) (aCons (e2 fdivD (e2 ixD (eV 0) (eC (.int 3))) (eC (.int 11))) aNil)) (eV 1)))))
def drawF : List D → Sto → RE := mkF 2 4 (sSeq drawA drawB)
def stD (ns : List Int) (p : Nat) (c l : Int) : MO := .lst [.lst (ns.map .int), .int p, .int c, .int l]
def lB (l : Int) : Prop := 0 ≤ l ∧ l < 4294967296
theorem lB_log {l : Int} (h : lB l) {k : Int} (hk : k.natAbs.log2 < 40) : l.natAbs.log2 + k.natAbs.log2 < 100000000 := by
  have : l.natAbs < 2 ^ 32 := by obtain ⟨h1, h2⟩ := h; omega
  have := log_lt this (by decide)
  omega
theorem lB_mod {x k : Int} (h0 : 0 < k) (h : k < 4294967296) : lB (x.fmod k) := ⟨Int.fmod_nonneg_of_pos _ h0, Int.lt_trans (Int.fmod_lt_of_pos _ h0) h⟩
theorem put_3 {a b c e d : D} : putD (.ref 0) (.int 3) d [.lst [a, b, c, e]] = some [.lst [a, b, c, d]] := rfl
theorem put_2 {a b c e d : D} : putD (.ref 0) (.int 2) d [.lst [a, b, c, e]] = some [.lst [a, b, d, e]] := rfl
theorem put_1 {a b c e d : D} : putD (.ref 0) (.int 1) d [.lst [a, b, c, e]] = some [.lst [a, d, c, e]] := rfl
theorem ix_00 {ds : List D} {j : Int} : ixD (.ref 0) (.int j) [.lst ds] = atI ds j := rfl
theorem z_pow10 {st : Sto} : powD (.int 10) (.int 18) st = some (.int 1000000000000000000) := by rfl
theorem drawA_eq (ns : List Int) (p : Nat) (c l n : Int) (hl : lB l) : ∃ x p' c' l', drawA [some (.ref 0), some (.int n), none, none] [stD ns p c l] = .nx [some (.ref 0), some (.int n), x, none] [stD ns p' c' l'] ∧ lB l' := by
  by_cases h : c = 0 ∧ p < ns.length
  · obtain ⟨rfl, hp⟩ := h
    have hg : (ns.map D.int)[p]? = some (.int ns[p]) := by rw [List.getElem?_map, List.getElem?_eq_getElem hp]; rfl
    have ha : atI (ns.map D.int) (p : Int) = some (.int ns[p]) := by rw [at_nat (by simpa using hp), hg]
    have hm := lB_log hl (k := 48271) (by decide)
    have hd : decide ((p : Int) < (ns.length : Int)) = true := decide_eq_true (by omega)
    by_cases hb : 1000000000000000000 ≤ ns[p]
    · refine ⟨some (.int ns[p]), p + 1, ns[p], Int.fmod (l * 48271 + ns[p] + 13) 2147483647, ?_, lB_mod (by decide) (by decide)⟩
      unfold drawA stD
      simp -implicitDefEqProofs only [x_ifS, x_and, x_2, x_V, x_C, x_N, x_cons, x_nil, x_seq, x_set, x_put, x_nx, List.getElem?_cons_zero, List.getElem?_cons_succ, y_bn, y_bn', ix_00, z_ixl, at_0, at_1, at_2, at_3, y_of, z_eq, decide_true, y_ift, y_ac, y_ac', y_nN, z_lenl, List.length_map, y_of2, z_lt, hd, y_ifst, ha, y_st, List.set_cons_succ, List.set_cons_zero, y_thn, z_add, y_pt1, y_pt2, y_pt3 put_1, y_pt3 put_2, y_pt3 put_3, z_pow10, z_ge, decide_eq_true hb, z_mul, if_pos hm, z_inti, z_mod]
      rfl
    · refine ⟨some (.int ns[p]), p + 1, 0, Int.fmod (l * 48271 + ns[p] + 13) 2147483647, ?_, lB_mod (by decide) (by decide)⟩
      unfold drawA stD
      simp -implicitDefEqProofs only [x_ifS, x_and, x_2, x_V, x_C, x_N, x_cons, x_nil, x_seq, x_set, x_put, x_nx, List.getElem?_cons_zero, List.getElem?_cons_succ, y_bn, y_bn', ix_00, z_ixl, at_0, at_1, at_2, at_3, y_of, z_eq, decide_true, y_ift, y_ac, y_ac', y_nN, z_lenl, List.length_map, y_of2, z_lt, hd, y_ifst, y_ifsf, ha, y_st, List.set_cons_succ, List.set_cons_zero, y_thn, z_add, y_pt1, y_pt2, y_pt3 put_1, y_pt3 put_2, y_pt3 put_3, z_pow10, z_ge, decide_eq_false hb, z_mul, if_pos hm, z_inti, z_mod]
      rfl
  · refine ⟨none, p, c, l, ?_, hl⟩
    unfold drawA stD
    by_cases hc : c = 0
    · have hd : decide ((p : Int) < (ns.length : Int)) = false := decide_eq_false (by omega)
      subst hc
      simp -implicitDefEqProofs only [x_ifS, x_and, x_2, x_V, x_C, x_N, x_cons, x_nil, x_seq, x_set, x_put, x_nx, List.getElem?_cons_zero, List.getElem?_cons_succ, y_bn, y_bn', ix_00, z_ixl, at_0, at_1, at_2, at_3, y_of, z_eq, decide_true, y_ift, y_ac, y_ac', y_nN, z_lenl, List.length_map, y_of2, z_lt, hd, y_ifst, y_ifsf]
    · simp -implicitDefEqProofs only [x_ifS, x_and, x_2, x_V, x_C, x_N, x_cons, x_nil, x_seq, x_set, x_put, x_nx, List.getElem?_cons_zero, List.getElem?_cons_succ, y_bn, y_bn', ix_00, z_ixl, at_0, at_1, at_2, at_3, y_of, z_eq, decide_eq_false hc, y_ift, y_iff, y_ifsf]
theorem drawB_eq (ns : List Int) (p : Nat) (c l n : Int) (x : Option D) (hl : lB l) (h0 : 0 < n) (hn : n < 4294967296) : ∃ v p' c' l', drawB [some (.ref 0), some (.int n), x, none] [stD ns p c l] = .rt (.int (v : Nat)) [stD ns p' c' l'] ∧ (v : Int) < n ∧ lB l' := by
  have nl : n.natAbs.log2 < 9000 := log_lt (pow_lt' 9000 (b := 32) (by omega) (by decide)) (by decide)
  have nd : n ≠ 0 := by omega
  by_cases h : 0 < c
  · have h1 : 0 ≤ c.fmod n := Int.fmod_nonneg_of_pos _ h0
    have h2 : c.fmod n < n := Int.fmod_lt_of_pos _ h0
    have h3 : ((c.fmod n).toNat : Int) = c.fmod n := Int.toNat_of_nonneg h1
    refine ⟨(c.fmod n).toNat, p, c.fdiv n, l, ?_, by omega, hl⟩
    rw [h3]
    unfold drawB stD
    simp -implicitDefEqProofs only [x_ifS, x_and, x_2, x_V, x_C, x_N, x_cons, x_nil, x_seq, x_set, x_put, x_nx, x_ret, List.getElem?_cons_zero, List.getElem?_cons_succ, y_bn, y_bn', ix_00, z_ixl, at_0, at_1, at_2, at_3, y_of, z_gt, decide_eq_true h, y_ifst, y_ac, y_ac', y_nN, y_of2, z_inti, z_mod, if_pos nd, y_st, List.set_cons_succ, List.set_cons_zero, y_thn, y_thr, z_fdiv, if_pos (And.intro nd nl), y_pt1, y_pt2, y_pt3 put_2, y_rt]
  · have hm := lB_log hl (k := 69621) (by decide)
    refine ⟨(Int.fmod ((Int.fmod (l * 69621 + 7) 2147483629).fdiv 11) n).toNat, p, c, Int.fmod (l * 69621 + 7) 2147483629, ?_, ?_, lB_mod (by decide) (by decide)⟩
    · rw [Int.toNat_of_nonneg (Int.fmod_nonneg_of_pos _ h0)]
      unfold drawB stD
      have d11 : ((11 : Int) ≠ 0 ∧ (11 : Int).natAbs.log2 < 9000) := by decide
      have d21 : ((2147483629 : Int) ≠ 0) := by decide
      simp -implicitDefEqProofs only [x_ifS, x_and, x_2, x_V, x_C, x_N, x_cons, x_nil, x_seq, x_set, x_put, x_nx, x_ret, List.getElem?_cons_zero, List.getElem?_cons_succ, y_bn, y_bn', ix_00, z_ixl, at_0, at_1, at_2, at_3, y_of, z_gt, decide_eq_false h, y_ifsf, y_ac, y_ac', y_nN, y_of2, z_inti, z_add, z_mul, if_pos hm, z_mod, if_pos nd, if_pos d21, y_thn, y_thr, z_fdiv, if_pos d11, y_pt1, y_pt2, y_pt3 put_3, y_rt]
    · rw [Int.toNat_of_nonneg (Int.fmod_nonneg_of_pos _ h0)]
      exact Int.fmod_lt_of_pos _ h0
/-- a state of drawing -/
def GD (M : MO) : Prop := ∃ ns p c l, M = stD ns p c l ∧ lB l
theorem GD.nr {M : MO} (h : GD M) : M.nr = true := by
  obtain ⟨ns, p, c, l, rfl, _⟩ := h
  have h : (ns.map D.int).all (L4.nr 11) = true := by
    rw [List.all_eq_true]
    intro d hd
    obtain ⟨i, _, rfl⟩ := List.mem_map.mp hd
    exact z_nri
  show List.all _ _ = true
  simp -implicitDefEqProofs [h]
theorem draw_eq {M : MO} (h : GD M) (n : Int) (h0 : 0 < n) (hn : n < 4294967296) : ∃ (v : Nat) (M' : MO), drawF [.ref 0, .int n] [M] = .ok (.int v) [M'] ∧ (v : Int) < n ∧ GD M' := by
  obtain ⟨ns, p, c, l, rfl, hl⟩ := h
  obtain ⟨x, p1, c1, l1, e1, hl1⟩ := drawA_eq ns p c l n hl
  obtain ⟨v, p2, c2, l2, e2, hv, hl2⟩ := drawB_eq ns p1 c1 l1 n x hl1 h0 hn
  refine ⟨v, stD ns p2 c2 l2, ?_, hv, ns, p2, c2, l2, rfl, hl2⟩
  refine fn_rt rfl ?_
  show sSeq drawA drawB [some (.ref 0), some (.int n), none, none] [stD ns p c l] = _
  rw [x_seq, e1, y_thn, e2]
theorem drawM {M : MO} (h : GD M) {st : Sto} {k : Nat} (hk : st[k]? = some M) (n : Int) (h0 : 0 < n) (hn : n < 4294967296) : ∃ (v : Nat) (M' : MO), callM drawF [.ref k, .int n] st = .ok (.int v) (st.set k M') ∧ (v : Int) < n ∧ GD M' := by
  obtain ⟨v, M', e, hv, h'⟩ := draw_eq h n h0 hn
  refine ⟨v, M', ?_, hv, h'⟩
  have hn : ([D.int n].all (nr 12)) = true := rfl
  unfold callM
  simp -implicitDefEqProofs only [hk, h.nr, hn, Bool.and_self, if_true, e, h'.nr, z_nri]
/-- the first state -/
def drawsF : List D → Sto → RE := mkF 1 1 (sRet (eLstM (aCons (eN (g0 listD) (aCons (eV 0) aNil)) (aCons (eC (.int 0)) (aCons (eC (.int 0)) (aCons (eC (.int 1)) aNil))))))
theorem drawsN (ns : List Int) (st : Sto) : ∃ M, callN drawsF [.scr ns] st = .ok (.ref st.length) (st ++ [M]) ∧ GD M := by
  have g : GD (stD ns 0 0 1) := ⟨ns, 0, 0, 1, rfl, by decide, by decide⟩
  refine ⟨stD ns 0 0 1, ?_, g⟩
  have e : drawsF [.scr ns] [] = .ok (.ref 0) [stD ns 0 0 1] := rfl
  have hn : ([D.scr ns].all (nr 12)) = true := rfl
  unfold callN
  simp -implicitDefEqProofs only [hn, if_true, e, List.getElem?_cons_zero, g.nr]
end L4
namespace L4
open PySem L2
theorem rgD_zero (lo : Int) : rgD lo 0 = [] := rfl
theorem rgD_succ (lo : Int) (n : Nat) : rgD lo (n + 1) = .int lo :: rgD (lo + 1) n := rfl
theorem rgD_map (lo : Int) (n : Nat) : rgD lo n = (List.range n).map fun (i : Nat) => .int (lo + i) := by
  induction n generalizing lo with
  | zero => rfl
  | succ n ih =>
    rw [rgD_succ, ih, List.range_succ_eq_map, List.map_cons, List.map_map]
    congr 1
    · simp
    · apply List.map_congr_left
      intro i _
      show D.int _ = D.int _
      congr 1
      show lo + 1 + (i : Int) = lo + ((i + 1 : Nat) : Int)
      omega
theorem lenOk_rg {n : Nat} {lo : Int} (h : n ≤ 1000000) : lenOk (rgD lo n).length = true := by rw [rgD_len]; exact lenOk_of h
theorem lenOk_map {α : Type} {f : α → D} {ys : List α} (h : ys.length ≤ 1000000) : lenOk (ys.map f).length = true := by rw [List.length_map]; exact lenOk_of h
theorem forGo_cons {b : Bd} {body : S} {d : D} {ds : List D} {ρ ρ1 ρ2 : Rho} {st st2 : Sto} (h1 : b d ρ = some ρ1) (h2 : body ρ1 st = .nx ρ2 st2) : sForGo b body (d :: ds) ρ st = sForGo b body ds ρ2 st2 := by
  rw [sForGo]; dsimp only; rw [h1]; dsimp only; rw [h2]
section
variable {b : Bd} {t f : E} {ρ0 ρ1 : Rho} {fin : List D → Sto → RE} {d y : D} {ds acc : List D} {st : Sto}
theorem lc_nil : lcGo b t f ρ0 fin [] st acc = fin acc.reverse st := rfl
theorem lc_true (h1 : b d ρ0 = some ρ1) (h2 : t ρ1 st = .ok (.bl true) st) (h3 : f ρ1 st = .ok y st) : lcGo b t f ρ0 fin (d :: ds) st acc = lcGo b t f ρ0 fin ds st (y :: acc) := by
  rw [lcGo]; rw [h1]; dsimp only; rw [h2]; dsimp only; rw [h3]
theorem lc_false (h1 : b d ρ0 = some ρ1) (h2 : t ρ1 st = .ok (.bl false) st) : lcGo b t f ρ0 fin (d :: ds) st acc = lcGo b t f ρ0 fin ds st acc := by
  rw [lcGo]; rw [h1]; dsimp only; rw [h2]
theorem lc_map {α : Type} (enc out : α → D) : ∀ (ys : List α) (acc : List D), (∀ y ∈ ys, ∃ ρ1, b (enc y) ρ0 = some ρ1 ∧ t ρ1 st = .ok (.bl true) st ∧ f ρ1 st = .ok (out y) st) → lcGo b t f ρ0 fin (ys.map enc) st acc = fin (acc.reverse ++ ys.map out) st := fun ys => by
  induction ys with
  | nil => intro acc _; simp [lc_nil]
  | cons y ys ih =>
    intro acc h
    obtain ⟨ρ1, h1, h2, h3⟩ := h y (List.mem_cons_self ..)
    rw [List.map_cons, lc_true h1 h2 h3, ih _ (fun z hz => h z (List.mem_cons_of_mem _ hz))]
    simp
theorem lc_none {α : Type} (enc : α → D) : ∀ (ys : List α) (acc : List D), (∀ y ∈ ys, ∃ ρ1, b (enc y) ρ0 = some ρ1 ∧ t ρ1 st = .ok (.bl false) st) → lcGo b t f ρ0 fin (ys.map enc) st acc = fin acc.reverse st := fun ys => by
  induction ys with
  | nil => intro acc _; simp [lc_nil]
  | cons y ys ih =>
    intro acc h
    obtain ⟨ρ1, h1, h2⟩ := h y (List.mem_cons_self ..)
    rw [List.map_cons, lc_false h1 h2, ih _ (fun z hz => h z (List.mem_cons_of_mem _ hz))]
end
theorem intsOf_map {α : Type} (f : α → Int) (ys : List α) : intsOf (ys.map fun y => .int (f y)) = some (ys.map f) := by
  induction ys with
  | nil => rfl
  | cons y ys ih => simp only [List.map_cons, intsOf, ih]
theorem z_sum {α : Type} (f : α → Int) (ys : List α) (st : Sto) : g0 sumD [.lst (ys.map fun y => .int (f y))] st = some (.int (ys.map f).sum, st) := by
  simp only [g0, sumD, listOf, intsOf_map]
/-! equality -/
theorem eqL_refl {f : D → D → Bool} : ∀ {ds : List D}, (∀ d ∈ ds, f d d = true) → eqL f ds ds = true := fun {ds} => by
  induction ds with
  | nil => intro _; rfl
  | cons d ds ih => intro h; simp only [eqL, h d (List.mem_cons_self ..), ih (fun x hx => h x (List.mem_cons_of_mem _ hx)), Bool.and_self]
theorem eqLeaf_refl {d : D} (h : shp 0 d = true) : eqLeaf d d = true := by
  cases d <;> first | rfl | (simp [eqLeaf]; done) | exact absurd h (by decide) | (exact absurd (show false = true from h) (by decide))
theorem eqv_refl : ∀ (n : Nat) (d : D), shp n d = true → eqvN n d d = true := fun n => by
  induction n with
  | zero => exact fun d h => eqLeaf_refl h
  | succ n ih =>
    intro d h
    cases d with
    | tup ds => exact eqL_refl fun x hx => ih x (List.all_eq_true.mp h x hx)
    | lst ds => exact eqL_refl fun x hx => ih x (List.all_eq_true.mp h x hx)
    | non => rfl
    | bl b => simp [eqvN, eqLeaf]
    | int i => simp [eqvN, eqLeaf]
    | str s => simp [eqvN, eqLeaf]
    | _ => exact absurd (show false = true from h) (by decide)
theorem eqD_refl {d : D} {st : Sto} (h : shp 8 d = true) : eqD d d st = some (.bl true) := by
  unfold eqD; rw [h]; simp [eqv_refl 8 d h]
theorem neD_refl {d : D} {st : Sto} (h : shp 8 d = true) : neD d d st = some (.bl false) := by
  unfold neD; rw [h]; simp [eqv_refl 8 d h]
/-! methods -/
def me2 (g : D → List D → Sto → Option (D × Sto)) (x : D) : RA → RE
  | .ok ds st => RE.of2 (g x ds st) | .exc x st => .exc x st | .stuck => .stuck
def me1 (T : String) (g : D → List D → Sto → Option (D × Sto)) (as : EA) (ρ : Rho) : RE → RE
  | .ok x st => if recB T x st = true then me2 g x (as ρ st) else .stuck | .exc x st => .exc x st | .stuck => .stuck
section
variable {T : String} {g : D → List D → Sto → Option (D × Sto)} {o : E} {as : EA} {ρ : Rho} {st : Sto} {x d : D} {ds : List D} {n : Nat}
@[simp] theorem x_met : eMet T g o as ρ st = me1 T g as ρ (o ρ st) := by
  unfold eMet
  cases o ρ st with
  | ok x st1 =>
    show (if recB T x st1 = true then _ else _) = (if recB T x st1 = true then me2 g x (as ρ st1) else .stuck)
    cases as ρ st1 <;> rfl
  | exc _ _ => rfl
  | stuck => rfl
theorem y_me1 (h : recB T x st = true) : me1 T g as ρ (.ok x st) = me2 g x (as ρ st) := by unfold me1; dsimp only; rw [if_pos h]
@[simp] theorem y_me2 : me2 g x (.ok ds st) = RE.of2 (g x ds st) := rfl
theorem rec_lst (h : st[n]? = some (.lst ds)) : recB "list" (.ref n) st = true := by simp [recB, h]
theorem app_lst (h : st[n]? = some (.lst ds)) (hl : ds.length ≤ 1000000) : appD (.ref n) [d] st = some (.non, st.set n (.lst (ds ++ [d]))) := by
  simp only [appD, h]; rw [if_pos hl]
end
end L4
namespace L4
open PySem L2
/-! ### shares as rational numbers -/
abbrev shR (r : Rat) : D := .tup [.int r.num, .int (r.den : Int)]
theorem dvI_pos (a : Int) {b : Nat} (hb : b ≠ 0) : (Rat.divInt a b).num = a / (Nat.gcd a.natAbs b : Nat) ∧ (Rat.divInt a b).den = b / Nat.gcd a.natAbs b := by
  rw [Rat.divInt_ofNat, Rat.mkRat_def, dif_neg hb, Rat.normalize_eq]
  exact ⟨rfl, rfl⟩
theorem dvI_neg (a : Int) {b : Nat} (hb : b ≠ 0) : (Rat.divInt a (-(b : Int))).num = -a / (Nat.gcd a.natAbs b : Nat) ∧ (Rat.divInt a (-(b : Int))).den = b / Nat.gcd a.natAbs b := by
  have e : Rat.divInt a (-(b : Int)) = Rat.divInt (-a) (b : Int) := by
    rw [Rat.divInt_eq_divInt_iff (by omega) (by omega)]
    rw [Int.neg_mul_neg]
  rw [e]
  have h := dvI_pos (-a) hb
  rwa [Int.natAbs_neg] at h
theorem Rat.den_pos' (r : Rat) : 0 < (r.den : Int) := by
  have := r.den_nz
  omega
/-- the size of a share -/
def Bn (k : Nat) (r : Rat) : Prop := r.num.natAbs < 2 ^ k ∧ r.den < 2 ^ k
theorem Bn.mono {i j : Nat} {r : Rat} (h : Bn i r) (hij : i ≤ j) : Bn j r := ⟨pow_lt' j h.1 hij, pow_lt' j h.2 hij⟩
theorem mul_lt' {a b i j : Nat} (ha : a < 2 ^ i) (hb : b < 2 ^ j) : a * b < 2 ^ (i + j) := by
  rw [Nat.pow_add]
  rcases Nat.eq_zero_or_pos b with rfl | h0
  · rw [Nat.mul_zero]; exact Nat.mul_pos (Nat.pow_pos (by decide)) (Nat.pow_pos (by decide))
  · exact Nat.lt_of_lt_of_le (Nat.mul_lt_mul_of_pos_right ha h0) (Nat.mul_le_mul_left _ (Nat.le_of_lt hb))
theorem Bn.divInt {k : Nat} {a : Int} {b : Nat} (hb : b ≠ 0) (ha : a.natAbs < 2 ^ k) (hk : b < 2 ^ k) : Bn k (Rat.divInt a b) := by
  obtain ⟨h1, h2⟩ := dvI_pos a hb
  unfold Bn
  rw [h1, h2]
  refine ⟨?_, Nat.lt_of_le_of_lt (Nat.div_le_self _ _) hk⟩
  rw [Int.natAbs_ediv_of_dvd (Int.ofNat_dvd_left.mpr (Nat.gcd_dvd_left _ _))]
  exact Nat.lt_of_le_of_lt (Nat.div_le_self _ _) ha
theorem Bn.mul {i j : Nat} {x y : Rat} (hx : Bn i x) (hy : Bn j y) : Bn (i + j) (x * y) := by
  have e : x * y = Rat.divInt (x.num * y.num) ((x.den * y.den : Nat) : Int) := by
    rw [← Rat.num_divInt_den x, ← Rat.num_divInt_den y, Rat.divInt_mul_divInt, Rat.num_divInt_den, Rat.num_divInt_den, Int.natCast_mul]
  rw [e]
  exact Bn.divInt (Nat.mul_ne_zero x.den_nz y.den_nz) (by rw [Int.natAbs_mul]; exact mul_lt' hx.1 hy.1) (mul_lt' hx.2 hy.2)
theorem Bn.add {i j : Nat} {x y : Rat} (hx : Bn i x) (hy : Bn j y) : Bn (i + j + 1) (x + y) := by
  have e : x + y = Rat.divInt (x.num * y.den + y.num * x.den) ((x.den * y.den : Nat) : Int) := by
    have h := Rat.divInt_add_divInt x.num y.num (d₁ := x.den) (d₂ := y.den) (by have := x.den_nz; omega) (by have := y.den_nz; omega)
    rw [Rat.num_divInt_den, Rat.num_divInt_den] at h
    rw [h, Int.natCast_mul]
  rw [e]
  have h1 : (x.num * y.den).natAbs < 2 ^ (i + j) := by rw [Int.natAbs_mul]; exact mul_lt' hx.1 hy.2
  have h2 : (y.num * x.den).natAbs < 2 ^ (i + j) := by rw [Int.natAbs_mul, Nat.add_comm]; exact mul_lt' hy.1 hx.2
  refine Bn.divInt (Nat.mul_ne_zero x.den_nz y.den_nz) ?_ (pow_lt' _ (mul_lt' hx.2 hy.2) (by omega))
  rw [Nat.pow_succ]
  omega
theorem Bn.sub {i j : Nat} {x y : Rat} (hx : Bn i x) (hy : Bn j y) : Bn (i + j + 1) (x - y) := by
  have e : x - y = Rat.divInt (x.num * y.den - y.num * x.den) ((x.den * y.den : Nat) : Int) := by
    have h := Rat.divInt_sub_divInt x.num y.num (d₁ := x.den) (d₂ := y.den) (by have := x.den_nz; omega) (by have := y.den_nz; omega)
    rw [Rat.num_divInt_den, Rat.num_divInt_den] at h
    rw [h, Int.natCast_mul]
  rw [e]
  have h1 : (x.num * y.den).natAbs < 2 ^ (i + j) := by rw [Int.natAbs_mul]; exact mul_lt' hx.1 hy.2
  have h2 : (y.num * x.den).natAbs < 2 ^ (i + j) := by rw [Int.natAbs_mul, Nat.add_comm]; exact mul_lt' hy.1 hx.2
  refine Bn.divInt (Nat.mul_ne_zero x.den_nz y.den_nz) ?_ (pow_lt' _ (mul_lt' hx.2 hy.2) (by omega))
  rw [Nat.pow_succ]
  omega
end L4
namespace L4
open PySem L2
theorem fdiv_gcd (a : Int) (b : Nat) (hb : b ≠ 0) : a.fdiv ((Nat.gcd a.natAbs b : Nat) : Int) = a / ((Nat.gcd a.natAbs b : Nat) : Int) := Int.fdiv_eq_ediv_of_nonneg _ (Int.natCast_nonneg _)
theorem low_pos (a : Int) {b : Nat} (hb : b ≠ 0) : a.fdiv ((Nat.gcd a.natAbs b : Nat) : Int) = (Rat.divInt a b).num ∧ (b : Int).fdiv ((Nat.gcd a.natAbs b : Nat) : Int) = ((Rat.divInt a b).den : Int) := by
  obtain ⟨h1, h2⟩ := dvI_pos a hb
  rw [h1, h2, fdiv_gcd a b hb, fdiv_nat]
  exact ⟨rfl, rfl⟩
theorem low_neg (a : Int) {b : Nat} (hb : b ≠ 0) : -(a.fdiv ((Nat.gcd a.natAbs b : Nat) : Int)) = (Rat.divInt a (-(b : Int))).num ∧ -((-(b : Int)).fdiv ((Nat.gcd a.natAbs b : Nat) : Int)) = ((Rat.divInt a (-(b : Int))).den : Int) := by
  obtain ⟨h1, h2⟩ := dvI_neg a hb
  have g1 : ((Nat.gcd a.natAbs b : Nat) : Int) ∣ a := Int.ofNat_dvd_left.mpr (Nat.gcd_dvd_left _ _)
  have g2 : ((Nat.gcd a.natAbs b : Nat) : Int) ∣ (b : Int) := Int.ofNat_dvd.mpr (Nat.gcd_dvd_right _ _)
  rw [h1, h2, fdiv_gcd a b hb, Int.fdiv_eq_ediv_of_nonneg _ (Int.natCast_nonneg _), Int.neg_ediv_of_dvd g2, Int.neg_ediv_of_dvd g1, Int.neg_neg]
  exact ⟨rfl, rfl⟩
theorem plus_val (x y : Rat) : Rat.divInt (x.num * y.den + y.num * x.den) ((x.den : Int) * y.den) = x + y := by
  have h := Rat.divInt_add_divInt x.num y.num (d₁ := x.den) (d₂ := y.den) (by have := x.den_nz; omega) (by have := y.den_nz; omega)
  rw [Rat.num_divInt_den, Rat.num_divInt_den] at h
  exact h.symm
theorem less_val (x y : Rat) : Rat.divInt (x.num * y.den - y.num * x.den) ((x.den : Int) * y.den) = x - y := by
  have h := Rat.divInt_sub_divInt x.num y.num (d₁ := x.den) (d₂ := y.den) (by have := x.den_nz; omega) (by have := y.den_nz; omega)
  rw [Rat.num_divInt_den, Rat.num_divInt_den] at h
  exact h.symm
theorem times_val (x y : Rat) : Rat.divInt (x.num * y.num) ((x.den : Int) * y.den) = x * y := by
  have h := Rat.divInt_mul_divInt x.num y.num (d₁ := x.den) (d₂ := y.den)
  rw [Rat.num_divInt_den, Rat.num_divInt_den] at h
  exact h.symm
theorem over_val (x y : Rat) : Rat.divInt (x.num * y.den) ((x.den : Int) * y.num) = x / y := by
  have h := Rat.divInt_mul_divInt x.num (y.den : Int) (d₁ := x.den) (d₂ := y.num)
  rw [Rat.num_divInt_den, ← Rat.inv_def] at h
  rw [Rat.div_def]
  exact h.symm
end L4
namespace L4
open PySem L2
/-! the program's reckoning with shares, told by rational numbers -/
def divisorG : S := (sSeq (sPar 0 1 (eN (g0 absD) (aCons (eV 0) aNil)) (eN (g0 absD) (aCons (eV 1) aNil)))
    (sSeq (sWhileM (e2 gtD (eV 1) (eC (.int 0))) (sPar 0 1 (eV 1) (e2 modD (eV 0) (eV 1))) (muI 1))
    (sRet (eV 0))))
def divisorF : List D → Sto → RE := mkF 2 2 divisorG
def lowG : S := (sSeq (sIf (e2 eqD (eV 1) (eC (.int 0))) (sRaise "BadShare") sNx)
    (sSeq (sSet 2 (eCall divisorF (aCons (eV 0) (aCons (eV 1) aNil))))
    (sRet (eIf (e2 gtD (eV 1) (eC (.int 0))) (eTup (aCons (e2 fdivD (eV 0) (eV 2)) (aCons (e2 fdivD (eV 1) (eV 2)) aNil))) (eTup (aCons (e1 negD (e2 fdivD (eV 0) (eV 2))) (aCons (e1 negD (e2 fdivD (eV 1) (eV 2))) aNil)))))))
def lowF : List D → Sto → RE := mkF 2 3 lowG
theorem divisor_eqG (a b : Int) (st : Sto) : divisorF [.int a, .int b] st = .ok (.int (Nat.gcd a.natAbs b.natAbs : Nat)) st := by
  have h := while_gcd (c := e2 gtD (eV 1) (eC (.int 0))) (body := sPar 0 1 (eV 1) (e2 modD (eV 0) (eV 1))) (i := 0) (j := 1) (by decide) st (MA := max a.natAbs b.natAbs) (MB := b.natAbs) (by omega) (fun ρ y h => by simp -implicitDefEqProofs [h]) (fun ρ x y h1 h2 hy _ _ => by
    have : ¬ (y = 0) := by omega
    simp -implicitDefEqProofs [h1, h2, this]) b.natAbs a.natAbs (b.natAbs + 1) [some (.int (a.natAbs : Int)), some (.int (b.natAbs : Int))] (by omega) (by omega) (by omega) rfl rfl
  simp -implicitDefEqProofs [divisorF, divisorG, sWhileM, muI, h]
theorem low_eqG (a : Int) (b : Int) (hb : b ≠ 0) (hs : b.natAbs < 2 ^ 8000) (st : Sto) : lowF [.int a, .int b] st = .ok (shR (Rat.divInt a b)) st := by
  have dg := divisor_eqG a b []
  have g0 : Nat.gcd a.natAbs b.natAbs ≠ 0 := fun h => by rw [Nat.gcd_eq_zero_iff] at h; omega
  have gl : (Nat.gcd a.natAbs b.natAbs).log2 < 9000 := log_lt (Nat.lt_of_le_of_lt (Nat.gcd_le_right a.natAbs (by omega)) (pow_lt' 9000 hs (by decide))) (by decide)
  have hf (x : Int) (st : Sto) : fdivD (.int x) (.int (Nat.gcd a.natAbs b.natAbs : Nat)) st = some (.int (x.fdiv (Nat.gcd a.natAbs b.natAbs : Nat))) := by
    rw [z_fdiv, if_pos ⟨by omega, by rw [Int.natAbs_natCast]; exact gl⟩]
  have tp2 {x y : D} {st : Sto} : tp (.ok [x, y] st) = .ok (.tup [x, y]) st := by
    rw [y_tp, if_pos (show [x, y].length ≤ 1000000 by show 2 ≤ 1000000; omega)]
  have e0 : decide (b = 0) = false := decide_eq_false hb
  refine fn_rt rfl ?_
  show lowG [some (.int a), some (.int b), none] st = _
  unfold lowG
  by_cases hp : 0 < b
  · have e1 : decide (0 < b) = true := decide_eq_true hp
    obtain ⟨n, rfl⟩ := Int.eq_ofNat_of_zero_le (Int.le_of_lt hp)
    obtain ⟨v1, v2⟩ := low_pos a (b := n) (by omega)
    rw [Int.natAbs_natCast] at dg hf
    simp -implicitDefEqProofs only [x_seq, x_ifS, x_2, x_V, x_C, List.getElem?_cons_zero, List.getElem?_cons_succ, y_bn, y_bn', z_eq, e0, y_of, y_ifsf, x_nx, y_thn, x_set, x_call, x_cons, x_nil, y_ac, y_ac', y_cl, x_callP, List.all_cons, List.all_nil, z_nri, Bool.and_self, if_true, dg, y_clP, y_st, List.set_cons_succ, List.set_cons_zero, x_ret, x_ifE, z_gt, e1, y_ift, x_tup, hf, v1, v2, tp2, y_rt]
  · have e1 : decide (0 < b) = false := decide_eq_false hp
    obtain ⟨n, hn⟩ : ∃ n : Nat, b = -(n : Int) := ⟨b.natAbs, by omega⟩
    subst hn
    obtain ⟨v1, v2⟩ := low_neg a (b := n) (by omega)
    rw [Int.natAbs_neg, Int.natAbs_natCast] at dg hf
    simp -implicitDefEqProofs only [x_seq, x_ifS, x_1, x_2, x_V, x_C, List.getElem?_cons_zero, List.getElem?_cons_succ, y_un, y_bn, y_bn', z_eq, e0, y_of, y_ifsf, x_nx, y_thn, x_set, x_call, x_cons, x_nil, y_ac, y_ac', y_cl, x_callP, List.all_cons, List.all_nil, z_nri, Bool.and_self, if_true, dg, y_clP, y_st, List.set_cons_succ, List.set_cons_zero, x_ret, x_ifE, z_gt, e1, y_iff, x_tup, hf, z_neg, v1, v2, tp2, y_rt]
end L4
namespace L4
open PySem L2
/-- a def that brings a share to its lowest terms -/
def LowS (N : Nat) (Fl : List D → Sto → RE) : Prop := ∀ (a b : Int) (st : Sto), b ≠ 0 → a.natAbs < 2 ^ N → b.natAbs < 2 ^ N → Fl [.int a, .int b] st = .ok (shR (Rat.divInt a b)) st
theorem lowS_prog : LowS 8000 lowF := fun a b st h _ h2 => low_eqG a b h h2 st
def plusG (Fl : List D → Sto → RE) : S := (sRet (eCall Fl (aCons (e2 addD (e2 mulD (e2 ixD (eV 0) (eC (.int 0))) (e2 ixD (eV 1) (eC (.int 1)))) (e2 mulD (e2 ixD (eV 1) (eC (.int 0))) (e2 ixD (eV 0) (eC (.int 1))))) (aCons (e2 mulD (e2 ixD (eV 0) (eC (.int 1))) (e2 ixD (eV 1) (eC (.int 1)))) aNil))))
def lessG (Fl : List D → Sto → RE) : S := (sRet (eCall Fl (aCons (e2 subD (e2 mulD (e2 ixD (eV 0) (eC (.int 0))) (e2 ixD (eV 1) (eC (.int 1)))) (e2 mulD (e2 ixD (eV 1) (eC (.int 0))) (e2 ixD (eV 0) (eC (.int 1))))) (aCons (e2 mulD (e2 ixD (eV 0) (eC (.int 1))) (e2 ixD (eV 1) (eC (.int 1)))) aNil))))
def timesG (Fl : List D → Sto → RE) : S := (sRet (eCall Fl (aCons (e2 mulD (e2 ixD (eV 0) (eC (.int 0))) (e2 ixD (eV 1) (eC (.int 0)))) (aCons (e2 mulD (e2 ixD (eV 0) (eC (.int 1))) (e2 ixD (eV 1) (eC (.int 1)))) aNil))))
def overG (Fl : List D → Sto → RE) : S := (sRet (eCall Fl (aCons (e2 mulD (e2 ixD (eV 0) (eC (.int 0))) (e2 ixD (eV 1) (eC (.int 1)))) (aCons (e2 mulD (e2 ixD (eV 0) (eC (.int 1))) (e2 ixD (eV 1) (eC (.int 0)))) aNil))))
theorem nr_shR (n : Nat) (r : Rat) : nr (n + 1) (shR r) = true := by
  show ([D.int r.num, D.int (r.den : Int)]).all (nr n) = true
  simp -implicitDefEqProofs
theorem mu {i j : Int} (hi : i.natAbs < 2 ^ 4000) (hj : j.natAbs < 2 ^ 4000) (st : Sto) : mulD (.int i) (.int j) st = some (.int (i * j)) := by
  have h1 := log_lt hi (by decide)
  have h2 := log_lt hj (by decide)
  rw [z_mul, if_pos (by omega)]
theorem den_abs {k : Nat} {r : Rat} (h : Bn k r) : ((r.den : Int)).natAbs < 2 ^ k := by rw [Int.natAbs_natCast]; exact h.2
theorem mul_sz {i j : Int} {k l n : Nat} (hi : i.natAbs < 2 ^ k) (hj : j.natAbs < 2 ^ l) (h : k + l ≤ n) : (i * j).natAbs < 2 ^ n := by
  rw [Int.natAbs_mul]; exact pow_lt' _ (mul_lt' hi hj) h
theorem den_ne {x y : Rat} : (x.den : Int) * (y.den : Int) ≠ 0 := by
  have h1 := x.den_nz
  have h2 := y.den_nz
  exact Int.mul_ne_zero (by omega) (by omega)
section
variable {Fl : List D → Sto → RE} {x y : Rat} {st : Sto} {N K : Nat}
theorem plus_eqG (L : LowS N Fl) (hN : 2 * K + 1 ≤ N) (h8 : K ≤ 4000) (hx : Bn K x) (hy : Bn K y) : mkF 2 2 (plusG Fl) [shR x, shR y] st = .ok (shR (x + y)) st := by
  have a1 := pow_lt' 4000 hx.1 h8
  have a2 := pow_lt' 4000 (den_abs hx) h8
  have b1 := pow_lt' 4000 hy.1 h8
  have b2 := pow_lt' 4000 (den_abs hy) h8
  have m1 : (x.num * y.den).natAbs < 2 ^ (2 * K) := mul_sz hx.1 (den_abs hy) (by omega)
  have m2 : (y.num * x.den).natAbs < 2 ^ (2 * K) := mul_sz hy.1 (den_abs hx) (by omega)
  have m3 : ((x.den : Int) * y.den).natAbs < 2 ^ N := mul_sz (den_abs hx) (den_abs hy) (by omega)
  have m4 : (x.num * y.den + y.num * x.den).natAbs < 2 ^ N := Nat.lt_of_lt_of_le (show _ < 2 ^ (2 * K) * 2 by omega) (by rw [← Nat.pow_succ]; exact Nat.pow_le_pow_right (by decide) hN)
  have l := L (x.num * y.den + y.num * x.den) ((x.den : Int) * y.den) [] den_ne m4 m3
  rw [plus_val] at l
  refine fn_rt rfl ?_
  show plusG Fl [some (shR x), some (shR y)] st = _
  unfold plusG
  simp -implicitDefEqProofs only [x_ret, x_call, x_cons, x_nil, x_2, x_V, x_C, List.getElem?_cons_zero, List.getElem?_cons_succ, y_bn, y_bn', z_ixt, at_0, at_1, y_of, mu a1 b2, mu b1 a2, mu a2 b2, z_add, y_ac, y_ac', y_cl, x_callP, List.all_cons, List.all_nil, z_nri, Bool.and_self, if_true, l, y_clP, nr_shR, y_rt]
theorem less_eqG (L : LowS N Fl) (hN : 2 * K + 1 ≤ N) (h8 : K ≤ 4000) (hx : Bn K x) (hy : Bn K y) : mkF 2 2 (lessG Fl) [shR x, shR y] st = .ok (shR (x - y)) st := by
  have a1 := pow_lt' 4000 hx.1 h8
  have a2 := pow_lt' 4000 (den_abs hx) h8
  have b1 := pow_lt' 4000 hy.1 h8
  have b2 := pow_lt' 4000 (den_abs hy) h8
  have m1 : (x.num * y.den).natAbs < 2 ^ (2 * K) := mul_sz hx.1 (den_abs hy) (by omega)
  have m2 : (y.num * x.den).natAbs < 2 ^ (2 * K) := mul_sz hy.1 (den_abs hx) (by omega)
  have m3 : ((x.den : Int) * y.den).natAbs < 2 ^ N := mul_sz (den_abs hx) (den_abs hy) (by omega)
  have m4 : (x.num * y.den - y.num * x.den).natAbs < 2 ^ N := Nat.lt_of_lt_of_le (show _ < 2 ^ (2 * K) * 2 by omega) (by rw [← Nat.pow_succ]; exact Nat.pow_le_pow_right (by decide) hN)
  have l := L (x.num * y.den - y.num * x.den) ((x.den : Int) * y.den) [] den_ne m4 m3
  rw [less_val] at l
  refine fn_rt rfl ?_
  show lessG Fl [some (shR x), some (shR y)] st = _
  unfold lessG
  simp -implicitDefEqProofs only [x_ret, x_call, x_cons, x_nil, x_2, x_V, x_C, List.getElem?_cons_zero, List.getElem?_cons_succ, y_bn, y_bn', z_ixt, at_0, at_1, y_of, mu a1 b2, mu b1 a2, mu a2 b2, z_sub, y_ac, y_ac', y_cl, x_callP, List.all_cons, List.all_nil, z_nri, Bool.and_self, if_true, l, y_clP, nr_shR, y_rt]
theorem times_eqG (L : LowS N Fl) (hN : 2 * K + 1 ≤ N) (h8 : K ≤ 4000) (hx : Bn K x) (hy : Bn K y) : mkF 2 2 (timesG Fl) [shR x, shR y] st = .ok (shR (x * y)) st := by
  have a1 := pow_lt' 4000 hx.1 h8
  have a2 := pow_lt' 4000 (den_abs hx) h8
  have b1 := pow_lt' 4000 hy.1 h8
  have b2 := pow_lt' 4000 (den_abs hy) h8
  have m1 : (x.num * y.num).natAbs < 2 ^ N := mul_sz hx.1 hy.1 (by omega)
  have m3 : ((x.den : Int) * y.den).natAbs < 2 ^ N := mul_sz (den_abs hx) (den_abs hy) (by omega)
  have l := L (x.num * y.num) ((x.den : Int) * y.den) [] den_ne m1 m3
  rw [times_val] at l
  refine fn_rt rfl ?_
  show timesG Fl [some (shR x), some (shR y)] st = _
  unfold timesG
  simp -implicitDefEqProofs only [x_ret, x_call, x_cons, x_nil, x_2, x_V, x_C, List.getElem?_cons_zero, List.getElem?_cons_succ, y_bn, y_bn', z_ixt, at_0, at_1, y_of, mu a1 b1, mu a2 b2, y_ac, y_ac', y_cl, x_callP, List.all_cons, List.all_nil, z_nri, Bool.and_self, if_true, l, y_clP, nr_shR, y_rt]
theorem over_eqG (L : LowS N Fl) (hN : 2 * K + 1 ≤ N) (h8 : K ≤ 4000) (hx : Bn K x) (hy : Bn K y) (h0 : y ≠ 0) : mkF 2 2 (overG Fl) [shR x, shR y] st = .ok (shR (x / y)) st := by
  have a1 := pow_lt' 4000 hx.1 h8
  have a2 := pow_lt' 4000 (den_abs hx) h8
  have b1 := pow_lt' 4000 hy.1 h8
  have b2 := pow_lt' 4000 (den_abs hy) h8
  have m1 : (x.num * y.den).natAbs < 2 ^ N := mul_sz hx.1 (den_abs hy) (by omega)
  have m3 : ((x.den : Int) * y.num).natAbs < 2 ^ N := mul_sz (den_abs hx) hy.1 (by omega)
  have hn : (x.den : Int) * y.num ≠ 0 := Int.mul_ne_zero (by have := x.den_nz; omega) (fun h => h0 (Rat.num_eq_zero.mp h))
  have l := L (x.num * y.den) ((x.den : Int) * y.num) [] hn m1 m3
  rw [over_val] at l
  refine fn_rt rfl ?_
  show overG Fl [some (shR x), some (shR y)] st = _
  unfold overG
  simp -implicitDefEqProofs only [x_ret, x_call, x_cons, x_nil, x_2, x_V, x_C, List.getElem?_cons_zero, List.getElem?_cons_succ, y_bn, y_bn', z_ixt, at_0, at_1, y_of, mu a1 b2, mu a2 b1, y_ac, y_ac', y_cl, x_callP, List.all_cons, List.all_nil, z_nri, Bool.and_self, if_true, l, y_clP, nr_shR, y_rt]
end
end L4
namespace L4
open PySem L2
/-! Euclid by a bounded number of turns -/
def eucN : Nat → Nat → Nat → Nat × Nat
  | 0, x, y => (x, y)
  | n + 1, x, y => if 0 < y then eucN n y (x % y) else (x, y)
theorem euc_zero (n x : Nat) : eucN n x 0 = (x, 0) := by cases n <;> rfl
/-- two turns halve -/
theorem euc_end : ∀ (k x y : Nat), y < 2 ^ k → eucN (2 * k + 1) x y = (Nat.gcd x y, 0) := fun k => by
  induction k with
  | zero =>
    intro x y h
    have : y = 0 := by simpa using h
    subst this
    rw [euc_zero, Nat.gcd_zero_right]
  | succ k ih =>
    intro x y h
    rcases Nat.eq_zero_or_pos y with rfl | hy
    · rw [euc_zero, Nat.gcd_zero_right]
    · show (if 0 < y then eucN (2 * k + 2) y (x % y) else (x, y)) = _
      rw [if_pos hy]
      have hg : Nat.gcd y (x % y) = Nat.gcd x y := by rw [Nat.gcd_comm x y, Nat.gcd_rec y x, Nat.gcd_comm]
      rcases Nat.eq_zero_or_pos (x % y) with h0 | hr
      · rw [h0, euc_zero, ← hg, h0, Nat.gcd_zero_right]
      · show (if 0 < x % y then eucN (2 * k + 1) (x % y) (y % (x % y)) else (y, x % y)) = _
        rw [if_pos hr]
        have hlt : x % y < y := Nat.mod_lt _ hy
        have h2 : y % (x % y) < 2 ^ k := by
          have h3 : y % (x % y) < x % y := Nat.mod_lt _ hr
          have h4 : x % y + y % (x % y) ≤ y := by
            have h5 := Nat.div_add_mod y (x % y)
            have h6 : 1 ≤ y / (x % y) := (Nat.one_le_div_iff hr).mpr (Nat.le_of_lt hlt)
            have h7 : x % y ≤ x % y * (y / (x % y)) := Nat.le_mul_of_pos_right _ h6
            omega
          rw [Nat.pow_succ] at h
          omega
        rw [ih _ _ h2, ← hg]
        congr 1
        rw [Nat.gcd_comm y, Nat.gcd_rec (x % y) y, Nat.gcd_comm]
theorem euc_more : ∀ (n m x y : Nat), (eucN n x y).2 = 0 → eucN (n + m) x y = eucN n x y := fun n => by
  induction n with
  | zero =>
    intro m x y h
    have h : y = 0 := h
    subst h
    rw [Nat.zero_add, euc_zero, euc_zero]
  | succ n ih =>
    intro m x y h
    rw [show n + 1 + m = n + m + 1 by omega]
    show (if 0 < y then eucN (n + m) y (x % y) else (x, y)) = (if 0 < y then eucN n y (x % y) else (x, y))
    by_cases hy : 0 < y
    · rw [if_pos hy, if_pos hy]
      refine ih m y (x % y) ?_
      have h : (if 0 < y then eucN n y (x % y) else (x, y)).2 = 0 := h
      rw [if_pos hy] at h
      exact h
    · rw [if_neg hy, if_neg hy]
theorem euc_4000 (x y : Nat) (h : y < 2 ^ 1999) : eucN 4000 x y = (Nat.gcd x y, 0) := by
  have e := euc_end 1999 x y h
  rw [show 4000 = (2 * 1999 + 1) + 1 by decide, euc_more _ _ _ _ (by rw [e]), e]
end L4
namespace L4
open PySem L2
/-! the laws' own low, 4000 turns -/
def lawLowB : S := (sIf (e2 gtD (eV 3) (eC (.int 0))) (sPar 2 3 (eV 3) (e2 modD (eN (g0 intD) (aCons (eV 2) aNil)) (eV 3))) sNx)
def lawLowG : S := (sSeq (sPar 2 3 (eN (g0 max2D) (aCons (eV 0) (aCons (e2 subD (eC (.int 0)) (eV 0)) aNil))) (eN (g0 max2D) (aCons (eV 1) (aCons (e2 subD (eC (.int 0)) (eV 1)) aNil))))
    (sSeq (sFor (iRg1 (eC (.int 4000))) (bName 4) lawLowB)
    (sSeq (sSet 5 (eIf (e2 gtD (eV 1) (eC (.int 0))) (eV 2) (e2 subD (eC (.int 0)) (eV 2))))
    (sRet (eTup (aCons (e2 fdivD (eV 0) (eV 5)) (aCons (e2 fdivD (eV 1) (eV 5)) aNil)))))))
def lawLowF : List D → Sto → RE := mkF 2 6 lawLowG
theorem lawLow_go (a b : Option D) (f : Option D) (st : Sto) : ∀ (n : Nat) (lo : Int) (x y : Nat) (t : Option D), ∃ t', sForGo (bName 4) lawLowB (rgD lo n) [a, b, some (.int x), some (.int y), t, f] st = .nx [a, b, some (.int (eucN n x y).1), some (.int (eucN n x y).2), t', f] st := fun n => by
  induction n with
  | zero => exact fun lo x y t => ⟨t, rfl⟩
  | succ n ih =>
    intro lo x y t
    rw [rgD_succ]
    show ∃ t', _ = RS.nx [a, b, some (.int (if 0 < y then eucN n y (x % y) else (x, y)).1), some (.int (if 0 < y then eucN n y (x % y) else (x, y)).2), t', f] st
    by_cases hy : 0 < y
    · have e1 : decide ((0 : Int) < (y : Int)) = true := decide_eq_true (by omega)
      have hm : ((y : Int) ≠ 0) := by omega
      obtain ⟨t', h⟩ := ih (lo + 1) y (x % y) (some (.int lo))
      refine ⟨t', ?_⟩
      rw [forGo_cons (ρ1 := [a, b, some (.int x), some (.int y), some (.int lo), f]) rfl (ρ2 := [a, b, some (.int y), some (.int (x % y : Nat)), some (.int lo), f]) (st2 := st) ?_, h, if_pos hy]
      unfold lawLowB
      simp -implicitDefEqProofs only [x_ifS, x_2, x_V, x_C, List.getElem?_cons_zero, List.getElem?_cons_succ, y_bn, y_bn', z_gt, e1, y_of, y_ifst, x_par, x_N, x_cons, x_nil, y_ac, y_ac', y_nN, z_inti, y_of2, y_pr, z_mod, if_pos hm, fmod_nat, y_pr', List.set_cons_succ, List.set_cons_zero]
    · have e1 : decide ((0 : Int) < (y : Int)) = false := decide_eq_false (by omega)
      have y0 : y = 0 := by omega
      subst y0
      obtain ⟨t', h⟩ := ih (lo + 1) x 0 (some (.int lo))
      refine ⟨t', ?_⟩
      rw [euc_zero] at h
      rw [forGo_cons (ρ1 := [a, b, some (.int x), some (.int (0 : Nat)), some (.int lo), f]) rfl (ρ2 := [a, b, some (.int x), some (.int (0 : Nat)), some (.int lo), f]) (st2 := st) ?_, h, if_neg hy]
      unfold lawLowB
      simp -implicitDefEqProofs only [x_ifS, x_2, x_V, x_C, List.getElem?_cons_zero, List.getElem?_cons_succ, y_bn, y_bn', z_gt, e1, y_of, y_ifsf, x_nx]
theorem low_negL (a : Int) {b : Nat} (hb : b ≠ 0) : a.fdiv (0 - ((Nat.gcd a.natAbs b : Nat) : Int)) = (Rat.divInt a (-(b : Int))).num ∧ (-(b : Int)).fdiv (0 - ((Nat.gcd a.natAbs b : Nat) : Int)) = ((Rat.divInt a (-(b : Int))).den : Int) := by
  obtain ⟨h1, h2⟩ := low_neg a hb
  have g1 : ((Nat.gcd a.natAbs b : Nat) : Int) ∣ a := Int.ofNat_dvd_left.mpr (Nat.gcd_dvd_left _ _)
  have g2 : ((Nat.gcd a.natAbs b : Nat) : Int) ∣ -(b : Int) := Int.dvd_neg.mpr (Int.ofNat_dvd.mpr (Nat.gcd_dvd_right _ _))
  have gp : ((Nat.gcd a.natAbs b : Nat) : Int) ≠ 0 := fun h => by
    have := (Nat.gcd_eq_zero_iff.mp (Int.ofNat_eq_zero.mp h)).2
    exact hb this
  have k (c : Int) (hc : ((Nat.gcd a.natAbs b : Nat) : Int) ∣ c) : c.fdiv (0 - ((Nat.gcd a.natAbs b : Nat) : Int)) = -(c.fdiv ((Nat.gcd a.natAbs b : Nat) : Int)) := by
    obtain ⟨q, rfl⟩ := hc
    rw [Int.zero_sub, Int.mul_fdiv_cancel_left _ gp, show ((Nat.gcd a.natAbs b : Nat) : Int) * q = -((Nat.gcd a.natAbs b : Nat) : Int) * (-q) by rw [Int.neg_mul_neg], Int.mul_fdiv_cancel_left _ (by omega)]
  rw [k a g1, k _ g2]
  exact ⟨h1, h2⟩
theorem lawLow_eqG (a b : Int) (st : Sto) (hb : b ≠ 0) (hs : b.natAbs < 2 ^ 1999) : lawLowF [.int a, .int b] st = .ok (shR (Rat.divInt a b)) st := by
  have mx (x : Int) : max x (0 - x) = ((x.natAbs : Nat) : Int) := by omega
  obtain ⟨t', lp⟩ := lawLow_go (some (.int a)) (some (.int b)) none st 4000 0 a.natAbs b.natAbs none
  rw [euc_4000 _ _ hs] at lp
  have g0 : Nat.gcd a.natAbs b.natAbs ≠ 0 := fun h => by rw [Nat.gcd_eq_zero_iff] at h; omega
  have gl : (Nat.gcd a.natAbs b.natAbs).log2 < 9000 := log_lt (Nat.lt_of_le_of_lt (Nat.gcd_le_right a.natAbs (by omega)) (pow_lt' 9000 hs (by decide))) (by decide)
  have hf (x : Int) (st : Sto) : fdivD (.int x) (.int (Nat.gcd a.natAbs b.natAbs : Nat)) st = some (.int (x.fdiv (Nat.gcd a.natAbs b.natAbs : Nat))) := by
    rw [z_fdiv, if_pos ⟨by omega, by rw [Int.natAbs_natCast]; exact gl⟩]
  have hf' (x : Int) (st : Sto) : fdivD (.int x) (.int (0 - (Nat.gcd a.natAbs b.natAbs : Nat))) st = some (.int (x.fdiv (0 - (Nat.gcd a.natAbs b.natAbs : Nat)))) := by
    rw [z_fdiv, if_pos ⟨by omega, by rw [Int.zero_sub, Int.natAbs_neg, Int.natAbs_natCast]; exact gl⟩]
  have tp2 {x y : D} {st : Sto} : tp (.ok [x, y] st) = .ok (.tup [x, y]) st := by
    rw [y_tp, if_pos (show [x, y].length ≤ 1000000 by show 2 ≤ 1000000; omega)]
  have r4 : rgOk 4000 = true := rgOk_of (by omega) (by omega)
  have t4 : Int.toNat 4000 = 4000 := rfl
  refine fn_rt rfl ?_
  show lawLowG [some (.int a), some (.int b), none, none, none, none] st = _
  unfold lawLowG
  by_cases hp : 0 < b
  · have e1 : decide (0 < b) = true := decide_eq_true hp
    obtain ⟨n, rfl⟩ := Int.eq_ofNat_of_zero_le (Int.le_of_lt hp)
    obtain ⟨v1, v2⟩ := low_pos a (b := n) (by omega)
    rw [Int.natAbs_natCast] at lp hf
    have mn : max (n : Int) (0 - n) = (n : Int) := by omega
    simp -implicitDefEqProofs only [x_seq, x_ifS, x_2, x_V, x_C, x_N, List.getElem?_cons_zero, List.getElem?_cons_succ, y_bn, y_bn', z_sub, y_of, x_par, x_cons, x_nil, y_ac, y_ac', y_nN, z_max, mx a, mn, y_of2, y_pr, y_pr', List.set_cons_succ, List.set_cons_zero, y_thn, x_for, x_rg1, y_rg1, r4, t4, if_true, y_fr, lp, x_set, x_ifE, z_gt, e1, y_ift, y_st, x_ret, x_tup, hf, v1, v2, tp2, y_rt]
  · have e1 : decide (0 < b) = false := decide_eq_false hp
    obtain ⟨n, hn⟩ : ∃ n : Nat, b = -(n : Int) := ⟨b.natAbs, by omega⟩
    subst hn
    obtain ⟨v1, v2⟩ := low_negL a (b := n) (by omega)
    rw [Int.natAbs_neg, Int.natAbs_natCast] at lp hf'
    have mn : max (-(n : Int)) (0 - -(n : Int)) = (n : Int) := by omega
    simp -implicitDefEqProofs only [x_seq, x_ifS, x_2, x_V, x_C, x_N, List.getElem?_cons_zero, List.getElem?_cons_succ, y_bn, y_bn', z_sub, y_of, x_par, x_cons, x_nil, y_ac, y_ac', y_nN, z_max, mx a, mn, y_of2, y_pr, y_pr', List.set_cons_succ, List.set_cons_zero, y_thn, x_for, x_rg1, y_rg1, r4, t4, if_true, y_fr, lp, x_set, x_ifE, z_gt, e1, y_iff, y_st, x_ret, x_tup, hf', v1, v2, tp2, y_rt]
theorem lowS_law : LowS 1999 lawLowF := fun a b st h _ h2 => lawLow_eqG a b st h h2
end L4
namespace L4
open PySem L2
/-! ### rows told by their places -/
def vec {α : Type} (f : Nat → α) (n : Nat) : List α := (List.range n).map f
section
variable {α β : Type} {f g : Nat → α} {n k : Nat}
theorem vec_len : (vec f n).length = n := by simp [vec]
theorem vec_zero : vec f 0 = [] := rfl
theorem vec_succ : vec f (n + 1) = vec f n ++ [f n] := by simp [vec, List.range_succ]
theorem vec_succ' : vec f (n + 1) = f 0 :: vec (fun k => f (k + 1)) n := by
  simp only [vec, List.range_succ_eq_map, List.map_cons, List.map_map]
  rfl
theorem vec_get (h : k < n) : (vec f n)[k]? = some (f k) := by
  simp [vec, h]
theorem vec_get_none (h : n ≤ k) : (vec f n)[k]? = none := by
  simp [vec, h]
theorem vec_at (h : k < n) : atI (vec f n) (k : Int) = some (f k) := by
  rw [at_nat (by rw [vec_len]; exact h), vec_get h]
theorem vec_at_neg (h : k < n) : atI (vec f n) (-(k : Int) - 1) = some (f (n - 1 - k)) := by
  have : ixN (vec f n).length (-(k : Int) - 1) = some (n - 1 - k) := by
    unfold ixN
    rw [vec_len, if_neg (by omega), if_pos (by omega)]
    congr 1
    omega
  unfold atI
  rw [this]
  exact vec_get (by omega)
theorem vec_mem {x : α} : x ∈ vec f n ↔ ∃ k, k < n ∧ f k = x := by simp [vec]
theorem vec_all {p : α → Bool} (h : ∀ k, k < n → p (f k) = true) : (vec f n).all p = true := by
  rw [List.all_eq_true]
  intro x hx
  obtain ⟨k, hk, rfl⟩ := vec_mem.mp hx
  exact h k hk
theorem vec_map {h : α → β} : (vec f n).map h = vec (fun k => h (f k)) n := by simp [vec]
theorem vec_ext (h : ∀ k, k < n → f k = g k) : vec f n = vec g n := by
  apply List.map_congr_left
  intro k hk
  exact h k (List.mem_range.mp hk)
theorem ext_get {l m : List α} (h : ∀ k : Nat, l[k]? = m[k]?) : l = m := List.ext_getElem? h
theorem vec_set {x : α} (h : k < n) : (vec f n).set k x = vec (fun j => if j = k then x else f j) n := by
  apply List.ext_getElem?
  intro j
  by_cases hj : j < n
  · rw [vec_get hj]
    by_cases e : j = k
    · subst e
      rw [List.getElem?_set_self (by rw [vec_len]; exact hj), if_pos rfl]
    · rw [List.getElem?_set_ne (Ne.symm e), vec_get hj, if_neg e]
  · rw [vec_get_none (by omega), List.getElem?_eq_none (by rw [List.length_set, vec_len]; omega)]
theorem vec_take {m : Nat} (h : m ≤ n) : (vec f n).take m = vec f m := by
  apply List.ext_getElem?
  intro j
  by_cases hj : j < m
  · rw [List.getElem?_take_of_lt hj, vec_get (by omega), vec_get hj]
  · rw [vec_get_none (by omega), List.getElem?_eq_none (by rw [List.length_take, vec_len]; omega)]
theorem vec_drop {m : Nat} : (vec f n).drop m = vec (fun k => f (m + k)) (n - m) := by
  apply List.ext_getElem?
  intro j
  rw [List.getElem?_drop]
  by_cases hj : j < n - m
  · rw [vec_get (by omega), vec_get hj]
  · rw [vec_get_none (by omega), vec_get_none (by omega)]
theorem vec_rev : (vec f n).reverse = vec (fun k => f (n - 1 - k)) n := by
  apply List.ext_getElem?
  intro j
  by_cases hj : j < n
  · rw [List.getElem?_reverse (by rw [vec_len]; exact hj), vec_len, vec_get (by omega), vec_get hj]
  · rw [vec_get_none (by omega), List.getElem?_eq_none (by rw [List.length_reverse, vec_len]; omega)]
theorem vec_append {m : Nat} : vec f n ++ vec g m = vec (fun k => if k < n then f k else g (k - n)) (n + m) := by
  apply List.ext_getElem?
  intro j
  by_cases hj : j < n
  · rw [List.getElem?_append_left (by rw [vec_len]; exact hj), vec_get hj, vec_get (by omega), if_pos hj]
  · rw [List.getElem?_append_right (by rw [vec_len]; omega), vec_len]
    by_cases h2 : j < n + m
    · rw [vec_get (by omega), vec_get h2, if_neg hj]
    · rw [vec_get_none (by omega), vec_get_none (by omega)]
theorem vec_rep {x : α} : List.replicate n x = vec (fun _ => x) n := by
  apply List.ext_getElem?
  intro j
  by_cases hj : j < n
  · rw [vec_get hj, List.getElem?_replicate, if_pos hj]
  · rw [vec_get_none (by omega), List.getElem?_replicate, if_neg hj]
/-- every row is one -/
theorem to_vec [Inhabited α] (l : List α) : l = vec (fun k => l.getD k default) l.length := by
  apply List.ext_getElem?
  intro j
  by_cases hj : j < l.length
  · rw [vec_get hj, List.getElem?_eq_getElem hj, List.getD_eq_getElem?_getD, List.getElem?_eq_getElem hj]; rfl
  · rw [vec_get_none (by omega), List.getElem?_eq_none (by omega)]
end
theorem rg_vec {lo : Int} {n : Nat} : rgD lo n = vec (fun k => .int (lo + k)) n := rgD_map lo n
theorem rg0_vec {n : Nat} : rgD 0 n = vec (fun k => .int (k : Int)) n := by rw [rg_vec]; apply vec_ext; intro k _; simp
/-- a loop's variable ahead of the turn k -/
def lv (x : Option D) (it : Nat → D) : Nat → Option D
  | 0 => x
  | k + 1 => some (it k)
theorem for_from {b : Bd} {body : S} {it : Nat → D} {R : Nat → Rho} {T : Nat → Sto} : ∀ (n m : Nat), (∀ k, m ≤ k → k < m + n → ∃ ρ1, b (it k) (R k) = some ρ1 ∧ body ρ1 (T k) = .nx (R (k + 1)) (T (k + 1))) →
    sForGo b body (vec (fun k => it (m + k)) n) (R m) (T m) = .nx (R (m + n)) (T (m + n)) := fun n => by
  induction n with
  | zero => intro m _; rfl
  | succ n ih =>
    intro m h
    obtain ⟨ρ1, h1, h2⟩ := h m (by omega) (by omega)
    rw [vec_succ', Nat.add_zero, forGo_cons h1 h2]
    have := ih (m + 1) fun k a b => h k (by omega) (by omega)
    rw [show m + (n + 1) = m + 1 + n by omega, ← this]
    congr 1
    apply vec_ext
    intro k _
    show it (m + (k + 1)) = it (m + 1 + k)
    rw [show m + (k + 1) = m + 1 + k by omega]
/-- a loop told turn by turn -/
theorem for_vec {b : Bd} {body : S} {it : Nat → D} (R : Nat → Rho) (T : Nat → Sto) (n : Nat) (h : ∀ k, k < n → ∃ ρ1, b (it k) (R k) = some ρ1 ∧ body ρ1 (T k) = .nx (R (k + 1)) (T (k + 1))) :
    sForGo b body (vec it n) (R 0) (T 0) = .nx (R n) (T n) := by
  have := for_from (b := b) (body := body) (it := it) (R := R) (T := T) n 0 fun k _ hk => h k (by omega)
  simpa using this
/-- a loop by what holds ahead of each turn -/
theorem for_inv {b : Bd} {body : S} {it : Nat → D} (I : Nat → Rho → Sto → Prop) (n : Nat) (h : ∀ k ρ st, k < n → I k ρ st → ∃ ρ1, b (it k) ρ = some ρ1 ∧ ∃ ρ2 st2, body ρ1 st = .nx ρ2 st2 ∧ I (k + 1) ρ2 st2)
    {ρ : Rho} {st : Sto} (h0 : I 0 ρ st) : ∃ ρ2 st2, sForGo b body (vec it n) ρ st = .nx ρ2 st2 ∧ I n ρ2 st2 := by
  have : ∀ (m k : Nat) (ρ : Rho) (st : Sto), k + m = n → I k ρ st → ∃ ρ2 st2, sForGo b body (vec (fun j => it (k + j)) m) ρ st = .nx ρ2 st2 ∧ I n ρ2 st2 := fun m => by
    induction m with
    | zero => intro k ρ st e hI; have : k = n := by omega
              subst this; exact ⟨ρ, st, rfl, hI⟩
    | succ m ih =>
      intro k ρ st e hI
      obtain ⟨ρ1, h1, ρ2, st2, h2, h3⟩ := h k ρ st (by omega) hI
      obtain ⟨ρ3, st3, h4, h5⟩ := ih (k + 1) ρ2 st2 (by omega) h3
      refine ⟨ρ3, st3, ?_, h5⟩
      rw [vec_succ', Nat.add_zero, forGo_cons h1 h2, ← h4]
      congr 1
      apply vec_ext
      intro j _
      show it (k + (j + 1)) = it (k + 1 + j)
      rw [show k + (j + 1) = k + 1 + j by omega]
  have := this n 0 ρ st (by omega) h0
  simpa using this
section
variable {b : Bd} {t f : E} {ρ0 ρ1 : Rho} {fin : List D → Sto → RE} {st : Sto}
/-- a comprehension that stores nothing -/
theorem lc_vec {it out : Nat → D} (n : Nat) (h : ∀ k, k < n → ∃ ρ1, b (it k) ρ0 = some ρ1 ∧ t ρ1 st = .ok (.bl true) st ∧ f ρ1 st = .ok (out k) st) : lcGo b t f ρ0 fin (vec it n) st [] = fin (vec out n) st := by
  have := lc_map (b := b) (t := t) (f := f) (ρ0 := ρ0) (fin := fin) (st := st) it out (List.range n) [] fun k hk => h k (List.mem_range.mp hk)
  simpa [vec] using this
/-- .. with a test -/
theorem lc_filter {it out : Nat → D} {p : Nat → Bool} (n : Nat) (h : ∀ k, k < n → ∃ ρ1, b (it k) ρ0 = some ρ1 ∧ t ρ1 st = .ok (.bl (p k)) st ∧ (p k = true → f ρ1 st = .ok (out k) st)) : lcGo b t f ρ0 fin (vec it n) st [] = fin (((List.range n).filter p).map out) st := by
  have : ∀ (l : List Nat) (acc : List D), (∀ k ∈ l, ∃ ρ1, b (it k) ρ0 = some ρ1 ∧ t ρ1 st = .ok (.bl (p k)) st ∧ (p k = true → f ρ1 st = .ok (out k) st)) → lcGo b t f ρ0 fin (l.map it) st acc = fin (acc.reverse ++ (l.filter p).map out) st := fun l => by
    induction l with
    | nil => intro acc _; simp [lc_nil]
    | cons k l ih =>
      intro acc h
      obtain ⟨ρ1, h1, h2, h3⟩ := h k (List.mem_cons_self ..)
      rw [List.map_cons]
      cases hp : p k with
      | true =>
        rw [hp] at h2
        rw [lc_true h1 h2 (h3 hp), ih _ (fun z hz => h z (List.mem_cons_of_mem _ hz)), List.filter_cons_of_pos hp]
        simp
      | false =>
        rw [hp] at h2
        rw [lc_false h1 h2, ih _ (fun z hz => h z (List.mem_cons_of_mem _ hz)), List.filter_cons_of_neg (by rw [hp]; decide)]
  have := this (List.range n) [] fun k hk => h k (List.mem_range.mp hk)
  simpa [vec] using this
/-- a comprehension that stores, by what holds -/
theorem lc_inv {it : Nat → D} (I : Sto → Prop) (P : D → Prop) (n : Nat) (h : ∀ k st, k < n → I st → ∃ ρ1, b (it k) ρ0 = some ρ1 ∧ t ρ1 st = .ok (.bl true) st ∧ ∃ y st2, f ρ1 st = .ok y st2 ∧ P y ∧ I st2) (h0 : I st) :
    ∃ ys st2, lcGo b t f ρ0 fin (vec it n) st [] = fin ys st2 ∧ ys.length = n ∧ (∀ y ∈ ys, P y) ∧ I st2 := by
  have : ∀ (l : List Nat) (st : Sto) (acc : List D), (∀ k ∈ l, k < n) → I st → (∀ y ∈ acc, P y) → ∃ ys st2, lcGo b t f ρ0 fin (l.map it) st acc = fin ys st2 ∧ ys.length = acc.length + l.length ∧ (∀ y ∈ ys, P y) ∧ I st2 := fun l => by
    induction l with
    | nil => intro st acc _ hI hA; exact ⟨acc.reverse, st, rfl, by simp, fun y hy => hA y (List.mem_reverse.mp hy), hI⟩
    | cons k l ih =>
      intro st acc hl hI hA
      obtain ⟨ρ1, h1, h2, y, st2, h3, hP, hI2⟩ := h k st (hl k (List.mem_cons_self ..)) hI
      obtain ⟨ys, st3, h4, h5, h6, h7⟩ := ih st2 (y :: acc) (fun z hz => hl z (List.mem_cons_of_mem _ hz)) hI2 (fun z hz => by
        rcases List.mem_cons.mp hz with rfl | hz
        · exact hP
        · exact hA z hz)
      refine ⟨ys, st3, ?_, by rw [h5]; simp; omega, h6, h7⟩
      rw [← h4, List.map_cons, lcGo]
      rw [h1]; dsimp only; rw [h2]; dsimp only; rw [h3]
  obtain ⟨ys, st2, h1, h2, h3, h4⟩ := this (List.range n) st [] (fun k hk => List.mem_range.mp hk) h0 (fun _ h => by cases h)
  exact ⟨ys, st2, h1, by simpa using h2, h3, h4⟩
end
/-! sums -/
def sumR (f : Nat → Rat) : Nat → Rat
  | 0 => 0
  | n + 1 => sumR f n + f n
theorem sumR_mul (f : Nat → Rat) (c : Rat) (n : Nat) : sumR (fun k => c * f k) n = c * sumR f n := by
  induction n with
  | zero => simp only [sumR]; grind
  | succ n ih => simp only [sumR, ih]; grind
theorem sumR_mul' (f : Nat → Rat) (c : Rat) (n : Nat) : sumR (fun k => f k * c) n = sumR f n * c := by
  induction n with
  | zero => simp only [sumR]; grind
  | succ n ih => simp only [sumR, ih]; grind
theorem sumR_div (f : Nat → Rat) (c : Rat) (n : Nat) : sumR (fun k => f k / c) n = sumR f n / c := by
  have := sumR_mul' f c⁻¹ n
  simpa only [← Rat.div_def] using this
theorem sumR_add (f g : Nat → Rat) (n : Nat) : sumR (fun k => f k + g k) n = sumR f n + sumR g n := by
  induction n with
  | zero => simp only [sumR]; grind
  | succ n ih => simp only [sumR, ih]; grind
theorem sumR_sub (f g : Nat → Rat) (n : Nat) : sumR (fun k => f k - g k) n = sumR f n - sumR g n := by
  induction n with
  | zero => simp only [sumR]; grind
  | succ n ih => simp only [sumR, ih]; grind
theorem sumR_ext {f g : Nat → Rat} {n : Nat} (h : ∀ k, k < n → f k = g k) : sumR f n = sumR g n := by
  induction n with
  | zero => rfl
  | succ n ih => simp only [sumR]; rw [ih fun k hk => h k (by omega), h n (by omega)]
theorem sumR_zero (n : Nat) : sumR (fun _ => 0) n = 0 := by
  induction n with
  | zero => rfl
  | succ n ih => simp only [sumR, ih]; grind
theorem sumR_swap (f : Nat → Nat → Rat) (n m : Nat) : sumR (fun i => sumR (fun j => f i j) m) n = sumR (fun j => sumR (fun i => f i j) n) m := by
  induction n with
  | zero => simp only [sumR, sumR_zero]
  | succ n ih => simp only [sumR, ih, sumR_add]
theorem sumR_nonneg {f : Nat → Rat} {n : Nat} (h : ∀ k, k < n → 0 ≤ f k) : 0 ≤ sumR f n := by
  induction n with
  | zero => simp only [sumR]; grind
  | succ n ih => simp only [sumR]; have := ih fun k hk => h k (by omega); have := h n (by omega); grind
theorem sumR_le {f g : Nat → Rat} {n : Nat} (h : ∀ k, k < n → f k ≤ g k) : sumR f n ≤ sumR g n := by
  induction n with
  | zero => simp only [sumR]; grind
  | succ n ih => simp only [sumR]; have := ih fun k hk => h k (by omega); have := h n (by omega); grind
theorem sumR_first (f : Nat → Rat) (n : Nat) : sumR f (n + 1) = f 0 + sumR (fun k => f (k + 1)) n := by
  induction n with
  | zero => simp only [sumR]; grind
  | succ n ih => rw [sumR, ih, sumR]; grind
theorem sumR_add_n (f : Nat → Rat) (n m : Nat) : sumR f (n + m) = sumR f n + sumR (fun k => f (n + k)) m := by
  induction m with
  | zero => simp only [sumR]; grind
  | succ m ih => rw [← Nat.add_assoc, sumR, ih, sumR]; grind
theorem sumR_mem_le {f : Nat → Rat} {n k : Nat} (hk : k < n) (h : ∀ k, k < n → 0 ≤ f k) : f k ≤ sumR f n := by
  induction n with
  | zero => omega
  | succ n ih =>
    simp only [sumR]
    by_cases e : k = n
    · subst e
      have := sumR_nonneg (f := f) (n := k) fun j hj => h j (by omega)
      grind
    · have := ih (by omega) fun j hj => h j (by omega)
      have := h n (by omega)
      grind
end L4
namespace L4
open PySem L2
/-! ### more for the reckoning -/
section
variable {bs : Bds} {b : Bd} {d x y z u v w1 w2 : D} {ds : List D} {ρ : Rho} {st : Sto} {n : Nat}
@[simp] theorem x_bnil : bNil [] ρ = some ρ := rfl
@[simp] theorem x_bcons : bCons b bs (d :: ds) ρ = (match b d ρ with | some ρ1 => bs ds ρ1 | none => none) := rfl
@[simp] theorem x_btup : bTup n bs (.tup ds) ρ = if ds.length = n then bs ds ρ else none := rfl
theorem tp0 : tp (.ok [] st) = .ok (.tup []) st := rfl
theorem tp1 : tp (.ok [x] st) = .ok (.tup [x]) st := by rw [y_tp, if_pos (by show 1 ≤ 1000000; omega)]
theorem tp2 : tp (.ok [x, y] st) = .ok (.tup [x, y]) st := by rw [y_tp, if_pos (by show 2 ≤ 1000000; omega)]
theorem tp3 : tp (.ok [x, y, z] st) = .ok (.tup [x, y, z]) st := by rw [y_tp, if_pos (by show 3 ≤ 1000000; omega)]
theorem tp4 : tp (.ok [x, y, z, u] st) = .ok (.tup [x, y, z, u]) st := by rw [y_tp, if_pos (by show 4 ≤ 1000000; omega)]
theorem lp0 : lp (.ok [] st) = .ok (.lst []) st := rfl
theorem lp1 : lp (.ok [x] st) = .ok (.lst [x]) st := by rw [y_lp, if_pos (by show 1 ≤ 1000000; omega)]
theorem lp2 : lp (.ok [x, y] st) = .ok (.lst [x, y]) st := by rw [y_lp, if_pos (by show 2 ≤ 1000000; omega)]
theorem lp3 : lp (.ok [x, y, z] st) = .ok (.lst [x, y, z]) st := by rw [y_lp, if_pos (by show 3 ≤ 1000000; omega)]
theorem lp4 : lp (.ok [x, y, z, u] st) = .ok (.lst [x, y, z, u]) st := by rw [y_lp, if_pos (by show 4 ≤ 1000000; omega)]
theorem lp5 : lp (.ok [x, y, z, u, v] st) = .ok (.lst [x, y, z, u, v]) st := by rw [y_lp, if_pos (by show 5 ≤ 1000000; omega)]
theorem lp6 : lp (.ok [x, y, z, u, v, w1] st) = .ok (.lst [x, y, z, u, v, w1]) st := by rw [y_lp, if_pos (by show 6 ≤ 1000000; omega)]
theorem lp7 : lp (.ok [x, y, z, u, v, w1, w2] st) = .ok (.lst [x, y, z, u, v, w1, w2]) st := by rw [y_lp, if_pos (by show 7 ≤ 1000000; omega)]
theorem lpn (h : ds.length ≤ 1000000) : lp (.ok ds st) = .ok (.lst ds) st := by rw [y_lp, if_pos h]
theorem tpn (h : ds.length ≤ 1000000) : tp (.ok ds st) = .ok (.tup ds) st := by rw [y_tp, if_pos h]
theorem y_lpM0 : lpM (.ok [] st) = .ok (.ref st.length) (st ++ [.lst []]) := rfl
theorem seq_nx {a b : S} {ρ ρ1 : Rho} {st st1 : Sto} {r : RS} (h1 : a ρ st = .nx ρ1 st1) (h2 : b ρ1 st1 = r) : sSeq a b ρ st = r := by
  rw [x_seq, h1, y_thn, h2]
theorem seq_rt {a b : S} {ρ : Rho} {st st1 : Sto} (h1 : a ρ st = .rt d st1) : sSeq a b ρ st = .rt d st1 := by
  rw [x_seq, h1, y_thr]
theorem seq_ex {a b : S} {ρ ρ1 : Rho} {st st1 : Sto} {e : Exn} (h1 : a ρ st = .exc e ρ1 st1) : sSeq a b ρ st = .exc e ρ1 st1 := by
  rw [x_seq, h1, y_thx]
theorem fn_nx {np nl : Nat} {g : S} {st st' : Sto} {ρ : Rho} (hl : ds.length = np) (h : g (ds.map some ++ List.replicate (nl - np) none) st = .nx ρ st') : mkF np nl g ds st = .ok .non st' := by
  rw [x_mkF, if_pos hl, h]
theorem fn_ex {np nl : Nat} {g : S} {st st' : Sto} {ρ : Rho} {e : Exn} (hl : ds.length = np) (h : g (ds.map some ++ List.replicate (nl - np) none) st = .exc e ρ st') : mkF np nl g ds st = .exc e st' := by
  rw [x_mkF, if_pos hl, h]
end
/-! bools -/
theorem blsOf_map {α : Type} (p : α → Bool) (ys : List α) : blsOf (ys.map fun y => .bl (p y)) = some (ys.map p) := by
  induction ys with
  | nil => rfl
  | cons y ys ih => simp only [List.map_cons, blsOf, ih]
theorem z_all {α : Type} (p : α → Bool) (ys : List α) (st : Sto) : g0 allD [.lst (ys.map fun y => .bl (p y))] st = some (.bl (ys.all p), st) := by
  simp only [g0, allD, listOf, blsOf_map, List.all_map]
  rfl
theorem z_any {α : Type} (p : α → Bool) (ys : List α) (st : Sto) : g0 anyD [.lst (ys.map fun y => .bl (p y))] st = some (.bl (ys.any p), st) := by
  simp only [g0, anyD, listOf, blsOf_map, List.any_map]
  rfl
theorem z_allv (p : Nat → Bool) (n : Nat) (st : Sto) : g0 allD [.lst (vec (fun k => .bl (p k)) n)] st = some (.bl ((List.range n).all p), st) := z_all p _ st
theorem z_anyv (p : Nat → Bool) (n : Nat) (st : Sto) : g0 anyD [.lst (vec (fun k => .bl (p k)) n)] st = some (.bl ((List.range n).any p), st) := z_any p _ st
theorem range_all {p : Nat → Bool} {n : Nat} (h : ∀ k, k < n → p k = true) : (List.range n).all p = true := by
  rw [List.all_eq_true]; exact fun k hk => h k (List.mem_range.mp hk)
theorem range_none {p : Nat → Bool} {n : Nat} (h : ∀ k, k < n → p k = false) : (List.range n).any p = false := by
  rw [List.any_eq_false]; exact fun k hk => by rw [h k (List.mem_range.mp hk)]; decide
theorem range_some {p : Nat → Bool} {n k : Nat} (hk : k < n) (h : p k = true) : (List.range n).any p = true := by
  rw [List.any_eq_true]; exact ⟨k, List.mem_range.mpr hk, h⟩
/-! ### a share, closed -/
def sh (r : Rat) : D := shR r
theorem sh_def (r : Rat) : sh r = .tup [.int r.num, .int (r.den : Int)] := rfl
theorem sh_00 : D.tup [.int 0, .int 1] = sh 0 := rfl
theorem sh_11 : D.tup [.int 1, .int 1] = sh 1 := rfl
theorem sh_int (n : Int) : D.tup [.int n, .int 1] = sh (n : Rat) := rfl
theorem sh_nat (n : Nat) : D.tup [.int (n : Int), .int 1] = sh (n : Rat) := rfl
section
variable {x y : Rat} {st : Sto} {n : Nat}
@[simp] theorem sh_nr : nr (n + 1) (sh x) = true := nr_shR n x
@[simp] theorem sh_shp : shp (n + 1) (sh x) = true := by
  show ([D.int x.num, D.int (x.den : Int)]).all (shp n) = true
  have : ∀ i, shp n (.int i) = true := fun i => by cases n <;> rfl
  simp -implicitDefEqProofs [this]
@[simp] theorem sh_ix0 : ixD (sh x) (.int 0) st = some (.int x.num) := at_0
@[simp] theorem sh_ix1 : ixD (sh x) (.int 1) st = some (.int (x.den : Int)) := at_1
@[simp] theorem sh_len : g0 lenD [sh x] st = some (.int 2, st) := rfl
@[simp] theorem sh_tt : g0 isiD [sh x, .ty "tuple"] st = some (.bl true, st) := z_isi_tt
@[simp] theorem sh_tl : g0 isiD [sh x, .ty "list"] st = some (.bl false, st) := z_isi_tl
@[simp] theorem sh_ti : g0 isiD [sh x, .ty "int"] st = some (.bl false, st) := z_isi_ti
@[simp] theorem sh_tb : g0 isiD [sh x, .ty "bool"] st = some (.bl false, st) := z_isi_tb
theorem eqv_int {i j : Int} : eqvN n (.int i) (.int j) = decide (i = j) := by
  cases n <;> simp [eqvN, eqLeaf, Bool.beq_eq_decide_eq]
theorem eqv_sh : eqvN (n + 1) (sh x) (sh y) = decide (x = y) := by
  show eqL (eqvN n) [.int x.num, .int (x.den : Int)] [.int y.num, .int (y.den : Int)] = _
  simp only [eqL, eqv_int, Bool.and_true]
  by_cases h : x = y
  · subst h; simp
  · rw [decide_eq_false h]
    by_cases h1 : x.num = y.num
    · have : x.den ≠ y.den := fun h2 => h (Rat.ext h1 h2)
      have : ¬ ((x.den : Int) = (y.den : Int)) := by omega
      simp [this]
    · simp [h1]
@[simp] theorem sh_eq : eqD (sh x) (sh y) st = some (.bl (decide (x = y))) := by
  unfold eqD
  rw [sh_shp, sh_shp, eqv_sh]; rfl
@[simp] theorem sh_ne : neD (sh x) (sh y) st = some (.bl (!decide (x = y))) := by
  unfold neD
  rw [sh_shp, sh_shp, eqv_sh]; rfl
end
/-- what reckons like fractions do, up to a size -/
structure Ops (K : Nat) (Fp Fl Ft Fo : List D → Sto → RE) : Prop where
  plus : ∀ {x y : Rat} {st : Sto}, Bn K x → Bn K y → Fp [sh x, sh y] st = .ok (sh (x + y)) st
  less : ∀ {x y : Rat} {st : Sto}, Bn K x → Bn K y → Fl [sh x, sh y] st = .ok (sh (x - y)) st
  times : ∀ {x y : Rat} {st : Sto}, Bn K x → Bn K y → Ft [sh x, sh y] st = .ok (sh (x * y)) st
  over : ∀ {x y : Rat} {st : Sto}, Bn K x → Bn K y → y ≠ 0 → Fo [sh x, sh y] st = .ok (sh (x / y)) st
theorem ops_of {N K : Nat} {F : List D → Sto → RE} (L : LowS N F) (hN : 2 * K + 1 ≤ N) (h8 : K ≤ 4000) : Ops K (mkF 2 2 (plusG F)) (mkF 2 2 (lessG F)) (mkF 2 2 (timesG F)) (mkF 2 2 (overG F)) :=
  ⟨fun h1 h2 => plus_eqG L hN h8 h1 h2, fun h1 h2 => less_eqG L hN h8 h1 h2, fun h1 h2 => times_eqG L hN h8 h1 h2, fun h1 h2 h3 => over_eqG L hN h8 h1 h2 h3⟩
theorem ops_prog : Ops 3000 (mkF 2 2 (plusG lowF)) (mkF 2 2 (lessG lowF)) (mkF 2 2 (timesG lowF)) (mkF 2 2 (overG lowF)) := ops_of lowS_prog (by decide) (by decide)
theorem ops_law4 : Ops 900 (mkF 2 2 (plusG lawLowF)) (mkF 2 2 (lessG lawLowF)) (mkF 2 2 (timesG lawLowF)) (mkF 2 2 (overG lawLowF)) := ops_of lowS_law (by decide) (by decide)
/-- reckoning of any: one less than another one -/
def belowG : S := (sRet (e2 ltD (e2 mulD (e2 ixD (eV 0) (eC (.int 0))) (e2 ixD (eV 1) (eC (.int 1)))) (e2 mulD (e2 ixD (eV 1) (eC (.int 0))) (e2 ixD (eV 0) (eC (.int 1))))))
theorem below_eq {x y : Rat} {st : Sto} (hx : Bn 4000 x) (hy : Bn 4000 y) : mkF 2 2 belowG [sh x, sh y] st = .ok (.bl (decide (x < y))) st := by
  have e : (decide (x.num * (y.den : Int) < y.num * (x.den : Int))) = decide (x < y) := by
    rw [decide_eq_decide]; exact (Rat.lt_iff x y).symm
  refine fn_rt rfl ?_
  show belowG [some (sh x), some (sh y)] st = _
  unfold belowG
  simp -implicitDefEqProofs only [x_set, x_asg, x_call, x_callM, x_callN, x_cons, x_nil, x_V, x_C, x_1, x_2, x_N, x_tup, x_lst, x_lstM, x_lc, x_rg1, x_rg2, x_iseq, x_ifE, x_ifS, x_and, x_or, x_not, x_ret, x_retN, x_par, x_drop, x_nx, x_raise, x_seq, x_for, x_chain, x_met, x_callP, x_bname, x_bnil, x_bcons, x_btup, x_put, x_fnil, List.getElem?_cons_zero, List.getElem?_cons_succ, List.set_cons_succ, List.set_cons_zero, y_bn, y_bn', y_un, y_of, y_of2, y_nN, y_ac, y_ac', tp0, tp1, tp2, tp3, tp4, lp0, lp1, lp2, lp3, lp4, lp5, lp6, lp7, y_lpM0, y_ift, y_iff, y_not, y_cl, y_clM, y_clN, y_clP, y_clPx, y_st, y_rt, y_rtx, y_dr, y_drx, y_ifst, y_ifsf, y_pr, y_pr', y_asg, y_rg1, y_rg2, y_rg2', y_sql, y_sqt, y_fr, y_lc, y_thn, y_thr, y_thx, y_ch0, y_ch1, y_ch2t, y_ch2f, y_ch3, y_pt1, y_pt2, y_me2, z_add, z_sub, z_lt, z_le, z_gt, z_ge, z_eq, z_ne, z_neg, z_nri, z_nrb, z_nrn, z_nrt, z_nrl, z_lent, z_lenl, z_min, z_max, z_ixt, z_ixl, z_revt, z_revl, z_tupt, z_tupl, z_lstt, z_lstl, z_inti, z_isi_ii, z_isi_ib, z_isi_is, z_isi_it, z_isi_il, z_isi_tt, z_isi_tl, z_isi_ti, z_isi_tb, z_isi_lt, z_isi_ll, z_isi_bb, z_isi_bi, z_isi_bt, z_isi_bls, at_0, at_1, at_2, at_3, List.all_cons, List.all_nil, Bool.and_self, Bool.true_and, Bool.and_true, if_true, decide_true, decide_false, Bool.not_true, Bool.not_false, wipeD, finL, rgOk_0, rgOk_1, and_true, true_and, List.reverse_nil, List.nil_append, and_self, reduceIte, Bool.false_eq_true, sh_ix0, sh_ix1, mu hx.1 (den_abs hy), mu hy.1 (den_abs hx), e]
/-! ### shares.py -/
def isWholeG : S := (sRet (eAnd (eN (g0 isiD) (aCons (eV 0) (aCons (eC (.ty "int")) aNil))) (eNot (eN (g0 isiD) (aCons (eV 0) (aCons (eC (.ty "bool")) aNil))))))
def isWholeF : List D → Sto → RE := mkF 1 1 isWholeG
def isShareG : S := (sSeq (sIf (eOr (eNot (eN (g0 isiD) (aCons (eV 0) (aCons (eC (.ty "tuple")) aNil)))) (eOr (e2 neD (eN (g0 lenD) (aCons (eV 0) aNil)) (eC (.int 2))) (eOr (eNot (eCall isWholeF (aCons (e2 ixD (eV 0) (eC (.int 0))) aNil))) (eNot (eCall isWholeF (aCons (e2 ixD (eV 0) (eC (.int 1))) aNil)))))) (sRet (eC (.bl false))) sNx)
    (sRet (eAnd (e2 gtD (e2 ixD (eV 0) (eC (.int 1))) (eC (.int 0))) (e2 eqD (eCall divisorF (aCons (e2 ixD (eV 0) (eC (.int 0))) (aCons (e2 ixD (eV 0) (eC (.int 1))) aNil))) (eC (.int 1))))))
def isShareF : List D → Sto → RE := mkF 1 1 isShareG
def isChanceG : S := (sRet (eAnd (eCall isShareF (aCons (eV 0) aNil)) (eChain leD leD (eC (.int 0)) (e2 ixD (eV 0) (eC (.int 0))) (e2 ixD (eV 0) (eC (.int 1))))))
def isChanceF : List D → Sto → RE := mkF 1 1 isChanceG
theorem whole_int {i : Int} {st : Sto} : isWholeF [.int i] st = .ok (.bl true) st := by
  refine fn_rt rfl ?_
  show isWholeG [some (.int i)] st = _
  unfold isWholeG
  simp -implicitDefEqProofs only [x_set, x_asg, x_call, x_callM, x_callN, x_cons, x_nil, x_V, x_C, x_1, x_2, x_N, x_tup, x_lst, x_lstM, x_lc, x_rg1, x_rg2, x_iseq, x_ifE, x_ifS, x_and, x_or, x_not, x_ret, x_retN, x_par, x_drop, x_nx, x_raise, x_seq, x_for, x_chain, x_met, x_callP, x_bname, x_bnil, x_bcons, x_btup, x_put, x_fnil, List.getElem?_cons_zero, List.getElem?_cons_succ, List.set_cons_succ, List.set_cons_zero, y_bn, y_bn', y_un, y_of, y_of2, y_nN, y_ac, y_ac', tp0, tp1, tp2, tp3, tp4, lp0, lp1, lp2, lp3, lp4, lp5, lp6, lp7, y_lpM0, y_ift, y_iff, y_not, y_cl, y_clM, y_clN, y_clP, y_clPx, y_st, y_rt, y_rtx, y_dr, y_drx, y_ifst, y_ifsf, y_pr, y_pr', y_asg, y_rg1, y_rg2, y_rg2', y_sql, y_sqt, y_fr, y_lc, y_thn, y_thr, y_thx, y_ch0, y_ch1, y_ch2t, y_ch2f, y_ch3, y_pt1, y_pt2, y_me2, z_add, z_sub, z_lt, z_le, z_gt, z_ge, z_eq, z_ne, z_neg, z_nri, z_nrb, z_nrn, z_nrt, z_nrl, z_lent, z_lenl, z_min, z_max, z_ixt, z_ixl, z_revt, z_revl, z_tupt, z_tupl, z_lstt, z_lstl, z_inti, z_isi_ii, z_isi_ib, z_isi_is, z_isi_it, z_isi_il, z_isi_tt, z_isi_tl, z_isi_ti, z_isi_tb, z_isi_lt, z_isi_ll, z_isi_bb, z_isi_bi, z_isi_bt, z_isi_bls, at_0, at_1, at_2, at_3, List.all_cons, List.all_nil, Bool.and_self, Bool.true_and, Bool.and_true, if_true, decide_true, decide_false, Bool.not_true, Bool.not_false, wipeD, finL, rgOk_0, rgOk_1, and_true, true_and, List.reverse_nil, List.nil_append, and_self, reduceIte, Bool.false_eq_true]
theorem whole_bl {i : Bool} {st : Sto} : isWholeF [.bl i] st = .ok (.bl false) st := by
  refine fn_rt rfl ?_
  show isWholeG [some (.bl i)] st = _
  unfold isWholeG
  simp -implicitDefEqProofs only [x_set, x_asg, x_call, x_callM, x_callN, x_cons, x_nil, x_V, x_C, x_1, x_2, x_N, x_tup, x_lst, x_lstM, x_lc, x_rg1, x_rg2, x_iseq, x_ifE, x_ifS, x_and, x_or, x_not, x_ret, x_retN, x_par, x_drop, x_nx, x_raise, x_seq, x_for, x_chain, x_met, x_callP, x_bname, x_bnil, x_bcons, x_btup, x_put, x_fnil, List.getElem?_cons_zero, List.getElem?_cons_succ, List.set_cons_succ, List.set_cons_zero, y_bn, y_bn', y_un, y_of, y_of2, y_nN, y_ac, y_ac', tp0, tp1, tp2, tp3, tp4, lp0, lp1, lp2, lp3, lp4, lp5, lp6, lp7, y_lpM0, y_ift, y_iff, y_not, y_cl, y_clM, y_clN, y_clP, y_clPx, y_st, y_rt, y_rtx, y_dr, y_drx, y_ifst, y_ifsf, y_pr, y_pr', y_asg, y_rg1, y_rg2, y_rg2', y_sql, y_sqt, y_fr, y_lc, y_thn, y_thr, y_thx, y_ch0, y_ch1, y_ch2t, y_ch2f, y_ch3, y_pt1, y_pt2, y_me2, z_add, z_sub, z_lt, z_le, z_gt, z_ge, z_eq, z_ne, z_neg, z_nri, z_nrb, z_nrn, z_nrt, z_nrl, z_lent, z_lenl, z_min, z_max, z_ixt, z_ixl, z_revt, z_revl, z_tupt, z_tupl, z_lstt, z_lstl, z_inti, z_isi_ii, z_isi_ib, z_isi_is, z_isi_it, z_isi_il, z_isi_tt, z_isi_tl, z_isi_ti, z_isi_tb, z_isi_lt, z_isi_ll, z_isi_bb, z_isi_bi, z_isi_bt, z_isi_bls, at_0, at_1, at_2, at_3, List.all_cons, List.all_nil, Bool.and_self, Bool.true_and, Bool.and_true, if_true, decide_true, decide_false, Bool.not_true, Bool.not_false, wipeD, finL, rgOk_0, rgOk_1, and_true, true_and, List.reverse_nil, List.nil_append, and_self, reduceIte, Bool.false_eq_true]
theorem whole_non {st : Sto} : isWholeF [.non] st = .ok (.bl false) st := rfl
theorem share_int (a b : Int) (st : Sto) : isShareF [.tup [.int a, .int b]] st = .ok (.bl (decide (0 < b) && decide (Nat.gcd a.natAbs b.natAbs = 1))) st := by
  have dg := divisor_eqG a b []
  have e : decide (((Nat.gcd a.natAbs b.natAbs : Nat) : Int) = 1) = decide (Nat.gcd a.natAbs b.natAbs = 1) := by rw [decide_eq_decide]; omega
  refine fn_rt rfl ?_
  show isShareG [some (.tup [.int a, .int b])] st = _
  unfold isShareG
  by_cases h : 0 < b
  · simp -implicitDefEqProofs only [x_set, x_asg, x_call, x_callM, x_callN, x_cons, x_nil, x_V, x_C, x_1, x_2, x_N, x_tup, x_lst, x_lstM, x_lc, x_rg1, x_rg2, x_iseq, x_ifE, x_ifS, x_and, x_or, x_not, x_ret, x_retN, x_par, x_drop, x_nx, x_raise, x_seq, x_for, x_chain, x_met, x_callP, x_bname, x_bnil, x_bcons, x_btup, x_put, x_fnil, List.getElem?_cons_zero, List.getElem?_cons_succ, List.set_cons_succ, List.set_cons_zero, y_bn, y_bn', y_un, y_of, y_of2, y_nN, y_ac, y_ac', tp0, tp1, tp2, tp3, tp4, lp0, lp1, lp2, lp3, lp4, lp5, lp6, lp7, y_lpM0, y_ift, y_iff, y_not, y_cl, y_clM, y_clN, y_clP, y_clPx, y_st, y_rt, y_rtx, y_dr, y_drx, y_ifst, y_ifsf, y_pr, y_pr', y_asg, y_rg1, y_rg2, y_rg2', y_sql, y_sqt, y_fr, y_lc, y_thn, y_thr, y_thx, y_ch0, y_ch1, y_ch2t, y_ch2f, y_ch3, y_pt1, y_pt2, y_me2, z_add, z_sub, z_lt, z_le, z_gt, z_ge, z_eq, z_ne, z_neg, z_nri, z_nrb, z_nrn, z_nrt, z_nrl, z_lent, z_lenl, z_min, z_max, z_ixt, z_ixl, z_revt, z_revl, z_tupt, z_tupl, z_lstt, z_lstl, z_inti, z_isi_ii, z_isi_ib, z_isi_is, z_isi_it, z_isi_il, z_isi_tt, z_isi_tl, z_isi_ti, z_isi_tb, z_isi_lt, z_isi_ll, z_isi_bb, z_isi_bi, z_isi_bt, z_isi_bls, at_0, at_1, at_2, at_3, List.all_cons, List.all_nil, Bool.and_self, Bool.true_and, Bool.and_true, if_true, decide_true, decide_false, Bool.not_true, Bool.not_false, wipeD, finL, rgOk_0, rgOk_1, and_true, true_and, List.reverse_nil, List.nil_append, and_self, reduceIte, Bool.false_eq_true, List.length_cons, List.length_nil, whole_int, dg, decide_eq_true h, e, show ((0 + 1 + 1 : Nat) : Int) = 2 from rfl]
  · simp -implicitDefEqProofs only [x_set, x_asg, x_call, x_callM, x_callN, x_cons, x_nil, x_V, x_C, x_1, x_2, x_N, x_tup, x_lst, x_lstM, x_lc, x_rg1, x_rg2, x_iseq, x_ifE, x_ifS, x_and, x_or, x_not, x_ret, x_retN, x_par, x_drop, x_nx, x_raise, x_seq, x_for, x_chain, x_met, x_callP, x_bname, x_bnil, x_bcons, x_btup, x_put, x_fnil, List.getElem?_cons_zero, List.getElem?_cons_succ, List.set_cons_succ, List.set_cons_zero, y_bn, y_bn', y_un, y_of, y_of2, y_nN, y_ac, y_ac', tp0, tp1, tp2, tp3, tp4, lp0, lp1, lp2, lp3, lp4, lp5, lp6, lp7, y_lpM0, y_ift, y_iff, y_not, y_cl, y_clM, y_clN, y_clP, y_clPx, y_st, y_rt, y_rtx, y_dr, y_drx, y_ifst, y_ifsf, y_pr, y_pr', y_asg, y_rg1, y_rg2, y_rg2', y_sql, y_sqt, y_fr, y_lc, y_thn, y_thr, y_thx, y_ch0, y_ch1, y_ch2t, y_ch2f, y_ch3, y_pt1, y_pt2, y_me2, z_add, z_sub, z_lt, z_le, z_gt, z_ge, z_eq, z_ne, z_neg, z_nri, z_nrb, z_nrn, z_nrt, z_nrl, z_lent, z_lenl, z_min, z_max, z_ixt, z_ixl, z_revt, z_revl, z_tupt, z_tupl, z_lstt, z_lstl, z_inti, z_isi_ii, z_isi_ib, z_isi_is, z_isi_it, z_isi_il, z_isi_tt, z_isi_tl, z_isi_ti, z_isi_tb, z_isi_lt, z_isi_ll, z_isi_bb, z_isi_bi, z_isi_bt, z_isi_bls, at_0, at_1, at_2, at_3, List.all_cons, List.all_nil, Bool.and_self, Bool.true_and, Bool.and_true, if_true, decide_true, decide_false, Bool.not_true, Bool.not_false, wipeD, finL, rgOk_0, rgOk_1, and_true, true_and, List.reverse_nil, List.nil_append, and_self, reduceIte, Bool.false_eq_true, List.length_cons, List.length_nil, whole_int, dg, decide_eq_false h, e, show ((0 + 1 + 1 : Nat) : Int) = 2 from rfl, Bool.false_and]
theorem share_sh (x : Rat) (st : Sto) : isShareF [sh x] st = .ok (.bl true) st := by
  rw [sh_def, share_int]
  have h1 : (0 : Int) < (x.den : Int) := Rat.den_pos' x
  have h2 : Nat.gcd x.num.natAbs ((x.den : Int)).natAbs = 1 := x.reduced
  rw [decide_eq_true h1, decide_eq_true h2]; rfl
theorem num_nonneg {x : Rat} : decide ((0 : Int) ≤ x.num) = decide (0 ≤ x) := by rw [decide_eq_decide]; exact Rat.num_nonneg
theorem num_le_den {x : Rat} : decide (x.num ≤ (x.den : Int)) = decide (x ≤ 1) := by
  rw [decide_eq_decide]
  have := Rat.le_iff (a := x) (b := 1)
  rw [this]
  simp
theorem chance_sh (x : Rat) (st : Sto) : isChanceF [sh x] st = .ok (.bl (decide (0 ≤ x ∧ x ≤ 1))) st := by
  refine fn_rt rfl ?_
  show isChanceG [some (sh x)] st = _
  unfold isChanceG
  have hs := share_sh x []
  by_cases h : 0 ≤ x
  · have e : decide (0 ≤ x ∧ x ≤ 1) = decide (x ≤ 1) := by rw [decide_eq_decide]; exact ⟨fun h => h.2, fun k => ⟨h, k⟩⟩
    simp -implicitDefEqProofs only [x_set, x_asg, x_call, x_callM, x_callN, x_cons, x_nil, x_V, x_C, x_1, x_2, x_N, x_tup, x_lst, x_lstM, x_lc, x_rg1, x_rg2, x_iseq, x_ifE, x_ifS, x_and, x_or, x_not, x_ret, x_retN, x_par, x_drop, x_nx, x_raise, x_seq, x_for, x_chain, x_met, x_callP, x_bname, x_bnil, x_bcons, x_btup, x_put, x_fnil, List.getElem?_cons_zero, List.getElem?_cons_succ, List.set_cons_succ, List.set_cons_zero, y_bn, y_bn', y_un, y_of, y_of2, y_nN, y_ac, y_ac', tp0, tp1, tp2, tp3, tp4, lp0, lp1, lp2, lp3, lp4, lp5, lp6, lp7, y_lpM0, y_ift, y_iff, y_not, y_cl, y_clM, y_clN, y_clP, y_clPx, y_st, y_rt, y_rtx, y_dr, y_drx, y_ifst, y_ifsf, y_pr, y_pr', y_asg, y_rg1, y_rg2, y_rg2', y_sql, y_sqt, y_fr, y_lc, y_thn, y_thr, y_thx, y_ch0, y_ch1, y_ch2t, y_ch2f, y_ch3, y_pt1, y_pt2, y_me2, z_add, z_sub, z_lt, z_le, z_gt, z_ge, z_eq, z_ne, z_neg, z_nri, z_nrb, z_nrn, z_nrt, z_nrl, z_lent, z_lenl, z_min, z_max, z_ixt, z_ixl, z_revt, z_revl, z_tupt, z_tupl, z_lstt, z_lstl, z_inti, z_isi_ii, z_isi_ib, z_isi_is, z_isi_it, z_isi_il, z_isi_tt, z_isi_tl, z_isi_ti, z_isi_tb, z_isi_lt, z_isi_ll, z_isi_bb, z_isi_bi, z_isi_bt, z_isi_bls, at_0, at_1, at_2, at_3, List.all_cons, List.all_nil, Bool.and_self, Bool.true_and, Bool.and_true, if_true, decide_true, decide_false, Bool.not_true, Bool.not_false, wipeD, finL, rgOk_0, rgOk_1, and_true, true_and, List.reverse_nil, List.nil_append, and_self, reduceIte, Bool.false_eq_true, hs, sh_nr, sh_ix0, sh_ix1, num_nonneg, num_le_den, decide_eq_true h, e]
  · have e : decide (0 ≤ x ∧ x ≤ 1) = false := decide_eq_false fun k => h k.1
    simp -implicitDefEqProofs only [x_set, x_asg, x_call, x_callM, x_callN, x_cons, x_nil, x_V, x_C, x_1, x_2, x_N, x_tup, x_lst, x_lstM, x_lc, x_rg1, x_rg2, x_iseq, x_ifE, x_ifS, x_and, x_or, x_not, x_ret, x_retN, x_par, x_drop, x_nx, x_raise, x_seq, x_for, x_chain, x_met, x_callP, x_bname, x_bnil, x_bcons, x_btup, x_put, x_fnil, List.getElem?_cons_zero, List.getElem?_cons_succ, List.set_cons_succ, List.set_cons_zero, y_bn, y_bn', y_un, y_of, y_of2, y_nN, y_ac, y_ac', tp0, tp1, tp2, tp3, tp4, lp0, lp1, lp2, lp3, lp4, lp5, lp6, lp7, y_lpM0, y_ift, y_iff, y_not, y_cl, y_clM, y_clN, y_clP, y_clPx, y_st, y_rt, y_rtx, y_dr, y_drx, y_ifst, y_ifsf, y_pr, y_pr', y_asg, y_rg1, y_rg2, y_rg2', y_sql, y_sqt, y_fr, y_lc, y_thn, y_thr, y_thx, y_ch0, y_ch1, y_ch2t, y_ch2f, y_ch3, y_pt1, y_pt2, y_me2, z_add, z_sub, z_lt, z_le, z_gt, z_ge, z_eq, z_ne, z_neg, z_nri, z_nrb, z_nrn, z_nrt, z_nrl, z_lent, z_lenl, z_min, z_max, z_ixt, z_ixl, z_revt, z_revl, z_tupt, z_tupl, z_lstt, z_lstl, z_inti, z_isi_ii, z_isi_ib, z_isi_is, z_isi_it, z_isi_il, z_isi_tt, z_isi_tl, z_isi_ti, z_isi_tb, z_isi_lt, z_isi_ll, z_isi_bb, z_isi_bi, z_isi_bt, z_isi_bls, at_0, at_1, at_2, at_3, List.all_cons, List.all_nil, Bool.and_self, Bool.true_and, Bool.and_true, if_true, decide_true, decide_false, Bool.not_true, Bool.not_false, wipeD, finL, rgOk_0, rgOk_1, and_true, true_and, List.reverse_nil, List.nil_append, and_self, reduceIte, Bool.false_eq_true, hs, sh_nr, sh_ix0, sh_ix1, num_nonneg, num_le_den, decide_eq_false h, e]
/-- what is no chance -/
def NoCh (d : D) : Prop := ∀ st, isChanceF [d] st = .ok (.bl false) st
theorem chance_no {d : D} (h : isShareF [d] [] = .ok (.bl false) []) (hn : nr 12 d = true) : NoCh d := fun st => by
  refine fn_rt rfl ?_
  show isChanceG [some d] st = _
  unfold isChanceG
  simp -implicitDefEqProofs only [x_set, x_asg, x_call, x_callM, x_callN, x_cons, x_nil, x_V, x_C, x_1, x_2, x_N, x_tup, x_lst, x_lstM, x_lc, x_rg1, x_rg2, x_iseq, x_ifE, x_ifS, x_and, x_or, x_not, x_ret, x_retN, x_par, x_drop, x_nx, x_raise, x_seq, x_for, x_chain, x_met, x_callP, x_bname, x_bnil, x_bcons, x_btup, x_put, x_fnil, List.getElem?_cons_zero, List.getElem?_cons_succ, List.set_cons_succ, List.set_cons_zero, y_bn, y_bn', y_un, y_of, y_of2, y_nN, y_ac, y_ac', tp0, tp1, tp2, tp3, tp4, lp0, lp1, lp2, lp3, lp4, lp5, lp6, lp7, y_lpM0, y_ift, y_iff, y_not, y_cl, y_clM, y_clN, y_clP, y_clPx, y_st, y_rt, y_rtx, y_dr, y_drx, y_ifst, y_ifsf, y_pr, y_pr', y_asg, y_rg1, y_rg2, y_rg2', y_sql, y_sqt, y_fr, y_lc, y_thn, y_thr, y_thx, y_ch0, y_ch1, y_ch2t, y_ch2f, y_ch3, y_pt1, y_pt2, y_me2, z_add, z_sub, z_lt, z_le, z_gt, z_ge, z_eq, z_ne, z_neg, z_nri, z_nrb, z_nrn, z_nrt, z_nrl, z_lent, z_lenl, z_min, z_max, z_ixt, z_ixl, z_revt, z_revl, z_tupt, z_tupl, z_lstt, z_lstl, z_inti, z_isi_ii, z_isi_ib, z_isi_is, z_isi_it, z_isi_il, z_isi_tt, z_isi_tl, z_isi_ti, z_isi_tb, z_isi_lt, z_isi_ll, z_isi_bb, z_isi_bi, z_isi_bt, z_isi_bls, at_0, at_1, at_2, at_3, List.all_cons, List.all_nil, Bool.and_self, Bool.true_and, Bool.and_true, if_true, decide_true, decide_false, Bool.not_true, Bool.not_false, wipeD, finL, rgOk_0, rgOk_1, and_true, true_and, List.reverse_nil, List.nil_append, and_self, reduceIte, Bool.false_eq_true, h, hn]
theorem noCh_non : NoCh .non := chance_no rfl rfl
theorem noCh_int (i : Int) : NoCh (.int i) := chance_no (by
  refine fn_rt rfl ?_
  show isShareG [some (.int i)] [] = _
  unfold isShareG
  simp -implicitDefEqProofs only [x_set, x_asg, x_call, x_callM, x_callN, x_cons, x_nil, x_V, x_C, x_1, x_2, x_N, x_tup, x_lst, x_lstM, x_lc, x_rg1, x_rg2, x_iseq, x_ifE, x_ifS, x_and, x_or, x_not, x_ret, x_retN, x_par, x_drop, x_nx, x_raise, x_seq, x_for, x_chain, x_met, x_callP, x_bname, x_bnil, x_bcons, x_btup, x_put, x_fnil, List.getElem?_cons_zero, List.getElem?_cons_succ, List.set_cons_succ, List.set_cons_zero, y_bn, y_bn', y_un, y_of, y_of2, y_nN, y_ac, y_ac', tp0, tp1, tp2, tp3, tp4, lp0, lp1, lp2, lp3, lp4, lp5, lp6, lp7, y_lpM0, y_ift, y_iff, y_not, y_cl, y_clM, y_clN, y_clP, y_clPx, y_st, y_rt, y_rtx, y_dr, y_drx, y_ifst, y_ifsf, y_pr, y_pr', y_asg, y_rg1, y_rg2, y_rg2', y_sql, y_sqt, y_fr, y_lc, y_thn, y_thr, y_thx, y_ch0, y_ch1, y_ch2t, y_ch2f, y_ch3, y_pt1, y_pt2, y_me2, z_add, z_sub, z_lt, z_le, z_gt, z_ge, z_eq, z_ne, z_neg, z_nri, z_nrb, z_nrn, z_nrt, z_nrl, z_lent, z_lenl, z_min, z_max, z_ixt, z_ixl, z_revt, z_revl, z_tupt, z_tupl, z_lstt, z_lstl, z_inti, z_isi_ii, z_isi_ib, z_isi_is, z_isi_it, z_isi_il, z_isi_tt, z_isi_tl, z_isi_ti, z_isi_tb, z_isi_lt, z_isi_ll, z_isi_bb, z_isi_bi, z_isi_bt, z_isi_bls, at_0, at_1, at_2, at_3, List.all_cons, List.all_nil, Bool.and_self, Bool.true_and, Bool.and_true, if_true, decide_true, decide_false, Bool.not_true, Bool.not_false, wipeD, finL, rgOk_0, rgOk_1, and_true, true_and, List.reverse_nil, List.nil_append, and_self, reduceIte, Bool.false_eq_true]) z_nri
theorem noCh_two {a b : Int} (h : (decide (0 < b) && decide (Nat.gcd a.natAbs b.natAbs = 1)) = false) : NoCh (.tup [.int a, .int b]) := chance_no (by rw [share_int, h]) rfl
theorem noCh_sh {x : Rat} (h : ¬ (0 ≤ x ∧ x ≤ 1)) : NoCh (sh x) := fun st => by rw [chance_sh, decide_eq_false h]
end L4
namespace L4
open PySem L2
/-! ### try, slices, stores -/
theorem try_rt {i : Nat} {l : List (Str × Bool)} {h : Str → Option D} {body : S} {ρ : Rho} {st st1 : Sto} {d : D} (e : body ρ st = .rt d st1) : sTry i l h body ρ st = .rt d st1 := by
  unfold sTry; rw [e]
theorem try_nx {i : Nat} {l : List (Str × Bool)} {h : Str → Option D} {body : S} {ρ ρ1 : Rho} {st st1 : Sto} (e : body ρ st = .nx ρ1 st1) : sTry i l h body ρ st = .nx ρ1 st1 := by
  unfold sTry; rw [e]
theorem try_ex {i : Nat} {l : List (Str × Bool)} {h : Str → Option D} {body : S} {ρ ρ1 : Rho} {st st1 : Sto} {x : Str} {d : D} (e : body ρ st = .exc ⟨x⟩ ρ1 st1) (hi : i < ρ1.length) (hl : l.lookup x = some true) (hh : h x = some d) : sTry i l h body ρ st = .rt d st1 := by
  unfold sTry; rw [e]; dsimp only; rw [if_pos hi, hl]; dsimp only; rw [hh]
theorem try_en {i : Nat} {l : List (Str × Bool)} {h : Str → Option D} {body : S} {ρ ρ1 : Rho} {st st1 : Sto} {x : Str} (e : body ρ st = .exc ⟨x⟩ ρ1 st1) (hi : i < ρ1.length) (hl : l.lookup x = some true) (hh : h x = none) : sTry i l h body ρ st = .nx (ρ1.set i none) st1 := by
  unfold sTry; rw [e]; dsimp only; rw [if_pos hi, hl]; dsimp only; rw [hh]
def ps : RE → RP
  | .ok (.int i) st => .ok (some i) st | .ok _ _ => .stuck | .exc x st => .exc x st | .stuck => .stuck
def sl3 (x : D) (l : Option Int) : RP → RE
  | .ok h st => RE.of (slD x l h st) st | .exc x st => .exc x st | .stuck => .stuck
def sl2 (x : D) (hi : EPt) (ρ : Rho) : RP → RE
  | .ok l st => sl3 x l (hi ρ st) | .exc x st => .exc x st | .stuck => .stuck
def sl1 (lo hi : EPt) (ρ : Rho) : RE → RE
  | .ok x st => sl2 x hi ρ (lo ρ st) | .exc x st => .exc x st | .stuck => .stuck
def ap3 (j : Nat) (ρ : Rho) (d1 d2 x : D) : RE → RS
  | .ok y st3 => (match putD x y d1 st3 with | some st4 => .nx (ρ.set j (some d2)) st4 | none => .stuck) | .exc x st => .exc x ρ st | .stuck => .stuck
def ap2 (j : Nat) (ρ : Rho) (i : E) (d1 d2 : D) : RE → RS
  | .ok x st => ap3 j ρ d1 d2 x (i ρ st) | .exc x st => .exc x ρ st | .stuck => .stuck
def ap1 (j : Nat) (ρ : Rho) (o i : E) : RE → RS
  | .ok (.tup [d1, d2]) st => ap2 j ρ i d1 d2 (o ρ st) | .ok _ _ => .stuck | .exc x st => .exc x ρ st | .stuck => .stuck
def mm2 (x : D) : RE → RE
  | .ok y st2 => (match listOf x st2, y with
    | some xs, .int k => if xs.length ≤ 1000 ∧ 0 ≤ k ∧ k ≤ 1000 then .ok (.ref st2.length) (st2 ++ [.lst (List.replicate k.toNat xs).flatten]) else .stuck
    | _, _ => .stuck) | .exc x st => .exc x st | .stuck => .stuck
def mm1 (b : E) (ρ : Rho) : RE → RE
  | .ok x st => mm2 x (b ρ st) | .exc x st => .exc x st | .stuck => .stuck
def au2 (g : D → D → Option D) (i : Nat) (ρ : Rho) (x : D) : RE → RS
  | .ok y st => (match g x y with | some z => .nx (ρ.set i (some z)) st | none => .stuck) | .exc x st => .exc x ρ st | .stuck => .stuck
def p33 (i j l : Nat) (ρ : Rho) (x y : D) : RE → RS
  | .ok z st => .nx (((ρ.set i (some x)).set j (some y)).set l (some z)) st | .exc x st => .exc x ρ st | .stuck => .stuck
def p32 (i j l : Nat) (ρ : Rho) (c : E) (x : D) : RE → RS
  | .ok y st => p33 i j l ρ x y (c ρ st) | .exc x st => .exc x ρ st | .stuck => .stuck
def p31 (i j l : Nat) (ρ : Rho) (b c : E) : RE → RS
  | .ok x st => p32 i j l ρ c x (b ρ st) | .exc x st => .exc x ρ st | .stuck => .stuck
section
variable {a b c e o i : E} {lo hi : EPt} {ρ : Rho} {st : Sto} {x y z d1 d2 : D} {l h : Option Int} {j i' l' : Nat} {ds : List D} {n : Int} {g : D → D → Option D}
theorem x_pSome : pSome e ρ st = ps (e ρ st) := by
  unfold pSome; cases e ρ st with
  | ok d st1 => cases d <;> rfl
  | exc _ _ => rfl
  | stuck => rfl
theorem x_pNone : pNone ρ st = .ok none st := rfl
theorem y_ps : ps (.ok (.int n) st) = .ok (some n) st := rfl
theorem x_sl : eSl a lo hi ρ st = sl1 lo hi ρ (a ρ st) := by
  unfold eSl
  cases a ρ st with
  | ok x st1 =>
    show (lo ρ st1).bind _ = sl2 x hi ρ (lo ρ st1)
    cases lo ρ st1 with
    | ok l st2 => show (hi ρ st2).bind _ = sl3 x l (hi ρ st2); cases hi ρ st2 <;> rfl
    | exc _ _ => rfl
    | stuck => rfl
  | exc _ _ => rfl
  | stuck => rfl
theorem y_sl1 : sl1 lo hi ρ (.ok x st) = sl2 x hi ρ (lo ρ st) := rfl
theorem y_sl2 : sl2 x hi ρ (.ok l st) = sl3 x l (hi ρ st) := rfl
theorem y_sl3 : sl3 x l (.ok h st) = RE.of (slD x l h st) st := rfl
theorem z_slt : slD (.tup ds) l h st = some (.tup (cutD ds l h)) := rfl
theorem z_sll : slD (.lst ds) l h st = some (.lst (cutD ds l h)) := rfl
theorem x_asgP : sAsgP e o i j ρ st = ap1 j ρ o i (e ρ st) := by
  unfold sAsgP
  cases e ρ st with
  | ok d st1 =>
    cases d with
    | tup ds =>
      match ds with
      | [] => rfl
      | [_] => rfl
      | [d1, d2] =>
        show (o ρ st1).toS ρ _ = ap2 j ρ i d1 d2 (o ρ st1)
        cases o ρ st1 with
        | ok x st2 => show (i ρ st2).toS ρ _ = ap3 j ρ d1 d2 x (i ρ st2); cases i ρ st2 <;> rfl
        | exc _ _ => rfl
        | stuck => rfl
      | _ :: _ :: _ :: _ => rfl
    | _ => rfl
  | exc _ _ => rfl
  | stuck => rfl
theorem y_ap1 : ap1 j ρ o i (.ok (.tup [d1, d2]) st) = ap2 j ρ i d1 d2 (o ρ st) := rfl
theorem y_ap2 : ap2 j ρ i d1 d2 (.ok x st) = ap3 j ρ d1 d2 x (i ρ st) := rfl
theorem y_ap3 {st4 : Sto} (h : putD x y d1 st = some st4) : ap3 j ρ d1 d2 x (.ok y st) = .nx (ρ.set j (some d2)) st4 := by unfold ap3; dsimp only; rw [h]
theorem x_mulM : eMulM a b ρ st = mm1 b ρ (a ρ st) := by
  unfold eMulM
  cases a ρ st with
  | ok x st1 => show (b ρ st1).bind _ = mm2 x (b ρ st1); cases b ρ st1 <;> rfl
  | exc _ _ => rfl
  | stuck => rfl
theorem y_mm1 : mm1 b ρ (.ok x st) = mm2 x (b ρ st) := rfl
theorem y_mm2 {k : Nat} (h1 : ds.length ≤ 1000) (h2 : k ≤ 1000) : mm2 (.lst ds) (.ok (.int k) st) = .ok (.ref st.length) (st ++ [.lst (List.replicate k ds).flatten]) := by
  show (if ds.length ≤ 1000 ∧ (0 : Int) ≤ (k : Int) ∧ (k : Int) ≤ 1000 then RE.ok (.ref st.length) (st ++ [.lst (List.replicate (k : Int).toNat ds).flatten]) else .stuck) = _
  rw [if_pos ⟨h1, by omega, by omega⟩, Int.toNat_natCast]
theorem mulL {k : Nat} (h2 : k ≤ 1000) : mm2 (.lst [x]) (.ok (.int k) st) = .ok (.ref st.length) (st ++ [.lst (vec (fun _ => x) k)]) := by
  rw [y_mm2 (by show 1 ≤ 1000; omega) h2]
  congr 4
  rw [← vec_rep]
  induction k with
  | zero => rfl
  | succ k ih => rw [List.replicate_succ, List.flatten_cons, ih (by omega), List.replicate_succ]; rfl
theorem frz_lst {n : Nat} (h1 : ρ[j]? = some (some (.ref n))) (h2 : st[n]? = some (.lst ds)) : sFrz j ρ st = .nx (ρ.set j (some (.lst ds))) (st.set n .gone) := by
  unfold sFrz; rw [h1]; dsimp only; rw [h2]
theorem x_aug {w : D} (h1 : ρ[j]? = some (some w)) : sAug g j e ρ st = au2 g j ρ w (e ρ st) := by
  unfold sAug; rw [h1]; dsimp only; cases e ρ st <;> rfl
theorem y_au2 {w : D} (h : g x y = some w) : au2 g j ρ x (.ok y st) = .nx (ρ.set j (some w)) st := by unfold au2; dsimp only; rw [h]
theorem augA_i {m n : Int} : augA (.int m) (.int n) = some (.int (m + n)) := rfl
theorem augS_i {m n : Int} : augS (.int m) (.int n) = some (.int (m - n)) := rfl
theorem x_par3 : sPar3 i' j l' a b c ρ st = p31 i' j l' ρ b c (a ρ st) := by
  unfold sPar3
  cases a ρ st with
  | ok x st1 =>
    show (b ρ st1).toS ρ _ = p32 i' j l' ρ c x (b ρ st1)
    cases b ρ st1 with
    | ok y st2 => show (c ρ st2).toS ρ _ = p33 i' j l' ρ x y (c ρ st2); cases c ρ st2 <;> rfl
    | exc _ _ => rfl
    | stuck => rfl
  | exc _ _ => rfl
  | stuck => rfl
theorem y_p31 : p31 i' j l' ρ b c (.ok x st) = p32 i' j l' ρ c x (b ρ st) := rfl
theorem y_p32 : p32 i' j l' ρ c x (.ok y st) = p33 i' j l' ρ x y (c ρ st) := rfl
theorem y_p33 : p33 i' j l' ρ x y (.ok z st) = .nx (((ρ.set i' (some x)).set j (some y)).set l' (some z)) st := rfl
end
theorem put_lst {n : Nat} {st : Sto} {ds : List D} {k : Nat} {d : D} (h : st[n]? = some (.lst ds)) (hk : k < ds.length) : putD (.ref n) (.int k) d st = some (st.set n (.lst (ds.set k d))) := by
  simp only [putD, h]
  rw [ixN_nat hk]
theorem ix_lst {n : Nat} {st : Sto} {ds : List D} {k : Nat} {d : D} (h : st[n]? = some (.lst ds)) (hk : ds[k]? = some d) : ixD (.ref n) (.int k) st = some d := by
  rw [z_ixr h, at_nat (List.getElem?_eq_some_iff.mp hk).1, hk]
theorem cut_take {f : Nat → D} {n m : Nat} (h : m ≤ n) : cutD (vec f n) none (some (m : Int)) = vec f m := by
  unfold cutD
  rw [HT.sIx_none, HT.sIx_nat, vec_len, List.drop_zero, Nat.sub_zero, Nat.min_eq_left h, vec_take h]
theorem cut_drop {f : Nat → D} {n m : Nat} (h : m ≤ n) : cutD (vec f n) (some (m : Int)) none = vec (fun k => f (m + k)) (n - m) := by
  unfold cutD
  rw [HT.sIx_none, HT.sIx_nat, vec_len, Nat.min_eq_left h, vec_drop, vec_take (Nat.le_refl _)]
theorem cut_mid {f : Nat → D} {n m l : Nat} (h : m ≤ l) (h2 : l ≤ n) : cutD (vec f n) (some (m : Int)) (some (l : Int)) = vec (fun k => f (m + k)) (l - m) := by
  unfold cutD
  rw [HT.sIx_nat, HT.sIx_nat, vec_len, Nat.min_eq_left (Nat.le_trans h h2), Nat.min_eq_left h2, vec_drop, vec_take (by omega)]
theorem add_tt {xs ys : List D} {st : Sto} (h : xs.length + ys.length ≤ 1000000) : addD (.tup xs) (.tup ys) st = some (.tup (xs ++ ys)) := by
  show (if xs.length + ys.length ≤ 1000000 then _ else _) = _
  rw [if_pos h]
/-! a stored argument -/
theorem callM_of {F : List D → Sto → RE} {n : Nat} {ds : List D} {st : Sto} {o o' : MO} {d : D} (h : st[n]? = some o) (ho : o.nr = true) (hd : ds.all (nr 12) = true) (e : F (.ref 0 :: ds) [o] = .ok d [o']) (ho' : o'.nr = true) (hn : nr 12 d = true) : callM F (.ref n :: ds) st = .ok d (st.set n o') := by
  unfold callM
  dsimp only
  rw [h]; dsimp only
  rw [ho, hd, Bool.and_self, if_pos rfl, e]; dsimp only
  rw [ho', hn, Bool.and_self, if_pos rfl]
/-! fractions: sizes, bounds -/
theorem divInt_eq (a : Int) (b : Int) : Rat.divInt a b = (a : Rat) / (b : Rat) := by
  rw [Rat.divInt_eq_div]
theorem Bn.nat {k n : Nat} (h : n < 2 ^ k) (hk : 0 < k) : Bn k (n : Rat) := ⟨by simpa using h, by
  show 1 < 2 ^ k
  exact Nat.one_lt_two_pow (by omega)⟩
theorem Bn.zero {k : Nat} (hk : 0 < k) : Bn k 0 := ⟨Nat.pow_pos (by decide), Nat.one_lt_two_pow (by omega)⟩
theorem Bn.one {k : Nat} (hk : 0 < k) : Bn k 1 := ⟨Nat.one_lt_two_pow (by omega), Nat.one_lt_two_pow (by omega)⟩
theorem Bn.inv {k : Nat} {x : Rat} (h : Bn k x) (h0 : x ≠ 0) : Bn k x⁻¹ := by
  have hn : x.num ≠ 0 := fun e => h0 (Rat.num_eq_zero.mp e)
  obtain ⟨h1, h2⟩ := h
  unfold Bn
  rw [Rat.num_inv, Rat.den_inv]
  rw [if_neg hn]
  refine ⟨?_, h1⟩
  rw [Int.natAbs_mul, Int.natAbs_natCast]
  have : x.num.sign.natAbs = 1 := by
    rw [Int.natAbs_sign]
    rw [if_neg hn]
  rw [this, Nat.one_mul]; exact h2
theorem Bn.div {i j : Nat} {x y : Rat} (hx : Bn i x) (hy : Bn j y) (h0 : y ≠ 0) : Bn (i + j) (x / y) := by
  rw [Rat.div_def]; exact hx.mul (hy.inv h0)
end L4
namespace L4
open PySem L2
section
variable {st : Sto} {ds : List D} {z : Str} {k : Bool}
@[simp] theorem z_isi_nt : g0 isiD [.non, .ty "tuple"] st = some (.bl false, st) := z_isi rfl (by decide +kernel)
@[simp] theorem z_isi_nl : g0 isiD [.non, .ty "list"] st = some (.bl false, st) := z_isi rfl (by decide +kernel)
@[simp] theorem z_isi_ns : g0 isiD [.non, .ty "str"] st = some (.bl false, st) := z_isi rfl (by decide +kernel)
@[simp] theorem z_isi_ni : g0 isiD [.non, .ty "int"] st = some (.bl false, st) := z_isi rfl (by decide +kernel)
@[simp] theorem z_isi_nb : g0 isiD [.non, .ty "bool"] st = some (.bl false, st) := z_isi rfl (by decide +kernel)
@[simp] theorem z_isi_st : g0 isiD [.str z, .ty "tuple"] st = some (.bl false, st) := z_isi rfl (by decide +kernel)
@[simp] theorem z_isi_sl : g0 isiD [.str z, .ty "list"] st = some (.bl false, st) := z_isi rfl (by decide +kernel)
@[simp] theorem z_isi_ss : g0 isiD [.str z, .ty "str"] st = some (.bl true, st) := z_isi rfl (by decide +kernel)
@[simp] theorem z_isi_si : g0 isiD [.str z, .ty "int"] st = some (.bl false, st) := z_isi rfl (by decide +kernel)
@[simp] theorem z_isi_sb : g0 isiD [.str z, .ty "bool"] st = some (.bl false, st) := z_isi rfl (by decide +kernel)
@[simp] theorem z_isi_bs : g0 isiD [.bl k, .ty "str"] st = some (.bl false, st) := z_isi rfl (by decide +kernel)
@[simp] theorem z_isi_li : g0 isiD [.lst ds, .ty "int"] st = some (.bl false, st) := z_isi rfl (by decide +kernel)
@[simp] theorem z_isi_lb : g0 isiD [.lst ds, .ty "bool"] st = some (.bl false, st) := z_isi rfl (by decide +kernel)
@[simp] theorem z_isi_ls : g0 isiD [.lst ds, .ty "str"] st = some (.bl false, st) := z_isi rfl (by decide +kernel)
@[simp] theorem z_isi_ts : g0 isiD [.tup ds, .ty "str"] st = some (.bl false, st) := z_isi rfl (by decide +kernel)
theorem z_isnn : isD .non .non st = some (.bl true) := rfl
theorem z_issn : isD (.str z) .non st = some (.bl false) := rfl
theorem z_isbn : isD (.bl k) .non st = some (.bl false) := rfl
theorem z_istn : isD (.tup ds) .non st = some (.bl false) := rfl
theorem z_isln : isD (.lst ds) .non st = some (.bl false) := rfl
end
/-- values that are compared, of a depth -/
def gd : Nat → D → Bool
  | 0, d => match d with
    | .non => true | .bl _ => true | .int _ => true | .str x => PySem.PyData.strOk x
    | _ => false
  | n + 1, d => match d with
    | .non => true | .bl _ => true | .int _ => true | .str x => PySem.PyData.strOk x
    | .tup ds => decide (ds.length ≤ 100000) && ds.all (gd n)
    | .lst ds => decide (ds.length ≤ 100000) && ds.all (gd n)
    | _ => false
theorem gd_int {n : Nat} {i : Int} : gd n (.int i) = true := by cases n <;> rfl
theorem gd_bl {n : Nat} {i : Bool} : gd n (.bl i) = true := by cases n <;> rfl
theorem gd_non {n : Nat} : gd n .non = true := by cases n <;> rfl
theorem gd_tup {n : Nat} {ds : List D} (h : ds.length ≤ 100000) (h2 : ∀ d ∈ ds, gd n d = true) : gd (n + 1) (.tup ds) = true := by
  show (decide (ds.length ≤ 100000) && ds.all (gd n)) = true
  rw [decide_eq_true h, List.all_eq_true.mpr h2]; rfl
theorem gd_lst {n : Nat} {ds : List D} (h : ds.length ≤ 100000) (h2 : ∀ d ∈ ds, gd n d = true) : gd (n + 1) (.lst ds) = true := by
  show (decide (ds.length ≤ 100000) && ds.all (gd n)) = true
  rw [decide_eq_true h, List.all_eq_true.mpr h2]; rfl
theorem gd_sh {n : Nat} {x : Rat} : gd (n + 1) (sh x) = true := by
  refine gd_tup (by show 2 ≤ 100000; omega) fun d hd => ?_
  rcases List.mem_cons.mp hd with rfl | hd
  · exact gd_int
  · rw [List.mem_singleton] at hd; subst hd; exact gd_int
theorem gd_vec {n m : Nat} {f : Nat → D} (hm : m ≤ 100000) (h : ∀ k, k < m → gd n (f k) = true) : gd (n + 1) (.tup (vec f m)) = true := by
  refine gd_tup (by rw [vec_len]; exact hm) fun d hd => ?_
  obtain ⟨k, hk, rfl⟩ := vec_mem.mp hd
  exact h k hk
theorem gd_nr : ∀ {n : Nat} {d : D}, gd n d = true → nr n d = true := fun {n} => by
  induction n with
  | zero => intro d h; cases d <;> first | rfl | (exact absurd (show false = true from h) (by decide))
  | succ n ih =>
    intro d h
    cases d with
    | tup ds =>
      have h : (decide (ds.length ≤ 100000) && ds.all (gd n)) = true := h
      rw [Bool.and_eq_true, List.all_eq_true] at h
      show ds.all (nr n) = true
      rw [List.all_eq_true]; exact fun x hx => ih (h.2 x hx)
    | lst ds =>
      have h : (decide (ds.length ≤ 100000) && ds.all (gd n)) = true := h
      rw [Bool.and_eq_true, List.all_eq_true] at h
      show ds.all (nr n) = true
      rw [List.all_eq_true]; exact fun x hx => ih (h.2 x hx)
    | ref _ => exact absurd (show false = true from h) (by decide)
    | _ => rfl
theorem gd_shp : ∀ {n : Nat} {d : D}, gd n d = true → shp n d = true := fun {n} => by
  induction n with
  | zero => intro d h; cases d <;> first | rfl | exact h | (exact absurd (show false = true from h) (by decide))
  | succ n ih =>
    intro d h
    cases d with
    | tup ds =>
      have h : (decide (ds.length ≤ 100000) && ds.all (gd n)) = true := h
      rw [Bool.and_eq_true, List.all_eq_true] at h
      show ds.all (shp n) = true
      rw [List.all_eq_true]; exact fun x hx => ih (h.2 x hx)
    | lst ds =>
      have h : (decide (ds.length ≤ 100000) && ds.all (gd n)) = true := h
      rw [Bool.and_eq_true, List.all_eq_true] at h
      show ds.all (shp n) = true
      rw [List.all_eq_true]; exact fun x hx => ih (h.2 x hx)
    | non => rfl
    | bl _ => rfl
    | int _ => rfl
    | str _ => exact h
    | _ => exact absurd (show false = true from h) (by decide)
theorem nr_succ : ∀ {n : Nat} {d : D}, nr n d = true → nr (n + 1) d = true := fun {n} => by
  induction n with
  | zero => intro d h; cases d <;> first | rfl | (exact absurd (show false = true from h) (by decide))
  | succ n ih =>
    intro d h
    cases d with
    | tup ds =>
      have h : ds.all (nr n) = true := h
      rw [List.all_eq_true] at h
      show ds.all (nr (n + 1)) = true
      rw [List.all_eq_true]; exact fun x hx => ih (h x hx)
    | lst ds =>
      have h : ds.all (nr n) = true := h
      rw [List.all_eq_true] at h
      show ds.all (nr (n + 1)) = true
      rw [List.all_eq_true]; exact fun x hx => ih (h x hx)
    | ref _ => exact absurd (show false = true from h) (by decide)
    | _ => rfl
theorem nr_mono {n m : Nat} (h : n ≤ m) {d : D} (hd : nr n d = true) : nr m d = true := by
  obtain ⟨k, rfl⟩ := Nat.le.dest h
  induction k with
  | zero => exact hd
  | succ k ih => exact nr_succ (ih (by omega))
theorem shp_succ : ∀ {n : Nat} {d : D}, shp n d = true → shp (n + 1) d = true := fun {n} => by
  induction n with
  | zero => intro d h; cases d <;> first | rfl | exact h | (exact absurd (show false = true from h) (by decide))
  | succ n ih =>
    intro d h
    cases d with
    | tup ds =>
      have h : ds.all (shp n) = true := h
      rw [List.all_eq_true] at h
      show ds.all (shp (n + 1)) = true
      rw [List.all_eq_true]; exact fun x hx => ih (h x hx)
    | lst ds =>
      have h : ds.all (shp n) = true := h
      rw [List.all_eq_true] at h
      show ds.all (shp (n + 1)) = true
      rw [List.all_eq_true]; exact fun x hx => ih (h x hx)
    | non => rfl
    | bl _ => rfl
    | int _ => rfl
    | str _ => exact h
    | _ => exact absurd (show false = true from h) (by decide)
theorem shp_mono {n m : Nat} (h : n ≤ m) {d : D} (hd : shp n d = true) : shp m d = true := by
  obtain ⟨k, rfl⟩ := Nat.le.dest h
  induction k with
  | zero => exact hd
  | succ k ih => exact shp_succ (ih (by omega))
theorem gd_eq {n : Nat} (hn : n ≤ 8) {d : D} (h : gd n d = true) (st : Sto) : eqD d d st = some (.bl true) := eqD_refl (shp_mono hn (gd_shp h))
theorem gd_ne {n : Nat} (hn : n ≤ 8) {d : D} (h : gd n d = true) (st : Sto) : neD d d st = some (.bl false) := neD_refl (shp_mono hn (gd_shp h))
theorem gd_nr12 {n : Nat} (hn : n ≤ 12) {d : D} (h : gd n d = true) : nr 12 d = true := nr_mono hn (gd_nr h)
/-! ### the laws' own sameness -/
def sameT (Fr : List D → Sto → RE) : E := (eNot (eCall Fr (aCons (e2 ixD (eV 0) (eV 2)) (aCons (e2 ixD (eV 1) (eV 2)) aNil))))
def sameG (Fr : List D → Sto → RE) : S := (sSeq (sIf (eOr (eN (g0 isiD) (aCons (eV 1) (aCons (eC (.ty "tuple")) aNil))) (eN (g0 isiD) (aCons (eV 1) (aCons (eC (.ty "list")) aNil)))) (sSeq (sIf (eOr (e2 neD (eN (g0 isiD) (aCons (eV 1) (aCons (eC (.ty "tuple")) aNil))) (eN (g0 isiD) (aCons (eV 0) (aCons (eC (.ty "tuple")) aNil)))) (e2 neD (eN (g0 isiD) (aCons (eV 1) (aCons (eC (.ty "list")) aNil))) (eN (g0 isiD) (aCons (eV 0) (aCons (eC (.ty "list")) aNil))))) (sRet (eC (.bl false))) sNx)
    (sSeq (sIf (e2 neD (eN (g0 lenD) (aCons (eV 0) aNil)) (eN (g0 lenD) (aCons (eV 1) aNil))) (sRet (eC (.bl false))) sNx)
    (sRet (e2 eqD (eN (g0 lenD) (aCons (eLcB finL (iRg1 (eN (g0 lenD) (aCons (eV 1) aNil))) [2] (bName 2) (sameT Fr) (eV 2)) aNil)) (eC (.int 0)))))) sNx)
    (sSeq (sIf (eN (g0 isiD) (aCons (eV 1) (aCons (eC (.ty "str")) aNil))) (sRet (eAnd (eN (g0 isiD) (aCons (eV 0) (aCons (eC (.ty "str")) aNil))) (e2 eqD (eV 0) (eV 1)))) sNx)
    (sSeq (sIf (e2 isD (eV 1) (eC .non)) (sRet (e2 isD (eV 0) (eC .non))) sNx)
    (sSeq (sIf (eOr (eN (g0 isiD) (aCons (eV 1) (aCons (eC (.ty "bool")) aNil))) (eN (g0 isiD) (aCons (eV 0) (aCons (eC (.ty "bool")) aNil)))) (sRet (eAnd (eN (g0 isiD) (aCons (eV 1) (aCons (eC (.ty "bool")) aNil))) (eAnd (eN (g0 isiD) (aCons (eV 0) (aCons (eC (.ty "bool")) aNil))) (e2 eqD (eV 0) (eV 1))))) sNx)
    (sRet (eAnd (eN (g0 isiD) (aCons (eV 0) (aCons (eC (.ty "int")) aNil))) (eAnd (eN (g0 isiD) (aCons (eV 1) (aCons (eC (.ty "int")) aNil))) (e2 eqD (eV 0) (eV 1)))))))))
def sameF : Nat → List D → Sto → RE
  | 0 => fun _ _ => .stuck
  | n + 1 => mkF 2 3 (sameG (sameF n))
theorem same_refl : ∀ {n : Nat} {d : D} (st : Sto), n ≤ 8 → gd n d = true → sameF (n + 1) [d, d] st = .ok (.bl true) st := fun {n} => by
  induction n with
  | zero =>
    intro d st hn h
    refine fn_rt rfl ?_
    show sameG (sameF 0) [some d, some d, none] st = _
    have he := gd_eq hn h
    unfold sameG
    cases d with
    | non => simp -implicitDefEqProofs only [x_set, x_asg, x_call, x_callM, x_callN, x_cons, x_nil, x_V, x_C, x_1, x_2, x_N, x_tup, x_lst, x_lstM, x_lc, x_rg1, x_rg2, x_iseq, x_ifE, x_ifS, x_and, x_or, x_not, x_ret, x_retN, x_par, x_drop, x_nx, x_raise, x_seq, x_for, x_chain, x_met, x_callP, x_bname, x_bnil, x_bcons, x_btup, x_put, x_fnil, List.getElem?_cons_zero, List.getElem?_cons_succ, List.set_cons_succ, List.set_cons_zero, y_bn, y_bn', y_un, y_of, y_of2, y_nN, y_ac, y_ac', tp0, tp1, tp2, tp3, tp4, lp0, lp1, lp2, lp3, lp4, lp5, lp6, lp7, y_lpM0, y_ift, y_iff, y_not, y_cl, y_clM, y_clN, y_clP, y_clPx, y_st, y_rt, y_rtx, y_dr, y_drx, y_ifst, y_ifsf, y_pr, y_pr', y_asg, y_rg1, y_rg2, y_rg2', y_sql, y_sqt, y_fr, y_lc, y_thn, y_thr, y_thx, y_ch0, y_ch1, y_ch2t, y_ch2f, y_ch3, y_pt1, y_pt2, y_me2, z_add, z_sub, z_lt, z_le, z_gt, z_ge, z_eq, z_ne, z_neg, z_nri, z_nrb, z_nrn, z_nrt, z_nrl, z_lent, z_lenl, z_min, z_max, z_ixt, z_ixl, z_revt, z_revl, z_tupt, z_tupl, z_lstt, z_lstl, z_inti, z_isi_ii, z_isi_ib, z_isi_is, z_isi_it, z_isi_il, z_isi_tt, z_isi_tl, z_isi_ti, z_isi_tb, z_isi_lt, z_isi_ll, z_isi_bb, z_isi_bi, z_isi_bt, z_isi_bls, at_0, at_1, at_2, at_3, List.all_cons, List.all_nil, Bool.and_self, Bool.true_and, Bool.and_true, if_true, decide_true, decide_false, Bool.not_true, Bool.not_false, wipeD, finL, rgOk_0, rgOk_1, and_true, true_and, List.reverse_nil, List.nil_append, and_self, reduceIte, Bool.false_eq_true, z_isi_nt, z_isi_nl, z_isi_ns, z_isnn]
    | bl b => simp -implicitDefEqProofs only [x_set, x_asg, x_call, x_callM, x_callN, x_cons, x_nil, x_V, x_C, x_1, x_2, x_N, x_tup, x_lst, x_lstM, x_lc, x_rg1, x_rg2, x_iseq, x_ifE, x_ifS, x_and, x_or, x_not, x_ret, x_retN, x_par, x_drop, x_nx, x_raise, x_seq, x_for, x_chain, x_met, x_callP, x_bname, x_bnil, x_bcons, x_btup, x_put, x_fnil, List.getElem?_cons_zero, List.getElem?_cons_succ, List.set_cons_succ, List.set_cons_zero, y_bn, y_bn', y_un, y_of, y_of2, y_nN, y_ac, y_ac', tp0, tp1, tp2, tp3, tp4, lp0, lp1, lp2, lp3, lp4, lp5, lp6, lp7, y_lpM0, y_ift, y_iff, y_not, y_cl, y_clM, y_clN, y_clP, y_clPx, y_st, y_rt, y_rtx, y_dr, y_drx, y_ifst, y_ifsf, y_pr, y_pr', y_asg, y_rg1, y_rg2, y_rg2', y_sql, y_sqt, y_fr, y_lc, y_thn, y_thr, y_thx, y_ch0, y_ch1, y_ch2t, y_ch2f, y_ch3, y_pt1, y_pt2, y_me2, z_add, z_sub, z_lt, z_le, z_gt, z_ge, z_eq, z_ne, z_neg, z_nri, z_nrb, z_nrn, z_nrt, z_nrl, z_lent, z_lenl, z_min, z_max, z_ixt, z_ixl, z_revt, z_revl, z_tupt, z_tupl, z_lstt, z_lstl, z_inti, z_isi_ii, z_isi_ib, z_isi_is, z_isi_it, z_isi_il, z_isi_tt, z_isi_tl, z_isi_ti, z_isi_tb, z_isi_lt, z_isi_ll, z_isi_bb, z_isi_bi, z_isi_bt, z_isi_bls, at_0, at_1, at_2, at_3, List.all_cons, List.all_nil, Bool.and_self, Bool.true_and, Bool.and_true, if_true, decide_true, decide_false, Bool.not_true, Bool.not_false, wipeD, finL, rgOk_0, rgOk_1, and_true, true_and, List.reverse_nil, List.nil_append, and_self, reduceIte, Bool.false_eq_true, z_isbn, z_isi_bs, he]
    | int i => simp -implicitDefEqProofs only [x_set, x_asg, x_call, x_callM, x_callN, x_cons, x_nil, x_V, x_C, x_1, x_2, x_N, x_tup, x_lst, x_lstM, x_lc, x_rg1, x_rg2, x_iseq, x_ifE, x_ifS, x_and, x_or, x_not, x_ret, x_retN, x_par, x_drop, x_nx, x_raise, x_seq, x_for, x_chain, x_met, x_callP, x_bname, x_bnil, x_bcons, x_btup, x_put, x_fnil, List.getElem?_cons_zero, List.getElem?_cons_succ, List.set_cons_succ, List.set_cons_zero, y_bn, y_bn', y_un, y_of, y_of2, y_nN, y_ac, y_ac', tp0, tp1, tp2, tp3, tp4, lp0, lp1, lp2, lp3, lp4, lp5, lp6, lp7, y_lpM0, y_ift, y_iff, y_not, y_cl, y_clM, y_clN, y_clP, y_clPx, y_st, y_rt, y_rtx, y_dr, y_drx, y_ifst, y_ifsf, y_pr, y_pr', y_asg, y_rg1, y_rg2, y_rg2', y_sql, y_sqt, y_fr, y_lc, y_thn, y_thr, y_thx, y_ch0, y_ch1, y_ch2t, y_ch2f, y_ch3, y_pt1, y_pt2, y_me2, z_add, z_sub, z_lt, z_le, z_gt, z_ge, z_eq, z_ne, z_neg, z_nri, z_nrb, z_nrn, z_nrt, z_nrl, z_lent, z_lenl, z_min, z_max, z_ixt, z_ixl, z_revt, z_revl, z_tupt, z_tupl, z_lstt, z_lstl, z_inti, z_isi_ii, z_isi_ib, z_isi_is, z_isi_it, z_isi_il, z_isi_tt, z_isi_tl, z_isi_ti, z_isi_tb, z_isi_lt, z_isi_ll, z_isi_bb, z_isi_bi, z_isi_bt, z_isi_bls, at_0, at_1, at_2, at_3, List.all_cons, List.all_nil, Bool.and_self, Bool.true_and, Bool.and_true, if_true, decide_true, decide_false, Bool.not_true, Bool.not_false, wipeD, finL, rgOk_0, rgOk_1, and_true, true_and, List.reverse_nil, List.nil_append, and_self, reduceIte, Bool.false_eq_true, z_ison]
    | str x => simp -implicitDefEqProofs only [x_set, x_asg, x_call, x_callM, x_callN, x_cons, x_nil, x_V, x_C, x_1, x_2, x_N, x_tup, x_lst, x_lstM, x_lc, x_rg1, x_rg2, x_iseq, x_ifE, x_ifS, x_and, x_or, x_not, x_ret, x_retN, x_par, x_drop, x_nx, x_raise, x_seq, x_for, x_chain, x_met, x_callP, x_bname, x_bnil, x_bcons, x_btup, x_put, x_fnil, List.getElem?_cons_zero, List.getElem?_cons_succ, List.set_cons_succ, List.set_cons_zero, y_bn, y_bn', y_un, y_of, y_of2, y_nN, y_ac, y_ac', tp0, tp1, tp2, tp3, tp4, lp0, lp1, lp2, lp3, lp4, lp5, lp6, lp7, y_lpM0, y_ift, y_iff, y_not, y_cl, y_clM, y_clN, y_clP, y_clPx, y_st, y_rt, y_rtx, y_dr, y_drx, y_ifst, y_ifsf, y_pr, y_pr', y_asg, y_rg1, y_rg2, y_rg2', y_sql, y_sqt, y_fr, y_lc, y_thn, y_thr, y_thx, y_ch0, y_ch1, y_ch2t, y_ch2f, y_ch3, y_pt1, y_pt2, y_me2, z_add, z_sub, z_lt, z_le, z_gt, z_ge, z_eq, z_ne, z_neg, z_nri, z_nrb, z_nrn, z_nrt, z_nrl, z_lent, z_lenl, z_min, z_max, z_ixt, z_ixl, z_revt, z_revl, z_tupt, z_tupl, z_lstt, z_lstl, z_inti, z_isi_ii, z_isi_ib, z_isi_is, z_isi_it, z_isi_il, z_isi_tt, z_isi_tl, z_isi_ti, z_isi_tb, z_isi_lt, z_isi_ll, z_isi_bb, z_isi_bi, z_isi_bt, z_isi_bls, at_0, at_1, at_2, at_3, List.all_cons, List.all_nil, Bool.and_self, Bool.true_and, Bool.and_true, if_true, decide_true, decide_false, Bool.not_true, Bool.not_false, wipeD, finL, rgOk_0, rgOk_1, and_true, true_and, List.reverse_nil, List.nil_append, and_self, reduceIte, Bool.false_eq_true, z_isi_st, z_isi_sl, z_isi_ss, he]
    | _ => exact absurd (show false = true from h) (by decide)
  | succ n ih =>
    intro d st hn h
    refine fn_rt rfl ?_
    show sameG (sameF (n + 1)) [some d, some d, none] st = _
    have he := gd_eq hn h
    have row : ∀ (x : D) (ds : List D), ds.length ≤ 100000 → (∀ y ∈ ds, gd n y = true) → (∀ k : Nat, k < ds.length → ∀ st, ixD x (.int k) st = ds[k]?) → lcGo (bName 2) (sameT (sameF (n + 1))) (eV 2) [some x, some x, none] finL (rgD 0 ds.length) st [] = .ok (.lst []) st := by
      intro x ds hl ha hx
      have := lc_none (b := bName 2) (t := sameT (sameF (n + 1))) (f := eV 2) (ρ0 := [some x, some x, none]) (fin := finL) (st := st) (fun (i : Nat) => D.int i) (List.range ds.length) [] fun k hk => by
        have hk := List.mem_range.mp hk
        refine ⟨[some x, some x, some (.int k)], rfl, ?_⟩
        have e1 := hx k hk
        rw [List.getElem?_eq_getElem hk] at e1
        have g := ha _ (List.getElem_mem hk)
        have n12 := gd_nr12 (by omega) g
        unfold sameT
        simp -implicitDefEqProofs only [x_set, x_asg, x_call, x_callM, x_callN, x_cons, x_nil, x_V, x_C, x_1, x_2, x_N, x_tup, x_lst, x_lstM, x_lc, x_rg1, x_rg2, x_iseq, x_ifE, x_ifS, x_and, x_or, x_not, x_ret, x_retN, x_par, x_drop, x_nx, x_raise, x_seq, x_for, x_chain, x_met, x_callP, x_bname, x_bnil, x_bcons, x_btup, x_put, x_fnil, List.getElem?_cons_zero, List.getElem?_cons_succ, List.set_cons_succ, List.set_cons_zero, y_bn, y_bn', y_un, y_of, y_of2, y_nN, y_ac, y_ac', tp0, tp1, tp2, tp3, tp4, lp0, lp1, lp2, lp3, lp4, lp5, lp6, lp7, y_lpM0, y_ift, y_iff, y_not, y_cl, y_clM, y_clN, y_clP, y_clPx, y_st, y_rt, y_rtx, y_dr, y_drx, y_ifst, y_ifsf, y_pr, y_pr', y_asg, y_rg1, y_rg2, y_rg2', y_sql, y_sqt, y_fr, y_lc, y_thn, y_thr, y_thx, y_ch0, y_ch1, y_ch2t, y_ch2f, y_ch3, y_pt1, y_pt2, y_me2, z_add, z_sub, z_lt, z_le, z_gt, z_ge, z_eq, z_ne, z_neg, z_nri, z_nrb, z_nrn, z_nrt, z_nrl, z_lent, z_lenl, z_min, z_max, z_ixt, z_ixl, z_revt, z_revl, z_tupt, z_tupl, z_lstt, z_lstl, z_inti, z_isi_ii, z_isi_ib, z_isi_is, z_isi_it, z_isi_il, z_isi_tt, z_isi_tl, z_isi_ti, z_isi_tb, z_isi_lt, z_isi_ll, z_isi_bb, z_isi_bi, z_isi_bt, z_isi_bls, at_0, at_1, at_2, at_3, List.all_cons, List.all_nil, Bool.and_self, Bool.true_and, Bool.and_true, if_true, decide_true, decide_false, Bool.not_true, Bool.not_false, wipeD, finL, rgOk_0, rgOk_1, and_true, true_and, List.reverse_nil, List.nil_append, and_self, reduceIte, Bool.false_eq_true, e1, n12, ih [] (by omega) g]
      rw [rg0_vec]
      exact this
    unfold sameG
    cases d with
    | non => simp -implicitDefEqProofs only [x_set, x_asg, x_call, x_callM, x_callN, x_cons, x_nil, x_V, x_C, x_1, x_2, x_N, x_tup, x_lst, x_lstM, x_lc, x_rg1, x_rg2, x_iseq, x_ifE, x_ifS, x_and, x_or, x_not, x_ret, x_retN, x_par, x_drop, x_nx, x_raise, x_seq, x_for, x_chain, x_met, x_callP, x_bname, x_bnil, x_bcons, x_btup, x_put, x_fnil, List.getElem?_cons_zero, List.getElem?_cons_succ, List.set_cons_succ, List.set_cons_zero, y_bn, y_bn', y_un, y_of, y_of2, y_nN, y_ac, y_ac', tp0, tp1, tp2, tp3, tp4, lp0, lp1, lp2, lp3, lp4, lp5, lp6, lp7, y_lpM0, y_ift, y_iff, y_not, y_cl, y_clM, y_clN, y_clP, y_clPx, y_st, y_rt, y_rtx, y_dr, y_drx, y_ifst, y_ifsf, y_pr, y_pr', y_asg, y_rg1, y_rg2, y_rg2', y_sql, y_sqt, y_fr, y_lc, y_thn, y_thr, y_thx, y_ch0, y_ch1, y_ch2t, y_ch2f, y_ch3, y_pt1, y_pt2, y_me2, z_add, z_sub, z_lt, z_le, z_gt, z_ge, z_eq, z_ne, z_neg, z_nri, z_nrb, z_nrn, z_nrt, z_nrl, z_lent, z_lenl, z_min, z_max, z_ixt, z_ixl, z_revt, z_revl, z_tupt, z_tupl, z_lstt, z_lstl, z_inti, z_isi_ii, z_isi_ib, z_isi_is, z_isi_it, z_isi_il, z_isi_tt, z_isi_tl, z_isi_ti, z_isi_tb, z_isi_lt, z_isi_ll, z_isi_bb, z_isi_bi, z_isi_bt, z_isi_bls, at_0, at_1, at_2, at_3, List.all_cons, List.all_nil, Bool.and_self, Bool.true_and, Bool.and_true, if_true, decide_true, decide_false, Bool.not_true, Bool.not_false, wipeD, finL, rgOk_0, rgOk_1, and_true, true_and, List.reverse_nil, List.nil_append, and_self, reduceIte, Bool.false_eq_true, z_isi_nt, z_isi_nl, z_isi_ns, z_isnn]
    | bl b => simp -implicitDefEqProofs only [x_set, x_asg, x_call, x_callM, x_callN, x_cons, x_nil, x_V, x_C, x_1, x_2, x_N, x_tup, x_lst, x_lstM, x_lc, x_rg1, x_rg2, x_iseq, x_ifE, x_ifS, x_and, x_or, x_not, x_ret, x_retN, x_par, x_drop, x_nx, x_raise, x_seq, x_for, x_chain, x_met, x_callP, x_bname, x_bnil, x_bcons, x_btup, x_put, x_fnil, List.getElem?_cons_zero, List.getElem?_cons_succ, List.set_cons_succ, List.set_cons_zero, y_bn, y_bn', y_un, y_of, y_of2, y_nN, y_ac, y_ac', tp0, tp1, tp2, tp3, tp4, lp0, lp1, lp2, lp3, lp4, lp5, lp6, lp7, y_lpM0, y_ift, y_iff, y_not, y_cl, y_clM, y_clN, y_clP, y_clPx, y_st, y_rt, y_rtx, y_dr, y_drx, y_ifst, y_ifsf, y_pr, y_pr', y_asg, y_rg1, y_rg2, y_rg2', y_sql, y_sqt, y_fr, y_lc, y_thn, y_thr, y_thx, y_ch0, y_ch1, y_ch2t, y_ch2f, y_ch3, y_pt1, y_pt2, y_me2, z_add, z_sub, z_lt, z_le, z_gt, z_ge, z_eq, z_ne, z_neg, z_nri, z_nrb, z_nrn, z_nrt, z_nrl, z_lent, z_lenl, z_min, z_max, z_ixt, z_ixl, z_revt, z_revl, z_tupt, z_tupl, z_lstt, z_lstl, z_inti, z_isi_ii, z_isi_ib, z_isi_is, z_isi_it, z_isi_il, z_isi_tt, z_isi_tl, z_isi_ti, z_isi_tb, z_isi_lt, z_isi_ll, z_isi_bb, z_isi_bi, z_isi_bt, z_isi_bls, at_0, at_1, at_2, at_3, List.all_cons, List.all_nil, Bool.and_self, Bool.true_and, Bool.and_true, if_true, decide_true, decide_false, Bool.not_true, Bool.not_false, wipeD, finL, rgOk_0, rgOk_1, and_true, true_and, List.reverse_nil, List.nil_append, and_self, reduceIte, Bool.false_eq_true, z_isbn, z_isi_bs, he]
    | int i => simp -implicitDefEqProofs only [x_set, x_asg, x_call, x_callM, x_callN, x_cons, x_nil, x_V, x_C, x_1, x_2, x_N, x_tup, x_lst, x_lstM, x_lc, x_rg1, x_rg2, x_iseq, x_ifE, x_ifS, x_and, x_or, x_not, x_ret, x_retN, x_par, x_drop, x_nx, x_raise, x_seq, x_for, x_chain, x_met, x_callP, x_bname, x_bnil, x_bcons, x_btup, x_put, x_fnil, List.getElem?_cons_zero, List.getElem?_cons_succ, List.set_cons_succ, List.set_cons_zero, y_bn, y_bn', y_un, y_of, y_of2, y_nN, y_ac, y_ac', tp0, tp1, tp2, tp3, tp4, lp0, lp1, lp2, lp3, lp4, lp5, lp6, lp7, y_lpM0, y_ift, y_iff, y_not, y_cl, y_clM, y_clN, y_clP, y_clPx, y_st, y_rt, y_rtx, y_dr, y_drx, y_ifst, y_ifsf, y_pr, y_pr', y_asg, y_rg1, y_rg2, y_rg2', y_sql, y_sqt, y_fr, y_lc, y_thn, y_thr, y_thx, y_ch0, y_ch1, y_ch2t, y_ch2f, y_ch3, y_pt1, y_pt2, y_me2, z_add, z_sub, z_lt, z_le, z_gt, z_ge, z_eq, z_ne, z_neg, z_nri, z_nrb, z_nrn, z_nrt, z_nrl, z_lent, z_lenl, z_min, z_max, z_ixt, z_ixl, z_revt, z_revl, z_tupt, z_tupl, z_lstt, z_lstl, z_inti, z_isi_ii, z_isi_ib, z_isi_is, z_isi_it, z_isi_il, z_isi_tt, z_isi_tl, z_isi_ti, z_isi_tb, z_isi_lt, z_isi_ll, z_isi_bb, z_isi_bi, z_isi_bt, z_isi_bls, at_0, at_1, at_2, at_3, List.all_cons, List.all_nil, Bool.and_self, Bool.true_and, Bool.and_true, if_true, decide_true, decide_false, Bool.not_true, Bool.not_false, wipeD, finL, rgOk_0, rgOk_1, and_true, true_and, List.reverse_nil, List.nil_append, and_self, reduceIte, Bool.false_eq_true, z_ison]
    | str x => simp -implicitDefEqProofs only [x_set, x_asg, x_call, x_callM, x_callN, x_cons, x_nil, x_V, x_C, x_1, x_2, x_N, x_tup, x_lst, x_lstM, x_lc, x_rg1, x_rg2, x_iseq, x_ifE, x_ifS, x_and, x_or, x_not, x_ret, x_retN, x_par, x_drop, x_nx, x_raise, x_seq, x_for, x_chain, x_met, x_callP, x_bname, x_bnil, x_bcons, x_btup, x_put, x_fnil, List.getElem?_cons_zero, List.getElem?_cons_succ, List.set_cons_succ, List.set_cons_zero, y_bn, y_bn', y_un, y_of, y_of2, y_nN, y_ac, y_ac', tp0, tp1, tp2, tp3, tp4, lp0, lp1, lp2, lp3, lp4, lp5, lp6, lp7, y_lpM0, y_ift, y_iff, y_not, y_cl, y_clM, y_clN, y_clP, y_clPx, y_st, y_rt, y_rtx, y_dr, y_drx, y_ifst, y_ifsf, y_pr, y_pr', y_asg, y_rg1, y_rg2, y_rg2', y_sql, y_sqt, y_fr, y_lc, y_thn, y_thr, y_thx, y_ch0, y_ch1, y_ch2t, y_ch2f, y_ch3, y_pt1, y_pt2, y_me2, z_add, z_sub, z_lt, z_le, z_gt, z_ge, z_eq, z_ne, z_neg, z_nri, z_nrb, z_nrn, z_nrt, z_nrl, z_lent, z_lenl, z_min, z_max, z_ixt, z_ixl, z_revt, z_revl, z_tupt, z_tupl, z_lstt, z_lstl, z_inti, z_isi_ii, z_isi_ib, z_isi_is, z_isi_it, z_isi_il, z_isi_tt, z_isi_tl, z_isi_ti, z_isi_tb, z_isi_lt, z_isi_ll, z_isi_bb, z_isi_bi, z_isi_bt, z_isi_bls, at_0, at_1, at_2, at_3, List.all_cons, List.all_nil, Bool.and_self, Bool.true_and, Bool.and_true, if_true, decide_true, decide_false, Bool.not_true, Bool.not_false, wipeD, finL, rgOk_0, rgOk_1, and_true, true_and, List.reverse_nil, List.nil_append, and_self, reduceIte, Bool.false_eq_true, z_isi_st, z_isi_sl, z_isi_ss, he]
    | tup ds =>
      have h : (decide (ds.length ≤ 100000) && ds.all (gd n)) = true := h
      rw [Bool.and_eq_true, List.all_eq_true, decide_eq_true_iff] at h
      have R := row (.tup ds) ds h.1 h.2 fun k hk st => by rw [z_ixt, at_nat hk]
      have r1 : rgOk (ds.length : Int) = true := rgOk_nat (by omega)
      simp -implicitDefEqProofs only [x_set, x_asg, x_call, x_callM, x_callN, x_cons, x_nil, x_V, x_C, x_1, x_2, x_N, x_tup, x_lst, x_lstM, x_lc, x_rg1, x_rg2, x_iseq, x_ifE, x_ifS, x_and, x_or, x_not, x_ret, x_retN, x_par, x_drop, x_nx, x_raise, x_seq, x_for, x_chain, x_met, x_callP, x_bname, x_bnil, x_bcons, x_btup, x_put, x_fnil, List.getElem?_cons_zero, List.getElem?_cons_succ, List.set_cons_succ, List.set_cons_zero, y_bn, y_bn', y_un, y_of, y_of2, y_nN, y_ac, y_ac', tp0, tp1, tp2, tp3, tp4, lp0, lp1, lp2, lp3, lp4, lp5, lp6, lp7, y_lpM0, y_ift, y_iff, y_not, y_cl, y_clM, y_clN, y_clP, y_clPx, y_st, y_rt, y_rtx, y_dr, y_drx, y_ifst, y_ifsf, y_pr, y_pr', y_asg, y_rg1, y_rg2, y_rg2', y_sql, y_sqt, y_fr, y_lc, y_thn, y_thr, y_thx, y_ch0, y_ch1, y_ch2t, y_ch2f, y_ch3, y_pt1, y_pt2, y_me2, z_add, z_sub, z_lt, z_le, z_gt, z_ge, z_eq, z_ne, z_neg, z_nri, z_nrb, z_nrn, z_nrt, z_nrl, z_lent, z_lenl, z_min, z_max, z_ixt, z_ixl, z_revt, z_revl, z_tupt, z_tupl, z_lstt, z_lstl, z_inti, z_isi_ii, z_isi_ib, z_isi_is, z_isi_it, z_isi_il, z_isi_tt, z_isi_tl, z_isi_ti, z_isi_tb, z_isi_lt, z_isi_ll, z_isi_bb, z_isi_bi, z_isi_bt, z_isi_bls, at_0, at_1, at_2, at_3, List.all_cons, List.all_nil, Bool.and_self, Bool.true_and, Bool.and_true, if_true, decide_true, decide_false, Bool.not_true, Bool.not_false, wipeD, finL, rgOk_0, rgOk_1, and_true, true_and, List.reverse_nil, List.nil_append, and_self, reduceIte, Bool.false_eq_true, r1, Int.toNat_natCast, R, lenOk_rg (show ds.length ≤ 1000000 by omega), z_neb, beq_self_eq_true, List.length_nil, Int.natCast_zero, show ((0 : Nat) : Int) = 0 from rfl]
    | lst ds =>
      have h : (decide (ds.length ≤ 100000) && ds.all (gd n)) = true := h
      rw [Bool.and_eq_true, List.all_eq_true, decide_eq_true_iff] at h
      have R := row (.lst ds) ds h.1 h.2 fun k hk st => by rw [z_ixl, at_nat hk]
      have r1 : rgOk (ds.length : Int) = true := rgOk_nat (by omega)
      simp -implicitDefEqProofs only [x_set, x_asg, x_call, x_callM, x_callN, x_cons, x_nil, x_V, x_C, x_1, x_2, x_N, x_tup, x_lst, x_lstM, x_lc, x_rg1, x_rg2, x_iseq, x_ifE, x_ifS, x_and, x_or, x_not, x_ret, x_retN, x_par, x_drop, x_nx, x_raise, x_seq, x_for, x_chain, x_met, x_callP, x_bname, x_bnil, x_bcons, x_btup, x_put, x_fnil, List.getElem?_cons_zero, List.getElem?_cons_succ, List.set_cons_succ, List.set_cons_zero, y_bn, y_bn', y_un, y_of, y_of2, y_nN, y_ac, y_ac', tp0, tp1, tp2, tp3, tp4, lp0, lp1, lp2, lp3, lp4, lp5, lp6, lp7, y_lpM0, y_ift, y_iff, y_not, y_cl, y_clM, y_clN, y_clP, y_clPx, y_st, y_rt, y_rtx, y_dr, y_drx, y_ifst, y_ifsf, y_pr, y_pr', y_asg, y_rg1, y_rg2, y_rg2', y_sql, y_sqt, y_fr, y_lc, y_thn, y_thr, y_thx, y_ch0, y_ch1, y_ch2t, y_ch2f, y_ch3, y_pt1, y_pt2, y_me2, z_add, z_sub, z_lt, z_le, z_gt, z_ge, z_eq, z_ne, z_neg, z_nri, z_nrb, z_nrn, z_nrt, z_nrl, z_lent, z_lenl, z_min, z_max, z_ixt, z_ixl, z_revt, z_revl, z_tupt, z_tupl, z_lstt, z_lstl, z_inti, z_isi_ii, z_isi_ib, z_isi_is, z_isi_it, z_isi_il, z_isi_tt, z_isi_tl, z_isi_ti, z_isi_tb, z_isi_lt, z_isi_ll, z_isi_bb, z_isi_bi, z_isi_bt, z_isi_bls, at_0, at_1, at_2, at_3, List.all_cons, List.all_nil, Bool.and_self, Bool.true_and, Bool.and_true, if_true, decide_true, decide_false, Bool.not_true, Bool.not_false, wipeD, finL, rgOk_0, rgOk_1, and_true, true_and, List.reverse_nil, List.nil_append, and_self, reduceIte, Bool.false_eq_true, r1, Int.toNat_natCast, R, lenOk_rg (show ds.length ≤ 1000000 by omega), z_neb, beq_self_eq_true, List.length_nil, Int.natCast_zero, show ((0 : Nat) : Int) = 0 from rfl]
    | _ => exact absurd (show false = true from h) (by decide)
theorem gd_succ : ∀ {n : Nat} {d : D}, gd n d = true → gd (n + 1) d = true := fun {n} => by
  induction n with
  | zero => intro d h; cases d <;> first | rfl | exact h | (exact absurd (show false = true from h) (by decide))
  | succ n ih =>
    intro d h
    cases d with
    | tup ds =>
      have h : (decide (ds.length ≤ 100000) && ds.all (gd n)) = true := h
      rw [Bool.and_eq_true, List.all_eq_true, decide_eq_true_iff] at h
      exact gd_tup h.1 fun x hx => ih (h.2 x hx)
    | lst ds =>
      have h : (decide (ds.length ≤ 100000) && ds.all (gd n)) = true := h
      rw [Bool.and_eq_true, List.all_eq_true, decide_eq_true_iff] at h
      exact gd_lst h.1 fun x hx => ih (h.2 x hx)
    | non => rfl
    | bl _ => rfl
    | int _ => rfl
    | str _ => exact h
    | _ => exact absurd (show false = true from h) (by decide)
theorem gd_mono {n m : Nat} (h : n ≤ m) {d : D} (hd : gd n d = true) : gd m d = true := by
  obtain ⟨k, rfl⟩ := Nat.le.dest h
  induction k with
  | zero => exact hd
  | succ k ih => exact gd_succ (ih (by omega))
/-- at the depth that gen gives it -/
theorem same8 {n : Nat} {d : D} (st : Sto) (hn : n ≤ 7) (h : gd n d = true) : sameF 8 [d, d] st = .ok (.bl true) st := same_refl (n := 7) st (by decide) (gd_mono hn h)
end L4
namespace L4
open PySem L2
/-! ### a common denominator -/
def Fr (D : Nat) (x : Rat) : Prop := ∃ z : Int, x * (D : Rat) = (z : Rat)
theorem Fr.add {D : Nat} {x y : Rat} (hx : Fr D x) (hy : Fr D y) : Fr D (x + y) := by
  obtain ⟨a, ha⟩ := hx
  obtain ⟨b, hb⟩ := hy
  exact ⟨a + b, by rw [Rat.intCast_add, ← ha, ← hb]; grind⟩
theorem Fr.sub {D : Nat} {x y : Rat} (hx : Fr D x) (hy : Fr D y) : Fr D (x - y) := by
  obtain ⟨a, ha⟩ := hx
  obtain ⟨b, hb⟩ := hy
  exact ⟨a - b, by rw [Rat.intCast_sub, ← ha, ← hb]; grind⟩
theorem Fr.mul {D E : Nat} {x y : Rat} (hx : Fr D x) (hy : Fr E y) : Fr (D * E) (x * y) := by
  obtain ⟨a, ha⟩ := hx
  obtain ⟨b, hb⟩ := hy
  exact ⟨a * b, by rw [Rat.intCast_mul, ← ha, ← hb, Rat.natCast_mul]; grind⟩
theorem Fr.int (D : Nat) (z : Int) : Fr D (z : Rat) := ⟨z * D, by rw [Rat.intCast_mul, Rat.intCast_natCast]⟩
theorem Fr.nat (D : Nat) (z : Nat) : Fr D (z : Rat) := by
  have := Fr.int D (z : Int)
  rwa [Rat.intCast_natCast] at this
theorem Fr.one (D : Nat) : Fr D 1 := Fr.nat D 1
theorem Fr.zero (D : Nat) : Fr D 0 := Fr.nat D 0
theorem Fr.up {D E : Nat} {x : Rat} (hx : Fr D x) : Fr (D * E) x := by
  have := hx.mul (Fr.one E)
  rwa [Rat.mul_one] at this
theorem Fr.dvd {D E : Nat} {x : Rat} (hx : Fr D x) (h : D ∣ E) : Fr E x := by
  obtain ⟨k, rfl⟩ := h
  exact hx.up
theorem Fr.pow {Q a b : Nat} {x : Rat} (hx : Fr (Q ^ a) x) (h : a ≤ b) : Fr (Q ^ b) x := hx.dvd (Nat.pow_dvd_pow Q h)
theorem Fr.mulp {Q a b : Nat} {x y : Rat} (hx : Fr (Q ^ a) x) (hy : Fr (Q ^ b) y) : Fr (Q ^ (a + b)) (x * y) := by
  rw [Nat.pow_add]; exact hx.mul hy
theorem Fr.sum {D : Nat} {f : Nat → Rat} {n : Nat} (h : ∀ k, k < n → Fr D (f k)) : Fr D (sumR f n) := by
  induction n with
  | zero => exact Fr.zero D
  | succ n ih => rw [sumR]; exact (ih fun k hk => h k (by omega)).add (h n (by omega))
theorem Fr.div {a : Int} {b D : Nat} (h : b ∣ D) (hb : b ≠ 0) : Fr D (Rat.divInt a b) := by
  refine Fr.dvd (D := b) ⟨a, ?_⟩ h
  rw [Rat.divInt_eq_div, Rat.intCast_natCast, Rat.div_mul_cancel]
  intro h
  exact hb (Rat.natCast_eq_zero_iff.mp h)
/-- how great a number is, either way -/
def Ab (B : Nat) (x : Rat) : Prop := -(B : Rat) ≤ x ∧ x ≤ (B : Rat)
theorem Bn.of {D B k : Nat} {x : Rat} (h : Fr D x) (hD : 0 < D) (hb : Ab B x) (hk : D < 2 ^ k) (hB : B * D < 2 ^ k) : Bn k x := by
  obtain ⟨z, hz⟩ := h
  have d0 : (D : Rat) ≠ 0 := fun e => by have := Rat.natCast_eq_zero_iff.mp e; omega
  have e : x = Rat.divInt z D := by
    rw [Rat.divInt_eq_div, Rat.intCast_natCast, ← hz, Rat.mul_div_cancel d0]
  have dp : (0 : Rat) ≤ (D : Rat) := Rat.natCast_nonneg
  have h1 : (z : Rat) ≤ ((B * D : Nat) : Int) := by
    rw [← hz, Rat.intCast_natCast, Rat.natCast_mul]
    exact Rat.mul_le_mul_of_nonneg_right hb.2 dp
  have h2 : ((-((B * D : Nat) : Int) : Int) : Rat) ≤ z := by
    rw [← hz, Rat.intCast_neg, Rat.intCast_natCast, Rat.natCast_mul, ← Rat.neg_mul]
    exact Rat.mul_le_mul_of_nonneg_right hb.1 dp
  rw [Rat.intCast_le_intCast] at h1 h2
  rw [e]
  exact Bn.divInt (by omega) (by omega) hk
theorem Ab.of {B : Nat} {x : Rat} (h0 : 0 ≤ x) (h : x ≤ (B : Rat)) : Ab B x := ⟨by have : (0 : Rat) ≤ (B : Rat) := Rat.natCast_nonneg; grind, h⟩
/-- a statement goes on, and what holds then -/
def Ends (r : RS) (I : Rho → Sto → Prop) : Prop := match r with
  | .nx ρ st => I ρ st
  | _ => False
theorem Ends.get {r : RS} {I : Rho → Sto → Prop} (h : Ends r I) : ∃ ρ st, r = .nx ρ st ∧ I ρ st := by
  cases r with
  | nx ρ st => exact ⟨ρ, st, rfl, h⟩
  | _ => exact h.elim
theorem Ends.of {r : RS} {I : Rho → Sto → Prop} {ρ : Rho} {st : Sto} (h : r = .nx ρ st) (k : I ρ st) : Ends r I := by rw [h]; exact k
theorem Ends.mono {r : RS} {I J : Rho → Sto → Prop} (h : Ends r I) (k : ∀ ρ st, I ρ st → J ρ st) : Ends r J := by
  cases r with
  | nx ρ st => exact k _ _ h
  | _ => exact h.elim
theorem seq_en {a b : S} {ρ ρ1 : Rho} {st st1 : Sto} {I : Rho → Sto → Prop} (h1 : a ρ st = .nx ρ1 st1) (h2 : Ends (b ρ1 st1) I) : Ends (sSeq a b ρ st) I := by
  rw [x_seq, h1, y_thn]; exact h2
theorem seq_ens {a b : S} {ρ : Rho} {st : Sto} {I J : Rho → Sto → Prop} (h1 : Ends (a ρ st) J) (h2 : ∀ ρ1 st1, J ρ1 st1 → Ends (b ρ1 st1) I) : Ends (sSeq a b ρ st) I := by
  obtain ⟨ρ1, st1, e, k⟩ := h1.get
  exact seq_en e (h2 _ _ k)
theorem for_ends {b : Bd} {body : S} {it : Nat → D} (I : Nat → Rho → Sto → Prop) (n : Nat) (h : ∀ k ρ st, k < n → I k ρ st → ∃ ρ1, b (it k) ρ = some ρ1 ∧ Ends (body ρ1 st) (I (k + 1)))
    {ρ : Rho} {st : Sto} (h0 : I 0 ρ st) : Ends (sForGo b body (vec it n) ρ st) (I n) := by
  obtain ⟨ρ2, st2, e, k⟩ := for_inv (b := b) (body := body) (it := it) I n (fun k ρ st hk hI => by
    obtain ⟨ρ1, h1, h2⟩ := h k ρ st hk hI
    obtain ⟨ρ2, st2, e, k⟩ := h2.get
    exact ⟨ρ1, h1, ρ2, st2, e, k⟩) h0
  exact Ends.of e k
/-- values of a kind, told by their places -/
theorem vec_of_mem {α : Type} [Inhabited α] {ys : List D} {e : α → D} {p : α → Prop} (h : ∀ y ∈ ys, ∃ x, y = e x ∧ p x) : ∃ f : Nat → α, ys = vec (fun k => e (f k)) ys.length ∧ ∀ k, k < ys.length → p (f k) := by
  refine ⟨fun k => if hk : k < ys.length then Classical.choose (h _ (List.getElem_mem hk)) else default, ?_, ?_⟩
  · apply List.ext_getElem?
    intro k
    by_cases hk : k < ys.length
    · rw [vec_get hk]
      dsimp only
      rw [dif_pos hk, List.getElem?_eq_getElem hk]
      exact congrArg some (Classical.choose_spec (h _ (List.getElem_mem hk))).1
    · rw [vec_get_none (by omega), List.getElem?_eq_none (by omega)]
  · intro k hk
    dsimp only
    rw [dif_pos hk]
    exact (Classical.choose_spec (h _ (List.getElem_mem hk))).2
end L4
namespace L4
open PySem L2
/-! the laws' own low, by a while -/
def lawLow2W : S := (sPar 2 3 (eV 3) (e2 modD (eN (g0 intD) (aCons (eV 2) aNil)) (eV 3)))
def lawLow2G : S := (sSeq (sPar 2 3 (eIf (e2 geD (eV 0) (eC (.int 0))) (eV 0) (e1 negD (eV 0))) (eIf (e2 geD (eV 1) (eC (.int 0))) (eV 1) (e1 negD (eV 1))))
    (sSeq (sWhileM (e2 gtD (eV 3) (eC (.int 0))) lawLow2W (muI 3))
    (sSeq (sSet 2 (eIf (e2 gtD (eV 1) (eC (.int 0))) (eV 2) (e1 negD (eV 2))))
    (sRet (eTup (aCons (e2 fdivD (eV 0) (eV 2)) (aCons (e2 fdivD (eV 1) (eV 2)) aNil)))))))
def lawLow2F : List D → Sto → RE := mkF 2 4 lawLow2G
theorem abs_if {ρ : Rho} {st : Sto} {i : Nat} {x : Int} (h : ρ[i]? = some (some (.int x))) : eIf (e2 geD (eV i) (eC (.int 0))) (eV i) (e1 negD (eV i)) ρ st = .ok (.int (x.natAbs : Nat)) st := by
  by_cases h0 : 0 ≤ x
  · have e : ((x.natAbs : Nat) : Int) = x := by omega
    simp -implicitDefEqProofs only [x_set, x_asg, x_call, x_callM, x_callN, x_cons, x_nil, x_V, x_C, x_1, x_2, x_N, x_tup, x_lst, x_lstM, x_lc, x_rg1, x_rg2, x_iseq, x_ifE, x_ifS, x_and, x_or, x_not, x_ret, x_retN, x_par, x_drop, x_nx, x_raise, x_seq, x_for, x_chain, x_met, x_callP, x_bname, x_bnil, x_bcons, x_btup, x_put, x_fnil, List.getElem?_cons_zero, List.getElem?_cons_succ, List.set_cons_succ, List.set_cons_zero, y_bn, y_bn', y_un, y_of, y_of2, y_nN, y_ac, y_ac', tp0, tp1, tp2, tp3, tp4, lp0, lp1, lp2, lp3, lp4, lp5, lp6, lp7, y_lpM0, y_ift, y_iff, y_not, y_cl, y_clM, y_clN, y_clP, y_clPx, y_st, y_rt, y_rtx, y_dr, y_drx, y_ifst, y_ifsf, y_pr, y_pr', y_asg, y_rg1, y_rg2, y_rg2', y_sql, y_sqt, y_fr, y_lc, y_thn, y_thr, y_thx, y_ch0, y_ch1, y_ch2t, y_ch2f, y_ch3, y_pt1, y_pt2, y_me2, z_add, z_sub, z_lt, z_le, z_gt, z_ge, z_eq, z_ne, z_neg, z_nri, z_nrb, z_nrn, z_nrt, z_nrl, z_lent, z_lenl, z_min, z_max, z_ixt, z_ixl, z_revt, z_revl, z_tupt, z_tupl, z_lstt, z_lstl, z_inti, z_isi_ii, z_isi_ib, z_isi_is, z_isi_it, z_isi_il, z_isi_tt, z_isi_tl, z_isi_ti, z_isi_tb, z_isi_lt, z_isi_ll, z_isi_bb, z_isi_bi, z_isi_bt, z_isi_bls, at_0, at_1, at_2, at_3, List.all_cons, List.all_nil, Bool.and_self, Bool.true_and, Bool.and_true, if_true, decide_true, decide_false, Bool.not_true, Bool.not_false, wipeD, finL, rgOk_0, rgOk_1, and_true, true_and, List.reverse_nil, List.nil_append, and_self, reduceIte, Bool.false_eq_true, h, decide_eq_true h0, e]
  · have e : ((x.natAbs : Nat) : Int) = -x := by omega
    simp -implicitDefEqProofs only [x_set, x_asg, x_call, x_callM, x_callN, x_cons, x_nil, x_V, x_C, x_1, x_2, x_N, x_tup, x_lst, x_lstM, x_lc, x_rg1, x_rg2, x_iseq, x_ifE, x_ifS, x_and, x_or, x_not, x_ret, x_retN, x_par, x_drop, x_nx, x_raise, x_seq, x_for, x_chain, x_met, x_callP, x_bname, x_bnil, x_bcons, x_btup, x_put, x_fnil, List.getElem?_cons_zero, List.getElem?_cons_succ, List.set_cons_succ, List.set_cons_zero, y_bn, y_bn', y_un, y_of, y_of2, y_nN, y_ac, y_ac', tp0, tp1, tp2, tp3, tp4, lp0, lp1, lp2, lp3, lp4, lp5, lp6, lp7, y_lpM0, y_ift, y_iff, y_not, y_cl, y_clM, y_clN, y_clP, y_clPx, y_st, y_rt, y_rtx, y_dr, y_drx, y_ifst, y_ifsf, y_pr, y_pr', y_asg, y_rg1, y_rg2, y_rg2', y_sql, y_sqt, y_fr, y_lc, y_thn, y_thr, y_thx, y_ch0, y_ch1, y_ch2t, y_ch2f, y_ch3, y_pt1, y_pt2, y_me2, z_add, z_sub, z_lt, z_le, z_gt, z_ge, z_eq, z_ne, z_neg, z_nri, z_nrb, z_nrn, z_nrt, z_nrl, z_lent, z_lenl, z_min, z_max, z_ixt, z_ixl, z_revt, z_revl, z_tupt, z_tupl, z_lstt, z_lstl, z_inti, z_isi_ii, z_isi_ib, z_isi_is, z_isi_it, z_isi_il, z_isi_tt, z_isi_tl, z_isi_ti, z_isi_tb, z_isi_lt, z_isi_ll, z_isi_bb, z_isi_bi, z_isi_bt, z_isi_bls, at_0, at_1, at_2, at_3, List.all_cons, List.all_nil, Bool.and_self, Bool.true_and, Bool.and_true, if_true, decide_true, decide_false, Bool.not_true, Bool.not_false, wipeD, finL, rgOk_0, rgOk_1, and_true, true_and, List.reverse_nil, List.nil_append, and_self, reduceIte, Bool.false_eq_true, h, decide_eq_false h0, e]
theorem lawLow2_eqG (a b : Int) (st : Sto) (hb : b ≠ 0) (hs : b.natAbs < 2 ^ 8000) : lawLow2F [.int a, .int b] st = .ok (shR (Rat.divInt a b)) st := by
  have lp := while_gcd (c := e2 gtD (eV 3) (eC (.int 0))) (body := lawLow2W) (i := 2) (j := 3) (by decide) st (MA := max a.natAbs b.natAbs) (MB := b.natAbs) (by omega) (fun ρ y h => by
    have e : decide ((0 : Int) < (y : Int)) = decide (0 < y) := by rw [decide_eq_decide]; omega
    simp -implicitDefEqProofs only [x_set, x_asg, x_call, x_callM, x_callN, x_cons, x_nil, x_V, x_C, x_1, x_2, x_N, x_tup, x_lst, x_lstM, x_lc, x_rg1, x_rg2, x_iseq, x_ifE, x_ifS, x_and, x_or, x_not, x_ret, x_retN, x_par, x_drop, x_nx, x_raise, x_seq, x_for, x_chain, x_met, x_callP, x_bname, x_bnil, x_bcons, x_btup, x_put, x_fnil, List.getElem?_cons_zero, List.getElem?_cons_succ, List.set_cons_succ, List.set_cons_zero, y_bn, y_bn', y_un, y_of, y_of2, y_nN, y_ac, y_ac', tp0, tp1, tp2, tp3, tp4, lp0, lp1, lp2, lp3, lp4, lp5, lp6, lp7, y_lpM0, y_ift, y_iff, y_not, y_cl, y_clM, y_clN, y_clP, y_clPx, y_st, y_rt, y_rtx, y_dr, y_drx, y_ifst, y_ifsf, y_pr, y_pr', y_asg, y_rg1, y_rg2, y_rg2', y_sql, y_sqt, y_fr, y_lc, y_thn, y_thr, y_thx, y_ch0, y_ch1, y_ch2t, y_ch2f, y_ch3, y_pt1, y_pt2, y_me2, z_add, z_sub, z_lt, z_le, z_gt, z_ge, z_eq, z_ne, z_neg, z_nri, z_nrb, z_nrn, z_nrt, z_nrl, z_lent, z_lenl, z_min, z_max, z_ixt, z_ixl, z_revt, z_revl, z_tupt, z_tupl, z_lstt, z_lstl, z_inti, z_isi_ii, z_isi_ib, z_isi_is, z_isi_it, z_isi_il, z_isi_tt, z_isi_tl, z_isi_ti, z_isi_tb, z_isi_lt, z_isi_ll, z_isi_bb, z_isi_bi, z_isi_bt, z_isi_bls, at_0, at_1, at_2, at_3, List.all_cons, List.all_nil, Bool.and_self, Bool.true_and, Bool.and_true, if_true, decide_true, decide_false, Bool.not_true, Bool.not_false, wipeD, finL, rgOk_0, rgOk_1, and_true, true_and, List.reverse_nil, List.nil_append, and_self, reduceIte, Bool.false_eq_true, h, e]) (fun ρ x y h1 h2 hy _ _ => by
    have hy0 : ((y : Int) ≠ 0) := by omega
    unfold lawLow2W
    simp -implicitDefEqProofs only [x_set, x_asg, x_call, x_callM, x_callN, x_cons, x_nil, x_V, x_C, x_1, x_2, x_N, x_tup, x_lst, x_lstM, x_lc, x_rg1, x_rg2, x_iseq, x_ifE, x_ifS, x_and, x_or, x_not, x_ret, x_retN, x_par, x_drop, x_nx, x_raise, x_seq, x_for, x_chain, x_met, x_callP, x_bname, x_bnil, x_bcons, x_btup, x_put, x_fnil, List.getElem?_cons_zero, List.getElem?_cons_succ, List.set_cons_succ, List.set_cons_zero, y_bn, y_bn', y_un, y_of, y_of2, y_nN, y_ac, y_ac', tp0, tp1, tp2, tp3, tp4, lp0, lp1, lp2, lp3, lp4, lp5, lp6, lp7, y_lpM0, y_ift, y_iff, y_not, y_cl, y_clM, y_clN, y_clP, y_clPx, y_st, y_rt, y_rtx, y_dr, y_drx, y_ifst, y_ifsf, y_pr, y_pr', y_asg, y_rg1, y_rg2, y_rg2', y_sql, y_sqt, y_fr, y_lc, y_thn, y_thr, y_thx, y_ch0, y_ch1, y_ch2t, y_ch2f, y_ch3, y_pt1, y_pt2, y_me2, z_add, z_sub, z_lt, z_le, z_gt, z_ge, z_eq, z_ne, z_neg, z_nri, z_nrb, z_nrn, z_nrt, z_nrl, z_lent, z_lenl, z_min, z_max, z_ixt, z_ixl, z_revt, z_revl, z_tupt, z_tupl, z_lstt, z_lstl, z_inti, z_isi_ii, z_isi_ib, z_isi_is, z_isi_it, z_isi_il, z_isi_tt, z_isi_tl, z_isi_ti, z_isi_tb, z_isi_lt, z_isi_ll, z_isi_bb, z_isi_bi, z_isi_bt, z_isi_bls, at_0, at_1, at_2, at_3, List.all_cons, List.all_nil, Bool.and_self, Bool.true_and, Bool.and_true, if_true, decide_true, decide_false, Bool.not_true, Bool.not_false, wipeD, finL, rgOk_0, rgOk_1, and_true, true_and, List.reverse_nil, List.nil_append, and_self, reduceIte, Bool.false_eq_true, h1, h2, z_mod, if_pos hy0, fmod_nat]) b.natAbs a.natAbs (b.natAbs + 1) [some (.int a), some (.int b), some (.int (a.natAbs : Int)), some (.int (b.natAbs : Int))] (by omega) (by omega) (by omega) rfl rfl
  have g0 : Nat.gcd a.natAbs b.natAbs ≠ 0 := fun h => by rw [Nat.gcd_eq_zero_iff] at h; omega
  have gl : (Nat.gcd a.natAbs b.natAbs).log2 < 9000 := log_lt (Nat.lt_of_le_of_lt (Nat.gcd_le_right a.natAbs (by omega)) (pow_lt' 9000 hs (by decide))) (by decide)
  have hf (x : Int) (st : Sto) : fdivD (.int x) (.int (Nat.gcd a.natAbs b.natAbs : Nat)) st = some (.int (x.fdiv (Nat.gcd a.natAbs b.natAbs : Nat))) := by
    rw [z_fdiv, if_pos ⟨by omega, by rw [Int.natAbs_natCast]; exact gl⟩]
  have hf' (x : Int) (st : Sto) : fdivD (.int x) (.int (-(Nat.gcd a.natAbs b.natAbs : Nat))) st = some (.int (x.fdiv (-(Nat.gcd a.natAbs b.natAbs : Nat)))) := by
    rw [z_fdiv, if_pos ⟨by omega, by rw [Int.natAbs_neg, Int.natAbs_natCast]; exact gl⟩]
  have lw : sWhileM (e2 gtD (eV 3) (eC (.int 0))) lawLow2W (muI 3) [some (.int a), some (.int b), some (.int (a.natAbs : Int)), some (.int (b.natAbs : Int))] st = .nx [some (.int a), some (.int b), some (.int (Nat.gcd a.natAbs b.natAbs : Nat)), some (.int 0)] st := by
    unfold sWhileM
    have e : muI 3 [some (.int a), some (.int b), some (.int (a.natAbs : Int)), some (.int (b.natAbs : Int))] st = b.natAbs + 1 := by
      show ((b.natAbs : Int)).natAbs + 1 = _
      rw [Int.natAbs_natCast]
    rw [e, lp]
    rfl
  refine fn_rt rfl ?_
  show lawLow2G [some (.int a), some (.int b), none, none] st = _
  unfold lawLow2G
  refine seq_nx (ρ1 := [some (.int a), some (.int b), some (.int (a.natAbs : Int)), some (.int (b.natAbs : Int))]) (st1 := st) (by
    rw [x_par, abs_if (x := a) rfl, y_pr, abs_if (x := b) rfl, y_pr']; rfl) ?_
  refine seq_nx lw ?_
  by_cases hp : 0 < b
  · have e1 : decide (0 < b) = true := decide_eq_true hp
    obtain ⟨n, rfl⟩ := Int.eq_ofNat_of_zero_le (Int.le_of_lt hp)
    obtain ⟨v1, v2⟩ := low_pos a (b := n) (by omega)
    rw [Int.natAbs_natCast] at hf ⊢
    simp -implicitDefEqProofs only [x_set, x_asg, x_call, x_callM, x_callN, x_cons, x_nil, x_V, x_C, x_1, x_2, x_N, x_tup, x_lst, x_lstM, x_lc, x_rg1, x_rg2, x_iseq, x_ifE, x_ifS, x_and, x_or, x_not, x_ret, x_retN, x_par, x_drop, x_nx, x_raise, x_seq, x_for, x_chain, x_met, x_callP, x_bname, x_bnil, x_bcons, x_btup, x_put, x_fnil, List.getElem?_cons_zero, List.getElem?_cons_succ, List.set_cons_succ, List.set_cons_zero, y_bn, y_bn', y_un, y_of, y_of2, y_nN, y_ac, y_ac', tp0, tp1, tp2, tp3, tp4, lp0, lp1, lp2, lp3, lp4, lp5, lp6, lp7, y_lpM0, y_ift, y_iff, y_not, y_cl, y_clM, y_clN, y_clP, y_clPx, y_st, y_rt, y_rtx, y_dr, y_drx, y_ifst, y_ifsf, y_pr, y_pr', y_asg, y_rg1, y_rg2, y_rg2', y_sql, y_sqt, y_fr, y_lc, y_thn, y_thr, y_thx, y_ch0, y_ch1, y_ch2t, y_ch2f, y_ch3, y_pt1, y_pt2, y_me2, z_add, z_sub, z_lt, z_le, z_gt, z_ge, z_eq, z_ne, z_neg, z_nri, z_nrb, z_nrn, z_nrt, z_nrl, z_lent, z_lenl, z_min, z_max, z_ixt, z_ixl, z_revt, z_revl, z_tupt, z_tupl, z_lstt, z_lstl, z_inti, z_isi_ii, z_isi_ib, z_isi_is, z_isi_it, z_isi_il, z_isi_tt, z_isi_tl, z_isi_ti, z_isi_tb, z_isi_lt, z_isi_ll, z_isi_bb, z_isi_bi, z_isi_bt, z_isi_bls, at_0, at_1, at_2, at_3, List.all_cons, List.all_nil, Bool.and_self, Bool.true_and, Bool.and_true, if_true, decide_true, decide_false, Bool.not_true, Bool.not_false, wipeD, finL, rgOk_0, rgOk_1, and_true, true_and, List.reverse_nil, List.nil_append, and_self, reduceIte, Bool.false_eq_true, e1, hf, v1, v2]
  · have e1 : decide (0 < b) = false := decide_eq_false hp
    obtain ⟨n, hn⟩ : ∃ n : Nat, b = -(n : Int) := ⟨b.natAbs, by omega⟩
    subst hn
    obtain ⟨v1, v2⟩ := low_negL a (b := n) (by omega)
    rw [Int.zero_sub] at v1 v2
    rw [Int.natAbs_neg, Int.natAbs_natCast] at hf' ⊢
    simp -implicitDefEqProofs only [x_set, x_asg, x_call, x_callM, x_callN, x_cons, x_nil, x_V, x_C, x_1, x_2, x_N, x_tup, x_lst, x_lstM, x_lc, x_rg1, x_rg2, x_iseq, x_ifE, x_ifS, x_and, x_or, x_not, x_ret, x_retN, x_par, x_drop, x_nx, x_raise, x_seq, x_for, x_chain, x_met, x_callP, x_bname, x_bnil, x_bcons, x_btup, x_put, x_fnil, List.getElem?_cons_zero, List.getElem?_cons_succ, List.set_cons_succ, List.set_cons_zero, y_bn, y_bn', y_un, y_of, y_of2, y_nN, y_ac, y_ac', tp0, tp1, tp2, tp3, tp4, lp0, lp1, lp2, lp3, lp4, lp5, lp6, lp7, y_lpM0, y_ift, y_iff, y_not, y_cl, y_clM, y_clN, y_clP, y_clPx, y_st, y_rt, y_rtx, y_dr, y_drx, y_ifst, y_ifsf, y_pr, y_pr', y_asg, y_rg1, y_rg2, y_rg2', y_sql, y_sqt, y_fr, y_lc, y_thn, y_thr, y_thx, y_ch0, y_ch1, y_ch2t, y_ch2f, y_ch3, y_pt1, y_pt2, y_me2, z_add, z_sub, z_lt, z_le, z_gt, z_ge, z_eq, z_ne, z_neg, z_nri, z_nrb, z_nrn, z_nrt, z_nrl, z_lent, z_lenl, z_min, z_max, z_ixt, z_ixl, z_revt, z_revl, z_tupt, z_tupl, z_lstt, z_lstl, z_inti, z_isi_ii, z_isi_ib, z_isi_is, z_isi_it, z_isi_il, z_isi_tt, z_isi_tl, z_isi_ti, z_isi_tb, z_isi_lt, z_isi_ll, z_isi_bb, z_isi_bi, z_isi_bt, z_isi_bls, at_0, at_1, at_2, at_3, List.all_cons, List.all_nil, Bool.and_self, Bool.true_and, Bool.and_true, if_true, decide_true, decide_false, Bool.not_true, Bool.not_false, wipeD, finL, rgOk_0, rgOk_1, and_true, true_and, List.reverse_nil, List.nil_append, and_self, reduceIte, Bool.false_eq_true, e1, hf', v1, v2]
theorem lowS_law2 : LowS 8000 lawLow2F := fun a b st h _ h2 => lawLow2_eqG a b st h h2
theorem ops_law2 : Ops 3000 (mkF 2 2 (plusG lawLow2F)) (mkF 2 2 (lessG lawLow2F)) (mkF 2 2 (timesG lawLow2F)) (mkF 2 2 (overG lawLow2F)) := ops_of lowS_law2 (by decide) (by decide)
/-! shares that are no fraction's: tuples of two ints -/
theorem chance_int (a b : Nat) (h : Nat.gcd a b = 1) (hb : 0 < b) (ha : a ≤ b) (st : Sto) : isChanceF [.tup [.int a, .int b]] st = .ok (.bl true) st := by
  have hs : isShareF [.tup [.int a, .int b]] [] = .ok (.bl true) [] := by
    rw [share_int, decide_eq_true (show (0 : Int) < b by omega), Bool.true_and, decide_eq_true (show Nat.gcd (a : Int).natAbs (b : Int).natAbs = 1 by rw [Int.natAbs_natCast, Int.natAbs_natCast]; exact h)]
  have h1 : decide ((0 : Int) ≤ (a : Int)) = true := decide_eq_true (by omega)
  have h2 : decide ((a : Int) ≤ (b : Int)) = true := decide_eq_true (by omega)
  refine fn_rt rfl ?_
  show isChanceG [some (.tup [.int a, .int b])] st = _
  unfold isChanceG
  simp -implicitDefEqProofs only [x_set, x_asg, x_call, x_callM, x_callN, x_cons, x_nil, x_V, x_C, x_1, x_2, x_N, x_tup, x_lst, x_lstM, x_lc, x_rg1, x_rg2, x_iseq, x_ifE, x_ifS, x_and, x_or, x_not, x_ret, x_retN, x_par, x_drop, x_nx, x_raise, x_seq, x_for, x_chain, x_met, x_callP, x_bname, x_bnil, x_bcons, x_btup, x_put, x_fnil, List.getElem?_cons_zero, List.getElem?_cons_succ, List.set_cons_succ, List.set_cons_zero, y_bn, y_bn', y_un, y_of, y_of2, y_nN, y_ac, y_ac', tp0, tp1, tp2, tp3, tp4, lp0, lp1, lp2, lp3, lp4, lp5, lp6, lp7, y_lpM0, y_ift, y_iff, y_not, y_cl, y_clM, y_clN, y_clP, y_clPx, y_st, y_rt, y_rtx, y_dr, y_drx, y_ifst, y_ifsf, y_pr, y_pr', y_asg, y_rg1, y_rg2, y_rg2', y_sql, y_sqt, y_fr, y_lc, y_thn, y_thr, y_thx, y_ch0, y_ch1, y_ch2t, y_ch2f, y_ch3, y_pt1, y_pt2, y_me2, z_add, z_sub, z_lt, z_le, z_gt, z_ge, z_eq, z_ne, z_neg, z_nri, z_nrb, z_nrn, z_nrt, z_nrl, z_lent, z_lenl, z_min, z_max, z_ixt, z_ixl, z_revt, z_revl, z_tupt, z_tupl, z_lstt, z_lstl, z_inti, z_isi_ii, z_isi_ib, z_isi_is, z_isi_it, z_isi_il, z_isi_tt, z_isi_tl, z_isi_ti, z_isi_tb, z_isi_lt, z_isi_ll, z_isi_bb, z_isi_bi, z_isi_bt, z_isi_bls, at_0, at_1, at_2, at_3, List.all_cons, List.all_nil, Bool.and_self, Bool.true_and, Bool.and_true, if_true, decide_true, decide_false, Bool.not_true, Bool.not_false, wipeD, finL, rgOk_0, rgOk_1, and_true, true_and, List.reverse_nil, List.nil_append, and_self, reduceIte, Bool.false_eq_true, hs, h1, h2]
theorem eqv_ints : ∀ {n : Nat} (l m : List Nat), eqL (eqvN n) (l.map fun (x : Nat) => .int x) (m.map fun (x : Nat) => .int x) = decide (l = m)
  | _, [], [] => rfl
  | _, [], _ :: _ => rfl
  | _, _ :: _, [] => rfl
  | n, x :: l, y :: m => by
    rw [List.map_cons, List.map_cons, eqL, eqv_int, eqv_ints l m]
    by_cases h1 : x = y
    · subst h1; simp
    · have : ¬ ((x : Int) = (y : Int)) := by omega
      rw [decide_eq_false this, decide_eq_false (fun h => h1 (List.cons.inj h).1)]; rfl
theorem shp_ints {n : Nat} (l : List Nat) : (l.map fun (x : Nat) => D.int x).all (shp n) = true := by
  rw [List.all_eq_true]
  intro d hd
  obtain ⟨x, _, rfl⟩ := List.mem_map.mp hd
  cases n <;> rfl
theorem eq_ints_t (l m : List Nat) (st : Sto) : eqD (.tup (l.map fun (x : Nat) => .int x)) (.tup (m.map fun (x : Nat) => .int x)) st = some (.bl (decide (l = m))) := by
  unfold eqD
  rw [if_pos (by rw [show shp 8 (.tup (l.map fun (x : Nat) => .int x)) = true from shp_ints l, show shp 8 (.tup (m.map fun (x : Nat) => .int x)) = true from shp_ints m]; rfl)]
  show some (D.bl (eqL (eqvN 7) _ _)) = _
  rw [eqv_ints]
theorem ne_ints_l (l m : List Nat) (st : Sto) : neD (.lst (l.map fun (x : Nat) => .int x)) (.lst (m.map fun (x : Nat) => .int x)) st = some (.bl (!decide (l = m))) := by
  unfold neD
  rw [if_pos (by rw [show shp 8 (.lst (l.map fun (x : Nat) => .int x)) = true from shp_ints l, show shp 8 (.lst (m.map fun (x : Nat) => .int x)) = true from shp_ints m]; rfl)]
  show some (D.bl (!eqL (eqvN 7) _ _)) = _
  rw [eqv_ints]
theorem vec_int_map {f : Nat → Nat} {n : Nat} : vec (fun k => D.int (f k : Nat)) n = (vec f n).map fun (x : Nat) => .int x := by rw [vec_map]
/-! enumerate over a row -/
theorem enum_from (f : Nat → D) : ∀ (n : Nat) (k : Int), enumL k (vec f n) = vec (fun i => .tup [.int (k + i), f i]) n := fun n => by
  intro k
  apply List.ext_getElem?
  intro i
  rw [enumL_get]
  by_cases h : i < n
  · rw [vec_get h, vec_get h]; rfl
  · rw [vec_get_none (by omega), vec_get_none (by omega)]; rfl
theorem enum_vec (f : Nat → D) (n : Nat) : enumL 0 (vec f n) = vec (fun i => .tup [.int (i : Nat), f i]) n := by
  rw [enum_from]
  exact vec_ext fun i _ => by rw [Int.zero_add]
def en' : RE → RA
  | .ok (.lst ds) st => .ok (enumL 0 ds) st | .ok (.tup ds) st => .ok (enumL 0 ds) st | .ok _ _ => .stuck | .exc x st => .exc x st | .stuck => .stuck
theorem x_enum {a : E} {ρ : Rho} {st : Sto} : iEnumE a ρ st = en' (a ρ st) := by
  unfold iEnumE
  cases a ρ st with
  | ok d st1 => cases d <;> rfl
  | exc _ _ => rfl
  | stuck => rfl
theorem y_ent {ds : List D} {st : Sto} : en' (.ok (.tup ds) st) = .ok (enumL 0 ds) st := rfl
theorem y_enl {ds : List D} {st : Sto} : en' (.ok (.lst ds) st) = .ok (enumL 0 ds) st := rfl
theorem shl1 (n : Nat) (h : n ≤ 1000000) (st : Sto) : shlD (.int 1) (.int n) st = some (.int (2 ^ n : Nat)) := by
  have : (0 : Int) ≤ n ∧ (n : Int) ≤ 1000000 ∧ (1 : Int).natAbs < 18446744073709551616 := ⟨by omega, by omega, by decide⟩
  rw [z_shl, if_pos this, Int.one_mul]
  simp
/-! whiles, turn by turn -/
theorem while_step {c : E} {b : S} {n : Nat} {ρ ρ1 : Rho} {st st0 st1 : Sto} (h1 : c ρ st = .ok (.bl true) st0) (h2 : b ρ st0 = .nx ρ1 st1) : sWhile c b (n + 1) ρ st = sWhile c b n ρ1 st1 := by
  rw [sWhile]; dsimp only; rw [h1]; simp only [RE.toS]; rw [h2]
theorem while_done {c : E} {b : S} {n : Nat} {ρ : Rho} {st st0 : Sto} (h1 : c ρ st = .ok (.bl false) st0) : sWhile c b (n + 1) ρ st = .nx ρ st0 := by
  rw [sWhile]; dsimp only; rw [h1]; simp only [RE.toS]
/-- a while of so many turns -/
theorem while_vec {c : E} {b : S} (R : Nat → Rho) (T : Nat → Sto) (m : Nat) (h : ∀ k, k < m → c (R k) (T k) = .ok (.bl true) (T k) ∧ b (R k) (T k) = .nx (R (k + 1)) (T (k + 1))) (hd : c (R m) (T m) = .ok (.bl false) (T m)) (N : Nat) (hN : m < N) :
    sWhile c b N (R 0) (T 0) = .nx (R m) (T m) := by
  have : ∀ (d k N : Nat), k + d = m → d < N → sWhile c b N (R k) (T k) = .nx (R m) (T m) := fun d => by
    induction d with
    | zero =>
      intro k N e hN
      have : k = m := by omega
      subst this
      cases N with
      | zero => omega
      | succ N => exact while_done hd
    | succ d ih =>
      intro k N e hN
      cases N with
      | zero => omega
      | succ N =>
        obtain ⟨h1, h2⟩ := h k (by omega)
        rw [while_step h1 h2]
        exact ih (k + 1) N (by omega) (by omega)
  exact this m 0 N (by omega) hN
/-! dicts -/
section
variable {κ : Type} [DecidableEq κ]
theorem getK_none {kvs : List (κ × D)} {k : κ} (h : ∀ p ∈ kvs, p.1 ≠ k) : getK kvs k = none := by
  unfold getK
  rw [List.find?_eq_none.mpr (fun p hp => by simpa using h p hp)]
  rfl
theorem putKD_new {kvs : List (κ × D)} {k : κ} {d : D} (h : ∀ p ∈ kvs, p.1 ≠ k) : putKD kvs k d = kvs ++ [(k, d)] := by
  unfold putKD
  rw [if_neg]
  rw [List.any_eq_true]
  rintro ⟨p, hp, e⟩
  exact h p hp (of_decide_eq_true e)
theorem getK_at {f : Nat → κ} {g : Nat → D} {x : κ} : ∀ (n s k : Nat), s < n → f (k + s) = x → (∀ i, i < s → f (k + i) ≠ x) → getK (vec (fun i => (f (k + i), g (k + i))) n) x = some (g (k + s)) := fun n => by
  induction n with
  | zero => intro s k h; omega
  | succ n ih =>
    intro s k hs h1 h2
    have ev : vec (fun i => (f (k + i), g (k + i))) (n + 1) = (f k, g k) :: vec (fun i => (f (k + 1 + i), g (k + 1 + i))) n := by
      rw [vec_succ']
      congr 1
      exact vec_ext fun i _ => by rw [show k + (i + 1) = k + 1 + i by omega]
    rw [ev]
    cases s with
    | zero =>
      rw [Nat.add_zero] at h1 ⊢
      simp [getK, List.find?_cons, h1]
    | succ s =>
      have hne : f k ≠ x := h2 0 (by omega)
      have := ih s (k + 1) (by omega) (by rw [← h1]; congr 1; omega) (fun i hi => by
        have := h2 (i + 1) (by omega)
        rwa [show k + (i + 1) = k + 1 + i by omega] at this)
      rw [show k + (s + 1) = k + 1 + s by omega, ← this]
      simp [getK, List.find?_cons, hne]
end
theorem dk_int {n : Nat} {st : Sto} {kvs : List (Key × D)} {i : Int} (h : st[n]? = some (.dK kvs)) : dkOf (.ref n) (.int i) st = some (kvs, .inl i) := by
  simp only [dkOf, h, keyD]
theorem z_din {neg : Bool} {x y : D} {st : Sto} {kvs : List (Key × D)} {k : Key} (h : dkOf x y st = some (kvs, k)) : dinD neg y x st = some (.bl (if neg = true then !(getK kvs k).isSome else (getK kvs k).isSome)) := by
  unfold dinD; rw [h]
theorem z_dget {x y : D} {st : Sto} {kvs : List (Key × D)} {k : Key} (h : dkOf x y st = some (kvs, k)) : dgetD x y st = getK kvs k := by
  unfold dgetD; rw [h]
def dp3 (ρ : Rho) (d x : D) : RE → RS
  | .ok y st => (match dputD x y d st with | some st4 => .nx ρ st4 | none => .stuck) | .exc x st => .exc x ρ st | .stuck => .stuck
def dp2 (i : E) (ρ : Rho) (d : D) : RE → RS
  | .ok x st => dp3 ρ d x (i ρ st) | .exc x st => .exc x ρ st | .stuck => .stuck
def dp1 (o i : E) (ρ : Rho) : RE → RS
  | .ok d st => dp2 i ρ d (o ρ st) | .exc x st => .exc x ρ st | .stuck => .stuck
section
variable {e o i : E} {ρ : Rho} {st st4 : Sto} {d x y : D}
theorem x_dput : sDPutE e o i ρ st = dp1 o i ρ (e ρ st) := by
  unfold sDPutE
  cases e ρ st with
  | ok d st1 =>
    show (o ρ st1).toS ρ _ = dp2 i ρ d (o ρ st1)
    cases o ρ st1 with
    | ok x st2 => show (i ρ st2).toS ρ _ = dp3 ρ d x (i ρ st2); cases i ρ st2 <;> rfl
    | exc _ _ => rfl
    | stuck => rfl
  | exc _ _ => rfl
  | stuck => rfl
theorem y_dp1 : dp1 o i ρ (.ok d st) = dp2 i ρ d (o ρ st) := rfl
theorem y_dp2 : dp2 i ρ d (.ok x st) = dp3 ρ d x (i ρ st) := rfl
theorem y_dp3 (h : dputD x y d st = some st4) : dp3 ρ d x (.ok y st) = .nx ρ st4 := by unfold dp3; dsimp only; rw [h]
theorem x_dictM : eDictM ρ st = .ok (.ref st.length) (st ++ [.dK []]) := rfl
end
theorem dput_at {n : Nat} {st : Sto} {kvs : List (Key × D)} {y d : D} {k : Key} (h : st[n]? = some (.dK kvs)) (hk : keyD y = some k) (hl : kvs.length < 1000000) : dputD (.ref n) y d st = some (st.set n (.dK (putKD kvs k d))) := by
  simp only [dputD, h, hk]; rw [if_pos hl]
theorem z_lenr {n : Nat} {st : Sto} {ds : List D} (h : st[n]? = some (.lst ds)) : g0 lenD [.ref n] st = some (.int (ds.length : Int), st) := by
  simp only [g0, lenD, seqOf, listOf, h]
theorem z_slr {n : Nat} {st : Sto} {ds : List D} {l r : Option Int} (h : st[n]? = some (.lst ds)) : slD (.ref n) l r st = some (.lst (cutD ds l r)) := by
  simp only [slD, listOf, h]
theorem z_intb {k : Bool} {st : Sto} : g0 intD [.bl k] st = some (.int (if k = true then 1 else 0), st) := by cases k <;> rfl
theorem mu_1 {b : Nat} (h : b < 2 ^ 8000) {st : Sto} : mulD (.int (b : Nat)) (.int 1) st = some (.int (b : Nat)) := by
  have h1 : (1 : Int).natAbs.log2 = 0 := by decide
  have h2 := log_lt h (by decide)
  rw [z_mul, Int.natAbs_natCast, if_pos (by omega), Int.mul_one]
theorem mu_0 {b : Nat} (h : b < 2 ^ 8000) {st : Sto} : mulD (.int (b : Nat)) (.int 0) st = some (.int 0) := by
  have h1 : (0 : Int).natAbs.log2 = 0 := by decide
  have h2 := log_lt h (by decide)
  rw [z_mul, Int.natAbs_natCast, if_pos (by omega), Int.mul_zero]
end L4
namespace K57
open PySem L2 L4
open PyProof.Rows (envOfC)
def top (i : Nat) : Stmt := PySem.Challenge.pw_throwstold_k57_whole_figures_of_chances.main.body.getD i (.Pass ⟨0, 0, 0, 0⟩)
def xl_BadPlan : List (Str × Bool) := [("BadPlan", true), ("BadShare", false)]
def xl_ValueError : List (Str × Bool) := [("BadPlan", true), ("BadShare", true)]
theorem ib_ValueError_BadPlan : isB xl_ValueError "BadPlan" = true := by decide +kernel
theorem ib_ValueError_BadShare : isB xl_ValueError "BadShare" = true := by decide +kernel
/-- what the top has left -/
structure Top (K : PySem.W.Frag) (mg : Str → Option Value) : Prop where
  z_ValueError : mg "ValueError" = none
  z_abs : mg "abs" = none
  z_bool : mg "bool" = none
  z_enumerate : mg "enumerate" = none
  z_int : mg "int" = none
  z_isinstance : mg "isinstance" = none
  z_len : mg "len" = none
  z_list : mg "list" = none
  z_range : mg "range" = none
  z_str : mg "str" = none
  z_tuple : mg "tuple" = none
  c_MOST_ROWS : IsInt mg "MOST_ROWS" 300
  x_BadPlan : ∃ C, ExcF K mg "BadPlan" C
  x_BadShare : ∃ C, ExcF K mg "BadShare" C
  y_BadPlan : TryF K mg "BadPlan" xl_BadPlan
  yc_BadPlan : ExcCs K mg xl_BadPlan
  yi_BadPlan_ValueError : IsCF K mg xl_BadPlan (.type "ValueError") xl_ValueError
  d_law_bit : DefF K mg "_law_bit" (top 29)
  d_law_draw : DefF K mg "_law_draw" (top 22)
  d_law_draws : DefF K mg "_law_draws" (top 21)
  d_law_low : DefF K mg "_law_low" (top 24)
  d_law_plus : DefF K mg "_law_plus" (top 25)
  d_law_same : DefF K mg "_law_same" (top 23)
  d_bit : DefF K mg "bit" (top 17)
  d_divisor : DefF K mg "divisor" (top 7)
  d_is_whole : DefF K mg "is_whole" (top 6)
  d_is_share : DefF K mg "is_share" (top 9)
  d_is_chance : DefF K mg "is_chance" (top 14)
  d_bits_of : DefF K mg "bits_of" (top 18)
  d_low : DefF K mg "low" (top 8)
  d_less : DefF K mg "less" (top 11)
  d_over : DefF K mg "over" (top 13)
  d_plus : DefF K mg "plus" (top 10)
  d_times : DefF K mg "times" (top 12)
  d_weighed_bits : DefF K mg "weighed_bits" (top 19)
  d_law : DefF K mg "law" (top 30)
/-! _law_bit -/
abbrev N_law_bit : List Str := ["share", "at", "above", "k", "figure"]
theorem nk_law_bit_above : (defScope (top 29)).names.lookup ("above" : Str) = some NameKind.local := by decide +kernel
theorem nk_law_bit_at : (defScope (top 29)).names.lookup ("at" : Str) = some NameKind.local := by decide +kernel
theorem nk_law_bit_figure : (defScope (top 29)).names.lookup ("figure" : Str) = some NameKind.local := by decide +kernel
theorem nk_law_bit_int : (defScope (top 29)).names.lookup ("int" : Str) = some NameKind.globalImplicit := by decide +kernel
theorem nk_law_bit_k : (defScope (top 29)).names.lookup ("k" : Str) = some NameKind.local := by decide +kernel
theorem nk_law_bit_range : (defScope (top 29)).names.lookup ("range" : Str) = some NameKind.globalImplicit := by decide +kernel
theorem nk_law_bit_share : (defScope (top 29)).names.lookup ("share" : Str) = some NameKind.local := by decide +kernel
def b1_law_bit : S := (sSeq (sSet 2 (e2 mulD (eC (.int 2)) (eV 2)))
    (sSeq (sSet 4 (eN (g0 intD) (aCons (e2 geD (eV 2) (e2 ixD (eV 0) (eC (.int 1)))) aNil)))
    (sSet 2 (e2 subD (eV 2) (e2 mulD (e2 ixD (eV 0) (eC (.int 1))) (eV 4))))))
def g_law_bit : S := (sSeq (sSet 2 (e2 ixD (eV 0) (eC (.int 0))))
    (sSeq (sFor (iRg1 (eV 1)) (bName 3) b1_law_bit)
    (sRet (eV 4))))
def F_law_bit : List D → Sto → RE := mkF 2 5 g_law_bit
theorem sc_law_bit : FnScope ["share", "at", "above", "k", "figure"] ["share", "at"] (defScope (top 29)) := ⟨rfl, rfl, rfl, by decide +kernel, rfl, by decide +kernel, by decide +kernel⟩
theorem ok_law_bit {P : Program} {w : World} {K : PySem.W.Frag} {mg : Str → Option Value} {base : Heap} (T : Top K mg)  : CallF P w K mg base 1 "_law_bit" ["share", "at"] F_law_bit := by
  exact mk_callF N_law_bit ["share", "at"] g_law_bit rfl T.d_law_bit sc_law_bit (fun _ _ _ _ _ _ us hl => match us, hl with | [_, _], _ => rfl) fun f cdv A outer s H Ex hr => by
    have hu := hr.units
    have tk := takes_of (X := cxOf (L2.CX P w) P w K mg base ["share", "at", "above", "k", "figure"] "_law_bit" (defScope (top 29)) f cdv A outer s H Ex) rfl rfl rfl rfl
    have hp : PassesOwn (model P w) (cxOf (L2.CX P w) P w K mg base ["share", "at", "above", "k", "figure"] "_law_bit" (defScope (top 29)) f cdv A outer s H Ex).A (cxOf (L2.CX P w) P w K mg base ["share", "at", "above", "k", "figure"] "_law_bit" (defScope (top 29)) f cdv A outer s H Ex).env (cxOf (L2.CX P w) P w K mg base ["share", "at", "above", "k", "figure"] "_law_bit" (defScope (top 29)) f cdv A outer s H Ex).xe := passes_of rfl
    exact (s_cons (s_set (i := 2) sc_law_bit.nd rfl (Or.inl nk_law_bit_above) (ix (v 0 rfl (Or.inl nk_law_bit_share)) ci))
      (s_cons (s_for hp rfl (i_rg1 nk_law_bit_range T.z_range (v 1 rfl (Or.inl nk_law_bit_at))) (g_name (i := 3) sc_law_bit.nd rfl (Or.inl nk_law_bit_k)) (s_cons (s_set (i := 2) sc_law_bit.nd rfl (Or.inl nk_law_bit_above) (mul ci (v 2 rfl (Or.inl nk_law_bit_above))))
      (s_cons (s_set (i := 4) sc_law_bit.nd rfl (Or.inl nk_law_bit_figure) (bt call_int1 f_int T.z_int nk_law_bit_int (by decide +kernel) (ra_cons (ge (v 2 rfl (Or.inl nk_law_bit_above)) (ix (v 0 rfl (Or.inl nk_law_bit_share)) ci)) ra_nil)))
      (s_one (s_set (i := 2) sc_law_bit.nd rfl (Or.inl nk_law_bit_above) (sub (v 2 rfl (Or.inl nk_law_bit_above)) (mul (ix (v 0 rfl (Or.inl nk_law_bit_share)) ci) (v 4 rfl (Or.inl nk_law_bit_figure)))))))))
      (s_one (s_ret (v 4 rfl (Or.inl nk_law_bit_figure))))))
/-! _law_draw -/
abbrev N_law_draw : List Str := ["draws", "limit", "cell", "value"]
theorem nk_law_draw_cell : (defScope (top 22)).names.lookup ("cell" : Str) = some NameKind.local := by decide +kernel
theorem nk_law_draw_draws : (defScope (top 22)).names.lookup ("draws" : Str) = some NameKind.local := by decide +kernel
theorem nk_law_draw_int : (defScope (top 22)).names.lookup ("int" : Str) = some NameKind.globalImplicit := by decide +kernel
theorem nk_law_draw_len : (defScope (top 22)).names.lookup ("len" : Str) = some NameKind.globalImplicit := by decide +kernel
theorem nk_law_draw_limit : (defScope (top 22)).names.lookup ("limit" : Str) = some NameKind.local := by decide +kernel
theorem nk_law_draw_value : (defScope (top 22)).names.lookup ("value" : Str) = some NameKind.local := by decide +kernel
def g_law_draw : S := (sSeq (sIf (eAnd (e2 eqD (e2 ixD (eV 0) (eC (.int 2))) (eC (.int 0))) (e2 ltD (e2 ixD (eV 0) (eC (.int 1))) (eN (g0 lenD) (aCons (e2 ixD (eV 0) (eC (.int 0))) aNil)))) (sSeq (sSet 2 (e2 ixD (e2 ixD (eV 0) (eC (.int 0))) (e2 ixD (eV 0) (eC (.int 1)))))
    (sSeq (sPut (e2 addD (e2 ixD (eV 0) (eC (.int 1))) (eC (.int 1))) (eV 0) (eC (.int 1)))
    (sSeq (sIf (e2 geD (eV 2) (e2 powD (eC (.int 10)) (eC (.int 18)))) (sPut (eV 2) (eV 0) (eC (.int 2))) sNx)
    (sPut (e2 modD (eN (g0 intD) (aCons (e2 addD (e2 addD (e2 mulD (e2 ixD (eV 0) (eC (.int 3))) (eC (.int 48271))) (eV 2)) (eC (.int 13))) aNil)) (eC (.int 2147483647))) (eV 0) (eC (.int 3)))))) sNx)
    (sSeq (sIf (e2 gtD (e2 ixD (eV 0) (eC (.int 2))) (eC (.int 0))) (sSeq (sSet 3 (e2 modD (eN (g0 intD) (aCons (e2 ixD (eV 0) (eC (.int 2))) aNil)) (eV 1)))
    (sSeq (sPut (e2 fdivD (e2 ixD (eV 0) (eC (.int 2))) (eV 1)) (eV 0) (eC (.int 2)))
    (sRet (eV 3)))) sNx)
    (sSeq (sPut (e2 modD (eN (g0 intD) (aCons (e2 addD (e2 mulD (e2 ixD (eV 0) (eC (.int 3))) (eC (.int 69621))) (eC (.int 7))) aNil)) (eC (.int 2147483629))) (eV 0) (eC (.int 3)))
    (sRet (e2 modD (eN (g0 intD) (aCons (e2 fdivD (e2 ixD (eV 0) (eC (.int 3))) (eC (.int 11))) aNil)) (eV 1))))))
def F_law_draw : List D → Sto → RE := mkF 2 4 g_law_draw
theorem sc_law_draw : FnScope ["draws", "limit", "cell", "value"] ["draws", "limit"] (defScope (top 22)) := ⟨rfl, rfl, rfl, by decide +kernel, rfl, by decide +kernel, by decide +kernel⟩
theorem ok_law_draw {P : Program} {w : World} {K : PySem.W.Frag} {mg : Str → Option Value} {base : Heap} (T : Top K mg)  : CallF P w K mg base 1 "_law_draw" ["draws", "limit"] F_law_draw := by
  exact mk_callF N_law_draw ["draws", "limit"] g_law_draw rfl T.d_law_draw sc_law_draw (fun _ _ _ _ _ _ us hl => match us, hl with | [_, _], _ => rfl) fun f cdv A outer s H Ex hr => by
    have hu := hr.units
    have tk := takes_of (X := cxOf (L2.CX P w) P w K mg base ["draws", "limit", "cell", "value"] "_law_draw" (defScope (top 22)) f cdv A outer s H Ex) rfl rfl rfl rfl
    have hp : PassesOwn (model P w) (cxOf (L2.CX P w) P w K mg base ["draws", "limit", "cell", "value"] "_law_draw" (defScope (top 22)) f cdv A outer s H Ex).A (cxOf (L2.CX P w) P w K mg base ["draws", "limit", "cell", "value"] "_law_draw" (defScope (top 22)) f cdv A outer s H Ex).env (cxOf (L2.CX P w) P w K mg base ["draws", "limit", "cell", "value"] "_law_draw" (defScope (top 22)) f cdv A outer s H Ex).xe := passes_of rfl
    exact (s_cons (s_if (rt_w (rw_and (teq hu (ix (v 0 rfl (Or.inl nk_law_draw_draws)) ci) ci) (rw_and1 (tlt (ix (v 0 rfl (Or.inl nk_law_draw_draws)) ci) (bf call_lenA f_len T.z_len nk_law_draw_len (by decide +kernel) (ra_cons (ix (v 0 rfl (Or.inl nk_law_draw_draws)) ci) ra_nil)))))) (s_cons (s_set (i := 2) sc_law_draw.nd rfl (Or.inl nk_law_draw_cell) (ix (ix (v 0 rfl (Or.inl nk_law_draw_draws)) ci) (ix (v 0 rfl (Or.inl nk_law_draw_draws)) ci)))
      (s_cons (s_put (add (ix (v 0 rfl (Or.inl nk_law_draw_draws)) ci) ci) (v 0 rfl (Or.inl nk_law_draw_draws)) ci)
      (s_cons (s_if (tge (v 2 rfl (Or.inl nk_law_draw_cell)) (pow ci ci)) (s_one (s_put (v 2 rfl (Or.inl nk_law_draw_cell)) (v 0 rfl (Or.inl nk_law_draw_draws)) ci)) s_nil)
      (s_one (s_put (mod (bt call_int1 f_int T.z_int nk_law_draw_int (by decide +kernel) (ra_cons (add (add (mul (ix (v 0 rfl (Or.inl nk_law_draw_draws)) ci) ci) (v 2 rfl (Or.inl nk_law_draw_cell))) ci) ra_nil)) ci) (v 0 rfl (Or.inl nk_law_draw_draws)) ci))))) s_nil)
      (s_cons (s_if (tgt (ix (v 0 rfl (Or.inl nk_law_draw_draws)) ci) ci) (s_cons (s_set (i := 3) sc_law_draw.nd rfl (Or.inl nk_law_draw_value) (mod (bt call_int1 f_int T.z_int nk_law_draw_int (by decide +kernel) (ra_cons (ix (v 0 rfl (Or.inl nk_law_draw_draws)) ci) ra_nil)) (v 1 rfl (Or.inl nk_law_draw_limit))))
      (s_cons (s_put (fdiv (ix (v 0 rfl (Or.inl nk_law_draw_draws)) ci) (v 1 rfl (Or.inl nk_law_draw_limit))) (v 0 rfl (Or.inl nk_law_draw_draws)) ci)
      (s_one (s_ret (v 3 rfl (Or.inl nk_law_draw_value)))))) s_nil)
      (s_cons (s_put (mod (bt call_int1 f_int T.z_int nk_law_draw_int (by decide +kernel) (ra_cons (add (mul (ix (v 0 rfl (Or.inl nk_law_draw_draws)) ci) ci) ci) ra_nil)) ci) (v 0 rfl (Or.inl nk_law_draw_draws)) ci)
      (s_one (s_ret (mod (bt call_int1 f_int T.z_int nk_law_draw_int (by decide +kernel) (ra_cons (fdiv (ix (v 0 rfl (Or.inl nk_law_draw_draws)) ci) ci) ra_nil)) (v 1 rfl (Or.inl nk_law_draw_limit))))))))
/-! _law_draws -/
abbrev N_law_draws : List Str := ["script"]
theorem nk_law_draws_list : (defScope (top 21)).names.lookup ("list" : Str) = some NameKind.globalImplicit := by decide +kernel
theorem nk_law_draws_script : (defScope (top 21)).names.lookup ("script" : Str) = some NameKind.local := by decide +kernel
def g_law_draws : S := (sRet (eLstM (aCons (eN (g0 listD) (aCons (eV 0) aNil)) (aCons (eC (.int 0)) (aCons (eC (.int 0)) (aCons (eC (.int 1)) aNil))))))
def F_law_draws : List D → Sto → RE := mkF 1 1 g_law_draws
theorem sc_law_draws : FnScope ["script"] ["script"] (defScope (top 21)) := ⟨rfl, rfl, rfl, by decide +kernel, rfl, by decide +kernel, by decide +kernel⟩
theorem ok_law_draws {P : Program} {w : World} {K : PySem.W.Frag} {mg : Str → Option Value} {base : Heap} (T : Top K mg)  : CallF P w K mg base 1 "_law_draws" ["script"] F_law_draws := by
  exact mk_callF N_law_draws ["script"] g_law_draws rfl T.d_law_draws sc_law_draws (fun _ _ _ _ _ _ us hl => match us, hl with | [_], _ => rfl) fun f cdv A outer s H Ex hr => by
    have hu := hr.units
    have tk := takes_of (X := cxOf (L2.CX P w) P w K mg base ["script"] "_law_draws" (defScope (top 21)) f cdv A outer s H Ex) rfl rfl rfl rfl
    have hp : PassesOwn (model P w) (cxOf (L2.CX P w) P w K mg base ["script"] "_law_draws" (defScope (top 21)) f cdv A outer s H Ex).A (cxOf (L2.CX P w) P w K mg base ["script"] "_law_draws" (defScope (top 21)) f cdv A outer s H Ex).env (cxOf (L2.CX P w) P w K mg base ["script"] "_law_draws" (defScope (top 21)) f cdv A outer s H Ex).xe := passes_of rfl
    exact (s_one (s_ret (r_lstM (ra_cons (bt call_list_of f_list T.z_list nk_law_draws_list (by decide +kernel) (ra_cons (v 0 rfl (Or.inl nk_law_draws_script)) ra_nil)) (ra_cons ci (ra_cons ci (ra_cons ci ra_nil)))))))
/-! _law_low -/
abbrev N_law_low : List Str := ["above", "below", "one", "two"]
theorem nk_law_low_above : (defScope (top 24)).names.lookup ("above" : Str) = some NameKind.local := by decide +kernel
theorem nk_law_low_below : (defScope (top 24)).names.lookup ("below" : Str) = some NameKind.local := by decide +kernel
theorem nk_law_low_int : (defScope (top 24)).names.lookup ("int" : Str) = some NameKind.globalImplicit := by decide +kernel
theorem nk_law_low_one : (defScope (top 24)).names.lookup ("one" : Str) = some NameKind.local := by decide +kernel
theorem nk_law_low_two : (defScope (top 24)).names.lookup ("two" : Str) = some NameKind.local := by decide +kernel
def w1_law_low : S := (sPar 2 3 (eV 3) (e2 modD (eN (g0 intD) (aCons (eV 2) aNil)) (eV 3)))
def g_law_low : S := (sSeq (sPar 2 3 (eIf (e2 geD (eV 0) (eC (.int 0))) (eV 0) (e1 negD (eV 0))) (eIf (e2 geD (eV 1) (eC (.int 0))) (eV 1) (e1 negD (eV 1))))
    (sSeq (sWhileM (e2 gtD (eV 3) (eC (.int 0))) w1_law_low (muI 3))
    (sSeq (sSet 2 (eIf (e2 gtD (eV 1) (eC (.int 0))) (eV 2) (e1 negD (eV 2))))
    (sRet (eTup (aCons (e2 fdivD (eV 0) (eV 2)) (aCons (e2 fdivD (eV 1) (eV 2)) aNil)))))))
def F_law_low : List D → Sto → RE := mkF 2 4 g_law_low
theorem sc_law_low : FnScope ["above", "below", "one", "two"] ["above", "below"] (defScope (top 24)) := ⟨rfl, rfl, rfl, by decide +kernel, rfl, by decide +kernel, by decide +kernel⟩
theorem ok_law_low {P : Program} {w : World} {K : PySem.W.Frag} {mg : Str → Option Value} {base : Heap} (T : Top K mg)  : CallF P w K mg base 1 "_law_low" ["above", "below"] F_law_low := by
  exact mk_callF N_law_low ["above", "below"] g_law_low rfl T.d_law_low sc_law_low (fun _ _ _ _ _ _ us hl => match us, hl with | [_, _], _ => rfl) fun f cdv A outer s H Ex hr => by
    have hu := hr.units
    have tk := takes_of (X := cxOf (L2.CX P w) P w K mg base ["above", "below", "one", "two"] "_law_low" (defScope (top 24)) f cdv A outer s H Ex) rfl rfl rfl rfl
    have hp : PassesOwn (model P w) (cxOf (L2.CX P w) P w K mg base ["above", "below", "one", "two"] "_law_low" (defScope (top 24)) f cdv A outer s H Ex).A (cxOf (L2.CX P w) P w K mg base ["above", "below", "one", "two"] "_law_low" (defScope (top 24)) f cdv A outer s H Ex).env (cxOf (L2.CX P w) P w K mg base ["above", "below", "one", "two"] "_law_low" (defScope (top 24)) f cdv A outer s H Ex).xe := passes_of rfl
    exact (s_cons (s_par (i := 2) (j := 3) rfl sc_law_low.nd rfl rfl (by decide) nk_law_low_one nk_law_low_two (r_if (tge (v 0 rfl (Or.inl nk_law_low_above)) ci) (v 0 rfl (Or.inl nk_law_low_above)) (neg (v 0 rfl (Or.inl nk_law_low_above)))) (r_if (tge (v 1 rfl (Or.inl nk_law_low_below)) ci) (v 1 rfl (Or.inl nk_law_low_below)) (neg (v 1 rfl (Or.inl nk_law_low_below)))) rfl)
      (s_cons (s_whileM (muI 3) hp (tgt (v 3 rfl (Or.inl nk_law_low_two)) ci) (s_one (s_par (i := 2) (j := 3) rfl sc_law_low.nd rfl rfl (by decide) nk_law_low_one nk_law_low_two (v 3 rfl (Or.inl nk_law_low_two)) (mod (bt call_int1 f_int T.z_int nk_law_low_int (by decide +kernel) (ra_cons (v 2 rfl (Or.inl nk_law_low_one)) ra_nil)) (v 3 rfl (Or.inl nk_law_low_two))) rfl)))
      (s_cons (s_set (i := 2) sc_law_low.nd rfl (Or.inl nk_law_low_one) (r_if (tgt (v 1 rfl (Or.inl nk_law_low_below)) ci) (v 2 rfl (Or.inl nk_law_low_one)) (neg (v 2 rfl (Or.inl nk_law_low_one)))))
      (s_one (s_ret (r_tup (ra_cons (fdiv (v 0 rfl (Or.inl nk_law_low_above)) (v 2 rfl (Or.inl nk_law_low_one))) (ra_cons (fdiv (v 1 rfl (Or.inl nk_law_low_below)) (v 2 rfl (Or.inl nk_law_low_one))) ra_nil))))))))
/-! _law_plus -/
abbrev N_law_plus : List Str := ["one", "two"]
theorem nk_law_plus__law_low : (defScope (top 25)).names.lookup ("_law_low" : Str) = some NameKind.globalImplicit := by decide +kernel
theorem nk_law_plus_one : (defScope (top 25)).names.lookup ("one" : Str) = some NameKind.local := by decide +kernel
theorem nk_law_plus_two : (defScope (top 25)).names.lookup ("two" : Str) = some NameKind.local := by decide +kernel
def g_law_plus : S := (sRet (eCall F_law_low (aCons (e2 addD (e2 mulD (e2 ixD (eV 0) (eC (.int 0))) (e2 ixD (eV 1) (eC (.int 1)))) (e2 mulD (e2 ixD (eV 1) (eC (.int 0))) (e2 ixD (eV 0) (eC (.int 1))))) (aCons (e2 mulD (e2 ixD (eV 0) (eC (.int 1))) (e2 ixD (eV 1) (eC (.int 1)))) aNil))))
def F_law_plus : List D → Sto → RE := mkF 2 2 g_law_plus
theorem sc_law_plus : FnScope ["one", "two"] ["one", "two"] (defScope (top 25)) := ⟨rfl, rfl, rfl, by decide +kernel, rfl, by decide +kernel, by decide +kernel⟩
theorem ok_law_plus {P : Program} {w : World} {K : PySem.W.Frag} {mg : Str → Option Value} {base : Heap} (T : Top K mg) (c_law_low : CallF P w K mg base 1 "_law_low" ["above", "below"] F_law_low) : CallF P w K mg base 2 "_law_plus" ["one", "two"] F_law_plus := by
  exact mk_callF N_law_plus ["one", "two"] g_law_plus rfl T.d_law_plus sc_law_plus (fun _ _ _ _ _ _ us hl => match us, hl with | [_, _], _ => rfl) fun f cdv A outer s H Ex hr => by
    have hu := hr.units
    have tk := takes_of (X := cxOf (L2.CX P w) P w K mg base ["one", "two"] "_law_plus" (defScope (top 25)) f cdv A outer s H Ex) rfl rfl rfl rfl
    have hp : PassesOwn (model P w) (cxOf (L2.CX P w) P w K mg base ["one", "two"] "_law_plus" (defScope (top 25)) f cdv A outer s H Ex).A (cxOf (L2.CX P w) P w K mg base ["one", "two"] "_law_plus" (defScope (top 25)) f cdv A outer s H Ex).env (cxOf (L2.CX P w) P w K mg base ["one", "two"] "_law_plus" (defScope (top 25)) f cdv A outer s H Ex).xe := passes_of rfl
    exact (s_one (s_ret (call c_law_low hr tk nk_law_plus__law_low (by decide) (ra_cons (add (mul (ix (v 0 rfl (Or.inl nk_law_plus_one)) ci) (ix (v 1 rfl (Or.inl nk_law_plus_two)) ci)) (mul (ix (v 1 rfl (Or.inl nk_law_plus_two)) ci) (ix (v 0 rfl (Or.inl nk_law_plus_one)) ci))) (ra_cons (mul (ix (v 0 rfl (Or.inl nk_law_plus_one)) ci) (ix (v 1 rfl (Or.inl nk_law_plus_two)) ci)) ra_nil)))))
/-! _law_same -/
abbrev N_law_same : List Str := ["actual", "expected", "k"]
theorem nk_law_same_actual : (defScope (top 23)).names.lookup ("actual" : Str) = some NameKind.cell := by decide +kernel
theorem nk_law_same_bool : (defScope (top 23)).names.lookup ("bool" : Str) = some NameKind.globalImplicit := by decide +kernel
theorem nk_law_same_expected : (defScope (top 23)).names.lookup ("expected" : Str) = some NameKind.cell := by decide +kernel
theorem nk_law_same_int : (defScope (top 23)).names.lookup ("int" : Str) = some NameKind.globalImplicit := by decide +kernel
theorem nk_law_same_isinstance : (defScope (top 23)).names.lookup ("isinstance" : Str) = some NameKind.globalImplicit := by decide +kernel
theorem nk_law_same_len : (defScope (top 23)).names.lookup ("len" : Str) = some NameKind.globalImplicit := by decide +kernel
theorem nk_law_same_list : (defScope (top 23)).names.lookup ("list" : Str) = some NameKind.globalImplicit := by decide +kernel
theorem nk_law_same_range : (defScope (top 23)).names.lookup ("range" : Str) = some NameKind.globalImplicit := by decide +kernel
theorem nk_law_same_str : (defScope (top 23)).names.lookup ("str" : Str) = some NameKind.globalImplicit := by decide +kernel
theorem nk_law_same_tuple : (defScope (top 23)).names.lookup ("tuple" : Str) = some NameKind.globalImplicit := by decide +kernel
def t1_law_same (Fr : List D → Sto → RE) : E := (eNot (eCall Fr (aCons (e2 ixD (eV 0) (eV 2)) (aCons (e2 ixD (eV 1) (eV 2)) aNil))))
def g_law_same (Fr : List D → Sto → RE) : S := (sSeq (sIf (eOr (eN (g0 isiD) (aCons (eV 1) (aCons (eC (.ty "tuple")) aNil))) (eN (g0 isiD) (aCons (eV 1) (aCons (eC (.ty "list")) aNil)))) (sSeq (sIf (eOr (e2 neD (eN (g0 isiD) (aCons (eV 1) (aCons (eC (.ty "tuple")) aNil))) (eN (g0 isiD) (aCons (eV 0) (aCons (eC (.ty "tuple")) aNil)))) (e2 neD (eN (g0 isiD) (aCons (eV 1) (aCons (eC (.ty "list")) aNil))) (eN (g0 isiD) (aCons (eV 0) (aCons (eC (.ty "list")) aNil))))) (sRet (eC (.bl false))) sNx)
    (sSeq (sIf (e2 neD (eN (g0 lenD) (aCons (eV 0) aNil)) (eN (g0 lenD) (aCons (eV 1) aNil))) (sRet (eC (.bl false))) sNx)
    (sRet (e2 eqD (eN (g0 lenD) (aCons (eLcB finL (iRg1 (eN (g0 lenD) (aCons (eV 1) aNil))) [2] (bName 2) (t1_law_same Fr) (eV 2)) aNil)) (eC (.int 0)))))) sNx)
    (sSeq (sIf (eN (g0 isiD) (aCons (eV 1) (aCons (eC (.ty "str")) aNil))) (sRet (eAnd (eN (g0 isiD) (aCons (eV 0) (aCons (eC (.ty "str")) aNil))) (e2 eqD (eV 0) (eV 1)))) sNx)
    (sSeq (sIf (e2 isD (eV 1) (eC .non)) (sRet (e2 isD (eV 0) (eC .non))) sNx)
    (sSeq (sIf (eOr (eN (g0 isiD) (aCons (eV 1) (aCons (eC (.ty "bool")) aNil))) (eN (g0 isiD) (aCons (eV 0) (aCons (eC (.ty "bool")) aNil)))) (sRet (eAnd (eN (g0 isiD) (aCons (eV 1) (aCons (eC (.ty "bool")) aNil))) (eAnd (eN (g0 isiD) (aCons (eV 0) (aCons (eC (.ty "bool")) aNil))) (e2 eqD (eV 0) (eV 1))))) sNx)
    (sRet (eAnd (eN (g0 isiD) (aCons (eV 0) (aCons (eC (.ty "int")) aNil))) (eAnd (eN (g0 isiD) (aCons (eV 1) (aCons (eC (.ty "int")) aNil))) (e2 eqD (eV 0) (eV 1)))))))))
def F_law_same : Nat → List D → Sto → RE
  | 0 => fun _ _ => .stuck
  | n + 1 => mkF 2 3 (g_law_same (F_law_same n))
theorem sc_law_same : FnScope ["actual", "expected", "k"] ["actual", "expected"] (defScope (top 23)) := ⟨rfl, rfl, rfl, by decide +kernel, rfl, by decide +kernel, by decide +kernel⟩
theorem ok_law_same {P : Program} {w : World} {K : PySem.W.Frag} {mg : Str → Option Value} {base : Heap} (T : Top K mg)  : ∀ n : Nat, CallF P w K mg base (n + 1) "_law_same" ["actual", "expected"] (F_law_same n) := by
  intro n
  induction n with
  | zero => exact call_stuck T.d_law_same (fun _ _ _ _ _ _ us hl => match us, hl with | [_, _], _ => rfl)
  | succ n cr =>
    exact mk_callF N_law_same ["actual", "expected"] (g_law_same (F_law_same n)) rfl T.d_law_same sc_law_same (fun _ _ _ _ _ _ us hl => match us, hl with | [_, _], _ => rfl) fun f cdv A outer s H Ex hr => by
      have hu := hr.units
      have tk := takes_of (X := cxOf (L2.CX P w) P w K mg base ["actual", "expected", "k"] "_law_same" (defScope (top 23)) f cdv A outer s H Ex) rfl rfl rfl rfl
      have hp : PassesOwn (model P w) (cxOf (L2.CX P w) P w K mg base ["actual", "expected", "k"] "_law_same" (defScope (top 23)) f cdv A outer s H Ex).A (cxOf (L2.CX P w) P w K mg base ["actual", "expected", "k"] "_law_same" (defScope (top 23)) f cdv A outer s H Ex).env (cxOf (L2.CX P w) P w K mg base ["actual", "expected", "k"] "_law_same" (defScope (top 23)) f cdv A outer s H Ex).xe := passes_of rfl
      exact (s_cons (s_if (rt_w (rw_or (rt_val (bf call_isi f_isi T.z_isinstance nk_law_same_isinstance (by decide +kernel) (ra_cons (v 1 rfl (Or.inr <| Or.inl nk_law_same_expected)) (ra_cons (cty nk_law_same_tuple T.z_tuple (by decide +kernel)) ra_nil)))) (rw_or1 (rt_val (bf call_isi f_isi T.z_isinstance nk_law_same_isinstance (by decide +kernel) (ra_cons (v 1 rfl (Or.inr <| Or.inl nk_law_same_expected)) (ra_cons (cty nk_law_same_list T.z_list (by decide +kernel)) ra_nil))))))) (s_cons (s_if (rt_w (rw_or (tne hu (bf call_isi f_isi T.z_isinstance nk_law_same_isinstance (by decide +kernel) (ra_cons (v 1 rfl (Or.inr <| Or.inl nk_law_same_expected)) (ra_cons (cty nk_law_same_tuple T.z_tuple (by decide +kernel)) ra_nil))) (bf call_isi f_isi T.z_isinstance nk_law_same_isinstance (by decide +kernel) (ra_cons (v 0 rfl (Or.inr <| Or.inl nk_law_same_actual)) (ra_cons (cty nk_law_same_tuple T.z_tuple (by decide +kernel)) ra_nil)))) (rw_or1 (tne hu (bf call_isi f_isi T.z_isinstance nk_law_same_isinstance (by decide +kernel) (ra_cons (v 1 rfl (Or.inr <| Or.inl nk_law_same_expected)) (ra_cons (cty nk_law_same_list T.z_list (by decide +kernel)) ra_nil))) (bf call_isi f_isi T.z_isinstance nk_law_same_isinstance (by decide +kernel) (ra_cons (v 0 rfl (Or.inr <| Or.inl nk_law_same_actual)) (ra_cons (cty nk_law_same_list T.z_list (by decide +kernel)) ra_nil))))))) (s_one (s_ret cb)) s_nil)
        (s_cons (s_if (tne hu (bf call_lenA f_len T.z_len nk_law_same_len (by decide +kernel) (ra_cons (v 0 rfl (Or.inr <| Or.inl nk_law_same_actual)) ra_nil)) (bf call_lenA f_len T.z_len nk_law_same_len (by decide +kernel) (ra_cons (v 1 rfl (Or.inr <| Or.inl nk_law_same_expected)) ra_nil))) (s_one (s_ret cb)) s_nil)
        (s_one (s_ret (eq hu (bf call_lenA f_len T.z_len nk_law_same_len (by decide +kernel) (ra_cons (r_lcB (own := [("k", 2)]) fin_L rfl sc_law_same.nd (i_rg1 nk_law_same_range T.z_range (bf call_lenA f_len T.z_len nk_law_same_len (by decide +kernel) (ra_cons (v 1 rfl (Or.inr <| Or.inl nk_law_same_expected)) ra_nil))) (blkOk_by (N := N_law_same) (sc := defScope (top 23)) (by decide +kernel)) (by decide) (fun _ _ _ _ _ => (g_name (i := 2) sc_law_same.nd rfl (Or.inl rfl))) (fun _ _ _ _ _ => (rts_one (rt_not (rt_val (call cr hr takes0 rfl (by omega) (ra_cons (ix (v 0) (v 2)) (ra_cons (ix (v 1) (v 2)) ra_nil))))))) (fun _ _ _ _ _ => (v 2))) ra_nil)) ci))))) s_nil)
        (s_cons (s_if (rt_val (bf call_isi f_isi T.z_isinstance nk_law_same_isinstance (by decide +kernel) (ra_cons (v 1 rfl (Or.inr <| Or.inl nk_law_same_expected)) (ra_cons (cty nk_law_same_str T.z_str (by decide +kernel)) ra_nil)))) (s_one (s_ret (r_and (bf call_isi f_isi T.z_isinstance nk_law_same_isinstance (by decide +kernel) (ra_cons (v 0 rfl (Or.inr <| Or.inl nk_law_same_actual)) (ra_cons (cty nk_law_same_str T.z_str (by decide +kernel)) ra_nil))) (r_one (eq hu (v 0 rfl (Or.inr <| Or.inl nk_law_same_actual)) (v 1 rfl (Or.inr <| Or.inl nk_law_same_expected))))))) s_nil)
        (s_cons (s_if (tis_ (v 1 rfl (Or.inr <| Or.inl nk_law_same_expected)) cn) (s_one (s_ret (is_ (v 0 rfl (Or.inr <| Or.inl nk_law_same_actual)) cn))) s_nil)
        (s_cons (s_if (rt_w (rw_or (rt_val (bf call_isi f_isi T.z_isinstance nk_law_same_isinstance (by decide +kernel) (ra_cons (v 1 rfl (Or.inr <| Or.inl nk_law_same_expected)) (ra_cons (cty nk_law_same_bool T.z_bool (by decide +kernel)) ra_nil)))) (rw_or1 (rt_val (bf call_isi f_isi T.z_isinstance nk_law_same_isinstance (by decide +kernel) (ra_cons (v 0 rfl (Or.inr <| Or.inl nk_law_same_actual)) (ra_cons (cty nk_law_same_bool T.z_bool (by decide +kernel)) ra_nil))))))) (s_one (s_ret (r_and (bf call_isi f_isi T.z_isinstance nk_law_same_isinstance (by decide +kernel) (ra_cons (v 1 rfl (Or.inr <| Or.inl nk_law_same_expected)) (ra_cons (cty nk_law_same_bool T.z_bool (by decide +kernel)) ra_nil))) (r_and (bf call_isi f_isi T.z_isinstance nk_law_same_isinstance (by decide +kernel) (ra_cons (v 0 rfl (Or.inr <| Or.inl nk_law_same_actual)) (ra_cons (cty nk_law_same_bool T.z_bool (by decide +kernel)) ra_nil))) (r_one (eq hu (v 0 rfl (Or.inr <| Or.inl nk_law_same_actual)) (v 1 rfl (Or.inr <| Or.inl nk_law_same_expected)))))))) s_nil)
        (s_one (s_ret (r_and (bf call_isi f_isi T.z_isinstance nk_law_same_isinstance (by decide +kernel) (ra_cons (v 0 rfl (Or.inr <| Or.inl nk_law_same_actual)) (ra_cons (cty nk_law_same_int T.z_int (by decide +kernel)) ra_nil))) (r_and (bf call_isi f_isi T.z_isinstance nk_law_same_isinstance (by decide +kernel) (ra_cons (v 1 rfl (Or.inr <| Or.inl nk_law_same_expected)) (ra_cons (cty nk_law_same_int T.z_int (by decide +kernel)) ra_nil))) (r_one (eq hu (v 0 rfl (Or.inr <| Or.inl nk_law_same_actual)) (v 1 rfl (Or.inr <| Or.inl nk_law_same_expected))))))))))))
/-! bit -/
abbrev N_bit : List Str := ["share", "at", "above", "below", "_"]
theorem nk_bit__ : (defScope (top 17)).names.lookup ("_" : Str) = some NameKind.local := by decide +kernel
theorem nk_bit_above : (defScope (top 17)).names.lookup ("above" : Str) = some NameKind.local := by decide +kernel
theorem nk_bit_at : (defScope (top 17)).names.lookup ("at" : Str) = some NameKind.local := by decide +kernel
theorem nk_bit_below : (defScope (top 17)).names.lookup ("below" : Str) = some NameKind.local := by decide +kernel
theorem nk_bit_range : (defScope (top 17)).names.lookup ("range" : Str) = some NameKind.globalImplicit := by decide +kernel
theorem nk_bit_share : (defScope (top 17)).names.lookup ("share" : Str) = some NameKind.local := by decide +kernel
def b1_bit : S := (sSet 2 (e2 modD (e2 mulD (eC (.int 2)) (eV 2)) (eV 3)))
def g_bit : S := (sSeq (sAsg (eV 0) (bTup 2 (bCons (bName 2) (bCons (bName 3) bNil))))
    (sSeq (sFor (iRg1 (e2 subD (eV 1) (eC (.int 1)))) (bName 4) b1_bit)
    (sRet (e2 fdivD (e2 mulD (eC (.int 2)) (eV 2)) (eV 3)))))
def F_bit : List D → Sto → RE := mkF 2 5 g_bit
theorem sc_bit : FnScope ["share", "at", "above", "below", "_"] ["share", "at"] (defScope (top 17)) := ⟨rfl, rfl, rfl, by decide +kernel, rfl, by decide +kernel, by decide +kernel⟩
theorem ok_bit {P : Program} {w : World} {K : PySem.W.Frag} {mg : Str → Option Value} {base : Heap} (T : Top K mg)  : CallF P w K mg base 1 "bit" ["share", "at"] F_bit := by
  exact mk_callF N_bit ["share", "at"] g_bit rfl T.d_bit sc_bit (fun _ _ _ _ _ _ us hl => match us, hl with | [_, _], _ => rfl) fun f cdv A outer s H Ex hr => by
    have hu := hr.units
    have tk := takes_of (X := cxOf (L2.CX P w) P w K mg base ["share", "at", "above", "below", "_"] "bit" (defScope (top 17)) f cdv A outer s H Ex) rfl rfl rfl rfl
    have hp : PassesOwn (model P w) (cxOf (L2.CX P w) P w K mg base ["share", "at", "above", "below", "_"] "bit" (defScope (top 17)) f cdv A outer s H Ex).A (cxOf (L2.CX P w) P w K mg base ["share", "at", "above", "below", "_"] "bit" (defScope (top 17)) f cdv A outer s H Ex).env (cxOf (L2.CX P w) P w K mg base ["share", "at", "above", "below", "_"] "bit" (defScope (top 17)) f cdv A outer s H Ex).xe := passes_of rfl
    exact (s_cons (s_asg (v 0 rfl (Or.inl nk_bit_share)) (g_tup rfl (g_cons (g_name (i := 2) sc_bit.nd rfl (Or.inl nk_bit_above)) (g_cons (g_name (i := 3) sc_bit.nd rfl (Or.inl nk_bit_below)) g_nil))))
      (s_cons (s_for hp rfl (i_rg1 nk_bit_range T.z_range (sub (v 1 rfl (Or.inl nk_bit_at)) ci)) (g_name (i := 4) sc_bit.nd rfl (Or.inl nk_bit__)) (s_one (s_set (i := 2) sc_bit.nd rfl (Or.inl nk_bit_above) (mod (mul ci (v 2 rfl (Or.inl nk_bit_above))) (v 3 rfl (Or.inl nk_bit_below))))))
      (s_one (s_ret (fdiv (mul ci (v 2 rfl (Or.inl nk_bit_above))) (v 3 rfl (Or.inl nk_bit_below)))))))
/-! divisor -/
abbrev N_divisor : List Str := ["one", "other"]
theorem nk_divisor_abs : (defScope (top 7)).names.lookup ("abs" : Str) = some NameKind.globalImplicit := by decide +kernel
theorem nk_divisor_one : (defScope (top 7)).names.lookup ("one" : Str) = some NameKind.local := by decide +kernel
theorem nk_divisor_other : (defScope (top 7)).names.lookup ("other" : Str) = some NameKind.local := by decide +kernel
def w1_divisor : S := (sPar 0 1 (eV 1) (e2 modD (eV 0) (eV 1)))
def g_divisor : S := (sSeq (sPar 0 1 (eN (g0 absD) (aCons (eV 0) aNil)) (eN (g0 absD) (aCons (eV 1) aNil)))
    (sSeq (sWhileM (e2 gtD (eV 1) (eC (.int 0))) w1_divisor (muI 1))
    (sRet (eV 0))))
def F_divisor : List D → Sto → RE := mkF 2 2 g_divisor
theorem sc_divisor : FnScope ["one", "other"] ["one", "other"] (defScope (top 7)) := ⟨rfl, rfl, rfl, by decide +kernel, rfl, by decide +kernel, by decide +kernel⟩
theorem ok_divisor {P : Program} {w : World} {K : PySem.W.Frag} {mg : Str → Option Value} {base : Heap} (T : Top K mg)  : CallF P w K mg base 1 "divisor" ["one", "other"] F_divisor := by
  exact mk_callF N_divisor ["one", "other"] g_divisor rfl T.d_divisor sc_divisor (fun _ _ _ _ _ _ us hl => match us, hl with | [_, _], _ => rfl) fun f cdv A outer s H Ex hr => by
    have hu := hr.units
    have tk := takes_of (X := cxOf (L2.CX P w) P w K mg base ["one", "other"] "divisor" (defScope (top 7)) f cdv A outer s H Ex) rfl rfl rfl rfl
    have hp : PassesOwn (model P w) (cxOf (L2.CX P w) P w K mg base ["one", "other"] "divisor" (defScope (top 7)) f cdv A outer s H Ex).A (cxOf (L2.CX P w) P w K mg base ["one", "other"] "divisor" (defScope (top 7)) f cdv A outer s H Ex).env (cxOf (L2.CX P w) P w K mg base ["one", "other"] "divisor" (defScope (top 7)) f cdv A outer s H Ex).xe := passes_of rfl
    exact (s_cons (s_par (i := 0) (j := 1) rfl sc_divisor.nd rfl rfl (by decide) nk_divisor_one nk_divisor_other (bf call_abs f_abs T.z_abs nk_divisor_abs (by decide +kernel) (ra_cons (v 0 rfl (Or.inl nk_divisor_one)) ra_nil)) (bf call_abs f_abs T.z_abs nk_divisor_abs (by decide +kernel) (ra_cons (v 1 rfl (Or.inl nk_divisor_other)) ra_nil)) rfl)
      (s_cons (s_whileM (muI 1) hp (tgt (v 1 rfl (Or.inl nk_divisor_other)) ci) (s_one (s_par (i := 0) (j := 1) rfl sc_divisor.nd rfl rfl (by decide) nk_divisor_one nk_divisor_other (v 1 rfl (Or.inl nk_divisor_other)) (mod (v 0 rfl (Or.inl nk_divisor_one)) (v 1 rfl (Or.inl nk_divisor_other))) rfl)))
      (s_one (s_ret (v 0 rfl (Or.inl nk_divisor_one))))))
/-! is_whole -/
abbrev N_is_whole : List Str := ["value"]
theorem nk_is_whole_bool : (defScope (top 6)).names.lookup ("bool" : Str) = some NameKind.globalImplicit := by decide +kernel
theorem nk_is_whole_int : (defScope (top 6)).names.lookup ("int" : Str) = some NameKind.globalImplicit := by decide +kernel
theorem nk_is_whole_isinstance : (defScope (top 6)).names.lookup ("isinstance" : Str) = some NameKind.globalImplicit := by decide +kernel
theorem nk_is_whole_value : (defScope (top 6)).names.lookup ("value" : Str) = some NameKind.local := by decide +kernel
def g_is_whole : S := (sRet (eAnd (eN (g0 isiD) (aCons (eV 0) (aCons (eC (.ty "int")) aNil))) (eNot (eN (g0 isiD) (aCons (eV 0) (aCons (eC (.ty "bool")) aNil))))))
def F_is_whole : List D → Sto → RE := mkF 1 1 g_is_whole
theorem sc_is_whole : FnScope ["value"] ["value"] (defScope (top 6)) := ⟨rfl, rfl, rfl, by decide +kernel, rfl, by decide +kernel, by decide +kernel⟩
theorem ok_is_whole {P : Program} {w : World} {K : PySem.W.Frag} {mg : Str → Option Value} {base : Heap} (T : Top K mg)  : CallF P w K mg base 1 "is_whole" ["value"] F_is_whole := by
  exact mk_callF N_is_whole ["value"] g_is_whole rfl T.d_is_whole sc_is_whole (fun _ _ _ _ _ _ us hl => match us, hl with | [_], _ => rfl) fun f cdv A outer s H Ex hr => by
    have hu := hr.units
    have tk := takes_of (X := cxOf (L2.CX P w) P w K mg base ["value"] "is_whole" (defScope (top 6)) f cdv A outer s H Ex) rfl rfl rfl rfl
    have hp : PassesOwn (model P w) (cxOf (L2.CX P w) P w K mg base ["value"] "is_whole" (defScope (top 6)) f cdv A outer s H Ex).A (cxOf (L2.CX P w) P w K mg base ["value"] "is_whole" (defScope (top 6)) f cdv A outer s H Ex).env (cxOf (L2.CX P w) P w K mg base ["value"] "is_whole" (defScope (top 6)) f cdv A outer s H Ex).xe := passes_of rfl
    exact (s_one (s_ret (r_and (bf call_isi f_isi T.z_isinstance nk_is_whole_isinstance (by decide +kernel) (ra_cons (v 0 rfl (Or.inl nk_is_whole_value)) (ra_cons (cty nk_is_whole_int T.z_int (by decide +kernel)) ra_nil))) (r_one (r_not (bf call_isi f_isi T.z_isinstance nk_is_whole_isinstance (by decide +kernel) (ra_cons (v 0 rfl (Or.inl nk_is_whole_value)) (ra_cons (cty nk_is_whole_bool T.z_bool (by decide +kernel)) ra_nil))))))))
/-! is_share -/
abbrev N_is_share : List Str := ["value"]
theorem nk_is_share_divisor : (defScope (top 9)).names.lookup ("divisor" : Str) = some NameKind.globalImplicit := by decide +kernel
theorem nk_is_share_is_whole : (defScope (top 9)).names.lookup ("is_whole" : Str) = some NameKind.globalImplicit := by decide +kernel
theorem nk_is_share_isinstance : (defScope (top 9)).names.lookup ("isinstance" : Str) = some NameKind.globalImplicit := by decide +kernel
theorem nk_is_share_len : (defScope (top 9)).names.lookup ("len" : Str) = some NameKind.globalImplicit := by decide +kernel
theorem nk_is_share_tuple : (defScope (top 9)).names.lookup ("tuple" : Str) = some NameKind.globalImplicit := by decide +kernel
theorem nk_is_share_value : (defScope (top 9)).names.lookup ("value" : Str) = some NameKind.local := by decide +kernel
def g_is_share : S := (sSeq (sIf (eOr (eNot (eN (g0 isiD) (aCons (eV 0) (aCons (eC (.ty "tuple")) aNil)))) (eOr (e2 neD (eN (g0 lenD) (aCons (eV 0) aNil)) (eC (.int 2))) (eOr (eNot (eCall F_is_whole (aCons (e2 ixD (eV 0) (eC (.int 0))) aNil))) (eNot (eCall F_is_whole (aCons (e2 ixD (eV 0) (eC (.int 1))) aNil)))))) (sRet (eC (.bl false))) sNx)
    (sRet (eAnd (e2 gtD (e2 ixD (eV 0) (eC (.int 1))) (eC (.int 0))) (e2 eqD (eCall F_divisor (aCons (e2 ixD (eV 0) (eC (.int 0))) (aCons (e2 ixD (eV 0) (eC (.int 1))) aNil))) (eC (.int 1))))))
def F_is_share : List D → Sto → RE := mkF 1 1 g_is_share
theorem sc_is_share : FnScope ["value"] ["value"] (defScope (top 9)) := ⟨rfl, rfl, rfl, by decide +kernel, rfl, by decide +kernel, by decide +kernel⟩
theorem ok_is_share {P : Program} {w : World} {K : PySem.W.Frag} {mg : Str → Option Value} {base : Heap} (T : Top K mg) (c_divisor : CallF P w K mg base 1 "divisor" ["one", "other"] F_divisor) (c_is_whole : CallF P w K mg base 1 "is_whole" ["value"] F_is_whole) : CallF P w K mg base 2 "is_share" ["value"] F_is_share := by
  exact mk_callF N_is_share ["value"] g_is_share rfl T.d_is_share sc_is_share (fun _ _ _ _ _ _ us hl => match us, hl with | [_], _ => rfl) fun f cdv A outer s H Ex hr => by
    have hu := hr.units
    have tk := takes_of (X := cxOf (L2.CX P w) P w K mg base ["value"] "is_share" (defScope (top 9)) f cdv A outer s H Ex) rfl rfl rfl rfl
    have hp : PassesOwn (model P w) (cxOf (L2.CX P w) P w K mg base ["value"] "is_share" (defScope (top 9)) f cdv A outer s H Ex).A (cxOf (L2.CX P w) P w K mg base ["value"] "is_share" (defScope (top 9)) f cdv A outer s H Ex).env (cxOf (L2.CX P w) P w K mg base ["value"] "is_share" (defScope (top 9)) f cdv A outer s H Ex).xe := passes_of rfl
    exact (s_cons (s_if (rt_w (rw_or (rt_not (rt_val (bf call_isi f_isi T.z_isinstance nk_is_share_isinstance (by decide +kernel) (ra_cons (v 0 rfl (Or.inl nk_is_share_value)) (ra_cons (cty nk_is_share_tuple T.z_tuple (by decide +kernel)) ra_nil))))) (rw_or (tne hu (bf call_lenA f_len T.z_len nk_is_share_len (by decide +kernel) (ra_cons (v 0 rfl (Or.inl nk_is_share_value)) ra_nil)) ci) (rw_or (rt_not (rt_val (call c_is_whole hr tk nk_is_share_is_whole (by decide) (ra_cons (ix (v 0 rfl (Or.inl nk_is_share_value)) ci) ra_nil)))) (rw_or1 (rt_not (rt_val (call c_is_whole hr tk nk_is_share_is_whole (by decide) (ra_cons (ix (v 0 rfl (Or.inl nk_is_share_value)) ci) ra_nil))))))))) (s_one (s_ret cb)) s_nil)
      (s_one (s_ret (r_and (gt (ix (v 0 rfl (Or.inl nk_is_share_value)) ci) ci) (r_one (eq hu (call c_divisor hr tk nk_is_share_divisor (by decide) (ra_cons (ix (v 0 rfl (Or.inl nk_is_share_value)) ci) (ra_cons (ix (v 0 rfl (Or.inl nk_is_share_value)) ci) ra_nil))) ci))))))
/-! is_chance -/
abbrev N_is_chance : List Str := ["value"]
theorem nk_is_chance_is_share : (defScope (top 14)).names.lookup ("is_share" : Str) = some NameKind.globalImplicit := by decide +kernel
theorem nk_is_chance_value : (defScope (top 14)).names.lookup ("value" : Str) = some NameKind.local := by decide +kernel
def g_is_chance : S := (sRet (eAnd (eCall F_is_share (aCons (eV 0) aNil)) (eChain leD leD (eC (.int 0)) (e2 ixD (eV 0) (eC (.int 0))) (e2 ixD (eV 0) (eC (.int 1))))))
def F_is_chance : List D → Sto → RE := mkF 1 1 g_is_chance
theorem sc_is_chance : FnScope ["value"] ["value"] (defScope (top 14)) := ⟨rfl, rfl, rfl, by decide +kernel, rfl, by decide +kernel, by decide +kernel⟩
theorem ok_is_chance {P : Program} {w : World} {K : PySem.W.Frag} {mg : Str → Option Value} {base : Heap} (T : Top K mg) (c_is_share : CallF P w K mg base 2 "is_share" ["value"] F_is_share) : CallF P w K mg base 3 "is_chance" ["value"] F_is_chance := by
  exact mk_callF N_is_chance ["value"] g_is_chance rfl T.d_is_chance sc_is_chance (fun _ _ _ _ _ _ us hl => match us, hl with | [_], _ => rfl) fun f cdv A outer s H Ex hr => by
    have hu := hr.units
    have tk := takes_of (X := cxOf (L2.CX P w) P w K mg base ["value"] "is_chance" (defScope (top 14)) f cdv A outer s H Ex) rfl rfl rfl rfl
    have hp : PassesOwn (model P w) (cxOf (L2.CX P w) P w K mg base ["value"] "is_chance" (defScope (top 14)) f cdv A outer s H Ex).A (cxOf (L2.CX P w) P w K mg base ["value"] "is_chance" (defScope (top 14)) f cdv A outer s H Ex).env (cxOf (L2.CX P w) P w K mg base ["value"] "is_chance" (defScope (top 14)) f cdv A outer s H Ex).xe := passes_of rfl
    exact (s_one (s_ret (r_and (call c_is_share hr tk nk_is_chance_is_share (by decide) (ra_cons (v 0 rfl (Or.inl nk_is_chance_value)) ra_nil)) (r_one (r_chain op_le op_le o_le o_le ci (ix (v 0 rfl (Or.inl nk_is_chance_value)) ci) (ix (v 0 rfl (Or.inl nk_is_chance_value)) ci))))))
/-! bits_of -/
abbrev N_bits_of : List Str := ["share", "seen", "found", "above", "below"]
theorem nk_bits_of_BadPlan : (defScope (top 18)).names.lookup ("BadPlan" : Str) = some NameKind.globalImplicit := by decide +kernel
theorem nk_bits_of_MOST_ROWS : (defScope (top 18)).names.lookup ("MOST_ROWS" : Str) = some NameKind.globalImplicit := by decide +kernel
theorem nk_bits_of_above : (defScope (top 18)).names.lookup ("above" : Str) = some NameKind.local := by decide +kernel
theorem nk_bits_of_below : (defScope (top 18)).names.lookup ("below" : Str) = some NameKind.local := by decide +kernel
theorem nk_bits_of_found : (defScope (top 18)).names.lookup ("found" : Str) = some NameKind.local := by decide +kernel
theorem nk_bits_of_is_chance : (defScope (top 18)).names.lookup ("is_chance" : Str) = some NameKind.globalImplicit := by decide +kernel
theorem nk_bits_of_len : (defScope (top 18)).names.lookup ("len" : Str) = some NameKind.globalImplicit := by decide +kernel
theorem nk_bits_of_seen : (defScope (top 18)).names.lookup ("seen" : Str) = some NameKind.local := by decide +kernel
theorem nk_bits_of_share : (defScope (top 18)).names.lookup ("share" : Str) = some NameKind.local := by decide +kernel
theorem nk_bits_of_tuple : (defScope (top 18)).names.lookup ("tuple" : Str) = some NameKind.globalImplicit := by decide +kernel
def w1_bits_of : S := (sSeq (sIf (e2 gtD (eN (g0 lenD) (aCons (eV 2) aNil)) (eC (.int 300))) sNo sNx)
    (sSeq (sDPutE (eN (g0 lenD) (aCons (eV 2) aNil)) (eV 1) (eV 3))
    (sSeq (sDrop (eMet "list" appD (eV 2) (aCons (e2 fdivD (e2 mulD (eC (.int 2)) (eV 3)) (eV 4)) aNil)))
    (sSet 3 (e2 modD (e2 mulD (eC (.int 2)) (eV 3)) (eV 4))))))
def g_bits_of : S := (sSeq (sIf (eOr (eNot (eCall F_is_chance (aCons (eV 0) aNil))) (e2 eqD (eV 0) (eTup (aCons (eC (.int 1)) (aCons (eC (.int 1)) aNil))))) (sRaise "BadPlan") sNx)
    (sSeq (sPar 1 2 eDictM (eLstM aNil))
    (sSeq (sAsg (eV 0) (bTup 2 (bCons (bName 3) (bCons (bName 4) bNil))))
    (sSeq (sWhile (e2 (dinD true) (eV 3) (eV 1)) w1_bits_of 400)
    (sRet (eTup (aCons (eN (g0 tupleD) (aCons (eSl (eV 2) pNone (pSome (e2 dgetD (eV 1) (eV 3)))) aNil)) (aCons (eN (g0 tupleD) (aCons (eSl (eV 2) (pSome (e2 dgetD (eV 1) (eV 3))) pNone) aNil)) aNil))))))))
def F_bits_of : List D → Sto → RE := mkF 1 5 g_bits_of
theorem sc_bits_of : FnScope ["share", "seen", "found", "above", "below"] ["share"] (defScope (top 18)) := ⟨rfl, rfl, rfl, by decide +kernel, rfl, by decide +kernel, by decide +kernel⟩
theorem ok_bits_of {P : Program} {w : World} {K : PySem.W.Frag} {mg : Str → Option Value} {base : Heap} (T : Top K mg) (c_is_chance : CallF P w K mg base 3 "is_chance" ["value"] F_is_chance) : CallF P w K mg base 4 "bits_of" ["share"] F_bits_of := by
  obtain ⟨C_BadPlan, xf_BadPlan⟩ := T.x_BadPlan
  exact mk_callF N_bits_of ["share"] g_bits_of rfl T.d_bits_of sc_bits_of (fun _ _ _ _ _ _ us hl => match us, hl with | [_], _ => rfl) fun f cdv A outer s H Ex hr => by
    have hu := hr.units
    have tk := takes_of (X := cxOf (L2.CX P w) P w K mg base ["share", "seen", "found", "above", "below"] "bits_of" (defScope (top 18)) f cdv A outer s H Ex) rfl rfl rfl rfl
    have hp : PassesOwn (model P w) (cxOf (L2.CX P w) P w K mg base ["share", "seen", "found", "above", "below"] "bits_of" (defScope (top 18)) f cdv A outer s H Ex).A (cxOf (L2.CX P w) P w K mg base ["share", "seen", "found", "above", "below"] "bits_of" (defScope (top 18)) f cdv A outer s H Ex).env (cxOf (L2.CX P w) P w K mg base ["share", "seen", "found", "above", "below"] "bits_of" (defScope (top 18)) f cdv A outer s H Ex).xe := passes_of rfl
    exact (s_cons (s_if (rt_w (rw_or (rt_not (rt_val (call c_is_chance hr tk nk_bits_of_is_chance (by decide) (ra_cons (v 0 rfl (Or.inl nk_bits_of_share)) ra_nil)))) (rw_or1 (teq hu (v 0 rfl (Or.inl nk_bits_of_share)) (r_tup (ra_cons ci (ra_cons ci ra_nil))))))) (s_one (s_raise rfl tk xf_BadPlan nk_bits_of_BadPlan)) s_nil)
      (s_cons (s_par (i := 1) (j := 2) rfl sc_bits_of.nd rfl rfl (by decide) nk_bits_of_seen nk_bits_of_found r_dnew (r_lstM ra_nil) rfl)
      (s_cons (s_asg (v 0 rfl (Or.inl nk_bits_of_share)) (g_tup rfl (g_cons (g_name (i := 3) sc_bits_of.nd rfl (Or.inl nk_bits_of_above)) (g_cons (g_name (i := 4) sc_bits_of.nd rfl (Or.inl nk_bits_of_below)) g_nil))))
      (s_cons (s_while 400 hp (tdnotin hu (v 3 rfl (Or.inl nk_bits_of_above)) (v 1 rfl (Or.inl nk_bits_of_seen))) (s_cons (s_if (tgt (bf call_lenA f_len T.z_len nk_bits_of_len (by decide +kernel) (ra_cons (v 2 rfl (Or.inl nk_bits_of_found)) ra_nil)) (cgi T.c_MOST_ROWS nk_bits_of_MOST_ROWS)) (s_one s_never) s_nil)
      (s_cons (s_dput hu (bf call_lenA f_len T.z_len nk_bits_of_len (by decide +kernel) (ra_cons (v 2 rfl (Or.inl nk_bits_of_found)) ra_nil)) (v 1 rfl (Or.inl nk_bits_of_seen)) (v 3 rfl (Or.inl nk_bits_of_above)))
      (s_cons (s_expr (app (v 2 rfl (Or.inl nk_bits_of_found)) (fdiv (mul ci (v 3 rfl (Or.inl nk_bits_of_above))) (v 4 rfl (Or.inl nk_bits_of_below)))))
      (s_one (s_set (i := 3) sc_bits_of.nd rfl (Or.inl nk_bits_of_above) (mod (mul ci (v 3 rfl (Or.inl nk_bits_of_above))) (v 4 rfl (Or.inl nk_bits_of_below)))))))))
      (s_one (s_ret (r_tup (ra_cons (bt call_tuple_of f_tuple T.z_tuple nk_bits_of_tuple (by decide +kernel) (ra_cons (r_sl (v 2 rfl (Or.inl nk_bits_of_found)) so_none (so_some (dget hu (v 1 rfl (Or.inl nk_bits_of_seen)) (v 3 rfl (Or.inl nk_bits_of_above))))) ra_nil)) (ra_cons (bt call_tuple_of f_tuple T.z_tuple nk_bits_of_tuple (by decide +kernel) (ra_cons (r_sl (v 2 rfl (Or.inl nk_bits_of_found)) (so_some (dget hu (v 1 rfl (Or.inl nk_bits_of_seen)) (v 3 rfl (Or.inl nk_bits_of_above)))) so_none) ra_nil)) ra_nil)))))))))
/-! low -/
abbrev N_low : List Str := ["above", "below", "by"]
theorem nk_low_BadShare : (defScope (top 8)).names.lookup ("BadShare" : Str) = some NameKind.globalImplicit := by decide +kernel
theorem nk_low_above : (defScope (top 8)).names.lookup ("above" : Str) = some NameKind.local := by decide +kernel
theorem nk_low_below : (defScope (top 8)).names.lookup ("below" : Str) = some NameKind.local := by decide +kernel
theorem nk_low_by : (defScope (top 8)).names.lookup ("by" : Str) = some NameKind.local := by decide +kernel
theorem nk_low_divisor : (defScope (top 8)).names.lookup ("divisor" : Str) = some NameKind.globalImplicit := by decide +kernel
def g_low : S := (sSeq (sIf (e2 eqD (eV 1) (eC (.int 0))) (sRaise "BadShare") sNx)
    (sSeq (sSet 2 (eCall F_divisor (aCons (eV 0) (aCons (eV 1) aNil))))
    (sRet (eIf (e2 gtD (eV 1) (eC (.int 0))) (eTup (aCons (e2 fdivD (eV 0) (eV 2)) (aCons (e2 fdivD (eV 1) (eV 2)) aNil))) (eTup (aCons (e1 negD (e2 fdivD (eV 0) (eV 2))) (aCons (e1 negD (e2 fdivD (eV 1) (eV 2))) aNil)))))))
def F_low : List D → Sto → RE := mkF 2 3 g_low
theorem sc_low : FnScope ["above", "below", "by"] ["above", "below"] (defScope (top 8)) := ⟨rfl, rfl, rfl, by decide +kernel, rfl, by decide +kernel, by decide +kernel⟩
theorem ok_low {P : Program} {w : World} {K : PySem.W.Frag} {mg : Str → Option Value} {base : Heap} (T : Top K mg) (c_divisor : CallF P w K mg base 1 "divisor" ["one", "other"] F_divisor) : CallF P w K mg base 2 "low" ["above", "below"] F_low := by
  obtain ⟨C_BadShare, xf_BadShare⟩ := T.x_BadShare
  exact mk_callF N_low ["above", "below"] g_low rfl T.d_low sc_low (fun _ _ _ _ _ _ us hl => match us, hl with | [_, _], _ => rfl) fun f cdv A outer s H Ex hr => by
    have hu := hr.units
    have tk := takes_of (X := cxOf (L2.CX P w) P w K mg base ["above", "below", "by"] "low" (defScope (top 8)) f cdv A outer s H Ex) rfl rfl rfl rfl
    have hp : PassesOwn (model P w) (cxOf (L2.CX P w) P w K mg base ["above", "below", "by"] "low" (defScope (top 8)) f cdv A outer s H Ex).A (cxOf (L2.CX P w) P w K mg base ["above", "below", "by"] "low" (defScope (top 8)) f cdv A outer s H Ex).env (cxOf (L2.CX P w) P w K mg base ["above", "below", "by"] "low" (defScope (top 8)) f cdv A outer s H Ex).xe := passes_of rfl
    exact (s_cons (s_if (teq hu (v 1 rfl (Or.inl nk_low_below)) ci) (s_one (s_raise rfl tk xf_BadShare nk_low_BadShare)) s_nil)
      (s_cons (s_set (i := 2) sc_low.nd rfl (Or.inl nk_low_by) (call c_divisor hr tk nk_low_divisor (by decide) (ra_cons (v 0 rfl (Or.inl nk_low_above)) (ra_cons (v 1 rfl (Or.inl nk_low_below)) ra_nil))))
      (s_one (s_ret (r_if (tgt (v 1 rfl (Or.inl nk_low_below)) ci) (r_tup (ra_cons (fdiv (v 0 rfl (Or.inl nk_low_above)) (v 2 rfl (Or.inl nk_low_by))) (ra_cons (fdiv (v 1 rfl (Or.inl nk_low_below)) (v 2 rfl (Or.inl nk_low_by))) ra_nil))) (r_tup (ra_cons (neg (fdiv (v 0 rfl (Or.inl nk_low_above)) (v 2 rfl (Or.inl nk_low_by)))) (ra_cons (neg (fdiv (v 1 rfl (Or.inl nk_low_below)) (v 2 rfl (Or.inl nk_low_by)))) ra_nil))))))))
/-! less -/
abbrev N_less : List Str := ["one", "other"]
theorem nk_less_low : (defScope (top 11)).names.lookup ("low" : Str) = some NameKind.globalImplicit := by decide +kernel
theorem nk_less_one : (defScope (top 11)).names.lookup ("one" : Str) = some NameKind.local := by decide +kernel
theorem nk_less_other : (defScope (top 11)).names.lookup ("other" : Str) = some NameKind.local := by decide +kernel
def g_less : S := (sRet (eCall F_low (aCons (e2 subD (e2 mulD (e2 ixD (eV 0) (eC (.int 0))) (e2 ixD (eV 1) (eC (.int 1)))) (e2 mulD (e2 ixD (eV 1) (eC (.int 0))) (e2 ixD (eV 0) (eC (.int 1))))) (aCons (e2 mulD (e2 ixD (eV 0) (eC (.int 1))) (e2 ixD (eV 1) (eC (.int 1)))) aNil))))
def F_less : List D → Sto → RE := mkF 2 2 g_less
theorem sc_less : FnScope ["one", "other"] ["one", "other"] (defScope (top 11)) := ⟨rfl, rfl, rfl, by decide +kernel, rfl, by decide +kernel, by decide +kernel⟩
theorem ok_less {P : Program} {w : World} {K : PySem.W.Frag} {mg : Str → Option Value} {base : Heap} (T : Top K mg) (c_low : CallF P w K mg base 2 "low" ["above", "below"] F_low) : CallF P w K mg base 3 "less" ["one", "other"] F_less := by
  exact mk_callF N_less ["one", "other"] g_less rfl T.d_less sc_less (fun _ _ _ _ _ _ us hl => match us, hl with | [_, _], _ => rfl) fun f cdv A outer s H Ex hr => by
    have hu := hr.units
    have tk := takes_of (X := cxOf (L2.CX P w) P w K mg base ["one", "other"] "less" (defScope (top 11)) f cdv A outer s H Ex) rfl rfl rfl rfl
    have hp : PassesOwn (model P w) (cxOf (L2.CX P w) P w K mg base ["one", "other"] "less" (defScope (top 11)) f cdv A outer s H Ex).A (cxOf (L2.CX P w) P w K mg base ["one", "other"] "less" (defScope (top 11)) f cdv A outer s H Ex).env (cxOf (L2.CX P w) P w K mg base ["one", "other"] "less" (defScope (top 11)) f cdv A outer s H Ex).xe := passes_of rfl
    exact (s_one (s_ret (call c_low hr tk nk_less_low (by decide) (ra_cons (sub (mul (ix (v 0 rfl (Or.inl nk_less_one)) ci) (ix (v 1 rfl (Or.inl nk_less_other)) ci)) (mul (ix (v 1 rfl (Or.inl nk_less_other)) ci) (ix (v 0 rfl (Or.inl nk_less_one)) ci))) (ra_cons (mul (ix (v 0 rfl (Or.inl nk_less_one)) ci) (ix (v 1 rfl (Or.inl nk_less_other)) ci)) ra_nil)))))
/-! over -/
abbrev N_over : List Str := ["one", "other"]
theorem nk_over_low : (defScope (top 13)).names.lookup ("low" : Str) = some NameKind.globalImplicit := by decide +kernel
theorem nk_over_one : (defScope (top 13)).names.lookup ("one" : Str) = some NameKind.local := by decide +kernel
theorem nk_over_other : (defScope (top 13)).names.lookup ("other" : Str) = some NameKind.local := by decide +kernel
def g_over : S := (sRet (eCall F_low (aCons (e2 mulD (e2 ixD (eV 0) (eC (.int 0))) (e2 ixD (eV 1) (eC (.int 1)))) (aCons (e2 mulD (e2 ixD (eV 0) (eC (.int 1))) (e2 ixD (eV 1) (eC (.int 0)))) aNil))))
def F_over : List D → Sto → RE := mkF 2 2 g_over
theorem sc_over : FnScope ["one", "other"] ["one", "other"] (defScope (top 13)) := ⟨rfl, rfl, rfl, by decide +kernel, rfl, by decide +kernel, by decide +kernel⟩
theorem ok_over {P : Program} {w : World} {K : PySem.W.Frag} {mg : Str → Option Value} {base : Heap} (T : Top K mg) (c_low : CallF P w K mg base 2 "low" ["above", "below"] F_low) : CallF P w K mg base 3 "over" ["one", "other"] F_over := by
  exact mk_callF N_over ["one", "other"] g_over rfl T.d_over sc_over (fun _ _ _ _ _ _ us hl => match us, hl with | [_, _], _ => rfl) fun f cdv A outer s H Ex hr => by
    have hu := hr.units
    have tk := takes_of (X := cxOf (L2.CX P w) P w K mg base ["one", "other"] "over" (defScope (top 13)) f cdv A outer s H Ex) rfl rfl rfl rfl
    have hp : PassesOwn (model P w) (cxOf (L2.CX P w) P w K mg base ["one", "other"] "over" (defScope (top 13)) f cdv A outer s H Ex).A (cxOf (L2.CX P w) P w K mg base ["one", "other"] "over" (defScope (top 13)) f cdv A outer s H Ex).env (cxOf (L2.CX P w) P w K mg base ["one", "other"] "over" (defScope (top 13)) f cdv A outer s H Ex).xe := passes_of rfl
    exact (s_one (s_ret (call c_low hr tk nk_over_low (by decide) (ra_cons (mul (ix (v 0 rfl (Or.inl nk_over_one)) ci) (ix (v 1 rfl (Or.inl nk_over_other)) ci)) (ra_cons (mul (ix (v 0 rfl (Or.inl nk_over_one)) ci) (ix (v 1 rfl (Or.inl nk_over_other)) ci)) ra_nil)))))
/-! plus -/
abbrev N_plus : List Str := ["one", "other"]
theorem nk_plus_low : (defScope (top 10)).names.lookup ("low" : Str) = some NameKind.globalImplicit := by decide +kernel
theorem nk_plus_one : (defScope (top 10)).names.lookup ("one" : Str) = some NameKind.local := by decide +kernel
theorem nk_plus_other : (defScope (top 10)).names.lookup ("other" : Str) = some NameKind.local := by decide +kernel
def g_plus : S := (sRet (eCall F_low (aCons (e2 addD (e2 mulD (e2 ixD (eV 0) (eC (.int 0))) (e2 ixD (eV 1) (eC (.int 1)))) (e2 mulD (e2 ixD (eV 1) (eC (.int 0))) (e2 ixD (eV 0) (eC (.int 1))))) (aCons (e2 mulD (e2 ixD (eV 0) (eC (.int 1))) (e2 ixD (eV 1) (eC (.int 1)))) aNil))))
def F_plus : List D → Sto → RE := mkF 2 2 g_plus
theorem sc_plus : FnScope ["one", "other"] ["one", "other"] (defScope (top 10)) := ⟨rfl, rfl, rfl, by decide +kernel, rfl, by decide +kernel, by decide +kernel⟩
theorem ok_plus {P : Program} {w : World} {K : PySem.W.Frag} {mg : Str → Option Value} {base : Heap} (T : Top K mg) (c_low : CallF P w K mg base 2 "low" ["above", "below"] F_low) : CallF P w K mg base 3 "plus" ["one", "other"] F_plus := by
  exact mk_callF N_plus ["one", "other"] g_plus rfl T.d_plus sc_plus (fun _ _ _ _ _ _ us hl => match us, hl with | [_, _], _ => rfl) fun f cdv A outer s H Ex hr => by
    have hu := hr.units
    have tk := takes_of (X := cxOf (L2.CX P w) P w K mg base ["one", "other"] "plus" (defScope (top 10)) f cdv A outer s H Ex) rfl rfl rfl rfl
    have hp : PassesOwn (model P w) (cxOf (L2.CX P w) P w K mg base ["one", "other"] "plus" (defScope (top 10)) f cdv A outer s H Ex).A (cxOf (L2.CX P w) P w K mg base ["one", "other"] "plus" (defScope (top 10)) f cdv A outer s H Ex).env (cxOf (L2.CX P w) P w K mg base ["one", "other"] "plus" (defScope (top 10)) f cdv A outer s H Ex).xe := passes_of rfl
    exact (s_one (s_ret (call c_low hr tk nk_plus_low (by decide) (ra_cons (add (mul (ix (v 0 rfl (Or.inl nk_plus_one)) ci) (ix (v 1 rfl (Or.inl nk_plus_other)) ci)) (mul (ix (v 1 rfl (Or.inl nk_plus_other)) ci) (ix (v 0 rfl (Or.inl nk_plus_one)) ci))) (ra_cons (mul (ix (v 0 rfl (Or.inl nk_plus_one)) ci) (ix (v 1 rfl (Or.inl nk_plus_other)) ci)) ra_nil)))))
/-! times -/
abbrev N_times : List Str := ["one", "other"]
theorem nk_times_low : (defScope (top 12)).names.lookup ("low" : Str) = some NameKind.globalImplicit := by decide +kernel
theorem nk_times_one : (defScope (top 12)).names.lookup ("one" : Str) = some NameKind.local := by decide +kernel
theorem nk_times_other : (defScope (top 12)).names.lookup ("other" : Str) = some NameKind.local := by decide +kernel
def g_times : S := (sRet (eCall F_low (aCons (e2 mulD (e2 ixD (eV 0) (eC (.int 0))) (e2 ixD (eV 1) (eC (.int 0)))) (aCons (e2 mulD (e2 ixD (eV 0) (eC (.int 1))) (e2 ixD (eV 1) (eC (.int 1)))) aNil))))
def F_times : List D → Sto → RE := mkF 2 2 g_times
theorem sc_times : FnScope ["one", "other"] ["one", "other"] (defScope (top 12)) := ⟨rfl, rfl, rfl, by decide +kernel, rfl, by decide +kernel, by decide +kernel⟩
theorem ok_times {P : Program} {w : World} {K : PySem.W.Frag} {mg : Str → Option Value} {base : Heap} (T : Top K mg) (c_low : CallF P w K mg base 2 "low" ["above", "below"] F_low) : CallF P w K mg base 3 "times" ["one", "other"] F_times := by
  exact mk_callF N_times ["one", "other"] g_times rfl T.d_times sc_times (fun _ _ _ _ _ _ us hl => match us, hl with | [_, _], _ => rfl) fun f cdv A outer s H Ex hr => by
    have hu := hr.units
    have tk := takes_of (X := cxOf (L2.CX P w) P w K mg base ["one", "other"] "times" (defScope (top 12)) f cdv A outer s H Ex) rfl rfl rfl rfl
    have hp : PassesOwn (model P w) (cxOf (L2.CX P w) P w K mg base ["one", "other"] "times" (defScope (top 12)) f cdv A outer s H Ex).A (cxOf (L2.CX P w) P w K mg base ["one", "other"] "times" (defScope (top 12)) f cdv A outer s H Ex).env (cxOf (L2.CX P w) P w K mg base ["one", "other"] "times" (defScope (top 12)) f cdv A outer s H Ex).xe := passes_of rfl
    exact (s_one (s_ret (call c_low hr tk nk_times_low (by decide) (ra_cons (mul (ix (v 0 rfl (Or.inl nk_times_one)) ci) (ix (v 1 rfl (Or.inl nk_times_other)) ci)) (ra_cons (mul (ix (v 0 rfl (Or.inl nk_times_one)) ci) (ix (v 1 rfl (Or.inl nk_times_other)) ci)) ra_nil)))))
/-! weighed_bits -/
abbrev N_weighed_bits : List Str := ["share", "ahead", "again", "found", "at", "one", "start", "wide", "back", "once", "place", "first", "more"]
theorem nk_weighed_bits_again : (defScope (top 19)).names.lookup ("again" : Str) = some NameKind.local := by decide +kernel
theorem nk_weighed_bits_ahead : (defScope (top 19)).names.lookup ("ahead" : Str) = some NameKind.local := by decide +kernel
theorem nk_weighed_bits_at : (defScope (top 19)).names.lookup ("at" : Str) = some NameKind.local := by decide +kernel
theorem nk_weighed_bits_back : (defScope (top 19)).names.lookup ("back" : Str) = some NameKind.local := by decide +kernel
theorem nk_weighed_bits_bits_of : (defScope (top 19)).names.lookup ("bits_of" : Str) = some NameKind.globalImplicit := by decide +kernel
theorem nk_weighed_bits_enumerate : (defScope (top 19)).names.lookup ("enumerate" : Str) = some NameKind.globalImplicit := by decide +kernel
theorem nk_weighed_bits_first : (defScope (top 19)).names.lookup ("first" : Str) = some NameKind.local := by decide +kernel
theorem nk_weighed_bits_found : (defScope (top 19)).names.lookup ("found" : Str) = some NameKind.local := by decide +kernel
theorem nk_weighed_bits_len : (defScope (top 19)).names.lookup ("len" : Str) = some NameKind.globalImplicit := by decide +kernel
theorem nk_weighed_bits_less : (defScope (top 19)).names.lookup ("less" : Str) = some NameKind.globalImplicit := by decide +kernel
theorem nk_weighed_bits_low : (defScope (top 19)).names.lookup ("low" : Str) = some NameKind.globalImplicit := by decide +kernel
theorem nk_weighed_bits_more : (defScope (top 19)).names.lookup ("more" : Str) = some NameKind.local := by decide +kernel
theorem nk_weighed_bits_once : (defScope (top 19)).names.lookup ("once" : Str) = some NameKind.local := by decide +kernel
theorem nk_weighed_bits_one : (defScope (top 19)).names.lookup ("one" : Str) = some NameKind.local := by decide +kernel
theorem nk_weighed_bits_over : (defScope (top 19)).names.lookup ("over" : Str) = some NameKind.globalImplicit := by decide +kernel
theorem nk_weighed_bits_place : (defScope (top 19)).names.lookup ("place" : Str) = some NameKind.local := by decide +kernel
theorem nk_weighed_bits_plus : (defScope (top 19)).names.lookup ("plus" : Str) = some NameKind.globalImplicit := by decide +kernel
theorem nk_weighed_bits_share : (defScope (top 19)).names.lookup ("share" : Str) = some NameKind.local := by decide +kernel
theorem nk_weighed_bits_start : (defScope (top 19)).names.lookup ("start" : Str) = some NameKind.local := by decide +kernel
theorem nk_weighed_bits_times : (defScope (top 19)).names.lookup ("times" : Str) = some NameKind.globalImplicit := by decide +kernel
theorem nk_weighed_bits_wide : (defScope (top 19)).names.lookup ("wide" : Str) = some NameKind.local := by decide +kernel
def b1_weighed_bits : S := (sIf (e2 eqD (eV 5) (eC (.int 1))) (sSet 3 (eCall F_plus (aCons (eV 3) (aCons (eCall F_low (aCons (e2 addD (eV 4) (eC (.int 1))) (aCons (e2 shlD (eC (.int 1)) (e2 addD (eV 4) (eC (.int 1)))) aNil))) aNil)))) sNx)
def b2_weighed_bits : S := (sIf (e2 eqD (eV 5) (eC (.int 1))) (sSeq (sSet 10 (e2 addD (e2 addD (eV 6) (eV 4)) (eC (.int 1))))
    (sSeq (sSet 11 (eCall F_times (aCons (eCall F_low (aCons (eV 10) (aCons (e2 shlD (eC (.int 1)) (eV 10)) aNil))) (aCons (eV 9) aNil))))
    (sSeq (sSet 12 (eCall F_times (aCons (eCall F_times (aCons (eCall F_low (aCons (eV 7) (aCons (e2 shlD (eC (.int 1)) (eV 10)) aNil))) (aCons (eV 8) aNil))) (aCons (eCall F_times (aCons (eV 9) (aCons (eV 9) aNil))) aNil))))
    (sSet 3 (eCall F_plus (aCons (eV 3) (aCons (eCall F_plus (aCons (eV 11) (aCons (eV 12) aNil))) aNil))))))) sNx)
def g_weighed_bits : S := (sSeq (sAsg (eCall F_bits_of (aCons (eV 0) aNil)) (bTup 2 (bCons (bName 1) (bCons (bName 2) bNil))))
    (sSeq (sSet 3 (eTup (aCons (eC (.int 0)) (aCons (eC (.int 1)) aNil))))
    (sSeq (sFor (iEnumE (eV 1)) (bTup 2 (bCons (bName 4) (bCons (bName 5) bNil))) b1_weighed_bits)
    (sSeq (sPar 6 7 (eN (g0 lenD) (aCons (eV 1) aNil)) (eN (g0 lenD) (aCons (eV 2) aNil)))
    (sSeq (sSet 8 (eCall F_low (aCons (eC (.int 1)) (aCons (e2 shlD (eC (.int 1)) (eV 7)) aNil))))
    (sSeq (sSet 9 (eCall F_over (aCons (eTup (aCons (eC (.int 1)) (aCons (eC (.int 1)) aNil))) (aCons (eCall F_less (aCons (eTup (aCons (eC (.int 1)) (aCons (eC (.int 1)) aNil))) (aCons (eV 8) aNil))) aNil))))
    (sSeq (sFor (iEnumE (eV 2)) (bTup 2 (bCons (bName 4) (bCons (bName 5) bNil))) b2_weighed_bits)
    (sRet (eV 3)))))))))
def F_weighed_bits : List D → Sto → RE := mkF 1 13 g_weighed_bits
theorem sc_weighed_bits : FnScope ["share", "ahead", "again", "found", "at", "one", "start", "wide", "back", "once", "place", "first", "more"] ["share"] (defScope (top 19)) := ⟨rfl, rfl, rfl, by decide +kernel, rfl, by decide +kernel, by decide +kernel⟩
theorem ok_weighed_bits {P : Program} {w : World} {K : PySem.W.Frag} {mg : Str → Option Value} {base : Heap} (T : Top K mg) (c_bits_of : CallF P w K mg base 4 "bits_of" ["share"] F_bits_of) (c_less : CallF P w K mg base 3 "less" ["one", "other"] F_less) (c_low : CallF P w K mg base 2 "low" ["above", "below"] F_low) (c_over : CallF P w K mg base 3 "over" ["one", "other"] F_over) (c_plus : CallF P w K mg base 3 "plus" ["one", "other"] F_plus) (c_times : CallF P w K mg base 3 "times" ["one", "other"] F_times) : CallF P w K mg base 5 "weighed_bits" ["share"] F_weighed_bits := by
  exact mk_callF N_weighed_bits ["share"] g_weighed_bits rfl T.d_weighed_bits sc_weighed_bits (fun _ _ _ _ _ _ us hl => match us, hl with | [_], _ => rfl) fun f cdv A outer s H Ex hr => by
    have hu := hr.units
    have tk := takes_of (X := cxOf (L2.CX P w) P w K mg base ["share", "ahead", "again", "found", "at", "one", "start", "wide", "back", "once", "place", "first", "more"] "weighed_bits" (defScope (top 19)) f cdv A outer s H Ex) rfl rfl rfl rfl
    have hp : PassesOwn (model P w) (cxOf (L2.CX P w) P w K mg base ["share", "ahead", "again", "found", "at", "one", "start", "wide", "back", "once", "place", "first", "more"] "weighed_bits" (defScope (top 19)) f cdv A outer s H Ex).A (cxOf (L2.CX P w) P w K mg base ["share", "ahead", "again", "found", "at", "one", "start", "wide", "back", "once", "place", "first", "more"] "weighed_bits" (defScope (top 19)) f cdv A outer s H Ex).env (cxOf (L2.CX P w) P w K mg base ["share", "ahead", "again", "found", "at", "one", "start", "wide", "back", "once", "place", "first", "more"] "weighed_bits" (defScope (top 19)) f cdv A outer s H Ex).xe := passes_of rfl
    exact (s_cons (s_asg (call c_bits_of hr tk nk_weighed_bits_bits_of (by decide) (ra_cons (v 0 rfl (Or.inl nk_weighed_bits_share)) ra_nil)) (g_tup rfl (g_cons (g_name (i := 1) sc_weighed_bits.nd rfl (Or.inl nk_weighed_bits_ahead)) (g_cons (g_name (i := 2) sc_weighed_bits.nd rfl (Or.inl nk_weighed_bits_again)) g_nil))))
      (s_cons (s_set (i := 3) sc_weighed_bits.nd rfl (Or.inl nk_weighed_bits_found) (r_tup (ra_cons ci (ra_cons ci ra_nil))))
      (s_cons (s_for hp rfl (i_enum nk_weighed_bits_enumerate T.z_enumerate (v 1 rfl (Or.inl nk_weighed_bits_ahead))) (g_tup rfl (g_cons (g_name (i := 4) sc_weighed_bits.nd rfl (Or.inl nk_weighed_bits_at)) (g_cons (g_name (i := 5) sc_weighed_bits.nd rfl (Or.inl nk_weighed_bits_one)) g_nil))) (s_one (s_if (teq hu (v 5 rfl (Or.inl nk_weighed_bits_one)) ci) (s_one (s_set (i := 3) sc_weighed_bits.nd rfl (Or.inl nk_weighed_bits_found) (call c_plus hr tk nk_weighed_bits_plus (by decide) (ra_cons (v 3 rfl (Or.inl nk_weighed_bits_found)) (ra_cons (call c_low hr tk nk_weighed_bits_low (by decide) (ra_cons (add (v 4 rfl (Or.inl nk_weighed_bits_at)) ci) (ra_cons (shl ci (add (v 4 rfl (Or.inl nk_weighed_bits_at)) ci)) ra_nil))) ra_nil))))) s_nil)))
      (s_cons (s_par (i := 6) (j := 7) rfl sc_weighed_bits.nd rfl rfl (by decide) nk_weighed_bits_start nk_weighed_bits_wide (bf call_lenA f_len T.z_len nk_weighed_bits_len (by decide +kernel) (ra_cons (v 1 rfl (Or.inl nk_weighed_bits_ahead)) ra_nil)) (bf call_lenA f_len T.z_len nk_weighed_bits_len (by decide +kernel) (ra_cons (v 2 rfl (Or.inl nk_weighed_bits_again)) ra_nil)) rfl)
      (s_cons (s_set (i := 8) sc_weighed_bits.nd rfl (Or.inl nk_weighed_bits_back) (call c_low hr tk nk_weighed_bits_low (by decide) (ra_cons ci (ra_cons (shl ci (v 7 rfl (Or.inl nk_weighed_bits_wide))) ra_nil))))
      (s_cons (s_set (i := 9) sc_weighed_bits.nd rfl (Or.inl nk_weighed_bits_once) (call c_over hr tk nk_weighed_bits_over (by decide) (ra_cons (r_tup (ra_cons ci (ra_cons ci ra_nil))) (ra_cons (call c_less hr tk nk_weighed_bits_less (by decide) (ra_cons (r_tup (ra_cons ci (ra_cons ci ra_nil))) (ra_cons (v 8 rfl (Or.inl nk_weighed_bits_back)) ra_nil))) ra_nil))))
      (s_cons (s_for hp rfl (i_enum nk_weighed_bits_enumerate T.z_enumerate (v 2 rfl (Or.inl nk_weighed_bits_again))) (g_tup rfl (g_cons (g_name (i := 4) sc_weighed_bits.nd rfl (Or.inl nk_weighed_bits_at)) (g_cons (g_name (i := 5) sc_weighed_bits.nd rfl (Or.inl nk_weighed_bits_one)) g_nil))) (s_one (s_if (teq hu (v 5 rfl (Or.inl nk_weighed_bits_one)) ci) (s_cons (s_set (i := 10) sc_weighed_bits.nd rfl (Or.inl nk_weighed_bits_place) (add (add (v 6 rfl (Or.inl nk_weighed_bits_start)) (v 4 rfl (Or.inl nk_weighed_bits_at))) ci))
      (s_cons (s_set (i := 11) sc_weighed_bits.nd rfl (Or.inl nk_weighed_bits_first) (call c_times hr tk nk_weighed_bits_times (by decide) (ra_cons (call c_low hr tk nk_weighed_bits_low (by decide) (ra_cons (v 10 rfl (Or.inl nk_weighed_bits_place)) (ra_cons (shl ci (v 10 rfl (Or.inl nk_weighed_bits_place))) ra_nil))) (ra_cons (v 9 rfl (Or.inl nk_weighed_bits_once)) ra_nil))))
      (s_cons (s_set (i := 12) sc_weighed_bits.nd rfl (Or.inl nk_weighed_bits_more) (call c_times hr tk nk_weighed_bits_times (by decide) (ra_cons (call c_times hr tk nk_weighed_bits_times (by decide) (ra_cons (call c_low hr tk nk_weighed_bits_low (by decide) (ra_cons (v 7 rfl (Or.inl nk_weighed_bits_wide)) (ra_cons (shl ci (v 10 rfl (Or.inl nk_weighed_bits_place))) ra_nil))) (ra_cons (v 8 rfl (Or.inl nk_weighed_bits_back)) ra_nil))) (ra_cons (call c_times hr tk nk_weighed_bits_times (by decide) (ra_cons (v 9 rfl (Or.inl nk_weighed_bits_once)) (ra_cons (v 9 rfl (Or.inl nk_weighed_bits_once)) ra_nil))) ra_nil))))
      (s_one (s_set (i := 3) sc_weighed_bits.nd rfl (Or.inl nk_weighed_bits_found) (call c_plus hr tk nk_weighed_bits_plus (by decide) (ra_cons (v 3 rfl (Or.inl nk_weighed_bits_found)) (ra_cons (call c_plus hr tk nk_weighed_bits_plus (by decide) (ra_cons (v 11 rfl (Or.inl nk_weighed_bits_first)) (ra_cons (v 12 rfl (Or.inl nk_weighed_bits_more)) ra_nil))) ra_nil)))))))) s_nil)))
      (s_one (s_ret (v 3 rfl (Or.inl nk_weighed_bits_found)))))))))))
/-! law -/
abbrev N_law : List Str := ["script", "draws", "turn", "below", "share", "figures", "k", "at", "ahead", "again", "row", "by", "sums", "power", "rest", "told", "bad", "e"]
theorem nk_law_BadPlan : (defScope (top 30)).names.lookup ("BadPlan" : Str) = some NameKind.globalImplicit := by decide +kernel
theorem nk_law_ValueError : (defScope (top 30)).names.lookup ("ValueError" : Str) = some NameKind.globalImplicit := by decide +kernel
theorem nk_law__law_draw : (defScope (top 30)).names.lookup ("_law_draw" : Str) = some NameKind.globalImplicit := by decide +kernel
theorem nk_law__law_draws : (defScope (top 30)).names.lookup ("_law_draws" : Str) = some NameKind.globalImplicit := by decide +kernel
theorem nk_law__law_low : (defScope (top 30)).names.lookup ("_law_low" : Str) = some NameKind.globalImplicit := by decide +kernel
theorem nk_law__law_plus : (defScope (top 30)).names.lookup ("_law_plus" : Str) = some NameKind.globalImplicit := by decide +kernel
theorem nk_law__law_same : (defScope (top 30)).names.lookup ("_law_same" : Str) = some NameKind.globalImplicit := by decide +kernel
theorem nk_law_again : (defScope (top 30)).names.lookup ("again" : Str) = some NameKind.local := by decide +kernel
theorem nk_law_ahead : (defScope (top 30)).names.lookup ("ahead" : Str) = some NameKind.local := by decide +kernel
theorem nk_law_at : (defScope (top 30)).names.lookup ("at" : Str) = some NameKind.local := by decide +kernel
theorem nk_law_bad : (defScope (top 30)).names.lookup ("bad" : Str) = some NameKind.local := by decide +kernel
theorem nk_law_below : (defScope (top 30)).names.lookup ("below" : Str) = some NameKind.local := by decide +kernel
theorem nk_law_bit : (defScope (top 30)).names.lookup ("bit" : Str) = some NameKind.globalImplicit := by decide +kernel
theorem nk_law_bits_of : (defScope (top 30)).names.lookup ("bits_of" : Str) = some NameKind.globalImplicit := by decide +kernel
theorem nk_law_by : (defScope (top 30)).names.lookup ("by" : Str) = some NameKind.local := by decide +kernel
theorem nk_law_draws : (defScope (top 30)).names.lookup ("draws" : Str) = some NameKind.local := by decide +kernel
theorem nk_law_e : (defScope (top 30)).names.lookup ("e" : Str) = some NameKind.local := by decide +kernel
theorem nk_law_figures : (defScope (top 30)).names.lookup ("figures" : Str) = some NameKind.local := by decide +kernel
theorem nk_law_int : (defScope (top 30)).names.lookup ("int" : Str) = some NameKind.globalImplicit := by decide +kernel
theorem nk_law_isinstance : (defScope (top 30)).names.lookup ("isinstance" : Str) = some NameKind.globalImplicit := by decide +kernel
theorem nk_law_k : (defScope (top 30)).names.lookup ("k" : Str) = some NameKind.local := by decide +kernel
theorem nk_law_len : (defScope (top 30)).names.lookup ("len" : Str) = some NameKind.globalImplicit := by decide +kernel
theorem nk_law_list : (defScope (top 30)).names.lookup ("list" : Str) = some NameKind.globalImplicit := by decide +kernel
theorem nk_law_low : (defScope (top 30)).names.lookup ("low" : Str) = some NameKind.globalImplicit := by decide +kernel
theorem nk_law_power : (defScope (top 30)).names.lookup ("power" : Str) = some NameKind.local := by decide +kernel
theorem nk_law_range : (defScope (top 30)).names.lookup ("range" : Str) = some NameKind.globalImplicit := by decide +kernel
theorem nk_law_rest : (defScope (top 30)).names.lookup ("rest" : Str) = some NameKind.local := by decide +kernel
theorem nk_law_row : (defScope (top 30)).names.lookup ("row" : Str) = some NameKind.local := by decide +kernel
theorem nk_law_script : (defScope (top 30)).names.lookup ("script" : Str) = some NameKind.local := by decide +kernel
theorem nk_law_share : (defScope (top 30)).names.lookup ("share" : Str) = some NameKind.cell := by decide +kernel
theorem nk_law_sums : (defScope (top 30)).names.lookup ("sums" : Str) = some NameKind.local := by decide +kernel
theorem nk_law_told : (defScope (top 30)).names.lookup ("told" : Str) = some NameKind.local := by decide +kernel
theorem nk_law_turn : (defScope (top 30)).names.lookup ("turn" : Str) = some NameKind.local := by decide +kernel
theorem nk_law_weighed_bits : (defScope (top 30)).names.lookup ("weighed_bits" : Str) = some NameKind.globalImplicit := by decide +kernel
def e1_law : E := (eCall F_law_bit (aCons (eV 4) (aCons (eV 7) aNil)))
def b2_law : S := (sSeq (sSet 7 (e2 addD (eC (.int 1)) (eCallM F_law_draw (aCons (eV 1) (aCons (eC (.int 60)) aNil)))))
    (sIf (eNot (eCall (F_law_same 8) (aCons (eCall F_bit (aCons (eV 4) (aCons (eV 7) aNil))) (aCons (e2 ixD (eV 5) (e2 subD (eV 7) (eC (.int 1)))) aNil)))) (sRet (eC (.bl false))) sNx))
def w3_law : S := (sSet 10 (e2 addD (eV 10) (eN (g0 listD) (aCons (eV 9) aNil))))
def b4_law : S := (sIf (eAnd (e2 eqD (e2 modD (eN (g0 intD) (aCons (eN (g0 lenD) (aCons (eV 9) aNil)) aNil)) (eV 11)) (eC (.int 0))) (e2 eqD (eV 9) (e2 mulD (eSl (eV 9) pNone (pSome (eV 11))) (e2 fdivD (eN (g0 lenD) (aCons (eV 9) aNil)) (eV 11))))) (sRet (eC (.bl false))) sNx)
def b5_law : S := (sSeq (sSet 13 (e2 mulD (eC (.int 2)) (eV 13)))
    (sIf (e2 eqD (e2 ixD (eV 5) (e2 subD (eV 7) (eC (.int 1)))) (eC (.int 1))) (sSet 12 (eCall F_law_plus (aCons (eV 12) (aCons (eIf (e2 eqD (e2 modD (eN (g0 intD) (aCons (eV 7) aNil)) (eC (.int 2))) (eC (.int 1))) (eTup (aCons (eV 7) (aCons (eV 13) aNil))) (eCall F_law_low (aCons (eV 7) (aCons (eV 13) aNil)))) aNil)))) sNx))
def b6_law : S := (sSeq (sSet 3 (e2 addD (eC (.int 1)) (eCallM F_law_draw (aCons (eV 1) (aCons (eC (.int 60)) aNil)))))
    (sSeq (sSet 4 (eCall F_low (aCons (eCallM F_law_draw (aCons (eV 1) (aCons (eV 3) aNil))) (aCons (eV 3) aNil))))
    (sSeq (sSet 5 (eLcB finL (iRg2 (eC (.int 1)) (eC (.int 161))) [7] (bName 7) (eC (.bl true)) e1_law))
    (sSeq (sFor (iRg1 (eC (.int 5))) (bName 6) b2_law)
    (sSeq (sAsg (eCall F_bits_of (aCons (eV 4) aNil)) (bTup 2 (bCons (bName 8) (bCons (bName 9) bNil))))
    (sSeq (sSet 10 (eN (g0 listD) (aCons (eV 8) aNil)))
    (sSeq (sWhile (e2 ltD (eN (g0 lenD) (aCons (eV 10) aNil)) (eC (.int 160))) w3_law 400)
    (sSeq (sIf (eOr (e2 neD (eSl (eV 10) pNone (pSome (eC (.int 160)))) (eV 5)) (eOr (e2 eqD (eN (g0 lenD) (aCons (eV 9) aNil)) (eC (.int 0))) (e2 gtD (e2 addD (eN (g0 lenD) (aCons (eV 8) aNil)) (eN (g0 lenD) (aCons (eV 9) aNil))) (eC (.int 80))))) (sRet (eC (.bl false))) sNx)
    (sSeq (sFor (iRg2 (eC (.int 1)) (eN (g0 lenD) (aCons (eV 9) aNil))) (bName 11) b4_law)
    (sSeq (sIf (eAnd (e2 gtD (eN (g0 lenD) (aCons (eV 8) aNil)) (eC (.int 0))) (e2 eqD (e2 ixD (eV 8) (e1 negD (eC (.int 1)))) (e2 ixD (eV 9) (e1 negD (eC (.int 1)))))) (sRet (eC (.bl false))) sNx)
    (sSeq (sAsg (eTup (aCons (eTup (aCons (eC (.int 0)) (aCons (eC (.int 1)) aNil))) (aCons (eC (.int 1)) aNil))) (bTup 2 (bCons (bName 12) (bCons (bName 13) bNil))))
    (sSeq (sFor (iRg2 (eC (.int 1)) (eC (.int 61))) (bName 7) b5_law)
    (sSeq (sSet 14 (eCall F_law_plus (aCons (eV 12) (aCons (eCall F_law_low (aCons (eC (.int 62)) (aCons (eV 13) aNil))) aNil))))
    (sSeq (sSet 15 (eCall F_weighed_bits (aCons (eV 4) aNil)))
    (sIf (eOr (e2 ltD (e2 mulD (e2 ixD (eV 15) (eC (.int 0))) (e2 ixD (eV 12) (eC (.int 1)))) (e2 mulD (e2 ixD (eV 12) (eC (.int 0))) (e2 ixD (eV 15) (eC (.int 1))))) (e2 gtD (e2 mulD (e2 ixD (eV 15) (eC (.int 0))) (e2 ixD (eV 14) (eC (.int 1)))) (e2 mulD (e2 ixD (eV 14) (eC (.int 0))) (e2 ixD (eV 15) (eC (.int 1)))))) (sRet (eC (.bl false))) sNx)))))))))))))))
def e7_law : E := (eCall F_weighed_bits (aCons (eV 4) aNil))
def b8_law : S := (sTry 17 xl_BadPlan (fun x => (if (!(isB xl_ValueError x)) = true then some (.bl false) else none)) (sSeq (sDrop (eCall F_bits_of (aCons (eV 16) aNil)))
    (sRet (eC (.bl false)))))
def g_law : S := (sSeq (sSet 1 (eCallN F_law_draws (aCons (eV 0) aNil)))
    (sSeq (sFor (iRg1 (eC (.int 8))) (bName 2) b6_law)
    (sSeq (sIf (e2 neD (eLcB finL (iSeq (eTup (aCons (eTup (aCons (eC (.int 0)) (aCons (eC (.int 1)) aNil))) (aCons (eTup (aCons (eC (.int 1)) (aCons (eC (.int 2)) aNil))) (aCons (eTup (aCons (eC (.int 1)) (aCons (eC (.int 3)) aNil))) (aCons (eTup (aCons (eC (.int 2)) (aCons (eC (.int 3)) aNil))) (aCons (eTup (aCons (eC (.int 1)) (aCons (eC (.int 4)) aNil))) aNil))))))) [4] (bName 4) (eC (.bl true)) e7_law) (eLst (aCons (eTup (aCons (eC (.int 0)) (aCons (eC (.int 1)) aNil))) (aCons (eTup (aCons (eC (.int 1)) (aCons (eC (.int 2)) aNil))) (aCons (eTup (aCons (eC (.int 8)) (aCons (eC (.int 9)) aNil))) (aCons (eTup (aCons (eC (.int 10)) (aCons (eC (.int 9)) aNil))) (aCons (eTup (aCons (eC (.int 1)) (aCons (eC (.int 2)) aNil))) aNil))))))) (sRet (eC (.bl false))) sNx)
    (sSeq (sFor (iSeq (eLst (aCons (eTup (aCons (eC (.int 1)) (aCons (eC (.int 1)) aNil))) (aCons (eTup (aCons (eC (.int 3)) (aCons (eC (.int 2)) aNil))) (aCons (eTup (aCons (e1 negD (eC (.int 1))) (aCons (eC (.int 2)) aNil))) (aCons (eTup (aCons (eC (.int 2)) (aCons (eC (.int 4)) aNil))) (aCons (eC .non) (aCons (eC (.int 1)) aNil)))))))) (bName 16) b8_law)
    (sRet (eAnd (e2 eqD (eCall F_bits_of (aCons (eTup (aCons (eC (.int 0)) (aCons (eC (.int 1)) aNil))) aNil)) (eTup (aCons (eTup aNil) (aCons (eTup (aCons (eC (.int 0)) aNil)) aNil)))) (e2 eqD (eCall F_bits_of (aCons (eTup (aCons (eC (.int 1)) (aCons (eC (.int 2)) aNil))) aNil)) (eTup (aCons (eTup (aCons (eC (.int 1)) aNil)) (aCons (eTup (aCons (eC (.int 0)) aNil)) aNil))))))))))
def F_law : List D → Sto → RE := mkF 1 18 g_law
theorem sc_law : FnScope ["script", "draws", "turn", "below", "share", "figures", "k", "at", "ahead", "again", "row", "by", "sums", "power", "rest", "told", "bad", "e"] ["script"] (defScope (top 30)) := ⟨rfl, rfl, rfl, by decide +kernel, rfl, by decide +kernel, by decide +kernel⟩
theorem ok_law {P : Program} {w : World} {K : PySem.W.Frag} {mg : Str → Option Value} {base : Heap} (T : Top K mg) {f : Addr} {fd : FuncData} (Fn : Fun K "law" "law" (top 30) f fd) (c_law_bit : CallF P w K mg base 1 "_law_bit" ["share", "at"] F_law_bit) (c_law_draw : CallF P w K mg base 1 "_law_draw" ["draws", "limit"] F_law_draw) (c_law_draws : CallF P w K mg base 1 "_law_draws" ["script"] F_law_draws) (c_law_low : CallF P w K mg base 1 "_law_low" ["above", "below"] F_law_low) (c_law_plus : CallF P w K mg base 2 "_law_plus" ["one", "two"] F_law_plus) (c_law_same : CallF P w K mg base 9 "_law_same" ["actual", "expected"] (F_law_same 8)) (c_bit : CallF P w K mg base 1 "bit" ["share", "at"] F_bit) (c_bits_of : CallF P w K mg base 4 "bits_of" ["share"] F_bits_of) (c_low : CallF P w K mg base 2 "low" ["above", "below"] F_low) (c_weighed_bits : CallF P w K mg base 5 "weighed_bits" ["share"] F_weighed_bits) : FnOk P w K mg base (L2.CX P w) 10 f fd ["script"] (spF K mg F_law) := by
  exact fn_okF N_law ["script"] g_law rfl Fn sc_law fun f cdv A outer s H Ex hr => by
    have hu := hr.units
    have tk := takes_of (X := cxOf (L2.CX P w) P w K mg base ["script", "draws", "turn", "below", "share", "figures", "k", "at", "ahead", "again", "row", "by", "sums", "power", "rest", "told", "bad", "e"] "law" (defScope (top 30)) f cdv A outer s H Ex) rfl rfl rfl rfl
    have hp : PassesOwn (model P w) (cxOf (L2.CX P w) P w K mg base ["script", "draws", "turn", "below", "share", "figures", "k", "at", "ahead", "again", "row", "by", "sums", "power", "rest", "told", "bad", "e"] "law" (defScope (top 30)) f cdv A outer s H Ex).A (cxOf (L2.CX P w) P w K mg base ["script", "draws", "turn", "below", "share", "figures", "k", "at", "ahead", "again", "row", "by", "sums", "power", "rest", "told", "bad", "e"] "law" (defScope (top 30)) f cdv A outer s H Ex).env (cxOf (L2.CX P w) P w K mg base ["script", "draws", "turn", "below", "share", "figures", "k", "at", "ahead", "again", "row", "by", "sums", "power", "rest", "told", "bad", "e"] "law" (defScope (top 30)) f cdv A outer s H Ex).xe := passes_of rfl
    exact (s_cons (s_set (i := 1) sc_law.nd rfl (Or.inl nk_law_draws) (calln c_law_draws hr tk nk_law__law_draws (by decide) (ra_cons (v 0 rfl (Or.inl nk_law_script)) ra_nil)))
      (s_cons (s_for hp rfl (i_rg1 nk_law_range T.z_range ci) (g_name (i := 2) sc_law.nd rfl (Or.inl nk_law_turn)) (s_cons (s_set (i := 3) sc_law.nd rfl (Or.inl nk_law_below) (add ci (callm c_law_draw hr tk nk_law__law_draw (by decide) (ra_cons (v 1 rfl (Or.inl nk_law_draws)) (ra_cons ci ra_nil)))))
      (s_cons (s_set (i := 4) sc_law.nd rfl (Or.inr nk_law_share) (call c_low hr tk nk_law_low (by decide) (ra_cons (callm c_law_draw hr tk nk_law__law_draw (by decide) (ra_cons (v 1 rfl (Or.inl nk_law_draws)) (ra_cons (v 3 rfl (Or.inl nk_law_below)) ra_nil))) (ra_cons (v 3 rfl (Or.inl nk_law_below)) ra_nil))))
      (s_cons (s_setLcB (i := 5) (own := [("at", 7)]) fin_L rfl sc_law.nd rfl nk_law_figures (sw_true rfl nk_law_figures rfl (by decide +kernel)) (i_rg2 nk_law_range T.z_range ci ci) (blkOk_by (N := N_law) (sc := defScope (top 30)) (by decide +kernel)) (by decide) (fun _ _ _ _ _ => (g_name (i := 7) sc_law.nd rfl (Or.inl rfl))) (fun _ _ _ _ _ => rts_nil) (fun _ _ _ _ _ => (call c_law_bit hr takes0 rfl (by decide) (ra_cons (v 4) (ra_cons (v 7) ra_nil)))))
      (s_cons (s_for hp rfl (i_rg1 nk_law_range T.z_range ci) (g_name (i := 6) sc_law.nd rfl (Or.inl nk_law_k)) (s_cons (s_set (i := 7) sc_law.nd rfl (Or.inl nk_law_at) (add ci (callm c_law_draw hr tk nk_law__law_draw (by decide) (ra_cons (v 1 rfl (Or.inl nk_law_draws)) (ra_cons ci ra_nil)))))
      (s_one (s_if (rt_not (rt_val (call c_law_same hr tk nk_law__law_same (by decide) (ra_cons (call c_bit hr tk nk_law_bit (by decide) (ra_cons (v 4 rfl (Or.inr <| Or.inl nk_law_share)) (ra_cons (v 7 rfl (Or.inl nk_law_at)) ra_nil))) (ra_cons (ix (v 5 rfl (Or.inl nk_law_figures)) (sub (v 7 rfl (Or.inl nk_law_at)) ci)) ra_nil))))) (s_one (s_ret cb)) s_nil))))
      (s_cons (s_asg (call c_bits_of hr tk nk_law_bits_of (by decide) (ra_cons (v 4 rfl (Or.inr <| Or.inl nk_law_share)) ra_nil)) (g_tup rfl (g_cons (g_name (i := 8) sc_law.nd rfl (Or.inl nk_law_ahead)) (g_cons (g_name (i := 9) sc_law.nd rfl (Or.inl nk_law_again)) g_nil))))
      (s_cons (s_set (i := 10) sc_law.nd rfl (Or.inl nk_law_row) (bt call_list_of f_list T.z_list nk_law_list (by decide +kernel) (ra_cons (v 8 rfl (Or.inl nk_law_ahead)) ra_nil)))
      (s_cons (s_while 400 hp (tlt (bf call_lenA f_len T.z_len nk_law_len (by decide +kernel) (ra_cons (v 10 rfl (Or.inl nk_law_row)) ra_nil)) ci) (s_one (s_set (i := 10) sc_law.nd rfl (Or.inl nk_law_row) (add (v 10 rfl (Or.inl nk_law_row)) (bt call_list_of f_list T.z_list nk_law_list (by decide +kernel) (ra_cons (v 9 rfl (Or.inl nk_law_again)) ra_nil))))))
      (s_cons (s_if (rt_w (rw_or (tne hu (r_sl (v 10 rfl (Or.inl nk_law_row)) so_none (so_some ci)) (v 5 rfl (Or.inl nk_law_figures))) (rw_or (teq hu (bf call_lenA f_len T.z_len nk_law_len (by decide +kernel) (ra_cons (v 9 rfl (Or.inl nk_law_again)) ra_nil)) ci) (rw_or1 (tgt (add (bf call_lenA f_len T.z_len nk_law_len (by decide +kernel) (ra_cons (v 8 rfl (Or.inl nk_law_ahead)) ra_nil)) (bf call_lenA f_len T.z_len nk_law_len (by decide +kernel) (ra_cons (v 9 rfl (Or.inl nk_law_again)) ra_nil))) ci))))) (s_one (s_ret cb)) s_nil)
      (s_cons (s_for hp rfl (i_rg2 nk_law_range T.z_range ci (bf call_lenA f_len T.z_len nk_law_len (by decide +kernel) (ra_cons (v 9 rfl (Or.inl nk_law_again)) ra_nil))) (g_name (i := 11) sc_law.nd rfl (Or.inl nk_law_by)) (s_one (s_if (rt_w (rw_and (teq hu (mod (bt call_int1 f_int T.z_int nk_law_int (by decide +kernel) (ra_cons (bf call_lenA f_len T.z_len nk_law_len (by decide +kernel) (ra_cons (v 9 rfl (Or.inl nk_law_again)) ra_nil)) ra_nil)) (v 11 rfl (Or.inl nk_law_by))) ci) (rw_and1 (teq hu (v 9 rfl (Or.inl nk_law_again)) (mul (r_sl (v 9 rfl (Or.inl nk_law_again)) so_none (so_some (v 11 rfl (Or.inl nk_law_by)))) (fdiv (bf call_lenA f_len T.z_len nk_law_len (by decide +kernel) (ra_cons (v 9 rfl (Or.inl nk_law_again)) ra_nil)) (v 11 rfl (Or.inl nk_law_by)))))))) (s_one (s_ret cb)) s_nil)))
      (s_cons (s_if (rt_w (rw_and (tgt (bf call_lenA f_len T.z_len nk_law_len (by decide +kernel) (ra_cons (v 8 rfl (Or.inl nk_law_ahead)) ra_nil)) ci) (rw_and1 (teq hu (ix (v 8 rfl (Or.inl nk_law_ahead)) (neg ci)) (ix (v 9 rfl (Or.inl nk_law_again)) (neg ci)))))) (s_one (s_ret cb)) s_nil)
      (s_cons (s_asg (r_tup (ra_cons (r_tup (ra_cons ci (ra_cons ci ra_nil))) (ra_cons ci ra_nil))) (g_tup rfl (g_cons (g_name (i := 12) sc_law.nd rfl (Or.inl nk_law_sums)) (g_cons (g_name (i := 13) sc_law.nd rfl (Or.inl nk_law_power)) g_nil))))
      (s_cons (s_for hp rfl (i_rg2 nk_law_range T.z_range ci ci) (g_name (i := 7) sc_law.nd rfl (Or.inl nk_law_at)) (s_cons (s_set (i := 13) sc_law.nd rfl (Or.inl nk_law_power) (mul ci (v 13 rfl (Or.inl nk_law_power))))
      (s_one (s_if (teq hu (ix (v 5 rfl (Or.inl nk_law_figures)) (sub (v 7 rfl (Or.inl nk_law_at)) ci)) ci) (s_one (s_set (i := 12) sc_law.nd rfl (Or.inl nk_law_sums) (call c_law_plus hr tk nk_law__law_plus (by decide) (ra_cons (v 12 rfl (Or.inl nk_law_sums)) (ra_cons (r_if (teq hu (mod (bt call_int1 f_int T.z_int nk_law_int (by decide +kernel) (ra_cons (v 7 rfl (Or.inl nk_law_at)) ra_nil)) ci) ci) (r_tup (ra_cons (v 7 rfl (Or.inl nk_law_at)) (ra_cons (v 13 rfl (Or.inl nk_law_power)) ra_nil))) (call c_law_low hr tk nk_law__law_low (by decide) (ra_cons (v 7 rfl (Or.inl nk_law_at)) (ra_cons (v 13 rfl (Or.inl nk_law_power)) ra_nil)))) ra_nil))))) s_nil))))
      (s_cons (s_set (i := 14) sc_law.nd rfl (Or.inl nk_law_rest) (call c_law_plus hr tk nk_law__law_plus (by decide) (ra_cons (v 12 rfl (Or.inl nk_law_sums)) (ra_cons (call c_law_low hr tk nk_law__law_low (by decide) (ra_cons ci (ra_cons (v 13 rfl (Or.inl nk_law_power)) ra_nil))) ra_nil))))
      (s_cons (s_set (i := 15) sc_law.nd rfl (Or.inl nk_law_told) (call c_weighed_bits hr tk nk_law_weighed_bits (by decide) (ra_cons (v 4 rfl (Or.inr <| Or.inl nk_law_share)) ra_nil)))
      (s_one (s_if (rt_w (rw_or (tlt (mul (ix (v 15 rfl (Or.inl nk_law_told)) ci) (ix (v 12 rfl (Or.inl nk_law_sums)) ci)) (mul (ix (v 12 rfl (Or.inl nk_law_sums)) ci) (ix (v 15 rfl (Or.inl nk_law_told)) ci))) (rw_or1 (tgt (mul (ix (v 15 rfl (Or.inl nk_law_told)) ci) (ix (v 14 rfl (Or.inl nk_law_rest)) ci)) (mul (ix (v 14 rfl (Or.inl nk_law_rest)) ci) (ix (v 15 rfl (Or.inl nk_law_told)) ci)))))) (s_one (s_ret cb)) s_nil)))))))))))))))))
      (s_cons (s_if (tne hu (r_lcB (own := [("share", 4)]) fin_L rfl sc_law.nd (i_seq (r_tup (ra_cons (r_tup (ra_cons ci (ra_cons ci ra_nil))) (ra_cons (r_tup (ra_cons ci (ra_cons ci ra_nil))) (ra_cons (r_tup (ra_cons ci (ra_cons ci ra_nil))) (ra_cons (r_tup (ra_cons ci (ra_cons ci ra_nil))) (ra_cons (r_tup (ra_cons ci (ra_cons ci ra_nil))) ra_nil))))))) (blkOk_by (N := N_law) (sc := defScope (top 30)) (by decide +kernel)) (by decide) (fun _ _ _ _ _ => (g_name (i := 4) sc_law.nd rfl (Or.inl rfl))) (fun _ _ _ _ _ => rts_nil) (fun _ _ _ _ _ => (call c_weighed_bits hr takes0 rfl (by decide) (ra_cons (v 4) ra_nil)))) (r_lst (ra_cons (r_tup (ra_cons ci (ra_cons ci ra_nil))) (ra_cons (r_tup (ra_cons ci (ra_cons ci ra_nil))) (ra_cons (r_tup (ra_cons ci (ra_cons ci ra_nil))) (ra_cons (r_tup (ra_cons ci (ra_cons ci ra_nil))) (ra_cons (r_tup (ra_cons ci (ra_cons ci ra_nil))) ra_nil))))))) (s_one (s_ret cb)) s_nil)
      (s_cons (s_for hp rfl (i_seq (r_lst (ra_cons (r_tup (ra_cons ci (ra_cons ci ra_nil))) (ra_cons (r_tup (ra_cons ci (ra_cons ci ra_nil))) (ra_cons (r_tup (ra_cons (neg ci) (ra_cons ci ra_nil))) (ra_cons (r_tup (ra_cons ci (ra_cons ci ra_nil))) (ra_cons cn (ra_cons ci ra_nil)))))))) (g_name (i := 16) sc_law.nd rfl (Or.inl nk_law_bad)) (s_one (s_try (i := 17) (l := xl_BadPlan) (h := fun x => (if (!(isB xl_ValueError x)) = true then some (.bl false) else none)) sc_law.nd rfl nk_law_e nk_law_BadPlan T.y_BadPlan tk (fun _ _ _ tk hp => (s_cons (s_expr (call c_bits_of hr tk nk_law_bits_of (by decide) (ra_cons (v 16 rfl (Or.inl nk_law_bad)) ra_nil)))
      (s_one (s_ret cb)))) (by intro x d e; first | (cases e; rfl) | (split at e <;> cases e <;> rfl)) (fun a C oe pn x hx hC hz hv => (xs_if (xt_not (xt (xe_is (u := .type "ValueError") (T.yc_BadPlan x C hx hC) hz hv rfl (Or.inl nk_law_e) nk_law_isinstance T.z_isinstance (pe_bltn (v := .ty "ValueError") nk_law_ValueError T.z_ValueError (by decide +kernel) rfl) (fun _ z => z) (T.yi_BadPlan_ValueError x C hx hC)))) xe_bl)))))
      (s_one (s_ret (r_and (eq hu (call c_bits_of hr tk nk_law_bits_of (by decide) (ra_cons (r_tup (ra_cons ci (ra_cons ci ra_nil))) ra_nil)) (r_tup (ra_cons (r_tup ra_nil) (ra_cons (r_tup (ra_cons ci ra_nil)) ra_nil)))) (r_one (eq hu (call c_bits_of hr tk nk_law_bits_of (by decide) (ra_cons (r_tup (ra_cons ci (ra_cons ci ra_nil))) ra_nil)) (r_tup (ra_cons (r_tup (ra_cons ci ra_nil)) (ra_cons (r_tup (ra_cons ci ra_nil)) ra_nil))))))))))))
theorem ok_all {P : Program} {w : World} {K : PySem.W.Frag} {mg : Str → Option Value} {base : Heap} (T : Top K mg) {f : Addr} {fd : FuncData} (Fn : Fun K "law" "law" (top 30) f fd) : FnOk P w K mg base (L2.CX P w) 10 f fd ["script"] (spF K mg F_law) := by
  have c_law_bit := ok_law_bit (P := P) (w := w) (base := base) T 
  have c_law_draw := ok_law_draw (P := P) (w := w) (base := base) T 
  have c_law_draws := ok_law_draws (P := P) (w := w) (base := base) T 
  have c_law_low := ok_law_low (P := P) (w := w) (base := base) T 
  have c_law_plus := ok_law_plus (P := P) (w := w) (base := base) T c_law_low
  have c_law_same : CallF P w K mg base 9 "_law_same" ["actual", "expected"] (F_law_same 8) := (ok_law_same (P := P) (w := w) (base := base) T ) 8
  have c_bit := ok_bit (P := P) (w := w) (base := base) T 
  have c_divisor := ok_divisor (P := P) (w := w) (base := base) T 
  have c_is_whole := ok_is_whole (P := P) (w := w) (base := base) T 
  have c_is_share := ok_is_share (P := P) (w := w) (base := base) T c_divisor c_is_whole
  have c_is_chance := ok_is_chance (P := P) (w := w) (base := base) T c_is_share
  have c_bits_of := ok_bits_of (P := P) (w := w) (base := base) T c_is_chance
  have c_low := ok_low (P := P) (w := w) (base := base) T c_divisor
  have c_less := ok_less (P := P) (w := w) (base := base) T c_low
  have c_over := ok_over (P := P) (w := w) (base := base) T c_low
  have c_plus := ok_plus (P := P) (w := w) (base := base) T c_low
  have c_times := ok_times (P := P) (w := w) (base := base) T c_low
  have c_weighed_bits := ok_weighed_bits (P := P) (w := w) (base := base) T c_bits_of c_less c_low c_over c_plus c_times
  have c_law := ok_law (P := P) (w := w) (base := base) T Fn c_law_bit c_law_draw c_law_draws c_law_low c_law_plus c_law_same c_bit c_bits_of c_low c_weighed_bits
  exact c_law
theorem top_mk {K : PySem.W.Frag} {h : Heap} {mg : Str → Option Value} (X : K.In h) (G : h.Ns mainGlobals mg)
    (z_ValueError : PySem.W.nsIn K mainGlobals "ValueError" = some none)
    (z_abs : PySem.W.nsIn K mainGlobals "abs" = some none)
    (z_bool : PySem.W.nsIn K mainGlobals "bool" = some none)
    (z_enumerate : PySem.W.nsIn K mainGlobals "enumerate" = some none)
    (z_int : PySem.W.nsIn K mainGlobals "int" = some none)
    (z_isinstance : PySem.W.nsIn K mainGlobals "isinstance" = some none)
    (z_len : PySem.W.nsIn K mainGlobals "len" = some none)
    (z_list : PySem.W.nsIn K mainGlobals "list" = some none)
    (z_range : PySem.W.nsIn K mainGlobals "range" = some none)
    (z_str : PySem.W.nsIn K mainGlobals "str" = some none)
    (z_tuple : PySem.W.nsIn K mainGlobals "tuple" = some none)
    {t_MOST_ROWS : Tok} (c_MOST_ROWS : PySem.W.nsIn K mainGlobals "MOST_ROWS" = some (some (.int 300 t_MOST_ROWS)))
    {C_BadPlan : Addr} (xa_BadPlan : PySem.W.nsIn K mainGlobals "BadPlan" = some (some (.ref C_BadPlan))) (xx_BadPlan : PySem.W.excIn K C_BadPlan [.type "ValueError", .type "Exception", .type "BaseException", .type "object"] "ValueError.__new__" = true) (xk_BadPlan : PySem.W.keepIn K (.ref C_BadPlan) = true) (xb_BadPlan : PySem.W.subIn K (.ref C_BadPlan) (.type "BaseException") = some true) (xt_BadPlan : PySem.W.typeIn K (.ref C_BadPlan) = some (.type "type"))
    {C_BadShare : Addr} (xa_BadShare : PySem.W.nsIn K mainGlobals "BadShare" = some (some (.ref C_BadShare))) (xx_BadShare : PySem.W.excIn K C_BadShare [.type "ValueError", .type "Exception", .type "BaseException", .type "object"] "ValueError.__new__" = true) (xk_BadShare : PySem.W.keepIn K (.ref C_BadShare) = true) (xb_BadShare : PySem.W.subIn K (.ref C_BadShare) (.type "BaseException") = some true) (xt_BadShare : PySem.W.typeIn K (.ref C_BadShare) = some (.type "type"))
    (ee_n : PySem.W.specialIn K (.builtin "object.__class__") "__get__" = some (some (.builtin "getset_descriptor.__get__"))) (ee_t : PySem.W.takesIn K (.builtin "object.__class__") = some true)
    (ehd_BadPlan : PySem.W.hasDictIn K C_BadPlan = true)
    (ehg_BadPlan : PySem.W.findIn K (.ref C_BadPlan) "__getattribute__" = some (some (.builtin "BaseException.__getattribute__")))
    (ehk_BadPlan : PySem.W.findIn K (.ref C_BadPlan) "__getattr__" = some none)
    (eha_BadPlan : PySem.W.findIn K (.ref C_BadPlan) "__class__" = some (some (.builtin "object.__class__")))
    (ehm_BadPlan : PySem.W.mroIn K C_BadPlan (.type "object") = some true)
    (es_BadPlan_BadPlan : PySem.W.subIn K (.ref C_BadPlan) (.ref C_BadPlan) = some true)
    (es_BadShare_BadPlan : PySem.W.subIn K (.ref C_BadShare) (.ref C_BadPlan) = some false)
    (es_BadPlan_ValueError : PySem.W.subIn K (.ref C_BadPlan) (.type "ValueError") = some true)
    {f_law_bit : Addr} {oc_law_bit kV_law_bit dc_law_bit pm_law_bit cd_law_bit ct_law_bit : Value} {od_law_bit an_law_bit : Option Addr} {sl_law_bit : Array (Option Value)} (a_law_bit : PySem.W.nsIn K mainGlobals "_law_bit" = some (some (.ref f_law_bit))) (l_law_bit : K.lookup f_law_bit = some ⟨oc_law_bit, od_law_bit, .func (PySem.W.fnOf "_law_bit" "_law_bit" (defArgs (top 29)) (defBody (top 29)) (defScope (top 29)) .none kV_law_bit dc_law_bit pm_law_bit an_law_bit cd_law_bit ct_law_bit), sl_law_bit⟩) (cc_law_bit : PySem.W.codeIn K cd_law_bit "_law_bit" = true) (k_law_bit : PySem.W.keepIn K (.ref f_law_bit) = true)
    {f_law_draw : Addr} {oc_law_draw kV_law_draw dc_law_draw pm_law_draw cd_law_draw ct_law_draw : Value} {od_law_draw an_law_draw : Option Addr} {sl_law_draw : Array (Option Value)} (a_law_draw : PySem.W.nsIn K mainGlobals "_law_draw" = some (some (.ref f_law_draw))) (l_law_draw : K.lookup f_law_draw = some ⟨oc_law_draw, od_law_draw, .func (PySem.W.fnOf "_law_draw" "_law_draw" (defArgs (top 22)) (defBody (top 22)) (defScope (top 22)) .none kV_law_draw dc_law_draw pm_law_draw an_law_draw cd_law_draw ct_law_draw), sl_law_draw⟩) (cc_law_draw : PySem.W.codeIn K cd_law_draw "_law_draw" = true) (k_law_draw : PySem.W.keepIn K (.ref f_law_draw) = true)
    {f_law_draws : Addr} {oc_law_draws kV_law_draws dc_law_draws pm_law_draws cd_law_draws ct_law_draws : Value} {od_law_draws an_law_draws : Option Addr} {sl_law_draws : Array (Option Value)} (a_law_draws : PySem.W.nsIn K mainGlobals "_law_draws" = some (some (.ref f_law_draws))) (l_law_draws : K.lookup f_law_draws = some ⟨oc_law_draws, od_law_draws, .func (PySem.W.fnOf "_law_draws" "_law_draws" (defArgs (top 21)) (defBody (top 21)) (defScope (top 21)) .none kV_law_draws dc_law_draws pm_law_draws an_law_draws cd_law_draws ct_law_draws), sl_law_draws⟩) (cc_law_draws : PySem.W.codeIn K cd_law_draws "_law_draws" = true) (k_law_draws : PySem.W.keepIn K (.ref f_law_draws) = true)
    {f_law_low : Addr} {oc_law_low kV_law_low dc_law_low pm_law_low cd_law_low ct_law_low : Value} {od_law_low an_law_low : Option Addr} {sl_law_low : Array (Option Value)} (a_law_low : PySem.W.nsIn K mainGlobals "_law_low" = some (some (.ref f_law_low))) (l_law_low : K.lookup f_law_low = some ⟨oc_law_low, od_law_low, .func (PySem.W.fnOf "_law_low" "_law_low" (defArgs (top 24)) (defBody (top 24)) (defScope (top 24)) .none kV_law_low dc_law_low pm_law_low an_law_low cd_law_low ct_law_low), sl_law_low⟩) (cc_law_low : PySem.W.codeIn K cd_law_low "_law_low" = true) (k_law_low : PySem.W.keepIn K (.ref f_law_low) = true)
    {f_law_plus : Addr} {oc_law_plus kV_law_plus dc_law_plus pm_law_plus cd_law_plus ct_law_plus : Value} {od_law_plus an_law_plus : Option Addr} {sl_law_plus : Array (Option Value)} (a_law_plus : PySem.W.nsIn K mainGlobals "_law_plus" = some (some (.ref f_law_plus))) (l_law_plus : K.lookup f_law_plus = some ⟨oc_law_plus, od_law_plus, .func (PySem.W.fnOf "_law_plus" "_law_plus" (defArgs (top 25)) (defBody (top 25)) (defScope (top 25)) .none kV_law_plus dc_law_plus pm_law_plus an_law_plus cd_law_plus ct_law_plus), sl_law_plus⟩) (cc_law_plus : PySem.W.codeIn K cd_law_plus "_law_plus" = true) (k_law_plus : PySem.W.keepIn K (.ref f_law_plus) = true)
    {f_law_same : Addr} {oc_law_same kV_law_same dc_law_same pm_law_same cd_law_same ct_law_same : Value} {od_law_same an_law_same : Option Addr} {sl_law_same : Array (Option Value)} (a_law_same : PySem.W.nsIn K mainGlobals "_law_same" = some (some (.ref f_law_same))) (l_law_same : K.lookup f_law_same = some ⟨oc_law_same, od_law_same, .func (PySem.W.fnOf "_law_same" "_law_same" (defArgs (top 23)) (defBody (top 23)) (defScope (top 23)) .none kV_law_same dc_law_same pm_law_same an_law_same cd_law_same ct_law_same), sl_law_same⟩) (cc_law_same : PySem.W.codeIn K cd_law_same "_law_same" = true) (k_law_same : PySem.W.keepIn K (.ref f_law_same) = true)
    {f_bit : Addr} {oc_bit kV_bit dc_bit pm_bit cd_bit ct_bit : Value} {od_bit an_bit : Option Addr} {sl_bit : Array (Option Value)} (a_bit : PySem.W.nsIn K mainGlobals "bit" = some (some (.ref f_bit))) (l_bit : K.lookup f_bit = some ⟨oc_bit, od_bit, .func (PySem.W.fnOf "bit" "bit" (defArgs (top 17)) (defBody (top 17)) (defScope (top 17)) .none kV_bit dc_bit pm_bit an_bit cd_bit ct_bit), sl_bit⟩) (cc_bit : PySem.W.codeIn K cd_bit "bit" = true) (k_bit : PySem.W.keepIn K (.ref f_bit) = true)
    {f_divisor : Addr} {oc_divisor kV_divisor dc_divisor pm_divisor cd_divisor ct_divisor : Value} {od_divisor an_divisor : Option Addr} {sl_divisor : Array (Option Value)} (a_divisor : PySem.W.nsIn K mainGlobals "divisor" = some (some (.ref f_divisor))) (l_divisor : K.lookup f_divisor = some ⟨oc_divisor, od_divisor, .func (PySem.W.fnOf "divisor" "divisor" (defArgs (top 7)) (defBody (top 7)) (defScope (top 7)) .none kV_divisor dc_divisor pm_divisor an_divisor cd_divisor ct_divisor), sl_divisor⟩) (cc_divisor : PySem.W.codeIn K cd_divisor "divisor" = true) (k_divisor : PySem.W.keepIn K (.ref f_divisor) = true)
    {f_is_whole : Addr} {oc_is_whole kV_is_whole dc_is_whole pm_is_whole cd_is_whole ct_is_whole : Value} {od_is_whole an_is_whole : Option Addr} {sl_is_whole : Array (Option Value)} (a_is_whole : PySem.W.nsIn K mainGlobals "is_whole" = some (some (.ref f_is_whole))) (l_is_whole : K.lookup f_is_whole = some ⟨oc_is_whole, od_is_whole, .func (PySem.W.fnOf "is_whole" "is_whole" (defArgs (top 6)) (defBody (top 6)) (defScope (top 6)) .none kV_is_whole dc_is_whole pm_is_whole an_is_whole cd_is_whole ct_is_whole), sl_is_whole⟩) (cc_is_whole : PySem.W.codeIn K cd_is_whole "is_whole" = true) (k_is_whole : PySem.W.keepIn K (.ref f_is_whole) = true)
    {f_is_share : Addr} {oc_is_share kV_is_share dc_is_share pm_is_share cd_is_share ct_is_share : Value} {od_is_share an_is_share : Option Addr} {sl_is_share : Array (Option Value)} (a_is_share : PySem.W.nsIn K mainGlobals "is_share" = some (some (.ref f_is_share))) (l_is_share : K.lookup f_is_share = some ⟨oc_is_share, od_is_share, .func (PySem.W.fnOf "is_share" "is_share" (defArgs (top 9)) (defBody (top 9)) (defScope (top 9)) .none kV_is_share dc_is_share pm_is_share an_is_share cd_is_share ct_is_share), sl_is_share⟩) (cc_is_share : PySem.W.codeIn K cd_is_share "is_share" = true) (k_is_share : PySem.W.keepIn K (.ref f_is_share) = true)
    {f_is_chance : Addr} {oc_is_chance kV_is_chance dc_is_chance pm_is_chance cd_is_chance ct_is_chance : Value} {od_is_chance an_is_chance : Option Addr} {sl_is_chance : Array (Option Value)} (a_is_chance : PySem.W.nsIn K mainGlobals "is_chance" = some (some (.ref f_is_chance))) (l_is_chance : K.lookup f_is_chance = some ⟨oc_is_chance, od_is_chance, .func (PySem.W.fnOf "is_chance" "is_chance" (defArgs (top 14)) (defBody (top 14)) (defScope (top 14)) .none kV_is_chance dc_is_chance pm_is_chance an_is_chance cd_is_chance ct_is_chance), sl_is_chance⟩) (cc_is_chance : PySem.W.codeIn K cd_is_chance "is_chance" = true) (k_is_chance : PySem.W.keepIn K (.ref f_is_chance) = true)
    {f_bits_of : Addr} {oc_bits_of kV_bits_of dc_bits_of pm_bits_of cd_bits_of ct_bits_of : Value} {od_bits_of an_bits_of : Option Addr} {sl_bits_of : Array (Option Value)} (a_bits_of : PySem.W.nsIn K mainGlobals "bits_of" = some (some (.ref f_bits_of))) (l_bits_of : K.lookup f_bits_of = some ⟨oc_bits_of, od_bits_of, .func (PySem.W.fnOf "bits_of" "bits_of" (defArgs (top 18)) (defBody (top 18)) (defScope (top 18)) .none kV_bits_of dc_bits_of pm_bits_of an_bits_of cd_bits_of ct_bits_of), sl_bits_of⟩) (cc_bits_of : PySem.W.codeIn K cd_bits_of "bits_of" = true) (k_bits_of : PySem.W.keepIn K (.ref f_bits_of) = true)
    {f_low : Addr} {oc_low kV_low dc_low pm_low cd_low ct_low : Value} {od_low an_low : Option Addr} {sl_low : Array (Option Value)} (a_low : PySem.W.nsIn K mainGlobals "low" = some (some (.ref f_low))) (l_low : K.lookup f_low = some ⟨oc_low, od_low, .func (PySem.W.fnOf "low" "low" (defArgs (top 8)) (defBody (top 8)) (defScope (top 8)) .none kV_low dc_low pm_low an_low cd_low ct_low), sl_low⟩) (cc_low : PySem.W.codeIn K cd_low "low" = true) (k_low : PySem.W.keepIn K (.ref f_low) = true)
    {f_less : Addr} {oc_less kV_less dc_less pm_less cd_less ct_less : Value} {od_less an_less : Option Addr} {sl_less : Array (Option Value)} (a_less : PySem.W.nsIn K mainGlobals "less" = some (some (.ref f_less))) (l_less : K.lookup f_less = some ⟨oc_less, od_less, .func (PySem.W.fnOf "less" "less" (defArgs (top 11)) (defBody (top 11)) (defScope (top 11)) .none kV_less dc_less pm_less an_less cd_less ct_less), sl_less⟩) (cc_less : PySem.W.codeIn K cd_less "less" = true) (k_less : PySem.W.keepIn K (.ref f_less) = true)
    {f_over : Addr} {oc_over kV_over dc_over pm_over cd_over ct_over : Value} {od_over an_over : Option Addr} {sl_over : Array (Option Value)} (a_over : PySem.W.nsIn K mainGlobals "over" = some (some (.ref f_over))) (l_over : K.lookup f_over = some ⟨oc_over, od_over, .func (PySem.W.fnOf "over" "over" (defArgs (top 13)) (defBody (top 13)) (defScope (top 13)) .none kV_over dc_over pm_over an_over cd_over ct_over), sl_over⟩) (cc_over : PySem.W.codeIn K cd_over "over" = true) (k_over : PySem.W.keepIn K (.ref f_over) = true)
    {f_plus : Addr} {oc_plus kV_plus dc_plus pm_plus cd_plus ct_plus : Value} {od_plus an_plus : Option Addr} {sl_plus : Array (Option Value)} (a_plus : PySem.W.nsIn K mainGlobals "plus" = some (some (.ref f_plus))) (l_plus : K.lookup f_plus = some ⟨oc_plus, od_plus, .func (PySem.W.fnOf "plus" "plus" (defArgs (top 10)) (defBody (top 10)) (defScope (top 10)) .none kV_plus dc_plus pm_plus an_plus cd_plus ct_plus), sl_plus⟩) (cc_plus : PySem.W.codeIn K cd_plus "plus" = true) (k_plus : PySem.W.keepIn K (.ref f_plus) = true)
    {f_times : Addr} {oc_times kV_times dc_times pm_times cd_times ct_times : Value} {od_times an_times : Option Addr} {sl_times : Array (Option Value)} (a_times : PySem.W.nsIn K mainGlobals "times" = some (some (.ref f_times))) (l_times : K.lookup f_times = some ⟨oc_times, od_times, .func (PySem.W.fnOf "times" "times" (defArgs (top 12)) (defBody (top 12)) (defScope (top 12)) .none kV_times dc_times pm_times an_times cd_times ct_times), sl_times⟩) (cc_times : PySem.W.codeIn K cd_times "times" = true) (k_times : PySem.W.keepIn K (.ref f_times) = true)
    {f_weighed_bits : Addr} {oc_weighed_bits kV_weighed_bits dc_weighed_bits pm_weighed_bits cd_weighed_bits ct_weighed_bits : Value} {od_weighed_bits an_weighed_bits : Option Addr} {sl_weighed_bits : Array (Option Value)} (a_weighed_bits : PySem.W.nsIn K mainGlobals "weighed_bits" = some (some (.ref f_weighed_bits))) (l_weighed_bits : K.lookup f_weighed_bits = some ⟨oc_weighed_bits, od_weighed_bits, .func (PySem.W.fnOf "weighed_bits" "weighed_bits" (defArgs (top 19)) (defBody (top 19)) (defScope (top 19)) .none kV_weighed_bits dc_weighed_bits pm_weighed_bits an_weighed_bits cd_weighed_bits ct_weighed_bits), sl_weighed_bits⟩) (cc_weighed_bits : PySem.W.codeIn K cd_weighed_bits "weighed_bits" = true) (k_weighed_bits : PySem.W.keepIn K (.ref f_weighed_bits) = true)
    {f_law : Addr} {oc_law kV_law dc_law pm_law cd_law ct_law : Value} {od_law an_law : Option Addr} {sl_law : Array (Option Value)} (a_law : PySem.W.nsIn K mainGlobals "law" = some (some (.ref f_law))) (l_law : K.lookup f_law = some ⟨oc_law, od_law, .func (PySem.W.fnOf "law" "law" (defArgs (top 30)) (defBody (top 30)) (defScope (top 30)) .none kV_law dc_law pm_law an_law cd_law ct_law), sl_law⟩) (cc_law : PySem.W.codeIn K cd_law "law" = true) (k_law : PySem.W.keepIn K (.ref f_law) = true) : Top K mg :=
  ⟨PySem.W.mg_none_of X G z_ValueError,
    PySem.W.mg_none_of X G z_abs,
    PySem.W.mg_none_of X G z_bool,
    PySem.W.mg_none_of X G z_enumerate,
    PySem.W.mg_none_of X G z_int,
    PySem.W.mg_none_of X G z_isinstance,
    PySem.W.mg_none_of X G z_len,
    PySem.W.mg_none_of X G z_list,
    PySem.W.mg_none_of X G z_range,
    PySem.W.mg_none_of X G z_str,
    PySem.W.mg_none_of X G z_tuple,
    ⟨_, PySem.W.mg_of X G c_MOST_ROWS⟩,
    ⟨C_BadPlan, PySem.W.mg_of X G xa_BadPlan, xx_BadPlan, xk_BadPlan, xb_BadPlan, xt_BadPlan⟩,
    ⟨C_BadShare, PySem.W.mg_of X G xa_BadShare, xx_BadShare, xk_BadShare, xb_BadShare, xt_BadShare⟩,
    TryF.of (PySem.W.mg_of X G xa_BadPlan) (fm_cons (⟨C_BadPlan, PySem.W.mg_of X G xa_BadPlan, PySem.W.exm_ref xb_BadPlan ehd_BadPlan xt_BadPlan es_BadPlan_BadPlan⟩) (fm_cons (⟨C_BadShare, PySem.W.mg_of X G xa_BadShare, PySem.W.exm_ref xb_BadPlan ehd_BadPlan xt_BadPlan es_BadShare_BadPlan⟩) fm_nil)),
    ExcCs.of (fm_cons (fun _ => ⟨C_BadPlan, PySem.W.mg_of X G xa_BadPlan, ⟨ehg_BadPlan, ehk_BadPlan, xb_BadPlan, ehd_BadPlan, eha_BadPlan, ee_n, ee_t, ehm_BadPlan⟩⟩) (fm_cons (fun h => Bool.noConfusion h) fm_nil)),
    IsCF.of (fm_cons (fun _ => ⟨C_BadPlan, PySem.W.mg_of X G xa_BadPlan, (kitOne_ty (by decide +kernel) es_BadPlan_ValueError).trans (congrArg some ib_ValueError_BadPlan.symm)⟩) (fm_cons (fun h => Bool.noConfusion h) fm_nil)),
    ⟨_, _, fun_mk l_law_bit cc_law_bit k_law_bit, PySem.W.mg_of X G a_law_bit⟩,
    ⟨_, _, fun_mk l_law_draw cc_law_draw k_law_draw, PySem.W.mg_of X G a_law_draw⟩,
    ⟨_, _, fun_mk l_law_draws cc_law_draws k_law_draws, PySem.W.mg_of X G a_law_draws⟩,
    ⟨_, _, fun_mk l_law_low cc_law_low k_law_low, PySem.W.mg_of X G a_law_low⟩,
    ⟨_, _, fun_mk l_law_plus cc_law_plus k_law_plus, PySem.W.mg_of X G a_law_plus⟩,
    ⟨_, _, fun_mk l_law_same cc_law_same k_law_same, PySem.W.mg_of X G a_law_same⟩,
    ⟨_, _, fun_mk l_bit cc_bit k_bit, PySem.W.mg_of X G a_bit⟩,
    ⟨_, _, fun_mk l_divisor cc_divisor k_divisor, PySem.W.mg_of X G a_divisor⟩,
    ⟨_, _, fun_mk l_is_whole cc_is_whole k_is_whole, PySem.W.mg_of X G a_is_whole⟩,
    ⟨_, _, fun_mk l_is_share cc_is_share k_is_share, PySem.W.mg_of X G a_is_share⟩,
    ⟨_, _, fun_mk l_is_chance cc_is_chance k_is_chance, PySem.W.mg_of X G a_is_chance⟩,
    ⟨_, _, fun_mk l_bits_of cc_bits_of k_bits_of, PySem.W.mg_of X G a_bits_of⟩,
    ⟨_, _, fun_mk l_low cc_low k_low, PySem.W.mg_of X G a_low⟩,
    ⟨_, _, fun_mk l_less cc_less k_less, PySem.W.mg_of X G a_less⟩,
    ⟨_, _, fun_mk l_over cc_over k_over, PySem.W.mg_of X G a_over⟩,
    ⟨_, _, fun_mk l_plus cc_plus k_plus, PySem.W.mg_of X G a_plus⟩,
    ⟨_, _, fun_mk l_times cc_times k_times, PySem.W.mg_of X G a_times⟩,
    ⟨_, _, fun_mk l_weighed_bits cc_weighed_bits k_weighed_bits, PySem.W.mg_of X G a_weighed_bits⟩,
    ⟨_, _, fun_mk l_law cc_law k_law, PySem.W.mg_of X G a_law⟩⟩
theorem end_mk {l : PySem.W.OpenLaw} {w : World} {K : PySem.W.Frag} {h : Heap} {mg : Str → Option Value} {fa : Addr} (X : K.In h) (G : h.Ns mainGlobals mg) (hfa : mg "law" = some (.ref fa)) (hl : ∀ ns : List Int, ns.length ≤ 63 → ∃ st, F_law [.scr ns] [] = .ok (.bl true) st)
    (z_ValueError : PySem.W.nsIn K mainGlobals "ValueError" = some none)
    (z_abs : PySem.W.nsIn K mainGlobals "abs" = some none)
    (z_bool : PySem.W.nsIn K mainGlobals "bool" = some none)
    (z_enumerate : PySem.W.nsIn K mainGlobals "enumerate" = some none)
    (z_int : PySem.W.nsIn K mainGlobals "int" = some none)
    (z_isinstance : PySem.W.nsIn K mainGlobals "isinstance" = some none)
    (z_len : PySem.W.nsIn K mainGlobals "len" = some none)
    (z_list : PySem.W.nsIn K mainGlobals "list" = some none)
    (z_range : PySem.W.nsIn K mainGlobals "range" = some none)
    (z_str : PySem.W.nsIn K mainGlobals "str" = some none)
    (z_tuple : PySem.W.nsIn K mainGlobals "tuple" = some none)
    {t_MOST_ROWS : Tok} (c_MOST_ROWS : PySem.W.nsIn K mainGlobals "MOST_ROWS" = some (some (.int 300 t_MOST_ROWS)))
    {C_BadPlan : Addr} (xa_BadPlan : PySem.W.nsIn K mainGlobals "BadPlan" = some (some (.ref C_BadPlan))) (xx_BadPlan : PySem.W.excIn K C_BadPlan [.type "ValueError", .type "Exception", .type "BaseException", .type "object"] "ValueError.__new__" = true) (xk_BadPlan : PySem.W.keepIn K (.ref C_BadPlan) = true) (xb_BadPlan : PySem.W.subIn K (.ref C_BadPlan) (.type "BaseException") = some true) (xt_BadPlan : PySem.W.typeIn K (.ref C_BadPlan) = some (.type "type"))
    {C_BadShare : Addr} (xa_BadShare : PySem.W.nsIn K mainGlobals "BadShare" = some (some (.ref C_BadShare))) (xx_BadShare : PySem.W.excIn K C_BadShare [.type "ValueError", .type "Exception", .type "BaseException", .type "object"] "ValueError.__new__" = true) (xk_BadShare : PySem.W.keepIn K (.ref C_BadShare) = true) (xb_BadShare : PySem.W.subIn K (.ref C_BadShare) (.type "BaseException") = some true) (xt_BadShare : PySem.W.typeIn K (.ref C_BadShare) = some (.type "type"))
    (ee_n : PySem.W.specialIn K (.builtin "object.__class__") "__get__" = some (some (.builtin "getset_descriptor.__get__"))) (ee_t : PySem.W.takesIn K (.builtin "object.__class__") = some true)
    (ehd_BadPlan : PySem.W.hasDictIn K C_BadPlan = true)
    (ehg_BadPlan : PySem.W.findIn K (.ref C_BadPlan) "__getattribute__" = some (some (.builtin "BaseException.__getattribute__")))
    (ehk_BadPlan : PySem.W.findIn K (.ref C_BadPlan) "__getattr__" = some none)
    (eha_BadPlan : PySem.W.findIn K (.ref C_BadPlan) "__class__" = some (some (.builtin "object.__class__")))
    (ehm_BadPlan : PySem.W.mroIn K C_BadPlan (.type "object") = some true)
    (es_BadPlan_BadPlan : PySem.W.subIn K (.ref C_BadPlan) (.ref C_BadPlan) = some true)
    (es_BadShare_BadPlan : PySem.W.subIn K (.ref C_BadShare) (.ref C_BadPlan) = some false)
    (es_BadPlan_ValueError : PySem.W.subIn K (.ref C_BadPlan) (.type "ValueError") = some true)
    {f_law_bit : Addr} {oc_law_bit kV_law_bit dc_law_bit pm_law_bit cd_law_bit ct_law_bit : Value} {od_law_bit an_law_bit : Option Addr} {sl_law_bit : Array (Option Value)} (a_law_bit : PySem.W.nsIn K mainGlobals "_law_bit" = some (some (.ref f_law_bit))) (l_law_bit : K.lookup f_law_bit = some ⟨oc_law_bit, od_law_bit, .func (PySem.W.fnOf "_law_bit" "_law_bit" (defArgs (top 29)) (defBody (top 29)) (defScope (top 29)) .none kV_law_bit dc_law_bit pm_law_bit an_law_bit cd_law_bit ct_law_bit), sl_law_bit⟩) (cc_law_bit : PySem.W.codeIn K cd_law_bit "_law_bit" = true) (k_law_bit : PySem.W.keepIn K (.ref f_law_bit) = true)
    {f_law_draw : Addr} {oc_law_draw kV_law_draw dc_law_draw pm_law_draw cd_law_draw ct_law_draw : Value} {od_law_draw an_law_draw : Option Addr} {sl_law_draw : Array (Option Value)} (a_law_draw : PySem.W.nsIn K mainGlobals "_law_draw" = some (some (.ref f_law_draw))) (l_law_draw : K.lookup f_law_draw = some ⟨oc_law_draw, od_law_draw, .func (PySem.W.fnOf "_law_draw" "_law_draw" (defArgs (top 22)) (defBody (top 22)) (defScope (top 22)) .none kV_law_draw dc_law_draw pm_law_draw an_law_draw cd_law_draw ct_law_draw), sl_law_draw⟩) (cc_law_draw : PySem.W.codeIn K cd_law_draw "_law_draw" = true) (k_law_draw : PySem.W.keepIn K (.ref f_law_draw) = true)
    {f_law_draws : Addr} {oc_law_draws kV_law_draws dc_law_draws pm_law_draws cd_law_draws ct_law_draws : Value} {od_law_draws an_law_draws : Option Addr} {sl_law_draws : Array (Option Value)} (a_law_draws : PySem.W.nsIn K mainGlobals "_law_draws" = some (some (.ref f_law_draws))) (l_law_draws : K.lookup f_law_draws = some ⟨oc_law_draws, od_law_draws, .func (PySem.W.fnOf "_law_draws" "_law_draws" (defArgs (top 21)) (defBody (top 21)) (defScope (top 21)) .none kV_law_draws dc_law_draws pm_law_draws an_law_draws cd_law_draws ct_law_draws), sl_law_draws⟩) (cc_law_draws : PySem.W.codeIn K cd_law_draws "_law_draws" = true) (k_law_draws : PySem.W.keepIn K (.ref f_law_draws) = true)
    {f_law_low : Addr} {oc_law_low kV_law_low dc_law_low pm_law_low cd_law_low ct_law_low : Value} {od_law_low an_law_low : Option Addr} {sl_law_low : Array (Option Value)} (a_law_low : PySem.W.nsIn K mainGlobals "_law_low" = some (some (.ref f_law_low))) (l_law_low : K.lookup f_law_low = some ⟨oc_law_low, od_law_low, .func (PySem.W.fnOf "_law_low" "_law_low" (defArgs (top 24)) (defBody (top 24)) (defScope (top 24)) .none kV_law_low dc_law_low pm_law_low an_law_low cd_law_low ct_law_low), sl_law_low⟩) (cc_law_low : PySem.W.codeIn K cd_law_low "_law_low" = true) (k_law_low : PySem.W.keepIn K (.ref f_law_low) = true)
    {f_law_plus : Addr} {oc_law_plus kV_law_plus dc_law_plus pm_law_plus cd_law_plus ct_law_plus : Value} {od_law_plus an_law_plus : Option Addr} {sl_law_plus : Array (Option Value)} (a_law_plus : PySem.W.nsIn K mainGlobals "_law_plus" = some (some (.ref f_law_plus))) (l_law_plus : K.lookup f_law_plus = some ⟨oc_law_plus, od_law_plus, .func (PySem.W.fnOf "_law_plus" "_law_plus" (defArgs (top 25)) (defBody (top 25)) (defScope (top 25)) .none kV_law_plus dc_law_plus pm_law_plus an_law_plus cd_law_plus ct_law_plus), sl_law_plus⟩) (cc_law_plus : PySem.W.codeIn K cd_law_plus "_law_plus" = true) (k_law_plus : PySem.W.keepIn K (.ref f_law_plus) = true)
    {f_law_same : Addr} {oc_law_same kV_law_same dc_law_same pm_law_same cd_law_same ct_law_same : Value} {od_law_same an_law_same : Option Addr} {sl_law_same : Array (Option Value)} (a_law_same : PySem.W.nsIn K mainGlobals "_law_same" = some (some (.ref f_law_same))) (l_law_same : K.lookup f_law_same = some ⟨oc_law_same, od_law_same, .func (PySem.W.fnOf "_law_same" "_law_same" (defArgs (top 23)) (defBody (top 23)) (defScope (top 23)) .none kV_law_same dc_law_same pm_law_same an_law_same cd_law_same ct_law_same), sl_law_same⟩) (cc_law_same : PySem.W.codeIn K cd_law_same "_law_same" = true) (k_law_same : PySem.W.keepIn K (.ref f_law_same) = true)
    {f_bit : Addr} {oc_bit kV_bit dc_bit pm_bit cd_bit ct_bit : Value} {od_bit an_bit : Option Addr} {sl_bit : Array (Option Value)} (a_bit : PySem.W.nsIn K mainGlobals "bit" = some (some (.ref f_bit))) (l_bit : K.lookup f_bit = some ⟨oc_bit, od_bit, .func (PySem.W.fnOf "bit" "bit" (defArgs (top 17)) (defBody (top 17)) (defScope (top 17)) .none kV_bit dc_bit pm_bit an_bit cd_bit ct_bit), sl_bit⟩) (cc_bit : PySem.W.codeIn K cd_bit "bit" = true) (k_bit : PySem.W.keepIn K (.ref f_bit) = true)
    {f_divisor : Addr} {oc_divisor kV_divisor dc_divisor pm_divisor cd_divisor ct_divisor : Value} {od_divisor an_divisor : Option Addr} {sl_divisor : Array (Option Value)} (a_divisor : PySem.W.nsIn K mainGlobals "divisor" = some (some (.ref f_divisor))) (l_divisor : K.lookup f_divisor = some ⟨oc_divisor, od_divisor, .func (PySem.W.fnOf "divisor" "divisor" (defArgs (top 7)) (defBody (top 7)) (defScope (top 7)) .none kV_divisor dc_divisor pm_divisor an_divisor cd_divisor ct_divisor), sl_divisor⟩) (cc_divisor : PySem.W.codeIn K cd_divisor "divisor" = true) (k_divisor : PySem.W.keepIn K (.ref f_divisor) = true)
    {f_is_whole : Addr} {oc_is_whole kV_is_whole dc_is_whole pm_is_whole cd_is_whole ct_is_whole : Value} {od_is_whole an_is_whole : Option Addr} {sl_is_whole : Array (Option Value)} (a_is_whole : PySem.W.nsIn K mainGlobals "is_whole" = some (some (.ref f_is_whole))) (l_is_whole : K.lookup f_is_whole = some ⟨oc_is_whole, od_is_whole, .func (PySem.W.fnOf "is_whole" "is_whole" (defArgs (top 6)) (defBody (top 6)) (defScope (top 6)) .none kV_is_whole dc_is_whole pm_is_whole an_is_whole cd_is_whole ct_is_whole), sl_is_whole⟩) (cc_is_whole : PySem.W.codeIn K cd_is_whole "is_whole" = true) (k_is_whole : PySem.W.keepIn K (.ref f_is_whole) = true)
    {f_is_share : Addr} {oc_is_share kV_is_share dc_is_share pm_is_share cd_is_share ct_is_share : Value} {od_is_share an_is_share : Option Addr} {sl_is_share : Array (Option Value)} (a_is_share : PySem.W.nsIn K mainGlobals "is_share" = some (some (.ref f_is_share))) (l_is_share : K.lookup f_is_share = some ⟨oc_is_share, od_is_share, .func (PySem.W.fnOf "is_share" "is_share" (defArgs (top 9)) (defBody (top 9)) (defScope (top 9)) .none kV_is_share dc_is_share pm_is_share an_is_share cd_is_share ct_is_share), sl_is_share⟩) (cc_is_share : PySem.W.codeIn K cd_is_share "is_share" = true) (k_is_share : PySem.W.keepIn K (.ref f_is_share) = true)
    {f_is_chance : Addr} {oc_is_chance kV_is_chance dc_is_chance pm_is_chance cd_is_chance ct_is_chance : Value} {od_is_chance an_is_chance : Option Addr} {sl_is_chance : Array (Option Value)} (a_is_chance : PySem.W.nsIn K mainGlobals "is_chance" = some (some (.ref f_is_chance))) (l_is_chance : K.lookup f_is_chance = some ⟨oc_is_chance, od_is_chance, .func (PySem.W.fnOf "is_chance" "is_chance" (defArgs (top 14)) (defBody (top 14)) (defScope (top 14)) .none kV_is_chance dc_is_chance pm_is_chance an_is_chance cd_is_chance ct_is_chance), sl_is_chance⟩) (cc_is_chance : PySem.W.codeIn K cd_is_chance "is_chance" = true) (k_is_chance : PySem.W.keepIn K (.ref f_is_chance) = true)
    {f_bits_of : Addr} {oc_bits_of kV_bits_of dc_bits_of pm_bits_of cd_bits_of ct_bits_of : Value} {od_bits_of an_bits_of : Option Addr} {sl_bits_of : Array (Option Value)} (a_bits_of : PySem.W.nsIn K mainGlobals "bits_of" = some (some (.ref f_bits_of))) (l_bits_of : K.lookup f_bits_of = some ⟨oc_bits_of, od_bits_of, .func (PySem.W.fnOf "bits_of" "bits_of" (defArgs (top 18)) (defBody (top 18)) (defScope (top 18)) .none kV_bits_of dc_bits_of pm_bits_of an_bits_of cd_bits_of ct_bits_of), sl_bits_of⟩) (cc_bits_of : PySem.W.codeIn K cd_bits_of "bits_of" = true) (k_bits_of : PySem.W.keepIn K (.ref f_bits_of) = true)
    {f_low : Addr} {oc_low kV_low dc_low pm_low cd_low ct_low : Value} {od_low an_low : Option Addr} {sl_low : Array (Option Value)} (a_low : PySem.W.nsIn K mainGlobals "low" = some (some (.ref f_low))) (l_low : K.lookup f_low = some ⟨oc_low, od_low, .func (PySem.W.fnOf "low" "low" (defArgs (top 8)) (defBody (top 8)) (defScope (top 8)) .none kV_low dc_low pm_low an_low cd_low ct_low), sl_low⟩) (cc_low : PySem.W.codeIn K cd_low "low" = true) (k_low : PySem.W.keepIn K (.ref f_low) = true)
    {f_less : Addr} {oc_less kV_less dc_less pm_less cd_less ct_less : Value} {od_less an_less : Option Addr} {sl_less : Array (Option Value)} (a_less : PySem.W.nsIn K mainGlobals "less" = some (some (.ref f_less))) (l_less : K.lookup f_less = some ⟨oc_less, od_less, .func (PySem.W.fnOf "less" "less" (defArgs (top 11)) (defBody (top 11)) (defScope (top 11)) .none kV_less dc_less pm_less an_less cd_less ct_less), sl_less⟩) (cc_less : PySem.W.codeIn K cd_less "less" = true) (k_less : PySem.W.keepIn K (.ref f_less) = true)
    {f_over : Addr} {oc_over kV_over dc_over pm_over cd_over ct_over : Value} {od_over an_over : Option Addr} {sl_over : Array (Option Value)} (a_over : PySem.W.nsIn K mainGlobals "over" = some (some (.ref f_over))) (l_over : K.lookup f_over = some ⟨oc_over, od_over, .func (PySem.W.fnOf "over" "over" (defArgs (top 13)) (defBody (top 13)) (defScope (top 13)) .none kV_over dc_over pm_over an_over cd_over ct_over), sl_over⟩) (cc_over : PySem.W.codeIn K cd_over "over" = true) (k_over : PySem.W.keepIn K (.ref f_over) = true)
    {f_plus : Addr} {oc_plus kV_plus dc_plus pm_plus cd_plus ct_plus : Value} {od_plus an_plus : Option Addr} {sl_plus : Array (Option Value)} (a_plus : PySem.W.nsIn K mainGlobals "plus" = some (some (.ref f_plus))) (l_plus : K.lookup f_plus = some ⟨oc_plus, od_plus, .func (PySem.W.fnOf "plus" "plus" (defArgs (top 10)) (defBody (top 10)) (defScope (top 10)) .none kV_plus dc_plus pm_plus an_plus cd_plus ct_plus), sl_plus⟩) (cc_plus : PySem.W.codeIn K cd_plus "plus" = true) (k_plus : PySem.W.keepIn K (.ref f_plus) = true)
    {f_times : Addr} {oc_times kV_times dc_times pm_times cd_times ct_times : Value} {od_times an_times : Option Addr} {sl_times : Array (Option Value)} (a_times : PySem.W.nsIn K mainGlobals "times" = some (some (.ref f_times))) (l_times : K.lookup f_times = some ⟨oc_times, od_times, .func (PySem.W.fnOf "times" "times" (defArgs (top 12)) (defBody (top 12)) (defScope (top 12)) .none kV_times dc_times pm_times an_times cd_times ct_times), sl_times⟩) (cc_times : PySem.W.codeIn K cd_times "times" = true) (k_times : PySem.W.keepIn K (.ref f_times) = true)
    {f_weighed_bits : Addr} {oc_weighed_bits kV_weighed_bits dc_weighed_bits pm_weighed_bits cd_weighed_bits ct_weighed_bits : Value} {od_weighed_bits an_weighed_bits : Option Addr} {sl_weighed_bits : Array (Option Value)} (a_weighed_bits : PySem.W.nsIn K mainGlobals "weighed_bits" = some (some (.ref f_weighed_bits))) (l_weighed_bits : K.lookup f_weighed_bits = some ⟨oc_weighed_bits, od_weighed_bits, .func (PySem.W.fnOf "weighed_bits" "weighed_bits" (defArgs (top 19)) (defBody (top 19)) (defScope (top 19)) .none kV_weighed_bits dc_weighed_bits pm_weighed_bits an_weighed_bits cd_weighed_bits ct_weighed_bits), sl_weighed_bits⟩) (cc_weighed_bits : PySem.W.codeIn K cd_weighed_bits "weighed_bits" = true) (k_weighed_bits : PySem.W.keepIn K (.ref f_weighed_bits) = true)
    {f_law : Addr} {oc_law kV_law dc_law pm_law cd_law ct_law : Value} {od_law an_law : Option Addr} {sl_law : Array (Option Value)} (a_law : PySem.W.nsIn K mainGlobals "law" = some (some (.ref f_law))) (l_law : K.lookup f_law = some ⟨oc_law, od_law, .func (PySem.W.fnOf "law" "law" (defArgs (top 30)) (defBody (top 30)) (defScope (top 30)) .none kV_law dc_law pm_law an_law cd_law ct_law), sl_law⟩) (cc_law : PySem.W.codeIn K cd_law "law" = true) (k_law : PySem.W.keepIn K (.ref f_law) = true) :
    ∃ fd : FuncData, (∀ (s : Shared) (v : Value), BindsTo s fd ⟨[v], []⟩ [("script", v)]) ∧ ∀ base : Heap, K.In base → base.Ns mainGlobals mg → FnOk l.prog w K mg base (L2.CX l.prog w) 10 fa fd ["script"] (spLaw K) := by
  have T : Top K mg := top_mk X G z_ValueError z_abs z_bool z_enumerate z_int z_isinstance z_len z_list z_range z_str z_tuple c_MOST_ROWS xa_BadPlan xx_BadPlan xk_BadPlan xb_BadPlan xt_BadPlan xa_BadShare xx_BadShare xk_BadShare xb_BadShare xt_BadShare ee_n ee_t ehd_BadPlan ehg_BadPlan ehk_BadPlan eha_BadPlan ehm_BadPlan es_BadPlan_BadPlan es_BadShare_BadPlan es_BadPlan_ValueError a_law_bit l_law_bit cc_law_bit k_law_bit a_law_draw l_law_draw cc_law_draw k_law_draw a_law_draws l_law_draws cc_law_draws k_law_draws a_law_low l_law_low cc_law_low k_law_low a_law_plus l_law_plus cc_law_plus k_law_plus a_law_same l_law_same cc_law_same k_law_same a_bit l_bit cc_bit k_bit a_divisor l_divisor cc_divisor k_divisor a_is_whole l_is_whole cc_is_whole k_is_whole a_is_share l_is_share cc_is_share k_is_share a_is_chance l_is_chance cc_is_chance k_is_chance a_bits_of l_bits_of cc_bits_of k_bits_of a_low l_low cc_low k_low a_less l_less cc_less k_less a_over l_over cc_over k_over a_plus l_plus cc_plus k_plus a_times l_times cc_times k_times a_weighed_bits l_weighed_bits cc_weighed_bits k_weighed_bits a_law l_law cc_law k_law
  obtain ⟨f, fd, Fn, hm⟩ := T.d_law
  cases hfa.symm.trans hm
  exact ⟨fd, law_fd Fn (fun _ _ _ _ _ _ _ => rfl), fun base _ _ => law_end (ok_all T Fn) hl⟩
end K57
namespace K57
open PySem L2 L4
/-! the figures of a chance -/
def stp (b x : Nat) : Nat := 2 * x % b
def bt (b x : Nat) : Nat := 2 * x / b
def rr (a b : Nat) : Nat → Nat
  | 0 => a
  | k + 1 => stp b (rr a b k)
def fig (a b k : Nat) : Nat := bt b (rr a b k)
theorem rr_lt {a b : Nat} (h : a < b) (k : Nat) : rr a b k < b := by
  cases k with
  | zero => exact h
  | succ k => exact Nat.mod_lt _ (by omega)
theorem fig_lt {a b : Nat} (h : a < b) (k : Nat) : fig a b k < 2 := by
  have := rr_lt h k
  unfold fig bt
  exact Nat.div_lt_of_lt_mul (by omega)
theorem rr_add {a b s m : Nat} (h : rr a b s = rr a b m) (k : Nat) : rr a b (s + k) = rr a b (m + k) := by
  induction k with
  | zero => exact h
  | succ k ih => rw [← Nat.add_assoc, ← Nat.add_assoc, rr, rr, ih]
/-! computed in the kernel -/
def memB (x : Nat) : List Nat → Bool
  | [] => false
  | y :: l => bif Nat.beq x y then true else memB x l
def sts (b : Nat) : Nat → Nat → List Nat
  | 0, _ => []
  | n + 1, x => x :: sts b n (stp b x)
def fRep : List Nat → List Nat → Nat
  | seen, x :: l => bif memB x seen then 0 else fRep (x :: seen) l + 1
  | _, [] => 0
def idxB (x : Nat) : List Nat → Nat
  | [] => 0
  | y :: l => bif Nat.beq x y then 0 else idxB x l + 1
def eqB : List Nat → List Nat → Bool
  | [], [] => true
  | x :: l, y :: m => bif Nat.beq x y then eqB l m else false
  | _, _ => false
def wsum (N : Nat) : Nat → List Nat → Nat     -- places from k on, each figure times its place
  | _, [] => 0
  | k, x :: l => x * (k + 1) * 2 ^ (N - (k + 1)) + wsum N (k + 1) l
def csum (N : Nat) : Nat → List Nat → Nat
  | _, [] => 0
  | k, x :: l => x * 2 ^ (N - (k + 1)) + csum N (k + 1) l
def chk (a b : Nat) : Bool :=
  (fun L : List Nat => (fun m : Nat => (fun s : Nat => (fun B : List Nat => (fun A : List Nat => (fun p : Nat => (fun T : Nat => (fun M : Nat => (fun S : Nat =>
    Nat.blt m 61 && Nat.blt s m &&
    (List.range p).all (fun k => Nat.beq k 0 || !(Nat.beq (p % k) 0) || !(eqB A (List.replicate (p / k) (A.take k)).flatten)) &&
    (Nat.beq s 0 || !(Nat.beq (B.getD (s - 1) 2) (B.getD (m - 1) 3))) &&
    Nat.ble (S * M) (T * 2 ^ 60) && Nat.ble (T * 2 ^ 60) ((S + 62) * M))
    (wsum 60 0 (B.take 60))) (2 ^ m * (2 ^ p - 1) ^ 2))
    (wsum m 0 (B.take s) * (2 ^ p - 1) ^ 2 + wsum m s A * 2 ^ p * (2 ^ p - 1) + p * csum m s A * 2 ^ p)) (m - s)) ((B.drop s).take (m - s))) (L.map (bt b))) (idxB (L.getD m 0) L)) (fRep [] L)) (sts b 61 a)
theorem all_chk : (List.range 61).all (fun b => (List.range b).all fun a => !(Nat.beq (Nat.gcd a b) 1) || chk a b) = true := by decide +kernel
end K57
namespace K57
open PySem L2 L4
theorem memB_iff (x : Nat) (l : List Nat) : memB x l = true ↔ x ∈ l := by
  induction l with
  | nil => simp [memB]
  | cons y l ih =>
    rw [memB, List.mem_cons]
    cases h : Nat.beq x y with
    | true => have := Nat.eq_of_beq_eq_true h; simp [this]
    | false => have := Nat.ne_of_beq_eq_false h; simp [this, ih]
theorem rr_step (a b k : Nat) : rr a b (k + 1) = rr (stp b a) b k := by
  induction k with
  | zero => rfl
  | succ k ih => rw [rr, ih, rr]
theorem sts_vec (b : Nat) : ∀ (n a : Nat), sts b n a = vec (rr a b) n := fun n => by
  induction n with
  | zero => intro a; rfl
  | succ n ih =>
    intro a
    rw [sts, ih, vec_succ']
    congr 1
    exact vec_ext fun k _ => (rr_step a b k).symm
theorem fRep_spec (f : Nat → Nat) : ∀ (n k : Nat) (seen : List Nat), (∀ x, x ∈ seen ↔ ∃ j, j < k ∧ f j = x) → fRep seen (vec (fun i => f (k + i)) n) ≤ n ∧ (∀ i, i < fRep seen (vec (fun i => f (k + i)) n) → ∀ j, j < k + i → f j ≠ f (k + i)) ∧
    (fRep seen (vec (fun i => f (k + i)) n) < n → ∃ j, j < k + fRep seen (vec (fun i => f (k + i)) n) ∧ f j = f (k + fRep seen (vec (fun i => f (k + i)) n))) := fun n => by
  induction n with
  | zero =>
    intro k seen h
    have e : fRep seen (vec (fun i => f (k + i)) 0) = 0 := by rw [vec_zero]; cases seen <;> rfl
    rw [e]
    exact ⟨Nat.le_refl _, fun i hi => by omega, fun hi => by omega⟩
  | succ n ih =>
    intro k seen h
    have ev : vec (fun i => f (k + i)) (n + 1) = f k :: vec (fun i => f (k + 1 + i)) n := by
      rw [vec_succ']
      congr 1
      exact vec_ext fun i _ => by rw [show k + (i + 1) = k + 1 + i by omega]
    rw [ev]
    have eF : fRep seen (f k :: vec (fun i => f (k + 1 + i)) n) = bif memB (f k) seen then 0 else fRep (f k :: seen) (vec (fun i => f (k + 1 + i)) n) + 1 := by cases seen <;> rfl
    rw [eF]
    cases hm : memB (f k) seen with
    | true =>
      rw [memB_iff] at hm
      obtain ⟨j, hj, e⟩ := (h _).mp hm
      simp only [cond_true]
      exact ⟨Nat.zero_le _, fun i hi => by omega, fun _ => ⟨j, hj, e⟩⟩
    | false =>
      have hn : ¬ (f k ∈ seen) := fun z => by rw [(memB_iff _ _).mpr z] at hm; cases hm
      obtain ⟨h1, h2, h3⟩ := ih (k + 1) (f k :: seen) (fun x => by
        rw [List.mem_cons, h]
        constructor
        · rintro (rfl | ⟨j, hj, e⟩)
          · exact ⟨k, by omega, rfl⟩
          · exact ⟨j, by omega, e⟩
        · rintro ⟨j, hj, e⟩
          by_cases hk : j = k
          · subst hk; exact .inl e.symm
          · exact .inr ⟨j, by omega, e⟩)
      simp only [cond_false]
      refine ⟨by omega, fun i hi j hj => ?_, fun hl => ?_⟩
      · cases i with
        | zero => exact fun e => hn ((h _).mpr ⟨j, by omega, e⟩)
        | succ i =>
          have := h2 i (by omega) j (by omega)
          rwa [show k + 1 + i = k + (i + 1) by omega] at this
      · obtain ⟨j, hj, e⟩ := h3 (by omega)
        refine ⟨j, by omega, ?_⟩
        rw [e]
        congr 1
        omega
theorem idxB_spec (f : Nat → Nat) (x : Nat) : ∀ (n k : Nat), idxB x (vec (fun i => f (k + i)) n) < n → f (k + idxB x (vec (fun i => f (k + i)) n)) = x ∧ ∀ i, i < idxB x (vec (fun i => f (k + i)) n) → f (k + i) ≠ x := fun n => by
  induction n with
  | zero => intro k h; omega
  | succ n ih =>
    intro k h
    have ev : vec (fun i => f (k + i)) (n + 1) = f k :: vec (fun i => f (k + 1 + i)) n := by
      rw [vec_succ']
      congr 1
      exact vec_ext fun i _ => by rw [show k + (i + 1) = k + 1 + i by omega]
    rw [ev] at h ⊢
    rw [idxB] at h ⊢
    cases hb : Nat.beq x (f k) with
    | true =>
      rw [hb] at h
      simp only [cond_true]
      exact ⟨(Nat.eq_of_beq_eq_true hb).symm, fun i hi => by omega⟩
    | false =>
      rw [hb] at h
      simp only [cond_false] at h ⊢
      obtain ⟨h1, h2⟩ := ih (k + 1) (by omega)
      refine ⟨(congrArg f (by omega)).trans h1, fun i hi => ?_⟩
      cases i with
      | zero => exact fun e => Nat.ne_of_beq_eq_false hb e.symm
      | succ i =>
        have := h2 i (by omega)
        rwa [show k + 1 + i = k + (i + 1) by omega] at this
theorem eqB_iff : ∀ (l m : List Nat), eqB l m = true ↔ l = m
  | [], [] => by simp [eqB]
  | [], _ :: _ => by simp [eqB]
  | _ :: _, [] => by simp [eqB]
  | x :: l, y :: m => by
    rw [eqB]
    cases h : Nat.beq x y with
    | true => have := Nat.eq_of_beq_eq_true h; simp [this, eqB_iff l m]
    | false => have := Nat.ne_of_beq_eq_false h; simp [this]
/-! sums with halves -/
def hf : Nat → Rat
  | 0 => 1
  | k + 1 => hf k / 2
def tw (k : Nat) : Rat := ((2 ^ k : Nat) : Rat)
theorem tw_succ (k : Nat) : tw (k + 1) = 2 * tw k := by
  unfold tw
  rw [Nat.pow_succ, Nat.mul_comm, Rat.natCast_mul]
  rfl
theorem tw_hf (k : Nat) : tw k * hf k = 1 := by
  induction k with
  | zero => show ((1 : Nat) : Rat) * 1 = 1; rw [Rat.mul_one]; rfl
  | succ k ih =>
    rw [tw_succ, hf]
    grind
theorem tw_add (i j : Nat) : tw (i + j) = tw i * tw j := by
  unfold tw
  rw [Nat.pow_add, Rat.natCast_mul]
theorem tw_pos (k : Nat) : 0 < tw k := Rat.natCast_pos.mpr (Nat.pow_pos (by decide))
theorem hf_pos (k : Nat) : 0 < hf k := by
  induction k with
  | zero => unfold hf; decide
  | succ k ih =>
    rw [hf]
    grind
theorem tw_sub {N k : Nat} (h : k ≤ N) : tw N * hf k = tw (N - k) := by
  have e : N = (N - k) + k := by omega
  have h1 := tw_hf k
  have h2 := tw_add (N - k) k
  rw [← e] at h2
  rw [h2]
  grind
theorem wsum_eq (N : Nat) (g : Nat → Nat) : ∀ (n k : Nat), k + n ≤ N → ((wsum N k (vec (fun i => g (k + i)) n) : Nat) : Rat) = tw N * sumR (fun i => (g (k + i) : Rat) * (((k + i + 1 : Nat) : Rat) * hf (k + i + 1))) n := fun n => by
  induction n with
  | zero => intro k _; show ((0 : Nat) : Rat) = _; rw [sumR, Rat.mul_zero]; rfl
  | succ n ih =>
    intro k h
    have ev : vec (fun i => g (k + i)) (n + 1) = g k :: vec (fun i => g (k + 1 + i)) n := by
      rw [vec_succ']
      congr 1
      exact vec_ext fun i _ => by rw [show k + (i + 1) = k + 1 + i by omega]
    rw [ev, wsum, Rat.natCast_add, ih (k + 1) (by omega), sumR_first, Rat.natCast_mul, Rat.natCast_mul]
    have e1 : ((2 ^ (N - (k + 1)) : Nat) : Rat) = tw N * hf (k + 1) := (tw_sub (by omega)).symm
    have e2 : sumR (fun i => (g (k + 1 + i) : Rat) * (((k + 1 + i + 1 : Nat) : Rat) * hf (k + 1 + i + 1))) n = sumR (fun i => (g (k + (i + 1)) : Rat) * (((k + (i + 1) + 1 : Nat) : Rat) * hf (k + (i + 1) + 1))) n :=
      sumR_ext fun i _ => by rw [show k + 1 + i = k + (i + 1) by omega]
    rw [e1, e2, Nat.add_zero]
    grind
theorem csum_eq (N : Nat) (g : Nat → Nat) : ∀ (n k : Nat), k + n ≤ N → ((csum N k (vec (fun i => g (k + i)) n) : Nat) : Rat) = tw N * sumR (fun i => (g (k + i) : Rat) * hf (k + i + 1)) n := fun n => by
  induction n with
  | zero => intro k _; show ((0 : Nat) : Rat) = _; rw [sumR, Rat.mul_zero]; rfl
  | succ n ih =>
    intro k h
    have ev : vec (fun i => g (k + i)) (n + 1) = g k :: vec (fun i => g (k + 1 + i)) n := by
      rw [vec_succ']
      congr 1
      exact vec_ext fun i _ => by rw [show k + (i + 1) = k + 1 + i by omega]
    rw [ev, csum, Rat.natCast_add, ih (k + 1) (by omega), sumR_first, Rat.natCast_mul]
    have e1 : ((2 ^ (N - (k + 1)) : Nat) : Rat) = tw N * hf (k + 1) := (tw_sub (by omega)).symm
    have e2 : sumR (fun i => (g (k + 1 + i) : Rat) * hf (k + 1 + i + 1)) n = sumR (fun i => (g (k + (i + 1)) : Rat) * hf (k + (i + 1) + 1)) n :=
      sumR_ext fun i _ => by rw [show k + 1 + i = k + (i + 1) by omega]
    rw [e1, e2, Nat.add_zero]
    grind
/-- the figures' places, each weighed -/
def W (a b n : Nat) : Rat := sumR (fun k => (fig a b k : Rat) * (((k + 1 : Nat) : Rat) * hf (k + 1))) n
def qq (p : Nat) : Rat := 1 / (1 - hf p)
def again (a b s p j : Nat) : Rat := (fig a b (s + j) : Rat) * ((((s + j + 1 : Nat) : Rat) * hf (s + j + 1)) * qq p + ((p : Rat) * hf (s + j + 1)) * hf p * (qq p * qq p))
def told (a b m s : Nat) : Rat := W a b s + sumR (again a b s (m - s)) (m - s)
structure Figs (a b m s : Nat) : Prop where
  m60 : m ≤ 60
  sm : s < m
  rep : rr a b s = rr a b m
  new : ∀ i, i < m → ∀ j, j < i → rr a b j ≠ rr a b i
  first : ∀ i, i < s → rr a b i ≠ rr a b m
  least : ∀ k, k < m - s → 0 < k → (m - s) % k = 0 → vec (fun i => fig a b (s + i)) (m - s) ≠ (List.replicate ((m - s) / k) (vec (fun i => fig a b (s + i)) k)).flatten
  last : 0 < s → fig a b (s - 1) ≠ fig a b (m - 1)
  lo : W a b 60 ≤ told a b m s
  hi : told a b m s ≤ W a b 60 + 62 * hf 60
theorem between {w t D T hh : Rat} (hD : 0 < D) (hT : 0 < T) (e : T * hh = 1) (h1 : w * T * D ≤ t * D * T) (h2 : t * D * T ≤ (w * T + 62) * D) : w ≤ t ∧ t ≤ w + 62 * hh := by
  have hDT := Rat.mul_pos hD hT
  constructor
  · refine Rat.le_of_mul_le_mul_right (c := D * T) ?_ hDT
    have e1 : w * (D * T) = w * T * D := by grind
    have e2 : t * (D * T) = t * D * T := by grind
    rw [e1, e2]; exact h1
  · refine Rat.le_of_mul_le_mul_right (c := D * T) ?_ hDT
    have e1 : (w + 62 * hh) * (D * T) = (w * T + 62) * D := by grind
    have e2 : t * (D * T) = t * D * T := by grind
    rw [e1, e2]; exact h2
def mOf (a b : Nat) : Nat := fRep [] (sts b 61 a)
def sOf (a b : Nat) : Nat := idxB ((sts b 61 a).getD (mOf a b) 0) (sts b 61 a)
theorem figs {a b : Nat} (h : a < b) (hb : b ≤ 60) (hc : Nat.gcd a b = 1) : ∃ m s, m = mOf a b ∧ s = sOf a b ∧ Figs a b m s := by
  have hk : chk a b = true := by
    have := List.all_eq_true.mp all_chk b (List.mem_range.mpr (by omega))
    have := List.all_eq_true.mp this a (List.mem_range.mpr h)
    rw [hc] at this
    simpa using this
  unfold chk at hk
  rw [sts_vec] at hk
  dsimp only at hk
  have F := fRep_spec (rr a b) 61 0 [] (fun x => by simp)
  simp only [Nat.zero_add] at F
  obtain ⟨m, hm⟩ : ∃ m, fRep [] (vec (rr a b) 61) = m := ⟨_, rfl⟩
  rw [show (vec (fun i => rr a b i) 61) = vec (rr a b) 61 from rfl] at F
  rw [hm] at hk F
  obtain ⟨_, F2, F3⟩ := F
  have hg : ∀ k, k < 61 → ∀ d, (vec (rr a b) 61).getD k d = rr a b k := fun k hk d => by rw [List.getD_eq_getElem?_getD, vec_get hk]; rfl
  obtain ⟨s, hs⟩ : ∃ s, idxB ((vec (rr a b) 61).getD m 0) (vec (rr a b) 61) = s := ⟨_, rfl⟩
  rw [hs, vec_map] at hk
  simp only [Bool.and_eq_true, Bool.or_eq_true, List.all_eq_true, List.mem_range, Bool.not_eq_true'] at hk
  obtain ⟨⟨⟨⟨⟨k1, k2⟩, k3⟩, k4⟩, k5⟩, k6⟩ := hk
  have m61 : m < 61 := Nat.lt_of_succ_le (Nat.le_of_ble_eq_true k1)
  have sm : s < m := Nat.lt_of_succ_le (Nat.le_of_ble_eq_true k2)
  have hms : m = mOf a b := by unfold mOf; rw [sts_vec]; exact hm.symm
  have hss : s = sOf a b := by unfold sOf; rw [← hms, sts_vec]; exact hs.symm
  rw [hg m m61] at hs
  have S := idxB_spec (rr a b) (rr a b m) 61 0
  simp only [Nat.zero_add] at S
  rw [show (vec (fun i => rr a b i) 61) = vec (rr a b) 61 from rfl, hs] at S
  obtain ⟨S1, S2⟩ := S (by omega)
  have eA : ((vec (fun k => bt b (rr a b k)) 61).drop s).take (m - s) = vec (fun i => fig a b (s + i)) (m - s) := by
    rw [vec_drop, vec_take (by omega)]; rfl
  have eB : (vec (fun k => bt b (rr a b k)) 61).take s = vec (fun i => fig a b (0 + i)) s := by
    rw [vec_take (by omega)]; exact vec_ext fun i _ => by rw [Nat.zero_add]; rfl
  have eC : (vec (fun k => bt b (rr a b k)) 61).take 60 = vec (fun i => fig a b (0 + i)) 60 := by
    rw [vec_take (by omega)]; exact vec_ext fun i _ => by rw [Nat.zero_add]; rfl
  rw [eA] at k3
  rw [eA, eB, eC] at k5 k6
  have hp : 0 < m - s := by omega
  -- the sums as fractions
  have s1 := wsum_eq m (fig a b) s 0 (by omega)
  have s2 := wsum_eq m (fig a b) (m - s) s (by omega)
  have s3 := csum_eq m (fig a b) (m - s) s (by omega)
  have s4 := wsum_eq 60 (fig a b) 60 0 (by omega)
  generalize eX1 : wsum m 0 (vec (fun i => fig a b (0 + i)) s) = X1 at s1 k5 k6
  generalize eX2 : wsum m s (vec (fun i => fig a b (s + i)) (m - s)) = X2 at s2 k5 k6
  generalize eX3 : csum m s (vec (fun i => fig a b (s + i)) (m - s)) = X3 at s3 k5 k6
  generalize eX4 : wsum 60 0 (vec (fun i => fig a b (0 + i)) 60) = X4 at s4 k5 k6
  have hpw : 1 < 2 ^ (m - s) := Nat.one_lt_two_pow (by omega)
  obtain ⟨u, hu⟩ : ∃ u, 2 ^ (m - s) = u + 1 := ⟨2 ^ (m - s) - 1, by omega⟩
  have hu0 : 0 < u := by omega
  have eu : tw (m - s) = (u : Rat) + 1 := by unfold tw; rw [hu, Rat.natCast_add]; rfl
  rw [hu] at k5 k6
  simp only [Nat.add_sub_cancel] at k5 k6
  have k5 := Nat.le_of_ble_eq_true k5
  have k6 := Nat.le_of_ble_eq_true k6
  have hth := tw_hf (m - s)
  have huR : (0 : Rat) < (u : Rat) := Rat.natCast_pos.mpr hu0
  have q1 : qq (m - s) * (u : Rat) = tw (m - s) := by
    unfold qq
    have hne : (1 - hf (m - s)) ≠ 0 := fun e => by
      have : hf (m - s) = 1 := by grind
      rw [this, eu] at hth
      grind
    have := Rat.div_mul_cancel (a := 1) hne
    grind
  -- told times its denominator
  have eT : told a b m s * (tw m * (u : Rat) * (u : Rat)) = (X1 : Rat) * (u : Rat) * (u : Rat) + (X2 : Rat) * tw (m - s) * (u : Rat) + ((m - s : Nat) : Rat) * (X3 : Rat) * tw (m - s) := by
    have e1 : sumR (again a b s (m - s)) (m - s) = sumR (fun i => (fig a b (s + i) : Rat) * (((s + i + 1 : Nat) : Rat) * hf (s + i + 1))) (m - s) * qq (m - s) + sumR (fun i => (fig a b (s + i) : Rat) * hf (s + i + 1)) (m - s) * (((m - s : Nat) : Rat) * hf (m - s) * (qq (m - s) * qq (m - s))) := by
      rw [← sumR_mul', ← sumR_mul', ← sumR_add]
      exact sumR_ext fun i _ => by unfold again; grind
    have e2 : W a b s = sumR (fun i => (fig a b (0 + i) : Rat) * (((0 + i + 1 : Nat) : Rat) * hf (0 + i + 1))) s := by
      unfold W
      exact sumR_ext fun i _ => by rw [Nat.zero_add]
    unfold told
    rw [e1, e2, s1, s2, s3]
    generalize sumR (fun i => (fig a b (0 + i) : Rat) * (((0 + i + 1 : Nat) : Rat) * hf (0 + i + 1))) s = Y1
    generalize sumR (fun i => (fig a b (s + i) : Rat) * (((s + i + 1 : Nat) : Rat) * hf (s + i + 1))) (m - s) = Y2
    generalize sumR (fun i => (fig a b (s + i) : Rat) * hf (s + i + 1)) (m - s) = Y3
    rw [← q1] at hth ⊢
    grind
  have eS : W a b 60 * tw 60 = (X4 : Rat) := by
    rw [s4]
    have e2 : W a b 60 = sumR (fun i => (fig a b (0 + i) : Rat) * (((0 + i + 1 : Nat) : Rat) * hf (0 + i + 1))) 60 := by
      unfold W
      exact sumR_ext fun i _ => by rw [Nat.zero_add]
    rw [e2, Rat.mul_comm]
  have e60 : ((2 ^ 60 : Nat) : Rat) = tw 60 := rfl
  have em : ((2 ^ m : Nat) : Rat) = tw m := rfl
  have ep : (((u + 1 : Nat)) : Rat) = tw (m - s) := by rw [eu, Rat.natCast_add]; rfl
  have k5R : (X4 : Rat) * (tw m * (u : Rat) * (u : Rat)) ≤ ((X1 : Rat) * (u : Rat) * (u : Rat) + (X2 : Rat) * tw (m - s) * (u : Rat) + ((m - s : Nat) : Rat) * (X3 : Rat) * tw (m - s)) * tw 60 := by
    have := Rat.natCast_le_natCast.mpr k5
    simp only [Rat.natCast_mul, Rat.natCast_add, Nat.pow_succ, Nat.pow_zero, Nat.one_mul] at this
    rw [← ep, ← em, ← e60]
    simp only [Rat.natCast_mul, Rat.natCast_add, Nat.pow_succ, Nat.pow_zero, Nat.one_mul]
    grind
  have k6R : ((X1 : Rat) * (u : Rat) * (u : Rat) + (X2 : Rat) * tw (m - s) * (u : Rat) + ((m - s : Nat) : Rat) * (X3 : Rat) * tw (m - s)) * tw 60 ≤ ((X4 : Rat) + 62) * (tw m * (u : Rat) * (u : Rat)) := by
    have := Rat.natCast_le_natCast.mpr k6
    simp only [Rat.natCast_mul, Rat.natCast_add, Nat.pow_succ, Nat.pow_zero, Nat.one_mul] at this
    have e62 : ((62 : Nat) : Rat) = 62 := rfl
    rw [e62] at this
    rw [← ep, ← em, ← e60]
    simp only [Rat.natCast_mul, Rat.natCast_add, Nat.pow_succ, Nat.pow_zero, Nat.one_mul]
    grind
  have hD : 0 < tw m * (u : Rat) * (u : Rat) := Rat.mul_pos (Rat.mul_pos (tw_pos m) huR) huR
  have h60 := tw_pos 60
  have h60' := tw_hf 60
  rw [← eT, ← eS] at k5R k6R
  refine ⟨m, s, hms, hss, by omega, sm, S1, fun i hi j hj => F2 i hi j hj, fun i hi => S2 i hi, ?_, ?_, ?_, ?_⟩
  · intro k hk hk0 hmod e
    rcases k3 k hk with (h1 | h1) | h1
    · have := Nat.eq_of_beq_eq_true h1; omega
    · rw [hmod] at h1; cases h1
    · rw [vec_take (by omega), (eqB_iff _ _).mpr e] at h1; cases h1
  · intro hs0 e
    have gB : ∀ k, k < 61 → ∀ d, (vec (fun k => bt b (rr a b k)) 61).getD k d = fig a b k := fun k hk d => by rw [List.getD_eq_getElem?_getD, vec_get hk]; rfl
    rcases k4 with h1 | h1
    · have := Nat.eq_of_beq_eq_true h1; omega
    · rw [gB _ (by omega), gB _ (by omega), e, Nat.beq_refl] at h1; cases h1
  · exact (between hD h60 h60' k5R k6R).1
  · exact (between hD h60 h60' k5R k6R).2
end K57
namespace K57
open PySem L2 L4
theorem f_low : F_low = lowF := rfl
theorem f_law_low : F_law_low = lawLow2F := rfl
theorem f_draw : F_law_draw = drawF := rfl
theorem f_draws : F_law_draws = drawsF := rfl
theorem f_chance : F_is_chance = isChanceF := rfl
theorem f_same : F_law_same = sameF := by
  funext n
  induction n with
  | zero => rfl
  | succ n ih => show mkF 2 3 (g_law_same (F_law_same n)) = mkF 2 3 (sameG (sameF n)); rw [ih]; rfl
theorem po : Ops 3000 F_plus F_less F_times F_over := ops_prog
theorem lo : Ops 3000 F_law_plus (mkF 2 2 (lessG lawLow2F)) (mkF 2 2 (timesG lawLow2F)) (mkF 2 2 (overG lawLow2F)) := ops_law2
def shD (a b : Nat) : D := .tup [.int a, .int b]
theorem mu2 {i : Nat} (h : i < 2 ^ 100) {st : Sto} : mulD (.int 2) (.int i) st = some (.int (2 * i : Nat)) := by
  have h1 : (2 : Int).natAbs.log2 = 1 := by decide
  have h2 : i.log2 < 100 := log_lt h (by decide)
  rw [z_mul, Int.natAbs_natCast, if_pos (by omega), Int.natCast_mul]
  rfl
theorem small {x : Nat} (h : x < 61) : x < 2 ^ 100 := Nat.lt_of_lt_of_le h (by decide)
theorem dv {x b : Nat} (hb : 0 < b) (hb2 : b ≤ 60) {st : Sto} : fdivD (.int (x : Nat)) (.int (b : Nat)) st = some (.int (x / b : Nat)) := by
  have : b.log2 < 9000 := log_lt (Nat.lt_of_lt_of_le (show b < 2 ^ 6 by omega) (Nat.pow_le_pow_right (by decide) (by decide))) (by decide)
  rw [z_fdiv, if_pos ⟨by omega, by rw [Int.natAbs_natCast]; exact this⟩, fdiv_nat]
theorem md {x b : Nat} (hb : 0 < b) {st : Sto} : modD (.int (x : Nat)) (.int (b : Nat)) st = some (.int (x % b : Nat)) := by
  rw [z_mod, if_pos (by omega), fmod_nat]
section
variable {a b : Nat} (h : a < b) (hb : b ≤ 60)
include h hb
theorem bit_eq (n : Nat) (hn : n ≤ 100) (st : Sto) : F_bit [shD a b, .int ((n : Int) + 1)] st = .ok (.int (fig a b n : Nat)) st := by
  have b0 : 0 < b := by omega
  have fr := for_vec (b := bName 4) (body := b1_bit) (it := fun k => .int (k : Int)) (fun k => [some (shD a b), some (.int ((n : Int) + 1)), some (.int (rr a b k : Nat)), some (.int b), lv none (fun k => .int (k : Int)) k]) (fun _ => st) n fun k hk => by
    have r := rr_lt h k
    refine ⟨[some (shD a b), some (.int ((n : Int) + 1)), some (.int (rr a b k : Nat)), some (.int b), some (.int (k : Int))], rfl, ?_⟩
    unfold b1_bit
    simp -implicitDefEqProofs only [x_set, x_asg, x_call, x_callM, x_callN, x_cons, x_nil, x_V, x_C, x_1, x_2, x_N, x_tup, x_lst, x_lstM, x_lc, x_rg1, x_rg2, x_iseq, x_ifE, x_ifS, x_and, x_or, x_not, x_ret, x_retN, x_par, x_drop, x_nx, x_raise, x_seq, x_for, x_chain, x_met, x_callP, x_bname, x_bnil, x_bcons, x_btup, x_put, x_fnil, List.getElem?_cons_zero, List.getElem?_cons_succ, List.set_cons_succ, List.set_cons_zero, y_bn, y_bn', y_un, y_of, y_of2, y_nN, y_ac, y_ac', tp0, tp1, tp2, tp3, tp4, lp0, lp1, lp2, lp3, lp4, lp5, lp6, lp7, y_lpM0, y_ift, y_iff, y_not, y_cl, y_clM, y_clN, y_clP, y_clPx, y_st, y_rt, y_rtx, y_dr, y_drx, y_ifst, y_ifsf, y_pr, y_pr', y_asg, y_rg1, y_rg2, y_rg2', y_sql, y_sqt, y_fr, y_lc, y_thn, y_thr, y_thx, y_ch0, y_ch1, y_ch2t, y_ch2f, y_ch3, y_pt1, y_pt2, y_me2, z_add, z_sub, z_lt, z_le, z_gt, z_ge, z_eq, z_ne, z_neg, z_nri, z_nrb, z_nrn, z_nrt, z_nrl, z_lent, z_lenl, z_min, z_max, z_ixt, z_ixl, z_revt, z_revl, z_tupt, z_tupl, z_lstt, z_lstl, z_inti, z_isi_ii, z_isi_ib, z_isi_is, z_isi_it, z_isi_il, z_isi_tt, z_isi_tl, z_isi_ti, z_isi_tb, z_isi_lt, z_isi_ll, z_isi_bb, z_isi_bi, z_isi_bt, z_isi_bls, at_0, at_1, at_2, at_3, List.all_cons, List.all_nil, Bool.and_self, Bool.true_and, Bool.and_true, if_true, decide_true, decide_false, Bool.not_true, Bool.not_false, wipeD, finL, rgOk_0, rgOk_1, and_true, true_and, List.reverse_nil, List.nil_append, and_self, reduceIte, Bool.false_eq_true, mu2 (small (show rr a b k < 61 by omega)), md b0, lv, rr, stp]
  rw [← rg0_vec] at fr
  have fr : sForGo (bName 4) b1_bit (rgD 0 n) [some (shD a b), some (.int ((n : Int) + 1)), some (.int (a : Nat)), some (.int b), none] st = _ := fr
  have r := rr_lt h n
  have e1 : (n : Int) + 1 - 1 = n := by omega
  refine fn_rt rfl ?_
  show g_bit [some (shD a b), some (.int ((n : Int) + 1)), none, none, none] st = _
  unfold g_bit
  unfold shD at fr ⊢
  simp -implicitDefEqProofs only [x_set, x_asg, x_call, x_callM, x_callN, x_cons, x_nil, x_V, x_C, x_1, x_2, x_N, x_tup, x_lst, x_lstM, x_lc, x_rg1, x_rg2, x_iseq, x_ifE, x_ifS, x_and, x_or, x_not, x_ret, x_retN, x_par, x_drop, x_nx, x_raise, x_seq, x_for, x_chain, x_met, x_callP, x_bname, x_bnil, x_bcons, x_btup, x_put, x_fnil, List.getElem?_cons_zero, List.getElem?_cons_succ, List.set_cons_succ, List.set_cons_zero, y_bn, y_bn', y_un, y_of, y_of2, y_nN, y_ac, y_ac', tp0, tp1, tp2, tp3, tp4, lp0, lp1, lp2, lp3, lp4, lp5, lp6, lp7, y_lpM0, y_ift, y_iff, y_not, y_cl, y_clM, y_clN, y_clP, y_clPx, y_st, y_rt, y_rtx, y_dr, y_drx, y_ifst, y_ifsf, y_pr, y_pr', y_asg, y_rg1, y_rg2, y_rg2', y_sql, y_sqt, y_fr, y_lc, y_thn, y_thr, y_thx, y_ch0, y_ch1, y_ch2t, y_ch2f, y_ch3, y_pt1, y_pt2, y_me2, z_add, z_sub, z_lt, z_le, z_gt, z_ge, z_eq, z_ne, z_neg, z_nri, z_nrb, z_nrn, z_nrt, z_nrl, z_lent, z_lenl, z_min, z_max, z_ixt, z_ixl, z_revt, z_revl, z_tupt, z_tupl, z_lstt, z_lstl, z_inti, z_isi_ii, z_isi_ib, z_isi_is, z_isi_it, z_isi_il, z_isi_tt, z_isi_tl, z_isi_ti, z_isi_tb, z_isi_lt, z_isi_ll, z_isi_bb, z_isi_bi, z_isi_bt, z_isi_bls, at_0, at_1, at_2, at_3, List.all_cons, List.all_nil, Bool.and_self, Bool.true_and, Bool.and_true, if_true, decide_true, decide_false, Bool.not_true, Bool.not_false, wipeD, finL, rgOk_0, rgOk_1, and_true, true_and, List.reverse_nil, List.nil_append, and_self, reduceIte, Bool.false_eq_true, List.length_cons, List.length_nil, e1, rgOk_nat (show n ≤ 1000000 by omega), Int.toNat_natCast, fr, mu2 (small (show rr a b n < 61 by omega)), dv b0 hb]
  rfl
theorem law_bit_eq (n : Nat) (hn : n ≤ 200) (st : Sto) : F_law_bit [shD a b, .int ((n + 1 : Nat) : Int)] st = .ok (.int (fig a b n : Nat)) st := by
  have b0 : 0 < b := by omega
  have fr := for_vec (b := bName 3) (body := b1_law_bit) (it := fun k => .int (k : Int)) (fun k => [some (shD a b), some (.int ((n + 1 : Nat) : Int)), some (.int (rr a b k : Nat)), lv none (fun k => .int (k : Int)) k, lv none (fun k => .int (fig a b k : Nat)) k]) (fun _ => st) (n + 1) fun k hk => by
    have r := rr_lt h k
    refine ⟨[some (shD a b), some (.int ((n + 1 : Nat) : Int)), some (.int (rr a b k : Nat)), some (.int (k : Int)), lv none (fun k => .int (fig a b k : Nat)) k], rfl, ?_⟩
    have lb : b.log2 < 9000 := log_lt (Nat.lt_of_lt_of_le (show b < 2 ^ 6 by omega) (Nat.pow_le_pow_right (by decide) (by decide))) (by decide)
    unfold b1_law_bit shD
    by_cases hc : (b : Int) ≤ ((2 * rr a b k : Nat) : Int)
    · have f1 : fig a b k = 1 := by
        unfold fig bt
        have h1 : 2 * rr a b k / b < 2 := Nat.div_lt_of_lt_mul (by omega)
        have h2 : 1 ≤ 2 * rr a b k / b := (Nat.le_div_iff_mul_le b0).mpr (by omega)
        omega
      have f2 : ((2 * rr a b k : Nat) : Int) - (b : Int) = ((stp b (rr a b k) : Nat) : Int) := by
        unfold stp
        have := Nat.div_add_mod (2 * rr a b k) b
        have f1' : 2 * rr a b k / b = 1 := f1
        rw [f1'] at this
        omega
      have hm : mulD (.int b) (.int 1) st = some (.int b) := mu_1 (pow_lt' 8000 (b := 6) (by omega) (by decide))
      simp -implicitDefEqProofs only [x_set, x_asg, x_call, x_callM, x_callN, x_cons, x_nil, x_V, x_C, x_1, x_2, x_N, x_tup, x_lst, x_lstM, x_lc, x_rg1, x_rg2, x_iseq, x_ifE, x_ifS, x_and, x_or, x_not, x_ret, x_retN, x_par, x_drop, x_nx, x_raise, x_seq, x_for, x_chain, x_met, x_callP, x_bname, x_bnil, x_bcons, x_btup, x_put, x_fnil, List.getElem?_cons_zero, List.getElem?_cons_succ, List.set_cons_succ, List.set_cons_zero, y_bn, y_bn', y_un, y_of, y_of2, y_nN, y_ac, y_ac', tp0, tp1, tp2, tp3, tp4, lp0, lp1, lp2, lp3, lp4, lp5, lp6, lp7, y_lpM0, y_ift, y_iff, y_not, y_cl, y_clM, y_clN, y_clP, y_clPx, y_st, y_rt, y_rtx, y_dr, y_drx, y_ifst, y_ifsf, y_pr, y_pr', y_asg, y_rg1, y_rg2, y_rg2', y_sql, y_sqt, y_fr, y_lc, y_thn, y_thr, y_thx, y_ch0, y_ch1, y_ch2t, y_ch2f, y_ch3, y_pt1, y_pt2, y_me2, z_add, z_sub, z_lt, z_le, z_gt, z_ge, z_eq, z_ne, z_neg, z_nri, z_nrb, z_nrn, z_nrt, z_nrl, z_lent, z_lenl, z_min, z_max, z_ixt, z_ixl, z_revt, z_revl, z_tupt, z_tupl, z_lstt, z_lstl, z_inti, z_isi_ii, z_isi_ib, z_isi_is, z_isi_it, z_isi_il, z_isi_tt, z_isi_tl, z_isi_ti, z_isi_tb, z_isi_lt, z_isi_ll, z_isi_bb, z_isi_bi, z_isi_bt, z_isi_bls, at_0, at_1, at_2, at_3, List.all_cons, List.all_nil, Bool.and_self, Bool.true_and, Bool.and_true, if_true, decide_true, decide_false, Bool.not_true, Bool.not_false, wipeD, finL, rgOk_0, rgOk_1, and_true, true_and, List.reverse_nil, List.nil_append, and_self, reduceIte, Bool.false_eq_true, mu2 (small (show rr a b k < 61 by omega)), decide_eq_true hc, z_intb, if_true, hm, f2, f1, lv, rr]
      rfl
    · have f1 : fig a b k = 0 := by
        unfold fig bt
        exact Nat.div_eq_of_lt (by omega)
      have f2 : ((2 * rr a b k : Nat) : Int) - 0 = ((stp b (rr a b k) : Nat) : Int) := by
        unfold stp
        rw [Nat.mod_eq_of_lt (by omega)]; omega
      have hm : mulD (.int b) (.int 0) st = some (.int 0) := mu_0 (pow_lt' 8000 (b := 6) (by omega) (by decide))
      simp -implicitDefEqProofs only [x_set, x_asg, x_call, x_callM, x_callN, x_cons, x_nil, x_V, x_C, x_1, x_2, x_N, x_tup, x_lst, x_lstM, x_lc, x_rg1, x_rg2, x_iseq, x_ifE, x_ifS, x_and, x_or, x_not, x_ret, x_retN, x_par, x_drop, x_nx, x_raise, x_seq, x_for, x_chain, x_met, x_callP, x_bname, x_bnil, x_bcons, x_btup, x_put, x_fnil, List.getElem?_cons_zero, List.getElem?_cons_succ, List.set_cons_succ, List.set_cons_zero, y_bn, y_bn', y_un, y_of, y_of2, y_nN, y_ac, y_ac', tp0, tp1, tp2, tp3, tp4, lp0, lp1, lp2, lp3, lp4, lp5, lp6, lp7, y_lpM0, y_ift, y_iff, y_not, y_cl, y_clM, y_clN, y_clP, y_clPx, y_st, y_rt, y_rtx, y_dr, y_drx, y_ifst, y_ifsf, y_pr, y_pr', y_asg, y_rg1, y_rg2, y_rg2', y_sql, y_sqt, y_fr, y_lc, y_thn, y_thr, y_thx, y_ch0, y_ch1, y_ch2t, y_ch2f, y_ch3, y_pt1, y_pt2, y_me2, z_add, z_sub, z_lt, z_le, z_gt, z_ge, z_eq, z_ne, z_neg, z_nri, z_nrb, z_nrn, z_nrt, z_nrl, z_lent, z_lenl, z_min, z_max, z_ixt, z_ixl, z_revt, z_revl, z_tupt, z_tupl, z_lstt, z_lstl, z_inti, z_isi_ii, z_isi_ib, z_isi_is, z_isi_it, z_isi_il, z_isi_tt, z_isi_tl, z_isi_ti, z_isi_tb, z_isi_lt, z_isi_ll, z_isi_bb, z_isi_bi, z_isi_bt, z_isi_bls, at_0, at_1, at_2, at_3, List.all_cons, List.all_nil, Bool.and_self, Bool.true_and, Bool.and_true, if_true, decide_true, decide_false, Bool.not_true, Bool.not_false, wipeD, finL, rgOk_0, rgOk_1, and_true, true_and, List.reverse_nil, List.nil_append, and_self, reduceIte, Bool.false_eq_true, mu2 (small (show rr a b k < 61 by omega)), decide_eq_false hc, z_intb, if_false, hm, f2, f1, lv, rr]
      rfl
  rw [← rg0_vec] at fr
  have fr : sForGo (bName 3) b1_law_bit (rgD 0 (n + 1)) [some (shD a b), some (.int ((n + 1 : Nat) : Int)), some (.int (a : Nat)), none, none] st = _ := fr
  refine fn_rt rfl ?_
  show g_law_bit [some (shD a b), some (.int ((n + 1 : Nat) : Int)), none, none, none] st = _
  unfold g_law_bit
  unfold shD at fr ⊢
  simp -implicitDefEqProofs only [x_set, x_asg, x_call, x_callM, x_callN, x_cons, x_nil, x_V, x_C, x_1, x_2, x_N, x_tup, x_lst, x_lstM, x_lc, x_rg1, x_rg2, x_iseq, x_ifE, x_ifS, x_and, x_or, x_not, x_ret, x_retN, x_par, x_drop, x_nx, x_raise, x_seq, x_for, x_chain, x_met, x_callP, x_bname, x_bnil, x_bcons, x_btup, x_put, x_fnil, List.getElem?_cons_zero, List.getElem?_cons_succ, List.set_cons_succ, List.set_cons_zero, y_bn, y_bn', y_un, y_of, y_of2, y_nN, y_ac, y_ac', tp0, tp1, tp2, tp3, tp4, lp0, lp1, lp2, lp3, lp4, lp5, lp6, lp7, y_lpM0, y_ift, y_iff, y_not, y_cl, y_clM, y_clN, y_clP, y_clPx, y_st, y_rt, y_rtx, y_dr, y_drx, y_ifst, y_ifsf, y_pr, y_pr', y_asg, y_rg1, y_rg2, y_rg2', y_sql, y_sqt, y_fr, y_lc, y_thn, y_thr, y_thx, y_ch0, y_ch1, y_ch2t, y_ch2f, y_ch3, y_pt1, y_pt2, y_me2, z_add, z_sub, z_lt, z_le, z_gt, z_ge, z_eq, z_ne, z_neg, z_nri, z_nrb, z_nrn, z_nrt, z_nrl, z_lent, z_lenl, z_min, z_max, z_ixt, z_ixl, z_revt, z_revl, z_tupt, z_tupl, z_lstt, z_lstl, z_inti, z_isi_ii, z_isi_ib, z_isi_is, z_isi_it, z_isi_il, z_isi_tt, z_isi_tl, z_isi_ti, z_isi_tb, z_isi_lt, z_isi_ll, z_isi_bb, z_isi_bi, z_isi_bt, z_isi_bls, at_0, at_1, at_2, at_3, List.all_cons, List.all_nil, Bool.and_self, Bool.true_and, Bool.and_true, if_true, decide_true, decide_false, Bool.not_true, Bool.not_false, wipeD, finL, rgOk_0, rgOk_1, and_true, true_and, List.reverse_nil, List.nil_append, and_self, reduceIte, Bool.false_eq_true, rgOk_nat (show n + 1 ≤ 1000000 by omega), Int.toNat_natCast, fr, lv]
end
/-- the figures ahead, the figures that come again -/
def tF (a b s n : Nat) : D := .tup (vec (fun i => .int (fig a b (s + i) : Nat)) n)
theorem bits_eq {a b m s : Nat} (h : a < b) (hb : b ≤ 60) (hc : Nat.gcd a b = 1) (F : Figs a b m s) : ∃ st', F_bits_of [shD a b] [] = .ok (.tup [tF a b 0 s, tF a b s (m - s)]) st' := by
  have b0 : 0 < b := by omega
  have m60 := F.m60
  have sm := F.sm
  have ch : isChanceF [shD a b] [] = .ok (.bl true) [] := chance_int a b hc b0 (by omega) []
  have n1 : eqD (shD a b) (.tup [.int 1, .int 1]) [] = some (.bl false) := by
    have := eq_ints_t [a, b] [1, 1] []
    rw [decide_eq_false (fun e => by have := (List.cons.inj e).1; have := (List.cons.inj (List.cons.inj e).2).1; omega)] at this
    exact this
  have nn : nr 12 (shD a b) = true := rfl
  have keys : ∀ (k : Nat), ∀ x, (∀ j, j < k → rr a b j ≠ x) → ∀ p ∈ vec (fun i => ((Sum.inl (rr a b i : Int) : Key), D.int (i : Nat))) k, p.1 ≠ Sum.inl (x : Int) := by
    intro k x hx p hp e
    obtain ⟨j, hj, rfl⟩ := vec_mem.mp hp
    have := Sum.inl.inj e
    exact hx j hj (by omega)
  have gm : getK (vec (fun i => ((Sum.inl (rr a b i : Int) : Key), D.int (i : Nat))) m) (Sum.inl (rr a b m : Int)) = some (.int (s : Nat)) := by
    have := getK_at (f := fun i => (Sum.inl (rr a b i : Int) : Key)) (g := fun i => D.int (i : Nat)) (x := Sum.inl (rr a b m : Int)) m s 0 sm (by rw [Nat.zero_add, F.rep]) (fun i hi e => by
      rw [Nat.zero_add] at e
      have := Sum.inl.inj e
      exact F.first i hi (by omega))
    simp only [Nat.zero_add] at this
    exact this
  have wl := while_vec (c := e2 (dinD true) (eV 3) (eV 1)) (b := w1_bits_of) (fun k => [some (shD a b), some (.ref 0), some (.ref 1), some (.int (rr a b k : Nat)), some (.int b)])
    (fun k => [.dK (vec (fun i => ((Sum.inl (rr a b i : Int) : Key), D.int (i : Nat))) k), .lst (vec (fun i => .int (fig a b i : Nat)) k)]) m (fun k hk => by
      have r := rr_lt h k
      have nk := keys k (rr a b k) (F.new k hk)
      have dk := dk_int (n := 0) (st := [.dK (vec (fun i => ((Sum.inl (rr a b i : Int) : Key), D.int (i : Nat))) k), .lst (vec (fun i => .int (fig a b i : Nat)) k)]) (i := (rr a b k : Nat)) rfl
      have zd := z_din (neg := true) dk
      rw [getK_none nk] at zd
      constructor
      · simp -implicitDefEqProofs only [x_set, x_asg, x_call, x_callM, x_callN, x_cons, x_nil, x_V, x_C, x_1, x_2, x_N, x_tup, x_lst, x_lstM, x_lc, x_rg1, x_rg2, x_iseq, x_ifE, x_ifS, x_and, x_or, x_not, x_ret, x_retN, x_par, x_drop, x_nx, x_raise, x_seq, x_for, x_chain, x_met, x_callP, x_bname, x_bnil, x_bcons, x_btup, x_put, x_fnil, List.getElem?_cons_zero, List.getElem?_cons_succ, List.set_cons_succ, List.set_cons_zero, y_bn, y_bn', y_un, y_of, y_of2, y_nN, y_ac, y_ac', tp0, tp1, tp2, tp3, tp4, lp0, lp1, lp2, lp3, lp4, lp5, lp6, lp7, y_lpM0, y_ift, y_iff, y_not, y_cl, y_clM, y_clN, y_clP, y_clPx, y_st, y_rt, y_rtx, y_dr, y_drx, y_ifst, y_ifsf, y_pr, y_pr', y_asg, y_rg1, y_rg2, y_rg2', y_sql, y_sqt, y_fr, y_lc, y_thn, y_thr, y_thx, y_ch0, y_ch1, y_ch2t, y_ch2f, y_ch3, y_pt1, y_pt2, y_me2, z_add, z_sub, z_lt, z_le, z_gt, z_ge, z_eq, z_ne, z_neg, z_nri, z_nrb, z_nrn, z_nrt, z_nrl, z_lent, z_lenl, z_min, z_max, z_ixt, z_ixl, z_revt, z_revl, z_tupt, z_tupl, z_lstt, z_lstl, z_inti, z_isi_ii, z_isi_ib, z_isi_is, z_isi_it, z_isi_il, z_isi_tt, z_isi_tl, z_isi_ti, z_isi_tb, z_isi_lt, z_isi_ll, z_isi_bb, z_isi_bi, z_isi_bt, z_isi_bls, at_0, at_1, at_2, at_3, List.all_cons, List.all_nil, Bool.and_self, Bool.true_and, Bool.and_true, if_true, decide_true, decide_false, Bool.not_true, Bool.not_false, wipeD, finL, rgOk_0, rgOk_1, and_true, true_and, List.reverse_nil, List.nil_append, and_self, reduceIte, Bool.false_eq_true, zd]
        rfl
      · have ln := z_lenr (n := 1) (st := [.dK (vec (fun i => ((Sum.inl (rr a b i : Int) : Key), D.int (i : Nat))) k), .lst (vec (fun i => .int (fig a b i : Nat)) k)]) rfl
        rw [vec_len] at ln
        have hk3 : decide ((300 : Int) < (k : Int)) = false := decide_eq_false (by omega)
        have dp := dput_at (n := 0) (st := [.dK (vec (fun i => ((Sum.inl (rr a b i : Int) : Key), D.int (i : Nat))) k), .lst (vec (fun i => .int (fig a b i : Nat)) k)]) (y := .int (rr a b k : Nat)) (d := .int (k : Nat)) rfl rfl (by rw [vec_len]; omega)
        rw [putKD_new nk, ← vec_succ (f := fun i => ((Sum.inl (rr a b i : Int) : Key), D.int (i : Nat)))] at dp
        replace dp : dputD (.ref 0) (.int (rr a b k : Nat)) (.int (k : Nat)) [.dK (vec (fun i => ((Sum.inl (rr a b i : Int) : Key), D.int (i : Nat))) k), .lst (vec (fun i => .int (fig a b i : Nat)) k)] = some [.dK (vec (fun i => ((Sum.inl (rr a b i : Int) : Key), D.int (i : Nat))) (k + 1)), .lst (vec (fun i => .int (fig a b i : Nat)) k)] := dp
        have ap := app_lst (n := 1) (st := [.dK (vec (fun i => ((Sum.inl (rr a b i : Int) : Key), D.int (i : Nat))) (k + 1)), .lst (vec (fun i => .int (fig a b i : Nat)) k)]) (d := .int (fig a b k : Nat)) rfl (by rw [vec_len]; omega)
        have rc := rec_lst (n := 1) (st := [.dK (vec (fun i => ((Sum.inl (rr a b i : Int) : Key), D.int (i : Nat))) (k + 1)), .lst (vec (fun i => .int (fig a b i : Nat)) k)]) rfl
        rw [← vec_succ (f := fun i => D.int (fig a b i : Nat))] at ap
        have ap : appD (.ref 1) [.int (2 * rr a b k / b : Nat)] [.dK (vec (fun i => ((Sum.inl (rr a b i : Int) : Key), D.int (i : Nat))) (k + 1)), .lst (vec (fun i => .int (fig a b i : Nat)) k)] = some (.non, [.dK (vec (fun i => ((Sum.inl (rr a b i : Int) : Key), D.int (i : Nat))) (k + 1)), .lst (vec (fun i => .int (fig a b i : Nat)) (k + 1))]) := ap
        unfold w1_bits_of
        simp -implicitDefEqProofs only [x_set, x_asg, x_call, x_callM, x_callN, x_cons, x_nil, x_V, x_C, x_1, x_2, x_N, x_tup, x_lst, x_lstM, x_lc, x_rg1, x_rg2, x_iseq, x_ifE, x_ifS, x_and, x_or, x_not, x_ret, x_retN, x_par, x_drop, x_nx, x_raise, x_seq, x_for, x_chain, x_met, x_callP, x_bname, x_bnil, x_bcons, x_btup, x_put, x_fnil, List.getElem?_cons_zero, List.getElem?_cons_succ, List.set_cons_succ, List.set_cons_zero, y_bn, y_bn', y_un, y_of, y_of2, y_nN, y_ac, y_ac', tp0, tp1, tp2, tp3, tp4, lp0, lp1, lp2, lp3, lp4, lp5, lp6, lp7, y_lpM0, y_ift, y_iff, y_not, y_cl, y_clM, y_clN, y_clP, y_clPx, y_st, y_rt, y_rtx, y_dr, y_drx, y_ifst, y_ifsf, y_pr, y_pr', y_asg, y_rg1, y_rg2, y_rg2', y_sql, y_sqt, y_fr, y_lc, y_thn, y_thr, y_thx, y_ch0, y_ch1, y_ch2t, y_ch2f, y_ch3, y_pt1, y_pt2, y_me2, z_add, z_sub, z_lt, z_le, z_gt, z_ge, z_eq, z_ne, z_neg, z_nri, z_nrb, z_nrn, z_nrt, z_nrl, z_lent, z_lenl, z_min, z_max, z_ixt, z_ixl, z_revt, z_revl, z_tupt, z_tupl, z_lstt, z_lstl, z_inti, z_isi_ii, z_isi_ib, z_isi_is, z_isi_it, z_isi_il, z_isi_tt, z_isi_tl, z_isi_ti, z_isi_tb, z_isi_lt, z_isi_ll, z_isi_bb, z_isi_bi, z_isi_bt, z_isi_bls, at_0, at_1, at_2, at_3, List.all_cons, List.all_nil, Bool.and_self, Bool.true_and, Bool.and_true, if_true, decide_true, decide_false, Bool.not_true, Bool.not_false, wipeD, finL, rgOk_0, rgOk_1, and_true, true_and, List.reverse_nil, List.nil_append, and_self, reduceIte, Bool.false_eq_true, ln, hk3, x_dput, y_dp1, y_dp2, y_dp3 dp, y_me1 rc, mu2 (small (show rr a b k < 61 by omega)), dv b0 hb, ap, md b0]
        rfl) (by
      have dk := dk_int (n := 0) (st := [.dK (vec (fun i => ((Sum.inl (rr a b i : Int) : Key), D.int (i : Nat))) m), .lst (vec (fun i => .int (fig a b i : Nat)) m)]) (i := (rr a b m : Nat)) rfl
      have zd := z_din (neg := true) dk
      rw [gm] at zd
      simp -implicitDefEqProofs only [x_set, x_asg, x_call, x_callM, x_callN, x_cons, x_nil, x_V, x_C, x_1, x_2, x_N, x_tup, x_lst, x_lstM, x_lc, x_rg1, x_rg2, x_iseq, x_ifE, x_ifS, x_and, x_or, x_not, x_ret, x_retN, x_par, x_drop, x_nx, x_raise, x_seq, x_for, x_chain, x_met, x_callP, x_bname, x_bnil, x_bcons, x_btup, x_put, x_fnil, List.getElem?_cons_zero, List.getElem?_cons_succ, List.set_cons_succ, List.set_cons_zero, y_bn, y_bn', y_un, y_of, y_of2, y_nN, y_ac, y_ac', tp0, tp1, tp2, tp3, tp4, lp0, lp1, lp2, lp3, lp4, lp5, lp6, lp7, y_lpM0, y_ift, y_iff, y_not, y_cl, y_clM, y_clN, y_clP, y_clPx, y_st, y_rt, y_rtx, y_dr, y_drx, y_ifst, y_ifsf, y_pr, y_pr', y_asg, y_rg1, y_rg2, y_rg2', y_sql, y_sqt, y_fr, y_lc, y_thn, y_thr, y_thx, y_ch0, y_ch1, y_ch2t, y_ch2f, y_ch3, y_pt1, y_pt2, y_me2, z_add, z_sub, z_lt, z_le, z_gt, z_ge, z_eq, z_ne, z_neg, z_nri, z_nrb, z_nrn, z_nrt, z_nrl, z_lent, z_lenl, z_min, z_max, z_ixt, z_ixl, z_revt, z_revl, z_tupt, z_tupl, z_lstt, z_lstl, z_inti, z_isi_ii, z_isi_ib, z_isi_is, z_isi_it, z_isi_il, z_isi_tt, z_isi_tl, z_isi_ti, z_isi_tb, z_isi_lt, z_isi_ll, z_isi_bb, z_isi_bi, z_isi_bt, z_isi_bls, at_0, at_1, at_2, at_3, List.all_cons, List.all_nil, Bool.and_self, Bool.true_and, Bool.and_true, if_true, decide_true, decide_false, Bool.not_true, Bool.not_false, wipeD, finL, rgOk_0, rgOk_1, and_true, true_and, List.reverse_nil, List.nil_append, and_self, reduceIte, Bool.false_eq_true, zd]
      rfl) 400 (by omega)
  have dk := dk_int (n := 0) (st := [.dK (vec (fun i => ((Sum.inl (rr a b i : Int) : Key), D.int (i : Nat))) m), .lst (vec (fun i => .int (fig a b i : Nat)) m)]) (i := (rr a b m : Nat)) rfl
  have zg := z_dget dk
  rw [gm] at zg
  have sl1 := z_slr (n := 1) (st := [.dK (vec (fun i => ((Sum.inl (rr a b i : Int) : Key), D.int (i : Nat))) m), .lst (vec (fun i => .int (fig a b i : Nat)) m)]) (l := none) (r := some (s : Int)) rfl
  have sl2 := z_slr (n := 1) (st := [.dK (vec (fun i => ((Sum.inl (rr a b i : Int) : Key), D.int (i : Nat))) m), .lst (vec (fun i => .int (fig a b i : Nat)) m)]) (l := some (s : Int)) (r := none) rfl
  rw [cut_take (Nat.le_of_lt sm)] at sl1
  rw [cut_drop (Nat.le_of_lt sm)] at sl2
  refine ⟨[.dK (vec (fun i => ((Sum.inl (rr a b i : Int) : Key), D.int (i : Nat))) m), .lst (vec (fun i => .int (fig a b i : Nat)) m)], fn_rt rfl ?_⟩
  · show g_bits_of [some (shD a b), none, none, none, none] [] = _
    unfold g_bits_of
    refine seq_nx (ρ1 := [some (shD a b), none, none, none, none]) (st1 := []) (by simp -implicitDefEqProofs only [x_set, x_asg, x_call, x_callM, x_callN, x_cons, x_nil, x_V, x_C, x_1, x_2, x_N, x_tup, x_lst, x_lstM, x_lc, x_rg1, x_rg2, x_iseq, x_ifE, x_ifS, x_and, x_or, x_not, x_ret, x_retN, x_par, x_drop, x_nx, x_raise, x_seq, x_for, x_chain, x_met, x_callP, x_bname, x_bnil, x_bcons, x_btup, x_put, x_fnil, List.getElem?_cons_zero, List.getElem?_cons_succ, List.set_cons_succ, List.set_cons_zero, y_bn, y_bn', y_un, y_of, y_of2, y_nN, y_ac, y_ac', tp0, tp1, tp2, tp3, tp4, lp0, lp1, lp2, lp3, lp4, lp5, lp6, lp7, y_lpM0, y_ift, y_iff, y_not, y_cl, y_clM, y_clN, y_clP, y_clPx, y_st, y_rt, y_rtx, y_dr, y_drx, y_ifst, y_ifsf, y_pr, y_pr', y_asg, y_rg1, y_rg2, y_rg2', y_sql, y_sqt, y_fr, y_lc, y_thn, y_thr, y_thx, y_ch0, y_ch1, y_ch2t, y_ch2f, y_ch3, y_pt1, y_pt2, y_me2, z_add, z_sub, z_lt, z_le, z_gt, z_ge, z_eq, z_ne, z_neg, z_nri, z_nrb, z_nrn, z_nrt, z_nrl, z_lent, z_lenl, z_min, z_max, z_ixt, z_ixl, z_revt, z_revl, z_tupt, z_tupl, z_lstt, z_lstl, z_inti, z_isi_ii, z_isi_ib, z_isi_is, z_isi_it, z_isi_il, z_isi_tt, z_isi_tl, z_isi_ti, z_isi_tb, z_isi_lt, z_isi_ll, z_isi_bb, z_isi_bi, z_isi_bt, z_isi_bls, at_0, at_1, at_2, at_3, List.all_cons, List.all_nil, Bool.and_self, Bool.true_and, Bool.and_true, if_true, decide_true, decide_false, Bool.not_true, Bool.not_false, wipeD, finL, rgOk_0, rgOk_1, and_true, true_and, List.reverse_nil, List.nil_append, and_self, reduceIte, Bool.false_eq_true, f_chance, ch, nn, n1]) ?_
    refine seq_nx (ρ1 := [some (shD a b), some (.ref 0), some (.ref 1), none, none]) (st1 := [.dK [], .lst []]) (by simp -implicitDefEqProofs only [x_set, x_asg, x_call, x_callM, x_callN, x_cons, x_nil, x_V, x_C, x_1, x_2, x_N, x_tup, x_lst, x_lstM, x_lc, x_rg1, x_rg2, x_iseq, x_ifE, x_ifS, x_and, x_or, x_not, x_ret, x_retN, x_par, x_drop, x_nx, x_raise, x_seq, x_for, x_chain, x_met, x_callP, x_bname, x_bnil, x_bcons, x_btup, x_put, x_fnil, List.getElem?_cons_zero, List.getElem?_cons_succ, List.set_cons_succ, List.set_cons_zero, y_bn, y_bn', y_un, y_of, y_of2, y_nN, y_ac, y_ac', tp0, tp1, tp2, tp3, tp4, lp0, lp1, lp2, lp3, lp4, lp5, lp6, lp7, y_lpM0, y_ift, y_iff, y_not, y_cl, y_clM, y_clN, y_clP, y_clPx, y_st, y_rt, y_rtx, y_dr, y_drx, y_ifst, y_ifsf, y_pr, y_pr', y_asg, y_rg1, y_rg2, y_rg2', y_sql, y_sqt, y_fr, y_lc, y_thn, y_thr, y_thx, y_ch0, y_ch1, y_ch2t, y_ch2f, y_ch3, y_pt1, y_pt2, y_me2, z_add, z_sub, z_lt, z_le, z_gt, z_ge, z_eq, z_ne, z_neg, z_nri, z_nrb, z_nrn, z_nrt, z_nrl, z_lent, z_lenl, z_min, z_max, z_ixt, z_ixl, z_revt, z_revl, z_tupt, z_tupl, z_lstt, z_lstl, z_inti, z_isi_ii, z_isi_ib, z_isi_is, z_isi_it, z_isi_il, z_isi_tt, z_isi_tl, z_isi_ti, z_isi_tb, z_isi_lt, z_isi_ll, z_isi_bb, z_isi_bi, z_isi_bt, z_isi_bls, at_0, at_1, at_2, at_3, List.all_cons, List.all_nil, Bool.and_self, Bool.true_and, Bool.and_true, if_true, decide_true, decide_false, Bool.not_true, Bool.not_false, wipeD, finL, rgOk_0, rgOk_1, and_true, true_and, List.reverse_nil, List.nil_append, and_self, reduceIte, Bool.false_eq_true, x_dictM]; rfl) ?_
    refine seq_nx (ρ1 := [some (shD a b), some (.ref 0), some (.ref 1), some (.int a), some (.int b)]) (st1 := [.dK [], .lst []]) (by unfold shD; simp -implicitDefEqProofs only [x_set, x_asg, x_call, x_callM, x_callN, x_cons, x_nil, x_V, x_C, x_1, x_2, x_N, x_tup, x_lst, x_lstM, x_lc, x_rg1, x_rg2, x_iseq, x_ifE, x_ifS, x_and, x_or, x_not, x_ret, x_retN, x_par, x_drop, x_nx, x_raise, x_seq, x_for, x_chain, x_met, x_callP, x_bname, x_bnil, x_bcons, x_btup, x_put, x_fnil, List.getElem?_cons_zero, List.getElem?_cons_succ, List.set_cons_succ, List.set_cons_zero, y_bn, y_bn', y_un, y_of, y_of2, y_nN, y_ac, y_ac', tp0, tp1, tp2, tp3, tp4, lp0, lp1, lp2, lp3, lp4, lp5, lp6, lp7, y_lpM0, y_ift, y_iff, y_not, y_cl, y_clM, y_clN, y_clP, y_clPx, y_st, y_rt, y_rtx, y_dr, y_drx, y_ifst, y_ifsf, y_pr, y_pr', y_asg, y_rg1, y_rg2, y_rg2', y_sql, y_sqt, y_fr, y_lc, y_thn, y_thr, y_thx, y_ch0, y_ch1, y_ch2t, y_ch2f, y_ch3, y_pt1, y_pt2, y_me2, z_add, z_sub, z_lt, z_le, z_gt, z_ge, z_eq, z_ne, z_neg, z_nri, z_nrb, z_nrn, z_nrt, z_nrl, z_lent, z_lenl, z_min, z_max, z_ixt, z_ixl, z_revt, z_revl, z_tupt, z_tupl, z_lstt, z_lstl, z_inti, z_isi_ii, z_isi_ib, z_isi_is, z_isi_it, z_isi_il, z_isi_tt, z_isi_tl, z_isi_ti, z_isi_tb, z_isi_lt, z_isi_ll, z_isi_bb, z_isi_bi, z_isi_bt, z_isi_bls, at_0, at_1, at_2, at_3, List.all_cons, List.all_nil, Bool.and_self, Bool.true_and, Bool.and_true, if_true, decide_true, decide_false, Bool.not_true, Bool.not_false, wipeD, finL, rgOk_0, rgOk_1, and_true, true_and, List.reverse_nil, List.nil_append, and_self, reduceIte, Bool.false_eq_true, List.length_cons, List.length_nil]) ?_
    refine seq_nx wl ?_
    simp -implicitDefEqProofs only [x_set, x_asg, x_call, x_callM, x_callN, x_cons, x_nil, x_V, x_C, x_1, x_2, x_N, x_tup, x_lst, x_lstM, x_lc, x_rg1, x_rg2, x_iseq, x_ifE, x_ifS, x_and, x_or, x_not, x_ret, x_retN, x_par, x_drop, x_nx, x_raise, x_seq, x_for, x_chain, x_met, x_callP, x_bname, x_bnil, x_bcons, x_btup, x_put, x_fnil, List.getElem?_cons_zero, List.getElem?_cons_succ, List.set_cons_succ, List.set_cons_zero, y_bn, y_bn', y_un, y_of, y_of2, y_nN, y_ac, y_ac', tp0, tp1, tp2, tp3, tp4, lp0, lp1, lp2, lp3, lp4, lp5, lp6, lp7, y_lpM0, y_ift, y_iff, y_not, y_cl, y_clM, y_clN, y_clP, y_clPx, y_st, y_rt, y_rtx, y_dr, y_drx, y_ifst, y_ifsf, y_pr, y_pr', y_asg, y_rg1, y_rg2, y_rg2', y_sql, y_sqt, y_fr, y_lc, y_thn, y_thr, y_thx, y_ch0, y_ch1, y_ch2t, y_ch2f, y_ch3, y_pt1, y_pt2, y_me2, z_add, z_sub, z_lt, z_le, z_gt, z_ge, z_eq, z_ne, z_neg, z_nri, z_nrb, z_nrn, z_nrt, z_nrl, z_lent, z_lenl, z_min, z_max, z_ixt, z_ixl, z_revt, z_revl, z_tupt, z_tupl, z_lstt, z_lstl, z_inti, z_isi_ii, z_isi_ib, z_isi_is, z_isi_it, z_isi_il, z_isi_tt, z_isi_tl, z_isi_ti, z_isi_tb, z_isi_lt, z_isi_ll, z_isi_bb, z_isi_bi, z_isi_bt, z_isi_bls, at_0, at_1, at_2, at_3, List.all_cons, List.all_nil, Bool.and_self, Bool.true_and, Bool.and_true, if_true, decide_true, decide_false, Bool.not_true, Bool.not_false, wipeD, finL, rgOk_0, rgOk_1, and_true, true_and, List.reverse_nil, List.nil_append, and_self, reduceIte, Bool.false_eq_true, x_sl, y_sl1, x_pNone, y_sl2, x_pSome, y_ps, y_sl3, zg, sl1, sl2]
    have e1 : vec (fun i => D.int (fig a b i : Nat)) s = vec (fun i => D.int (fig a b (0 + i) : Nat)) s := vec_ext fun i _ => by rw [Nat.zero_add]
    rw [e1]
    rfl
end K57
set_option exponentiation.threshold 10000
namespace K57
open PySem L2 L4
theorem hf_eq (k : Nat) : hf k = 1 / tw k := by
  have h1 := tw_hf k
  have h2 := tw_pos k
  have h3 := Rat.div_mul_cancel (a := 1) (Rat.ne_of_gt h2)
  have h4 : (hf k - 1 / tw k) * tw k = 0 := by grind
  rcases Rat.mul_eq_zero.mp h4 with h | h
  · grind
  · rw [h] at h2; exact absurd h2 (by decide)
theorem div_hf (n k : Nat) : Rat.divInt (n : Int) ((2 ^ k : Nat) : Int) = (n : Rat) * hf k := by
  rw [Rat.divInt_eq_div, Rat.intCast_natCast, Rat.intCast_natCast, hf_eq, Rat.div_def, Rat.div_def, Rat.one_mul]
  rfl
theorem low_hf (n k : Nat) (hn : n ≤ 1000) (hk : k ≤ 1000) (st : Sto) : F_low [.int (n : Nat), .int (2 ^ k : Nat)] st = .ok (sh ((n : Rat) * hf k)) st := by
  rw [f_low]
  have hp : 0 < 2 ^ k := Nat.pow_pos (by decide)
  have := lowS_prog (n : Int) ((2 ^ k : Nat) : Int) st (by omega) (by rw [Int.natAbs_natCast]; exact Nat.lt_of_le_of_lt hn (Nat.lt_of_lt_of_le (show 1000 < 2 ^ 10 by decide) (Nat.pow_le_pow_right (by decide) (by decide)))) (by rw [Int.natAbs_natCast]; exact Nat.pow_lt_pow_right (by decide) (by omega))
  rw [div_hf] at this
  exact this
theorem fr_hf (k : Nat) : Fr (2 ^ k) (hf k) := ⟨1, by
  have := tw_hf k
  unfold tw at this
  rw [Rat.mul_comm, this]; rfl⟩
theorem nhf_range (k : Nat) : 0 ≤ (k : Rat) * hf k ∧ (k : Rat) * hf k ≤ 1 := by
  have h1 := hf_pos k
  refine ⟨Rat.mul_nonneg Rat.natCast_nonneg (Rat.le_of_lt h1), ?_⟩
  rw [← tw_hf k]
  refine Rat.mul_le_mul_of_nonneg_right ?_ (Rat.le_of_lt h1)
  unfold tw
  exact Rat.natCast_le_natCast.mpr (Nat.le_of_lt (Nat.lt_two_pow_self))
theorem hf_le (k : Nat) : hf k ≤ 1 := by
  rw [← tw_hf k]
  have h1 := hf_pos k
  have h2 : (1 : Rat) ≤ tw k := by
    unfold tw
    exact Rat.natCast_le_natCast (a := 1).mpr (Nat.pow_pos (by decide))
  have := Rat.mul_le_mul_of_nonneg_right h2 (Rat.le_of_lt h1)
  grind
section
variable {p : Nat} (hp : 0 < p)
include hp
theorem hf_half : hf p ≤ 1 / 2 := by
  obtain ⟨q, rfl⟩ : ∃ q, p = q + 1 := ⟨p - 1, by omega⟩
  have := hf_le q
  rw [hf]
  grind
theorem one_hf : 1 - hf p ≠ 0 := by have := hf_half hp; grind
theorem qq_range : 0 ≤ qq p ∧ qq p ≤ 2 := by
  have h1 := hf_half hp
  have h2 : (0 : Rat) < 1 - hf p := by grind
  have h3 := Rat.div_mul_cancel (a := 1) (one_hf hp)
  have h4 := Rat.inv_pos.mpr h2
  unfold qq
  refine ⟨by rw [Rat.div_def, Rat.one_mul]; exact Rat.le_of_lt h4, ?_⟩
  refine Rat.le_of_mul_le_mul_right (c := 1 - hf p) ?_ h2
  rw [h3]
  grind
theorem fr_qq : Fr (2 ^ p - 1) (qq p) := by
  have h0 : 1 < 2 ^ p := Nat.one_lt_two_pow (by omega)
  refine ⟨((2 ^ p : Nat) : Int), ?_⟩
  have h3 := Rat.div_mul_cancel (a := 1) (one_hf hp)
  have h1 := tw_hf p
  obtain ⟨u, hu⟩ : ∃ u, 2 ^ p = u + 1 := ⟨2 ^ p - 1, by omega⟩
  have eu : tw p = (u : Rat) + 1 := by unfold tw; rw [hu, Rat.natCast_add]; rfl
  have e2 : (((2 ^ p : Nat) : Int) : Rat) = tw p := rfl
  rw [e2, hu, Nat.add_sub_cancel]
  unfold qq
  grind
end
def Den (p : Nat) : Nat := 2 ^ 60 * (2 ^ p * ((2 ^ p - 1) * (2 ^ p - 1)))
section
variable {a b m s : Nat} (h : a < b) (hb : b ≤ 60) (hc : Nat.gcd a b = 1) (F : Figs a b m s)
include h
theorem fr_term (k : Nat) (hk : k < 60) : Fr (2 ^ 60) ((fig a b k : Rat) * (((k + 1 : Nat) : Rat) * hf (k + 1))) := by
  have h1 : Fr (2 ^ 0) (fig a b k : Rat) := Fr.nat _ _
  have h2 : Fr (2 ^ 0) ((k + 1 : Nat) : Rat) := Fr.nat _ _
  exact (h1.mulp (h2.mulp (fr_hf (k + 1)))).pow (by omega)
theorem fig_range (k : Nat) : (0 : Rat) ≤ (fig a b k : Rat) ∧ (fig a b k : Rat) ≤ ((1 : Nat) : Rat) := ⟨Rat.natCast_nonneg, Rat.natCast_le_natCast.mpr (by have := fig_lt h k; omega)⟩
theorem mulr {x y : Rat} {A B : Nat} (hx : 0 ≤ x ∧ x ≤ (A : Rat)) (hy : 0 ≤ y ∧ y ≤ (B : Rat)) : 0 ≤ x * y ∧ x * y ≤ ((A * B : Nat) : Rat) := by
  refine ⟨Rat.mul_nonneg hx.1 hy.1, ?_⟩
  rw [Rat.natCast_mul]
  have a : x * y ≤ (A : Rat) * y := Rat.mul_le_mul_of_nonneg_right hx.2 hy.1
  have b : (A : Rat) * y ≤ (A : Rat) * (B : Rat) := Rat.mul_le_mul_of_nonneg_left hy.2 Rat.natCast_nonneg
  exact Rat.le_trans a b
theorem sumr {f : Nat → Rat} {B m : Nat} (hf : ∀ k, k < m → 0 ≤ f k ∧ f k ≤ (B : Rat)) : 0 ≤ sumR f m ∧ sumR f m ≤ ((B * m : Nat) : Rat) := by
  induction m with
  | zero => exact ⟨by rw [sumR]; decide, by rw [sumR]; exact Rat.natCast_nonneg⟩
  | succ m ih =>
    obtain ⟨a, b⟩ := ih fun k hk => hf k (by omega)
    obtain ⟨c, d⟩ := hf m (by omega)
    rw [sumR]
    refine ⟨by grind, ?_⟩
    rw [Nat.mul_succ, Rat.natCast_add]
    grind
theorem W_fr (k : Nat) (hk : k ≤ 60) : Fr (2 ^ 60) (W a b k) := Fr.sum fun j hj => fr_term h j (by omega)
theorem W_range (k : Nat) : 0 ≤ W a b k ∧ W a b k ≤ ((1 * k : Nat) : Rat) := sumr h fun j _ => mulr h (A := 1) (B := 1) (fig_range h j) (nhf_range (j + 1))
theorem W_bn (k : Nat) (hk : k ≤ 60) : Bn 900 (W a b k) := by
  have r := W_range h k
  exact (Bn.of (k := 70) (D := 2 ^ 60) (B := 60) (W_fr h k hk) (Nat.pow_pos (by decide)) (Ab.of r.1 (Rat.le_trans r.2 (Rat.natCast_le_natCast.mpr (by omega)))) (by decide +kernel) (by decide +kernel)).mono (by decide)
omit h
theorem den_pos {p : Nat} (hp : 0 < p) : 0 < Den p := by
  have h0 : 1 < 2 ^ p := Nat.one_lt_two_pow (by omega)
  have hu : 0 < 2 ^ p - 1 := by omega
  exact Nat.mul_pos (Nat.pow_pos (by decide)) (Nat.mul_pos (by omega) (Nat.mul_pos hu hu))
theorem den_lt {p : Nat} (hp : p ≤ 60) : Den p < 2 ^ 241 := by
  have h1 : 2 ^ p ≤ 2 ^ 60 := Nat.pow_le_pow_right (by decide) hp
  have h2 : 2 ^ p - 1 ≤ 2 ^ 60 := by omega
  have h3 : Den p ≤ 2 ^ 60 * (2 ^ 60 * (2 ^ 60 * 2 ^ 60)) := Nat.mul_le_mul_left _ (Nat.mul_le_mul h1 (Nat.mul_le_mul h2 h2))
  exact Nat.lt_of_le_of_lt h3 (by decide +kernel)
include h
theorem again_fr {p j : Nat} (hp : 0 < p) (hj : s + j < 60) : Fr (Den p) (again a b s p j) := by
  have f0 : Fr 1 (fig a b (s + j) : Rat) := Fr.nat _ _
  have f1 : Fr (2 ^ 60) (((s + j + 1 : Nat) : Rat) * hf (s + j + 1)) := by
    have h2 : Fr (2 ^ 0) ((s + j + 1 : Nat) : Rat) := Fr.nat _ _
    exact (h2.mulp (fr_hf (s + j + 1))).pow (by omega)
  have f2 : Fr (2 ^ 60) ((p : Rat) * hf (s + j + 1)) := by
    have h2 : Fr (2 ^ 0) (p : Rat) := Fr.nat _ _
    exact (h2.mulp (fr_hf (s + j + 1))).pow (by omega)
  have q := fr_qq hp
  have t1 : Fr (Den p) ((((s + j + 1 : Nat) : Rat) * hf (s + j + 1)) * qq p) := (f1.mul q).dvd (Nat.mul_dvd_mul_left _ (Nat.dvd_trans (Nat.dvd_mul_left _ _) (Nat.dvd_mul_left _ _)))
  have t2 : Fr (Den p) (((p : Rat) * hf (s + j + 1)) * hf p * (qq p * qq p)) := by
    have := (f2.mul (fr_hf p)).mul (q.mul q)
    rwa [Nat.mul_assoc] at this
  have := f0.mul (t1.add t2)
  rwa [Nat.one_mul] at this
theorem again_range {p j : Nat} (hp : 0 < p) : 0 ≤ again a b s p j ∧ again a b s p j ≤ ((6 : Nat) : Rat) := by
  have f1 := nhf_range (s + j + 1)
  have f2 := nhf_range p
  have q := qq_range hp
  have a1 := mulr h (A := 1) (B := 2) f1 q
  have h1 := hf_pos (s + j + 1)
  have h2 := hf_le (s + j + 1)
  have a2 : 0 ≤ ((p : Rat) * hf (s + j + 1)) * hf p ∧ ((p : Rat) * hf (s + j + 1)) * hf p ≤ ((1 * 1 : Nat) : Rat) := by
    have e : ((p : Rat) * hf (s + j + 1)) * hf p = (p : Rat) * hf p * hf (s + j + 1) := by grind
    rw [e]
    exact mulr h (A := 1) (B := 1) f2 ⟨Rat.le_of_lt h1, h2⟩
  have a3 := mulr h (A := 1 * 1) (B := 2 * 2) a2 (mulr h (A := 2) (B := 2) q q)
  have a4 : 0 ≤ (((s + j + 1 : Nat) : Rat) * hf (s + j + 1)) * qq p + ((p : Rat) * hf (s + j + 1)) * hf p * (qq p * qq p) ∧ (((s + j + 1 : Nat) : Rat) * hf (s + j + 1)) * qq p + ((p : Rat) * hf (s + j + 1)) * hf p * (qq p * qq p) ≤ ((6 : Nat) : Rat) := by
    refine ⟨Rat.add_nonneg a1.1 a3.1, ?_⟩
    have e : ((6 : Nat) : Rat) = ((1 * 2 : Nat) : Rat) + ((1 * 1 * (2 * 2) : Nat) : Rat) := by rw [← Rat.natCast_add]
    rw [e]
    have b1 := a1.2
    have b2 := a3.2
    grind
  have := mulr h (A := 1) (B := 6) (fig_range h (s + j)) a4
  exact this
theorem run_bn {p k : Nat} (hp : 0 < p) (hp6 : p ≤ 60) (hk : s + k ≤ 60) : Bn 900 (W a b s + sumR (again a b s p) k) := by
  have f : Fr (Den p) (W a b s + sumR (again a b s p) k) := ((W_fr h s (by omega)).dvd (Nat.dvd_mul_right _ _)).add (Fr.sum fun j hj => again_fr h hp (by omega))
  have r1 := W_range h s
  have r2 := sumr h (f := again a b s p) (B := 6) (m := k) fun j _ => again_range h hp
  have r : Ab 420 (W a b s + sumR (again a b s p) k) := by
    refine Ab.of (Rat.add_nonneg r1.1 r2.1) ?_
    have b1 := r1.2
    have b2 := r2.2
    have e : ((1 * s : Nat) : Rat) + ((6 * k : Nat) : Rat) ≤ ((420 : Nat) : Rat) := by
      rw [← Rat.natCast_add]; exact Rat.natCast_le_natCast.mpr (by omega)
    grind
  have dl := den_lt hp6
  exact (Bn.of (k := 250) f (den_pos hp) r (pow_lt' _ dl (by decide)) (by
    have : 420 * Den p < 420 * 2 ^ 241 := by omega
    exact Nat.lt_trans this (by decide +kernel))).mono (by decide)
end
end K57
set_option exponentiation.threshold 10000
namespace K57
open PySem L2 L4
theorem nr_tF (a b s n m : Nat) : nr (m + 1) (tF a b s n) = true := vec_all fun k _ => z_nri
theorem len_tF (a b s n : Nat) (st : Sto) : g0 lenD [tF a b s n] st = some (.int (n : Nat), st) := by unfold tF; rw [z_lent, vec_len]
theorem nh_bn {n k : Nat} (hn : n ≤ 60) (hk : k ≤ 60) : Bn 900 ((n : Rat) * hf k) := by
  have h1 : Fr (2 ^ 60) ((n : Rat) * hf k) := by
    have h2 : Fr (2 ^ 0) (n : Rat) := Fr.nat _ _
    exact (h2.mulp (fr_hf k)).pow (by omega)
  have h2 : 0 ≤ (n : Rat) * hf k ∧ (n : Rat) * hf k ≤ ((60 * 1 : Nat) : Rat) := by
    refine ⟨Rat.mul_nonneg Rat.natCast_nonneg (Rat.le_of_lt (hf_pos k)), ?_⟩
    rw [Rat.natCast_mul]
    exact Rat.le_trans (Rat.mul_le_mul_of_nonneg_right (Rat.natCast_le_natCast.mpr hn) (Rat.le_of_lt (hf_pos k))) (Rat.mul_le_mul_of_nonneg_left (hf_le k) Rat.natCast_nonneg)
  exact (Bn.of (k := 70) h1 (Nat.pow_pos (by decide)) (Ab.of h2.1 h2.2) (by decide +kernel) (by decide +kernel)).mono (by decide)
theorem hf_bn {k : Nat} (hk : k ≤ 60) : Bn 900 (hf k) := by
  have := nh_bn (n := 1) (by decide) hk
  rwa [show ((1 : Nat) : Rat) = 1 from rfl, Rat.one_mul] at this
theorem bnU {x y : Rat} {i j k : Nat} (hx : Bn i x) (hy : Bn j y) (h : i + j ≤ k) : Bn k (x * y) := (Bn.mul hx hy).mono h
theorem nh_bnS {n k : Nat} (hn : n ≤ 60) (hk : k ≤ 60) : Bn 70 ((n : Rat) * hf k) := by
  have h1 : Fr (2 ^ 60) ((n : Rat) * hf k) := by
    have h2 : Fr (2 ^ 0) (n : Rat) := Fr.nat _ _
    exact (h2.mulp (fr_hf k)).pow (by omega)
  have h2 : 0 ≤ (n : Rat) * hf k ∧ (n : Rat) * hf k ≤ ((60 * 1 : Nat) : Rat) := by
    refine ⟨Rat.mul_nonneg Rat.natCast_nonneg (Rat.le_of_lt (hf_pos k)), ?_⟩
    rw [Rat.natCast_mul]
    exact Rat.le_trans (Rat.mul_le_mul_of_nonneg_right (Rat.natCast_le_natCast.mpr hn) (Rat.le_of_lt (hf_pos k))) (Rat.mul_le_mul_of_nonneg_left (hf_le k) Rat.natCast_nonneg)
  exact Bn.of (k := 70) h1 (Nat.pow_pos (by decide)) (Ab.of h2.1 h2.2) (by decide +kernel) (by decide +kernel)
theorem qq_bn {p : Nat} (hp : 0 < p) (hp6 : p ≤ 60) : Bn 70 (qq p) := by
  have h0 : 1 < 2 ^ p := Nat.one_lt_two_pow (by omega)
  have h1 : 2 ^ p ≤ 2 ^ 60 := Nat.pow_le_pow_right (by decide) hp6
  have r := qq_range hp
  exact Bn.of (k := 70) (B := 2) (fr_qq hp) (by omega) (Ab.of r.1 r.2) (Nat.lt_of_lt_of_le (show 2 ^ p - 1 < 2 ^ 61 by omega) (by decide)) (Nat.lt_of_lt_of_le (show 2 * (2 ^ p - 1) < 2 ^ 62 by omega) (by decide))
theorem weighed_eq {a b m s : Nat} (h : a < b) (hb : b ≤ 60) (hc : Nat.gcd a b = 1) (F : Figs a b m s) : F_weighed_bits [shD a b] [] = .ok (sh (told a b m s)) [] := by
  obtain ⟨st', be⟩ := bits_eq h hb hc F
  have m60 := F.m60
  have sm := F.sm
  obtain ⟨p, hp⟩ : ∃ p, m - s = p := ⟨_, rfl⟩
  have hp0 : 0 < p := by omega
  have hp6 : p ≤ 60 := by omega
  rw [hp] at be
  have nt : nr 12 (.tup [tF a b 0 s, tF a b s p]) = true := by
    show ([tF a b 0 s, tF a b s p]).all (nr 11) = true
    simp [nr_tF]
  have nn : nr 12 (shD a b) = true := rfl
  have e1 : ∀ x : Nat, (x : Int) + 1 = ((x + 1 : Nat) : Int) := fun x => by omega
  have f1 := for_vec (b := bTup 2 (bCons (bName 4) (bCons (bName 5) bNil))) (body := b1_weighed_bits) (it := fun k => .tup [.int (k : Nat), .int (fig a b (0 + k) : Nat)])
    (fun k => [some (shD a b), some (tF a b 0 s), some (tF a b s p), some (sh (W a b k)), lv none (fun k => .int (k : Nat)) k, lv none (fun k => .int (fig a b k : Nat)) k, none, none, none, none, none, none, none]) (fun _ => []) s fun k hk => by
      refine ⟨[some (shD a b), some (tF a b 0 s), some (tF a b s p), some (sh (W a b k)), some (.int (k : Nat)), some (.int (fig a b k : Nat)), none, none, none, none, none, none, none], ?_, ?_⟩
      · rw [Nat.zero_add]; rfl
      have lt := fig_lt h k
      have eW : W a b (k + 1) = W a b k + (fig a b k : Rat) * (((k + 1 : Nat) : Rat) * hf (k + 1)) := by unfold W; rw [sumR]
      unfold b1_weighed_bits
      have : fig a b k = 0 ∨ fig a b k = 1 := by omega
      rcases this with f0 | f0
      · rw [f0, show ((0 : Nat) : Rat) = 0 from rfl, Rat.zero_mul, Rat.add_zero] at eW
        have d0 : decide (((fig a b k : Nat) : Int) = 1) = false := by rw [f0]; rfl
        simp -implicitDefEqProofs only [x_set, x_asg, x_call, x_callM, x_callN, x_cons, x_nil, x_V, x_C, x_1, x_2, x_N, x_tup, x_lst, x_lstM, x_lc, x_rg1, x_rg2, x_iseq, x_ifE, x_ifS, x_and, x_or, x_not, x_ret, x_retN, x_par, x_drop, x_nx, x_raise, x_seq, x_for, x_chain, x_met, x_callP, x_bname, x_bnil, x_bcons, x_btup, x_put, x_fnil, List.getElem?_cons_zero, List.getElem?_cons_succ, List.set_cons_succ, List.set_cons_zero, y_bn, y_bn', y_un, y_of, y_of2, y_nN, y_ac, y_ac', tp0, tp1, tp2, tp3, tp4, lp0, lp1, lp2, lp3, lp4, lp5, lp6, lp7, y_lpM0, y_ift, y_iff, y_not, y_cl, y_clM, y_clN, y_clP, y_clPx, y_st, y_rt, y_rtx, y_dr, y_drx, y_ifst, y_ifsf, y_pr, y_pr', y_asg, y_rg1, y_rg2, y_rg2', y_sql, y_sqt, y_fr, y_lc, y_thn, y_thr, y_thx, y_ch0, y_ch1, y_ch2t, y_ch2f, y_ch3, y_pt1, y_pt2, y_me2, z_add, z_sub, z_lt, z_le, z_gt, z_ge, z_eq, z_ne, z_neg, z_nri, z_nrb, z_nrn, z_nrt, z_nrl, z_lent, z_lenl, z_min, z_max, z_ixt, z_ixl, z_revt, z_revl, z_tupt, z_tupl, z_lstt, z_lstl, z_inti, z_isi_ii, z_isi_ib, z_isi_is, z_isi_it, z_isi_il, z_isi_tt, z_isi_tl, z_isi_ti, z_isi_tb, z_isi_lt, z_isi_ll, z_isi_bb, z_isi_bi, z_isi_bt, z_isi_bls, at_0, at_1, at_2, at_3, List.all_cons, List.all_nil, Bool.and_self, Bool.true_and, Bool.and_true, if_true, decide_true, decide_false, Bool.not_true, Bool.not_false, wipeD, finL, rgOk_0, rgOk_1, and_true, true_and, List.reverse_nil, List.nil_append, and_self, reduceIte, Bool.false_eq_true, d0, eW, lv]
      · rw [f0, show ((1 : Nat) : Rat) = 1 from rfl, Rat.one_mul] at eW
        have d0 : decide (((fig a b k : Nat) : Int) = 1) = true := by rw [f0]; rfl
        have lw := low_hf (k + 1) (k + 1) (by omega) (by omega) []
        have pl : F_plus [sh (W a b k), sh (((k + 1 : Nat) : Rat) * hf (k + 1))] [] = .ok (sh (W a b (k + 1))) [] := by
          rw [po.plus ((W_bn h k (by omega)).mono (by decide)) ((nh_bn (by omega) (by omega)).mono (by decide)), eW]
        simp -implicitDefEqProofs only [x_set, x_asg, x_call, x_callM, x_callN, x_cons, x_nil, x_V, x_C, x_1, x_2, x_N, x_tup, x_lst, x_lstM, x_lc, x_rg1, x_rg2, x_iseq, x_ifE, x_ifS, x_and, x_or, x_not, x_ret, x_retN, x_par, x_drop, x_nx, x_raise, x_seq, x_for, x_chain, x_met, x_callP, x_bname, x_bnil, x_bcons, x_btup, x_put, x_fnil, List.getElem?_cons_zero, List.getElem?_cons_succ, List.set_cons_succ, List.set_cons_zero, y_bn, y_bn', y_un, y_of, y_of2, y_nN, y_ac, y_ac', tp0, tp1, tp2, tp3, tp4, lp0, lp1, lp2, lp3, lp4, lp5, lp6, lp7, y_lpM0, y_ift, y_iff, y_not, y_cl, y_clM, y_clN, y_clP, y_clPx, y_st, y_rt, y_rtx, y_dr, y_drx, y_ifst, y_ifsf, y_pr, y_pr', y_asg, y_rg1, y_rg2, y_rg2', y_sql, y_sqt, y_fr, y_lc, y_thn, y_thr, y_thx, y_ch0, y_ch1, y_ch2t, y_ch2f, y_ch3, y_pt1, y_pt2, y_me2, z_add, z_sub, z_lt, z_le, z_gt, z_ge, z_eq, z_ne, z_neg, z_nri, z_nrb, z_nrn, z_nrt, z_nrl, z_lent, z_lenl, z_min, z_max, z_ixt, z_ixl, z_revt, z_revl, z_tupt, z_tupl, z_lstt, z_lstl, z_inti, z_isi_ii, z_isi_ib, z_isi_is, z_isi_it, z_isi_il, z_isi_tt, z_isi_tl, z_isi_ti, z_isi_tb, z_isi_lt, z_isi_ll, z_isi_bb, z_isi_bi, z_isi_bt, z_isi_bls, at_0, at_1, at_2, at_3, List.all_cons, List.all_nil, Bool.and_self, Bool.true_and, Bool.and_true, if_true, decide_true, decide_false, Bool.not_true, Bool.not_false, wipeD, finL, rgOk_0, rgOk_1, and_true, true_and, List.reverse_nil, List.nil_append, and_self, reduceIte, Bool.false_eq_true, d0, e1, shl1 (k + 1) (by omega), lw, sh_nr, pl, lv]
  have f2 := for_ends (b := bTup 2 (bCons (bName 4) (bCons (bName 5) bNil))) (body := b2_weighed_bits) (it := fun k => .tup [.int (k : Nat), .int (fig a b (s + k) : Nat)])
    (fun k ρ st => (∃ x4 x5 x10 x11 x12, ρ = [some (shD a b), some (tF a b 0 s), some (tF a b s p), some (sh (W a b s + sumR (again a b s p) k)), x4, x5, some (.int (s : Nat)), some (.int (p : Nat)), some (sh (hf p)), some (sh (qq p)), x10, x11, x12]) ∧ st = []) p (fun k ρ st hk hI => by
      obtain ⟨⟨x4, x5, x10, x11, x12, rfl⟩, rfl⟩ := hI
      refine ⟨[some (shD a b), some (tF a b 0 s), some (tF a b s p), some (sh (W a b s + sumR (again a b s p) k)), some (.int (k : Nat)), some (.int (fig a b (s + k) : Nat)), some (.int (s : Nat)), some (.int (p : Nat)), some (sh (hf p)), some (sh (qq p)), x10, x11, x12], rfl, ?_⟩
      have lt := fig_lt h (s + k)
      have eW : sumR (again a b s p) (k + 1) = sumR (again a b s p) k + again a b s p k := by rw [sumR]
      unfold b2_weighed_bits
      have : fig a b (s + k) = 0 ∨ fig a b (s + k) = 1 := by omega
      rcases this with f0 | f0
      · have d0 : decide (((fig a b (s + k) : Nat) : Int) = 1) = false := by rw [f0]; rfl
        have e0 : again a b s p k = 0 := by unfold again; rw [f0, show ((0 : Nat) : Rat) = 0 from rfl, Rat.zero_mul]
        rw [e0, Rat.add_zero] at eW
        exact Ends.of (ρ := [some (shD a b), some (tF a b 0 s), some (tF a b s p), some (sh (W a b s + sumR (again a b s p) k)), some (.int (k : Nat)), some (.int (fig a b (s + k) : Nat)), some (.int (s : Nat)), some (.int (p : Nat)), some (sh (hf p)), some (sh (qq p)), x10, x11, x12]) (st := []) (by simp -implicitDefEqProofs only [x_set, x_asg, x_call, x_callM, x_callN, x_cons, x_nil, x_V, x_C, x_1, x_2, x_N, x_tup, x_lst, x_lstM, x_lc, x_rg1, x_rg2, x_iseq, x_ifE, x_ifS, x_and, x_or, x_not, x_ret, x_retN, x_par, x_drop, x_nx, x_raise, x_seq, x_for, x_chain, x_met, x_callP, x_bname, x_bnil, x_bcons, x_btup, x_put, x_fnil, List.getElem?_cons_zero, List.getElem?_cons_succ, List.set_cons_succ, List.set_cons_zero, y_bn, y_bn', y_un, y_of, y_of2, y_nN, y_ac, y_ac', tp0, tp1, tp2, tp3, tp4, lp0, lp1, lp2, lp3, lp4, lp5, lp6, lp7, y_lpM0, y_ift, y_iff, y_not, y_cl, y_clM, y_clN, y_clP, y_clPx, y_st, y_rt, y_rtx, y_dr, y_drx, y_ifst, y_ifsf, y_pr, y_pr', y_asg, y_rg1, y_rg2, y_rg2', y_sql, y_sqt, y_fr, y_lc, y_thn, y_thr, y_thx, y_ch0, y_ch1, y_ch2t, y_ch2f, y_ch3, y_pt1, y_pt2, y_me2, z_add, z_sub, z_lt, z_le, z_gt, z_ge, z_eq, z_ne, z_neg, z_nri, z_nrb, z_nrn, z_nrt, z_nrl, z_lent, z_lenl, z_min, z_max, z_ixt, z_ixl, z_revt, z_revl, z_tupt, z_tupl, z_lstt, z_lstl, z_inti, z_isi_ii, z_isi_ib, z_isi_is, z_isi_it, z_isi_il, z_isi_tt, z_isi_tl, z_isi_ti, z_isi_tb, z_isi_lt, z_isi_ll, z_isi_bb, z_isi_bi, z_isi_bt, z_isi_bls, at_0, at_1, at_2, at_3, List.all_cons, List.all_nil, Bool.and_self, Bool.true_and, Bool.and_true, if_true, decide_true, decide_false, Bool.not_true, Bool.not_false, wipeD, finL, rgOk_0, rgOk_1, and_true, true_and, List.reverse_nil, List.nil_append, and_self, reduceIte, Bool.false_eq_true, d0]) ⟨⟨_, _, _, _, _, by rw [eW]⟩, rfl⟩
      · have d0 : decide (((fig a b (s + k) : Nat) : Int) = 1) = true := by rw [f0]; rfl
        have ee : (s : Int) + (k : Int) + 1 = ((s + k + 1 : Nat) : Int) := by omega
        have l1 := low_hf (s + k + 1) (s + k + 1) (by omega) (by omega) []
        have l2 := low_hf p (s + k + 1) (by omega) (by omega) []
        have bq := (qq_bn hp0 hp6)
        have bh : Bn 70 (hf p) := by
          have := nh_bnS (n := 1) (by decide) hp6
          rwa [show ((1 : Nat) : Rat) = 1 from rfl, Rat.one_mul] at this
        have n1 := nh_bnS (n := s + k + 1) (k := s + k + 1) (by omega) (by omega)
        have n2 := nh_bnS (n := p) (k := s + k + 1) (by omega) (by omega)
        have t1 : F_times [sh (((s + k + 1 : Nat) : Rat) * hf (s + k + 1)), sh (qq p)] [] = .ok (sh ((((s + k + 1 : Nat) : Rat) * hf (s + k + 1)) * qq p)) [] := po.times (n1.mono (by decide)) (bq.mono (by decide))
        have t2 : F_times [sh ((p : Rat) * hf (s + k + 1)), sh (hf p)] [] = .ok (sh (((p : Rat) * hf (s + k + 1)) * hf p)) [] := po.times (n2.mono (by decide)) (bh.mono (by decide))
        have t3 : F_times [sh (qq p), sh (qq p)] [] = .ok (sh (qq p * qq p)) [] := po.times (bq.mono (by decide)) (bq.mono (by decide))
        have t4 : F_times [sh (((p : Rat) * hf (s + k + 1)) * hf p), sh (qq p * qq p)] [] = .ok (sh (((p : Rat) * hf (s + k + 1)) * hf p * (qq p * qq p))) [] := po.times (bnU n2 bh (by decide)) (bnU bq bq (by decide))
        have t5 : F_plus [sh ((((s + k + 1 : Nat) : Rat) * hf (s + k + 1)) * qq p), sh (((p : Rat) * hf (s + k + 1)) * hf p * (qq p * qq p))] [] = .ok (sh (again a b s p k)) [] := by
          rw [po.plus (bnU n1 bq (by decide)) (bnU (Bn.mul n2 bh) (Bn.mul bq bq) (by decide))]
          congr 2
          unfold again
          rw [f0, show ((1 : Nat) : Rat) = 1 from rfl, Rat.one_mul]
        have ba : Bn 300 (again a b s p k) := by
          have r := again_range (s := s) (j := k) h hp0
          have dl := den_lt hp6
          exact (Bn.of (k := 250) (again_fr h hp0 (by omega)) (den_pos hp0) (Ab.of r.1 r.2) (pow_lt' _ dl (by decide)) (by
            have : 6 * Den p < 6 * 2 ^ 241 := by omega
            exact Nat.lt_trans this (by decide +kernel))).mono (by decide)
        have t6 : F_plus [sh (W a b s + sumR (again a b s p) k), sh (again a b s p k)] [] = .ok (sh (W a b s + sumR (again a b s p) (k + 1))) [] := by
          rw [po.plus ((run_bn h hp0 hp6 (by omega)).mono (by decide)) (ba.mono (by decide)), eW, Rat.add_assoc]
        refine Ends.of (ρ := [some (shD a b), some (tF a b 0 s), some (tF a b s p), some (sh (W a b s + sumR (again a b s p) (k + 1))), some (.int (k : Nat)), some (.int (fig a b (s + k) : Nat)), some (.int (s : Nat)), some (.int (p : Nat)), some (sh (hf p)), some (sh (qq p)), some (.int (s + k + 1 : Nat)), some (sh ((((s + k + 1 : Nat) : Rat) * hf (s + k + 1)) * qq p)), some (sh (((p : Rat) * hf (s + k + 1)) * hf p * (qq p * qq p)))]) (st := []) (by
          simp -implicitDefEqProofs only [x_set, x_asg, x_call, x_callM, x_callN, x_cons, x_nil, x_V, x_C, x_1, x_2, x_N, x_tup, x_lst, x_lstM, x_lc, x_rg1, x_rg2, x_iseq, x_ifE, x_ifS, x_and, x_or, x_not, x_ret, x_retN, x_par, x_drop, x_nx, x_raise, x_seq, x_for, x_chain, x_met, x_callP, x_bname, x_bnil, x_bcons, x_btup, x_put, x_fnil, List.getElem?_cons_zero, List.getElem?_cons_succ, List.set_cons_succ, List.set_cons_zero, y_bn, y_bn', y_un, y_of, y_of2, y_nN, y_ac, y_ac', tp0, tp1, tp2, tp3, tp4, lp0, lp1, lp2, lp3, lp4, lp5, lp6, lp7, y_lpM0, y_ift, y_iff, y_not, y_cl, y_clM, y_clN, y_clP, y_clPx, y_st, y_rt, y_rtx, y_dr, y_drx, y_ifst, y_ifsf, y_pr, y_pr', y_asg, y_rg1, y_rg2, y_rg2', y_sql, y_sqt, y_fr, y_lc, y_thn, y_thr, y_thx, y_ch0, y_ch1, y_ch2t, y_ch2f, y_ch3, y_pt1, y_pt2, y_me2, z_add, z_sub, z_lt, z_le, z_gt, z_ge, z_eq, z_ne, z_neg, z_nri, z_nrb, z_nrn, z_nrt, z_nrl, z_lent, z_lenl, z_min, z_max, z_ixt, z_ixl, z_revt, z_revl, z_tupt, z_tupl, z_lstt, z_lstl, z_inti, z_isi_ii, z_isi_ib, z_isi_is, z_isi_it, z_isi_il, z_isi_tt, z_isi_tl, z_isi_ti, z_isi_tb, z_isi_lt, z_isi_ll, z_isi_bb, z_isi_bi, z_isi_bt, z_isi_bls, at_0, at_1, at_2, at_3, List.all_cons, List.all_nil, Bool.and_self, Bool.true_and, Bool.and_true, if_true, decide_true, decide_false, Bool.not_true, Bool.not_false, wipeD, finL, rgOk_0, rgOk_1, and_true, true_and, List.reverse_nil, List.nil_append, and_self, reduceIte, Bool.false_eq_true, d0, ee, shl1 (s + k + 1) (by omega), l1, l2, sh_nr, t1, t2, t3, t4, t5, t6]) ⟨⟨_, _, _, _, _, rfl⟩, rfl⟩)
    (ρ := [some (shD a b), some (tF a b 0 s), some (tF a b s p), some (sh (W a b s)), lv none (fun k => .int (k : Nat)) s, lv none (fun k => .int (fig a b k : Nat)) s, some (.int (s : Nat)), some (.int (p : Nat)), some (sh (hf p)), some (sh (qq p)), none, none, none]) (st := []) ⟨⟨_, _, _, _, _, by rw [sumR, Rat.add_zero]⟩, rfl⟩
  obtain ⟨ρ2, st2, f2, ⟨x4, x5, x10, x11, x12, rfl⟩, rfl⟩ := f2.get
  rw [← enum_vec (f := fun k => .int (fig a b (0 + k) : Nat))] at f1
  rw [← enum_vec (f := fun k => .int (fig a b (s + k) : Nat))] at f2
  have w0 : sh (W a b 0) = sh 0 := rfl
  rw [w0] at f1
  have lp : F_low [.int 1, .int (2 ^ p : Nat)] [] = .ok (sh (hf p)) [] := by
    have := low_hf 1 p (by decide) (by omega) []
    rwa [show ((1 : Nat) : Rat) = 1 from rfl, Rat.one_mul] at this
  have b1 : Bn 3000 1 := Bn.one (by decide)
  have bh : Bn 900 (hf p) := hf_bn hp6
  have l1 : F_less [sh 1, sh (hf p)] [] = .ok (sh (1 - hf p)) [] := po.less b1 (bh.mono (by decide))
  have o1 : F_over [sh 1, sh (1 - hf p)] [] = .ok (sh (qq p)) [] := po.over b1 ((Bn.sub (Bn.one (k := 1) (by decide)) bh).mono (by decide)) (one_hf hp0)
  refine fn_rt rfl ?_
  show g_weighed_bits [some (shD a b), none, none, none, none, none, none, none, none, none, none, none, none] [] = _
  unfold g_weighed_bits
  refine seq_nx (ρ1 := [some (shD a b), some (tF a b 0 s), some (tF a b s p), none, none, none, none, none, none, none, none, none, none]) (st1 := []) (by simp -implicitDefEqProofs only [x_set, x_asg, x_call, x_callM, x_callN, x_cons, x_nil, x_V, x_C, x_1, x_2, x_N, x_tup, x_lst, x_lstM, x_lc, x_rg1, x_rg2, x_iseq, x_ifE, x_ifS, x_and, x_or, x_not, x_ret, x_retN, x_par, x_drop, x_nx, x_raise, x_seq, x_for, x_chain, x_met, x_callP, x_bname, x_bnil, x_bcons, x_btup, x_put, x_fnil, List.getElem?_cons_zero, List.getElem?_cons_succ, List.set_cons_succ, List.set_cons_zero, y_bn, y_bn', y_un, y_of, y_of2, y_nN, y_ac, y_ac', tp0, tp1, tp2, tp3, tp4, lp0, lp1, lp2, lp3, lp4, lp5, lp6, lp7, y_lpM0, y_ift, y_iff, y_not, y_cl, y_clM, y_clN, y_clP, y_clPx, y_st, y_rt, y_rtx, y_dr, y_drx, y_ifst, y_ifsf, y_pr, y_pr', y_asg, y_rg1, y_rg2, y_rg2', y_sql, y_sqt, y_fr, y_lc, y_thn, y_thr, y_thx, y_ch0, y_ch1, y_ch2t, y_ch2f, y_ch3, y_pt1, y_pt2, y_me2, z_add, z_sub, z_lt, z_le, z_gt, z_ge, z_eq, z_ne, z_neg, z_nri, z_nrb, z_nrn, z_nrt, z_nrl, z_lent, z_lenl, z_min, z_max, z_ixt, z_ixl, z_revt, z_revl, z_tupt, z_tupl, z_lstt, z_lstl, z_inti, z_isi_ii, z_isi_ib, z_isi_is, z_isi_it, z_isi_il, z_isi_tt, z_isi_tl, z_isi_ti, z_isi_tb, z_isi_lt, z_isi_ll, z_isi_bb, z_isi_bi, z_isi_bt, z_isi_bls, at_0, at_1, at_2, at_3, List.all_cons, List.all_nil, Bool.and_self, Bool.true_and, Bool.and_true, if_true, decide_true, decide_false, Bool.not_true, Bool.not_false, wipeD, finL, rgOk_0, rgOk_1, and_true, true_and, List.reverse_nil, List.nil_append, and_self, reduceIte, Bool.false_eq_true, nn, be, nt]; rfl) ?_
  refine seq_nx (ρ1 := [some (shD a b), some (tF a b 0 s), some (tF a b s p), some (sh 0), none, none, none, none, none, none, none, none, none]) (st1 := []) (by simp -implicitDefEqProofs only [x_set, x_asg, x_call, x_callM, x_callN, x_cons, x_nil, x_V, x_C, x_1, x_2, x_N, x_tup, x_lst, x_lstM, x_lc, x_rg1, x_rg2, x_iseq, x_ifE, x_ifS, x_and, x_or, x_not, x_ret, x_retN, x_par, x_drop, x_nx, x_raise, x_seq, x_for, x_chain, x_met, x_callP, x_bname, x_bnil, x_bcons, x_btup, x_put, x_fnil, List.getElem?_cons_zero, List.getElem?_cons_succ, List.set_cons_succ, List.set_cons_zero, y_bn, y_bn', y_un, y_of, y_of2, y_nN, y_ac, y_ac', tp0, tp1, tp2, tp3, tp4, lp0, lp1, lp2, lp3, lp4, lp5, lp6, lp7, y_lpM0, y_ift, y_iff, y_not, y_cl, y_clM, y_clN, y_clP, y_clPx, y_st, y_rt, y_rtx, y_dr, y_drx, y_ifst, y_ifsf, y_pr, y_pr', y_asg, y_rg1, y_rg2, y_rg2', y_sql, y_sqt, y_fr, y_lc, y_thn, y_thr, y_thx, y_ch0, y_ch1, y_ch2t, y_ch2f, y_ch3, y_pt1, y_pt2, y_me2, z_add, z_sub, z_lt, z_le, z_gt, z_ge, z_eq, z_ne, z_neg, z_nri, z_nrb, z_nrn, z_nrt, z_nrl, z_lent, z_lenl, z_min, z_max, z_ixt, z_ixl, z_revt, z_revl, z_tupt, z_tupl, z_lstt, z_lstl, z_inti, z_isi_ii, z_isi_ib, z_isi_is, z_isi_it, z_isi_il, z_isi_tt, z_isi_tl, z_isi_ti, z_isi_tb, z_isi_lt, z_isi_ll, z_isi_bb, z_isi_bi, z_isi_bt, z_isi_bls, at_0, at_1, at_2, at_3, List.all_cons, List.all_nil, Bool.and_self, Bool.true_and, Bool.and_true, if_true, decide_true, decide_false, Bool.not_true, Bool.not_false, wipeD, finL, rgOk_0, rgOk_1, and_true, true_and, List.reverse_nil, List.nil_append, and_self, reduceIte, Bool.false_eq_true, sh_00]) ?_
  refine seq_nx (ρ1 := [some (shD a b), some (tF a b 0 s), some (tF a b s p), some (sh (W a b s)), lv none (fun k => .int (k : Nat)) s, lv none (fun k => .int (fig a b k : Nat)) s, none, none, none, none, none, none, none]) (st1 := []) (by
    rw [x_for, x_enum, x_V]
    exact f1) ?_
  refine seq_nx (ρ1 := [some (shD a b), some (tF a b 0 s), some (tF a b s p), some (sh (W a b s)), lv none (fun k => .int (k : Nat)) s, lv none (fun k => .int (fig a b k : Nat)) s, some (.int (s : Nat)), some (.int (p : Nat)), none, none, none, none, none]) (st1 := []) (by simp -implicitDefEqProofs only [x_set, x_asg, x_call, x_callM, x_callN, x_cons, x_nil, x_V, x_C, x_1, x_2, x_N, x_tup, x_lst, x_lstM, x_lc, x_rg1, x_rg2, x_iseq, x_ifE, x_ifS, x_and, x_or, x_not, x_ret, x_retN, x_par, x_drop, x_nx, x_raise, x_seq, x_for, x_chain, x_met, x_callP, x_bname, x_bnil, x_bcons, x_btup, x_put, x_fnil, List.getElem?_cons_zero, List.getElem?_cons_succ, List.set_cons_succ, List.set_cons_zero, y_bn, y_bn', y_un, y_of, y_of2, y_nN, y_ac, y_ac', tp0, tp1, tp2, tp3, tp4, lp0, lp1, lp2, lp3, lp4, lp5, lp6, lp7, y_lpM0, y_ift, y_iff, y_not, y_cl, y_clM, y_clN, y_clP, y_clPx, y_st, y_rt, y_rtx, y_dr, y_drx, y_ifst, y_ifsf, y_pr, y_pr', y_asg, y_rg1, y_rg2, y_rg2', y_sql, y_sqt, y_fr, y_lc, y_thn, y_thr, y_thx, y_ch0, y_ch1, y_ch2t, y_ch2f, y_ch3, y_pt1, y_pt2, y_me2, z_add, z_sub, z_lt, z_le, z_gt, z_ge, z_eq, z_ne, z_neg, z_nri, z_nrb, z_nrn, z_nrt, z_nrl, z_lent, z_lenl, z_min, z_max, z_ixt, z_ixl, z_revt, z_revl, z_tupt, z_tupl, z_lstt, z_lstl, z_inti, z_isi_ii, z_isi_ib, z_isi_is, z_isi_it, z_isi_il, z_isi_tt, z_isi_tl, z_isi_ti, z_isi_tb, z_isi_lt, z_isi_ll, z_isi_bb, z_isi_bi, z_isi_bt, z_isi_bls, at_0, at_1, at_2, at_3, List.all_cons, List.all_nil, Bool.and_self, Bool.true_and, Bool.and_true, if_true, decide_true, decide_false, Bool.not_true, Bool.not_false, wipeD, finL, rgOk_0, rgOk_1, and_true, true_and, List.reverse_nil, List.nil_append, and_self, reduceIte, Bool.false_eq_true, len_tF]) ?_
  refine seq_nx (ρ1 := [some (shD a b), some (tF a b 0 s), some (tF a b s p), some (sh (W a b s)), lv none (fun k => .int (k : Nat)) s, lv none (fun k => .int (fig a b k : Nat)) s, some (.int (s : Nat)), some (.int (p : Nat)), some (sh (hf p)), none, none, none, none]) (st1 := []) (by simp -implicitDefEqProofs only [x_set, x_asg, x_call, x_callM, x_callN, x_cons, x_nil, x_V, x_C, x_1, x_2, x_N, x_tup, x_lst, x_lstM, x_lc, x_rg1, x_rg2, x_iseq, x_ifE, x_ifS, x_and, x_or, x_not, x_ret, x_retN, x_par, x_drop, x_nx, x_raise, x_seq, x_for, x_chain, x_met, x_callP, x_bname, x_bnil, x_bcons, x_btup, x_put, x_fnil, List.getElem?_cons_zero, List.getElem?_cons_succ, List.set_cons_succ, List.set_cons_zero, y_bn, y_bn', y_un, y_of, y_of2, y_nN, y_ac, y_ac', tp0, tp1, tp2, tp3, tp4, lp0, lp1, lp2, lp3, lp4, lp5, lp6, lp7, y_lpM0, y_ift, y_iff, y_not, y_cl, y_clM, y_clN, y_clP, y_clPx, y_st, y_rt, y_rtx, y_dr, y_drx, y_ifst, y_ifsf, y_pr, y_pr', y_asg, y_rg1, y_rg2, y_rg2', y_sql, y_sqt, y_fr, y_lc, y_thn, y_thr, y_thx, y_ch0, y_ch1, y_ch2t, y_ch2f, y_ch3, y_pt1, y_pt2, y_me2, z_add, z_sub, z_lt, z_le, z_gt, z_ge, z_eq, z_ne, z_neg, z_nri, z_nrb, z_nrn, z_nrt, z_nrl, z_lent, z_lenl, z_min, z_max, z_ixt, z_ixl, z_revt, z_revl, z_tupt, z_tupl, z_lstt, z_lstl, z_inti, z_isi_ii, z_isi_ib, z_isi_is, z_isi_it, z_isi_il, z_isi_tt, z_isi_tl, z_isi_ti, z_isi_tb, z_isi_lt, z_isi_ll, z_isi_bb, z_isi_bi, z_isi_bt, z_isi_bls, at_0, at_1, at_2, at_3, List.all_cons, List.all_nil, Bool.and_self, Bool.true_and, Bool.and_true, if_true, decide_true, decide_false, Bool.not_true, Bool.not_false, wipeD, finL, rgOk_0, rgOk_1, and_true, true_and, List.reverse_nil, List.nil_append, and_self, reduceIte, Bool.false_eq_true, shl1 p (by omega), lp, sh_nr]) ?_
  refine seq_nx (ρ1 := [some (shD a b), some (tF a b 0 s), some (tF a b s p), some (sh (W a b s)), lv none (fun k => .int (k : Nat)) s, lv none (fun k => .int (fig a b k : Nat)) s, some (.int (s : Nat)), some (.int (p : Nat)), some (sh (hf p)), some (sh (qq p)), none, none, none]) (st1 := []) (by simp -implicitDefEqProofs only [x_set, x_asg, x_call, x_callM, x_callN, x_cons, x_nil, x_V, x_C, x_1, x_2, x_N, x_tup, x_lst, x_lstM, x_lc, x_rg1, x_rg2, x_iseq, x_ifE, x_ifS, x_and, x_or, x_not, x_ret, x_retN, x_par, x_drop, x_nx, x_raise, x_seq, x_for, x_chain, x_met, x_callP, x_bname, x_bnil, x_bcons, x_btup, x_put, x_fnil, List.getElem?_cons_zero, List.getElem?_cons_succ, List.set_cons_succ, List.set_cons_zero, y_bn, y_bn', y_un, y_of, y_of2, y_nN, y_ac, y_ac', tp0, tp1, tp2, tp3, tp4, lp0, lp1, lp2, lp3, lp4, lp5, lp6, lp7, y_lpM0, y_ift, y_iff, y_not, y_cl, y_clM, y_clN, y_clP, y_clPx, y_st, y_rt, y_rtx, y_dr, y_drx, y_ifst, y_ifsf, y_pr, y_pr', y_asg, y_rg1, y_rg2, y_rg2', y_sql, y_sqt, y_fr, y_lc, y_thn, y_thr, y_thx, y_ch0, y_ch1, y_ch2t, y_ch2f, y_ch3, y_pt1, y_pt2, y_me2, z_add, z_sub, z_lt, z_le, z_gt, z_ge, z_eq, z_ne, z_neg, z_nri, z_nrb, z_nrn, z_nrt, z_nrl, z_lent, z_lenl, z_min, z_max, z_ixt, z_ixl, z_revt, z_revl, z_tupt, z_tupl, z_lstt, z_lstl, z_inti, z_isi_ii, z_isi_ib, z_isi_is, z_isi_it, z_isi_il, z_isi_tt, z_isi_tl, z_isi_ti, z_isi_tb, z_isi_lt, z_isi_ll, z_isi_bb, z_isi_bi, z_isi_bt, z_isi_bls, at_0, at_1, at_2, at_3, List.all_cons, List.all_nil, Bool.and_self, Bool.true_and, Bool.and_true, if_true, decide_true, decide_false, Bool.not_true, Bool.not_false, wipeD, finL, rgOk_0, rgOk_1, and_true, true_and, List.reverse_nil, List.nil_append, and_self, reduceIte, Bool.false_eq_true, sh_11, l1, o1, sh_nr]) ?_
  refine seq_nx (ρ1 := [some (shD a b), some (tF a b 0 s), some (tF a b s p), some (sh (W a b s + sumR (again a b s p) p)), x4, x5, some (.int (s : Nat)), some (.int (p : Nat)), some (sh (hf p)), some (sh (qq p)), x10, x11, x12]) (st1 := []) (by
    rw [x_for, x_enum, x_V]
    exact f2) ?_
  have et : W a b s + sumR (again a b s p) p = told a b m s := by unfold told; rw [hp]
  rw [et]
  simp -implicitDefEqProofs only [x_set, x_asg, x_call, x_callM, x_callN, x_cons, x_nil, x_V, x_C, x_1, x_2, x_N, x_tup, x_lst, x_lstM, x_lc, x_rg1, x_rg2, x_iseq, x_ifE, x_ifS, x_and, x_or, x_not, x_ret, x_retN, x_par, x_drop, x_nx, x_raise, x_seq, x_for, x_chain, x_met, x_callP, x_bname, x_bnil, x_bcons, x_btup, x_put, x_fnil, List.getElem?_cons_zero, List.getElem?_cons_succ, List.set_cons_succ, List.set_cons_zero, y_bn, y_bn', y_un, y_of, y_of2, y_nN, y_ac, y_ac', tp0, tp1, tp2, tp3, tp4, lp0, lp1, lp2, lp3, lp4, lp5, lp6, lp7, y_lpM0, y_ift, y_iff, y_not, y_cl, y_clM, y_clN, y_clP, y_clPx, y_st, y_rt, y_rtx, y_dr, y_drx, y_ifst, y_ifsf, y_pr, y_pr', y_asg, y_rg1, y_rg2, y_rg2', y_sql, y_sqt, y_fr, y_lc, y_thn, y_thr, y_thx, y_ch0, y_ch1, y_ch2t, y_ch2f, y_ch3, y_pt1, y_pt2, y_me2, z_add, z_sub, z_lt, z_le, z_gt, z_ge, z_eq, z_ne, z_neg, z_nri, z_nrb, z_nrn, z_nrt, z_nrl, z_lent, z_lenl, z_min, z_max, z_ixt, z_ixl, z_revt, z_revl, z_tupt, z_tupl, z_lstt, z_lstl, z_inti, z_isi_ii, z_isi_ib, z_isi_is, z_isi_it, z_isi_il, z_isi_tt, z_isi_tl, z_isi_ti, z_isi_tb, z_isi_lt, z_isi_ll, z_isi_bb, z_isi_bi, z_isi_bt, z_isi_bls, at_0, at_1, at_2, at_3, List.all_cons, List.all_nil, Bool.and_self, Bool.true_and, Bool.and_true, if_true, decide_true, decide_false, Bool.not_true, Bool.not_false, wipeD, finL, rgOk_0, rgOk_1, and_true, true_and, List.reverse_nil, List.nil_append, and_self, reduceIte, Bool.false_eq_true]
end K57
set_option exponentiation.threshold 10000
namespace K57
open PySem L2 L4
/-- figures that come again -/
theorem fig_again {a b m s : Nat} (F : Figs a b m s) (t j : Nat) : fig a b (s + t * (m - s) + j) = fig a b (s + j) := by
  have h : ∀ t j, rr a b (s + t * (m - s) + j) = rr a b (s + j) := by
    intro t
    induction t with
    | zero => intro j; rw [Nat.zero_mul, Nat.add_zero]
    | succ t ih =>
      intro j
      have e : s + (t + 1) * (m - s) + j = s + t * (m - s) + ((m - s) + j) := by rw [Nat.succ_mul]; omega
      rw [e, ih]
      have sm := F.sm
      have := rr_add F.rep j
      rw [this]
      congr 1
      omega
  unfold fig
  rw [h]
theorem turns {s p : Nat} (hp : 0 < p) : ∃ t, t ≤ 160 ∧ (∀ k, k < t → s + k * p < 160) ∧ 160 ≤ s + t * p := by
  have : ∀ d, (∃ t, t ≤ d ∧ (∀ k, k < t → s + k * p < 160) ∧ 160 ≤ s + t * p) ∨ ∀ k, k ≤ d → s + k * p < 160 := fun d => by
    induction d with
    | zero =>
      by_cases h : 160 ≤ s + 0 * p
      · exact .inl ⟨0, Nat.le_refl _, fun k hk => by omega, h⟩
      · exact .inr fun k hk => by have : k = 0 := by omega
                                  subst this; omega
    | succ d ih =>
      rcases ih with ⟨t, h1, h2, h3⟩ | h
      · exact .inl ⟨t, by omega, h2, h3⟩
      · by_cases h4 : 160 ≤ s + (d + 1) * p
        · exact .inl ⟨d + 1, Nat.le_refl _, fun k hk => h k (by omega), h4⟩
        · refine .inr fun k hk => ?_
          by_cases e : k = d + 1
          · subst e; omega
          · exact h k (by omega)
  rcases this 160 with h | h
  · exact h
  · have h1 := h 160 (Nat.le_refl _)
    have : 160 * 1 ≤ 160 * p := Nat.mul_le_mul_left _ hp
    omega
theorem low_share (v w : Nat) (hv : v < w) (hw : w ≤ 60) (st : Sto) : ∃ a b, a < b ∧ b ≤ 60 ∧ Nat.gcd a b = 1 ∧ F_low [.int (v : Nat), .int (w : Nat)] st = .ok (shD a b) st := by
  have w0 : w ≠ 0 := by omega
  have g0 : 0 < Nat.gcd v w := Nat.gcd_pos_of_pos_right _ (by omega)
  refine ⟨v / Nat.gcd v w, w / Nat.gcd v w, ?_, Nat.le_trans (Nat.div_le_self _ _) hw, ?_, ?_⟩
  · have h1 := Nat.div_mul_cancel (Nat.gcd_dvd_left v w)
    have h2 := Nat.div_mul_cancel (Nat.gcd_dvd_right v w)
    exact Nat.lt_of_mul_lt_mul_right (a := Nat.gcd v w) (by omega)
  · have := Nat.gcd_div (Nat.gcd_dvd_left v w) (Nat.gcd_dvd_right v w)
    rw [this, Nat.div_self g0]
  · rw [f_low]
    have := lowS_prog (v : Int) (w : Int) st (by omega) (by rw [Int.natAbs_natCast]; exact Nat.lt_of_lt_of_le (show v < 2 ^ 6 by omega) (Nat.pow_le_pow_right (by decide) (by decide))) (by rw [Int.natAbs_natCast]; exact Nat.lt_of_lt_of_le (show w < 2 ^ 6 by omega) (Nat.pow_le_pow_right (by decide) (by decide)))
    obtain ⟨h1, h2⟩ := dvI_pos (v : Int) w0
    rw [this]
    unfold shR shD
    rw [h1, h2, Int.natAbs_natCast]
    rfl
theorem odd_pow (n : Nat) (hn : n < 61) (ho : n % 2 = 1) : D.tup [.int (n : Nat), .int (2 ^ n : Nat)] = sh ((n : Rat) * hf n) := by
  have hg : Nat.gcd n (2 ^ n) = 1 := by
    have : ∀ k, k < 61 → k % 2 = 1 → Nat.gcd k (2 ^ k) = 1 := by decide +kernel
    exact this n hn ho
  rw [← div_hf, sh_def]
  obtain ⟨h1, h2⟩ := dvI_pos (n : Int) (b := 2 ^ n) (by have : 0 < 2 ^ n := Nat.pow_pos (by decide)
                                                        omega)
  rw [h1, h2, Int.natAbs_natCast, hg, Nat.div_one]
  congr 3
  simp
theorem law_low_hf (n k : Nat) (hn : n ≤ 1000) (hk : k ≤ 1000) (st : Sto) : F_law_low [.int (n : Nat), .int (2 ^ k : Nat)] st = .ok (sh ((n : Rat) * hf k)) st := by
  rw [f_law_low]
  have hp : 0 < 2 ^ k := Nat.pow_pos (by decide)
  have := lowS_law2 (n : Int) ((2 ^ k : Nat) : Int) st (by omega) (by rw [Int.natAbs_natCast]; exact Nat.lt_of_le_of_lt hn (Nat.lt_of_lt_of_le (show 1000 < 2 ^ 10 by decide) (Nat.pow_le_pow_right (by decide) (by decide)))) (by rw [Int.natAbs_natCast]; exact Nat.pow_lt_pow_right (by decide) (by omega))
  rw [div_hf] at this
  exact this
theorem tup_nats (l : List Nat) : (l.map fun (x : Nat) => D.int x) = l.map fun (x : Nat) => .int x := rfl
theorem tF_map (a b s n : Nat) : tF a b s n = .tup ((vec (fun i => fig a b (s + i)) n).map fun (x : Nat) => .int x) := by unfold tF; rw [vec_map]
/-- one sum at a place -/
theorem place_eq {a b : Nat} (h : a < b) (k : Nat) (hk : k < 60) (x0 x1 x2 x3 x4 x6 x8 x9 x10 x11 x14 x15 x16 x17 : Option D) (M : MO) :
    b5_law [x0, x1, x2, x3, x4, some (.lst (vec (fun k => .int (fig a b k : Nat)) 160)), x6, some (.int (1 + (k : Int))), x8, x9, x10, x11, some (sh (W a b k)), some (.int (2 ^ k : Nat)), x14, x15, x16, x17] [M]
     = .nx [x0, x1, x2, x3, x4, some (.lst (vec (fun k => .int (fig a b k : Nat)) 160)), x6, some (.int (1 + (k : Int))), x8, x9, x10, x11, some (sh (W a b (k + 1))), some (.int (2 ^ (k + 1) : Nat)), x14, x15, x16, x17] [M] := by
  have m2 : mulD (.int 2) (.int (2 ^ k : Nat)) [M] = some (.int (2 ^ (k + 1) : Nat)) := by
    rw [mu2 (Nat.pow_lt_pow_right (by decide) (by omega)), Nat.pow_succ, Nat.mul_comm]
  have e1 : (1 : Int) + (k : Int) - 1 = k := by omega
  have i1 : ∀ st, ixD (.lst (vec (fun k => D.int (fig a b k : Nat)) 160)) (.int (k : Int)) st = some (.int (fig a b k : Nat)) := fun st => by rw [z_ixl, vec_at (by omega)]
  have lt := fig_lt h k
  have eW : W a b (k + 1) = W a b k + (fig a b k : Rat) * (((k + 1 : Nat) : Rat) * hf (k + 1)) := by unfold W; rw [sumR]
  have e2 : (1 : Int) + (k : Int) = ((k + 1 : Nat) : Int) := by omega
  have e3 : ((k + 1 : Nat) : Int) - 1 = k := by omega
  unfold b5_law
  have : fig a b k = 0 ∨ fig a b k = 1 := by omega
  rcases this with f0 | f0
  · rw [f0, show ((0 : Nat) : Rat) = 0 from rfl, Rat.zero_mul, Rat.add_zero] at eW
    have d0 : decide (((fig a b k : Nat) : Int) = 1) = false := by rw [f0]; rfl
    simp -implicitDefEqProofs only [x_set, x_asg, x_call, x_callM, x_callN, x_cons, x_nil, x_V, x_C, x_1, x_2, x_N, x_tup, x_lst, x_lstM, x_lc, x_rg1, x_rg2, x_iseq, x_ifE, x_ifS, x_and, x_or, x_not, x_ret, x_retN, x_par, x_drop, x_nx, x_raise, x_seq, x_for, x_chain, x_met, x_callP, x_bname, x_bnil, x_bcons, x_btup, x_put, x_fnil, List.getElem?_cons_zero, List.getElem?_cons_succ, List.set_cons_succ, List.set_cons_zero, y_bn, y_bn', y_un, y_of, y_of2, y_nN, y_ac, y_ac', tp0, tp1, tp2, tp3, tp4, lp0, lp1, lp2, lp3, lp4, lp5, lp6, lp7, y_lpM0, y_ift, y_iff, y_not, y_cl, y_clM, y_clN, y_clP, y_clPx, y_st, y_rt, y_rtx, y_dr, y_drx, y_ifst, y_ifsf, y_pr, y_pr', y_asg, y_rg1, y_rg2, y_rg2', y_sql, y_sqt, y_fr, y_lc, y_thn, y_thr, y_thx, y_ch0, y_ch1, y_ch2t, y_ch2f, y_ch3, y_pt1, y_pt2, y_me2, z_add, z_sub, z_lt, z_le, z_gt, z_ge, z_eq, z_ne, z_neg, z_nri, z_nrb, z_nrn, z_nrt, z_nrl, z_lent, z_lenl, z_min, z_max, z_ixt, z_ixl, z_revt, z_revl, z_tupt, z_tupl, z_lstt, z_lstl, z_inti, z_isi_ii, z_isi_ib, z_isi_is, z_isi_it, z_isi_il, z_isi_tt, z_isi_tl, z_isi_ti, z_isi_tb, z_isi_lt, z_isi_ll, z_isi_bb, z_isi_bi, z_isi_bt, z_isi_bls, at_0, at_1, at_2, at_3, List.all_cons, List.all_nil, Bool.and_self, Bool.true_and, Bool.and_true, if_true, decide_true, decide_false, Bool.not_true, Bool.not_false, wipeD, finL, rgOk_0, rgOk_1, and_true, true_and, List.reverse_nil, List.nil_append, and_self, reduceIte, Bool.false_eq_true, m2, e1, i1, d0, eW]
  · rw [f0, show ((1 : Nat) : Rat) = 1 from rfl, Rat.one_mul] at eW
    have d0 : decide (((fig a b k : Nat) : Int) = 1) = true := by rw [f0]; rfl
    have pl : F_law_plus [sh (W a b k), sh (((k + 1 : Nat) : Rat) * hf (k + 1))] [] = .ok (sh (W a b (k + 1))) [] := by
      rw [lo.plus ((W_bn h k (by omega)).mono (by decide)) ((nh_bn (by omega) (by omega)).mono (by decide)), eW]
    have zm : modD (.int ((k + 1 : Nat) : Int)) (.int 2) [M] = some (.int ((k + 1) % 2 : Nat)) := by
      have := md (x := k + 1) (b := 2) (by decide) (st := [M])
      exact this
    by_cases ho : (k + 1) % 2 = 1
    · have d1 : decide ((((k + 1) % 2 : Nat) : Int) = 1) = true := by rw [ho]; rfl
      have op := odd_pow (k + 1) (by omega) ho
      simp -implicitDefEqProofs only [x_set, x_asg, x_call, x_callM, x_callN, x_cons, x_nil, x_V, x_C, x_1, x_2, x_N, x_tup, x_lst, x_lstM, x_lc, x_rg1, x_rg2, x_iseq, x_ifE, x_ifS, x_and, x_or, x_not, x_ret, x_retN, x_par, x_drop, x_nx, x_raise, x_seq, x_for, x_chain, x_met, x_callP, x_bname, x_bnil, x_bcons, x_btup, x_put, x_fnil, List.getElem?_cons_zero, List.getElem?_cons_succ, List.set_cons_succ, List.set_cons_zero, y_bn, y_bn', y_un, y_of, y_of2, y_nN, y_ac, y_ac', tp0, tp1, tp2, tp3, tp4, lp0, lp1, lp2, lp3, lp4, lp5, lp6, lp7, y_lpM0, y_ift, y_iff, y_not, y_cl, y_clM, y_clN, y_clP, y_clPx, y_st, y_rt, y_rtx, y_dr, y_drx, y_ifst, y_ifsf, y_pr, y_pr', y_asg, y_rg1, y_rg2, y_rg2', y_sql, y_sqt, y_fr, y_lc, y_thn, y_thr, y_thx, y_ch0, y_ch1, y_ch2t, y_ch2f, y_ch3, y_pt1, y_pt2, y_me2, z_add, z_sub, z_lt, z_le, z_gt, z_ge, z_eq, z_ne, z_neg, z_nri, z_nrb, z_nrn, z_nrt, z_nrl, z_lent, z_lenl, z_min, z_max, z_ixt, z_ixl, z_revt, z_revl, z_tupt, z_tupl, z_lstt, z_lstl, z_inti, z_isi_ii, z_isi_ib, z_isi_is, z_isi_it, z_isi_il, z_isi_tt, z_isi_tl, z_isi_ti, z_isi_tb, z_isi_lt, z_isi_ll, z_isi_bb, z_isi_bi, z_isi_bt, z_isi_bls, at_0, at_1, at_2, at_3, List.all_cons, List.all_nil, Bool.and_self, Bool.true_and, Bool.and_true, if_true, decide_true, decide_false, Bool.not_true, Bool.not_false, wipeD, finL, rgOk_0, rgOk_1, and_true, true_and, List.reverse_nil, List.nil_append, and_self, reduceIte, Bool.false_eq_true, m2, e3, i1, d0, e2, zm, d1, op, sh_nr, pl]
    · have d1 : decide ((((k + 1) % 2 : Nat) : Int) = 1) = false := decide_eq_false (by omega)
      have lw := law_low_hf (k + 1) (k + 1) (by omega) (by omega) []
      simp -implicitDefEqProofs only [x_set, x_asg, x_call, x_callM, x_callN, x_cons, x_nil, x_V, x_C, x_1, x_2, x_N, x_tup, x_lst, x_lstM, x_lc, x_rg1, x_rg2, x_iseq, x_ifE, x_ifS, x_and, x_or, x_not, x_ret, x_retN, x_par, x_drop, x_nx, x_raise, x_seq, x_for, x_chain, x_met, x_callP, x_bname, x_bnil, x_bcons, x_btup, x_put, x_fnil, List.getElem?_cons_zero, List.getElem?_cons_succ, List.set_cons_succ, List.set_cons_zero, y_bn, y_bn', y_un, y_of, y_of2, y_nN, y_ac, y_ac', tp0, tp1, tp2, tp3, tp4, lp0, lp1, lp2, lp3, lp4, lp5, lp6, lp7, y_lpM0, y_ift, y_iff, y_not, y_cl, y_clM, y_clN, y_clP, y_clPx, y_st, y_rt, y_rtx, y_dr, y_drx, y_ifst, y_ifsf, y_pr, y_pr', y_asg, y_rg1, y_rg2, y_rg2', y_sql, y_sqt, y_fr, y_lc, y_thn, y_thr, y_thx, y_ch0, y_ch1, y_ch2t, y_ch2f, y_ch3, y_pt1, y_pt2, y_me2, z_add, z_sub, z_lt, z_le, z_gt, z_ge, z_eq, z_ne, z_neg, z_nri, z_nrb, z_nrn, z_nrt, z_nrl, z_lent, z_lenl, z_min, z_max, z_ixt, z_ixl, z_revt, z_revl, z_tupt, z_tupl, z_lstt, z_lstl, z_inti, z_isi_ii, z_isi_ib, z_isi_is, z_isi_it, z_isi_il, z_isi_tt, z_isi_tl, z_isi_ti, z_isi_tb, z_isi_lt, z_isi_ll, z_isi_bb, z_isi_bi, z_isi_bt, z_isi_bls, at_0, at_1, at_2, at_3, List.all_cons, List.all_nil, Bool.and_self, Bool.true_and, Bool.and_true, if_true, decide_true, decide_false, Bool.not_true, Bool.not_false, wipeD, finL, rgOk_0, rgOk_1, and_true, true_and, List.reverse_nil, List.nil_append, and_self, reduceIte, Bool.false_eq_true, m2, e3, i1, d0, e2, zm, d1, lw, sh_nr, pl]
def Inv (sc : D) (ρ : Rho) (st : Sto) : Prop := (∃ x2 x3 x4 x5 x6 x7 x8 x9 x10 x11 x12 x13 x14 x15 x16 x17, ρ = [some sc, some (.ref 0), x2, x3, x4, x5, x6, x7, x8, x9, x10, x11, x12, x13, x14, x15, x16, x17]) ∧ ∃ M, st = [M] ∧ GD M
theorem turn_eq {M : MO} (g0_ : GD M) (sc : D) (x2 x3 x4 x5 x6 x7 x8 x9 x10 x11 x12 x13 x14 x15 x16 x17 : Option D) : Ends (b6_law [some sc, some (.ref 0), x2, x3, x4, x5, x6, x7, x8, x9, x10, x11, x12, x13, x14, x15, x16, x17] [M]) (Inv sc) := by
  obtain ⟨v, M1, d1, hv, g1⟩ := drawM g0_ (st := [M]) (k := 0) rfl 60 (by decide) (by decide)
  obtain ⟨u, M2, d2, hu, g2⟩ := drawM g1 (st := [M1]) (k := 0) rfl ((v + 1 : Nat) : Int) (by omega) (by omega)
  rw [← f_draw] at d1 d2
  replace d1 : callM F_law_draw [.ref 0, .int 60] [M] = .ok (.int v) [M1] := d1
  replace d2 : callM F_law_draw [.ref 0, .int ((v + 1 : Nat) : Int)] [M1] = .ok (.int u) [M2] := d2
  obtain ⟨a, b, hab, hb, hc, lw⟩ := low_share u (v + 1) (by omega) (by omega) []
  obtain ⟨m, s, _, _, F⟩ := figs hab hb hc
  have m60 := F.m60
  have sm := F.sm
  obtain ⟨st', be⟩ := bits_eq hab hb hc F
  have we := weighed_eq hab hb hc F
  have ev : (1 : Int) + (v : Int) = ((v + 1 : Nat) : Int) := by omega
  have nn : nr 12 (shD a b) = true := rfl
  have nt2 : nr 12 (.tup [tF a b 0 s, tF a b s (m - s)]) = true := by
    show ([tF a b 0 s, tF a b s (m - s)]).all (nr 11) = true
    simp [nr_tF]
  unfold b6_law
  refine seq_en (ρ1 := [some sc, some (.ref 0), x2, some (.int ((v + 1 : Nat) : Int)), x4, x5, x6, x7, x8, x9, x10, x11, x12, x13, x14, x15, x16, x17]) (st1 := [M1]) (by simp -implicitDefEqProofs only [x_set, x_asg, x_call, x_callM, x_callN, x_cons, x_nil, x_V, x_C, x_1, x_2, x_N, x_tup, x_lst, x_lstM, x_lc, x_rg1, x_rg2, x_iseq, x_ifE, x_ifS, x_and, x_or, x_not, x_ret, x_retN, x_par, x_drop, x_nx, x_raise, x_seq, x_for, x_chain, x_met, x_callP, x_bname, x_bnil, x_bcons, x_btup, x_put, x_fnil, List.getElem?_cons_zero, List.getElem?_cons_succ, List.set_cons_succ, List.set_cons_zero, y_bn, y_bn', y_un, y_of, y_of2, y_nN, y_ac, y_ac', tp0, tp1, tp2, tp3, tp4, lp0, lp1, lp2, lp3, lp4, lp5, lp6, lp7, y_lpM0, y_ift, y_iff, y_not, y_cl, y_clM, y_clN, y_clP, y_clPx, y_st, y_rt, y_rtx, y_dr, y_drx, y_ifst, y_ifsf, y_pr, y_pr', y_asg, y_rg1, y_rg2, y_rg2', y_sql, y_sqt, y_fr, y_lc, y_thn, y_thr, y_thx, y_ch0, y_ch1, y_ch2t, y_ch2f, y_ch3, y_pt1, y_pt2, y_me2, z_add, z_sub, z_lt, z_le, z_gt, z_ge, z_eq, z_ne, z_neg, z_nri, z_nrb, z_nrn, z_nrt, z_nrl, z_lent, z_lenl, z_min, z_max, z_ixt, z_ixl, z_revt, z_revl, z_tupt, z_tupl, z_lstt, z_lstl, z_inti, z_isi_ii, z_isi_ib, z_isi_is, z_isi_it, z_isi_il, z_isi_tt, z_isi_tl, z_isi_ti, z_isi_tb, z_isi_lt, z_isi_ll, z_isi_bb, z_isi_bi, z_isi_bt, z_isi_bls, at_0, at_1, at_2, at_3, List.all_cons, List.all_nil, Bool.and_self, Bool.true_and, Bool.and_true, if_true, decide_true, decide_false, Bool.not_true, Bool.not_false, wipeD, finL, rgOk_0, rgOk_1, and_true, true_and, List.reverse_nil, List.nil_append, and_self, reduceIte, Bool.false_eq_true, d1, ev]) ?_
  refine seq_en (ρ1 := [some sc, some (.ref 0), x2, some (.int ((v + 1 : Nat) : Int)), some (shD a b), x5, x6, x7, x8, x9, x10, x11, x12, x13, x14, x15, x16, x17]) (st1 := [M2]) (by simp -implicitDefEqProofs only [x_set, x_asg, x_call, x_callM, x_callN, x_cons, x_nil, x_V, x_C, x_1, x_2, x_N, x_tup, x_lst, x_lstM, x_lc, x_rg1, x_rg2, x_iseq, x_ifE, x_ifS, x_and, x_or, x_not, x_ret, x_retN, x_par, x_drop, x_nx, x_raise, x_seq, x_for, x_chain, x_met, x_callP, x_bname, x_bnil, x_bcons, x_btup, x_put, x_fnil, List.getElem?_cons_zero, List.getElem?_cons_succ, List.set_cons_succ, List.set_cons_zero, y_bn, y_bn', y_un, y_of, y_of2, y_nN, y_ac, y_ac', tp0, tp1, tp2, tp3, tp4, lp0, lp1, lp2, lp3, lp4, lp5, lp6, lp7, y_lpM0, y_ift, y_iff, y_not, y_cl, y_clM, y_clN, y_clP, y_clPx, y_st, y_rt, y_rtx, y_dr, y_drx, y_ifst, y_ifsf, y_pr, y_pr', y_asg, y_rg1, y_rg2, y_rg2', y_sql, y_sqt, y_fr, y_lc, y_thn, y_thr, y_thx, y_ch0, y_ch1, y_ch2t, y_ch2f, y_ch3, y_pt1, y_pt2, y_me2, z_add, z_sub, z_lt, z_le, z_gt, z_ge, z_eq, z_ne, z_neg, z_nri, z_nrb, z_nrn, z_nrt, z_nrl, z_lent, z_lenl, z_min, z_max, z_ixt, z_ixl, z_revt, z_revl, z_tupt, z_tupl, z_lstt, z_lstl, z_inti, z_isi_ii, z_isi_ib, z_isi_is, z_isi_it, z_isi_il, z_isi_tt, z_isi_tl, z_isi_ti, z_isi_tb, z_isi_lt, z_isi_ll, z_isi_bb, z_isi_bi, z_isi_bt, z_isi_bls, at_0, at_1, at_2, at_3, List.all_cons, List.all_nil, Bool.and_self, Bool.true_and, Bool.and_true, if_true, decide_true, decide_false, Bool.not_true, Bool.not_false, wipeD, finL, rgOk_0, rgOk_1, and_true, true_and, List.reverse_nil, List.nil_append, and_self, reduceIte, Bool.false_eq_true, d2, lw, nn]) ?_
  have lc1 : lcGo (bName 7) (eC (.bl true)) e1_law [some sc, some (.ref 0), x2, some (.int ((v + 1 : Nat) : Int)), some (shD a b), x5, x6, none, x8, x9, x10, x11, x12, x13, x14, x15, x16, x17] finL (rgD 1 160) [M2] [] = .ok (.lst (vec (fun k => .int (fig a b k : Nat)) 160)) [M2] := by
    rw [rg_vec]
    refine lc_vec (fin := finL) 160 fun k hk => ⟨[some sc, some (.ref 0), x2, some (.int ((v + 1 : Nat) : Int)), some (shD a b), x5, x6, some (.int (1 + (k : Int))), x8, x9, x10, x11, x12, x13, x14, x15, x16, x17], rfl, rfl, ?_⟩
    have e2 : (1 : Int) + (k : Int) = ((k + 1 : Nat) : Int) := by omega
    have lb := law_bit_eq hab hb k (by omega) []
    unfold e1_law
    simp -implicitDefEqProofs only [x_set, x_asg, x_call, x_callM, x_callN, x_cons, x_nil, x_V, x_C, x_1, x_2, x_N, x_tup, x_lst, x_lstM, x_lc, x_rg1, x_rg2, x_iseq, x_ifE, x_ifS, x_and, x_or, x_not, x_ret, x_retN, x_par, x_drop, x_nx, x_raise, x_seq, x_for, x_chain, x_met, x_callP, x_bname, x_bnil, x_bcons, x_btup, x_put, x_fnil, List.getElem?_cons_zero, List.getElem?_cons_succ, List.set_cons_succ, List.set_cons_zero, y_bn, y_bn', y_un, y_of, y_of2, y_nN, y_ac, y_ac', tp0, tp1, tp2, tp3, tp4, lp0, lp1, lp2, lp3, lp4, lp5, lp6, lp7, y_lpM0, y_ift, y_iff, y_not, y_cl, y_clM, y_clN, y_clP, y_clPx, y_st, y_rt, y_rtx, y_dr, y_drx, y_ifst, y_ifsf, y_pr, y_pr', y_asg, y_rg1, y_rg2, y_rg2', y_sql, y_sqt, y_fr, y_lc, y_thn, y_thr, y_thx, y_ch0, y_ch1, y_ch2t, y_ch2f, y_ch3, y_pt1, y_pt2, y_me2, z_add, z_sub, z_lt, z_le, z_gt, z_ge, z_eq, z_ne, z_neg, z_nri, z_nrb, z_nrn, z_nrt, z_nrl, z_lent, z_lenl, z_min, z_max, z_ixt, z_ixl, z_revt, z_revl, z_tupt, z_tupl, z_lstt, z_lstl, z_inti, z_isi_ii, z_isi_ib, z_isi_is, z_isi_it, z_isi_il, z_isi_tt, z_isi_tl, z_isi_ti, z_isi_tb, z_isi_lt, z_isi_ll, z_isi_bb, z_isi_bi, z_isi_bt, z_isi_bls, at_0, at_1, at_2, at_3, List.all_cons, List.all_nil, Bool.and_self, Bool.true_and, Bool.and_true, if_true, decide_true, decide_false, Bool.not_true, Bool.not_false, wipeD, finL, rgOk_0, rgOk_1, and_true, true_and, List.reverse_nil, List.nil_append, and_self, reduceIte, Bool.false_eq_true, e2, nn, lb]
  refine seq_en (ρ1 := [some sc, some (.ref 0), x2, some (.int ((v + 1 : Nat) : Int)), some (shD a b), some (.lst (vec (fun k => .int (fig a b k : Nat)) 160)), x6, x7, x8, x9, x10, x11, x12, x13, x14, x15, x16, x17]) (st1 := [M2]) (by simp -implicitDefEqProofs only [x_set, x_asg, x_call, x_callM, x_callN, x_cons, x_nil, x_V, x_C, x_1, x_2, x_N, x_tup, x_lst, x_lstM, x_lc, x_rg1, x_rg2, x_iseq, x_ifE, x_ifS, x_and, x_or, x_not, x_ret, x_retN, x_par, x_drop, x_nx, x_raise, x_seq, x_for, x_chain, x_met, x_callP, x_bname, x_bnil, x_bcons, x_btup, x_put, x_fnil, List.getElem?_cons_zero, List.getElem?_cons_succ, List.set_cons_succ, List.set_cons_zero, y_bn, y_bn', y_un, y_of, y_of2, y_nN, y_ac, y_ac', tp0, tp1, tp2, tp3, tp4, lp0, lp1, lp2, lp3, lp4, lp5, lp6, lp7, y_lpM0, y_ift, y_iff, y_not, y_cl, y_clM, y_clN, y_clP, y_clPx, y_st, y_rt, y_rtx, y_dr, y_drx, y_ifst, y_ifsf, y_pr, y_pr', y_asg, y_rg1, y_rg2, y_rg2', y_sql, y_sqt, y_fr, y_lc, y_thn, y_thr, y_thx, y_ch0, y_ch1, y_ch2t, y_ch2f, y_ch3, y_pt1, y_pt2, y_me2, z_add, z_sub, z_lt, z_le, z_gt, z_ge, z_eq, z_ne, z_neg, z_nri, z_nrb, z_nrn, z_nrt, z_nrl, z_lent, z_lenl, z_min, z_max, z_ixt, z_ixl, z_revt, z_revl, z_tupt, z_tupl, z_lstt, z_lstl, z_inti, z_isi_ii, z_isi_ib, z_isi_is, z_isi_it, z_isi_il, z_isi_tt, z_isi_tl, z_isi_ti, z_isi_tb, z_isi_lt, z_isi_ll, z_isi_bb, z_isi_bi, z_isi_bt, z_isi_bls, at_0, at_1, at_2, at_3, List.all_cons, List.all_nil, Bool.and_self, Bool.true_and, Bool.and_true, if_true, decide_true, decide_false, Bool.not_true, Bool.not_false, wipeD, finL, rgOk_0, rgOk_1, and_true, true_and, List.reverse_nil, List.nil_append, and_self, reduceIte, Bool.false_eq_true, rgOk_of (show -1000000 ≤ (161 : Int) by decide) (show (161 : Int) ≤ 1000000 by decide), show Int.toNat (161 - 1) = 160 from rfl, lenOk_rg (show 160 ≤ 1000000 by decide), lc1]) ?_
  obtain ⟨ρ3, st3, f3, ⟨y6, y7, rfl⟩, M3, rfl, g3⟩ := (for_ends (b := bName 6) (body := b2_law) (it := fun k => .int (k : Int)) (fun _ ρ st => (∃ y6 y7, ρ = [some sc, some (.ref 0), x2, some (.int ((v + 1 : Nat) : Int)), some (shD a b), some (.lst (vec (fun k => .int (fig a b k : Nat)) 160)), y6, y7, x8, x9, x10, x11, x12, x13, x14, x15, x16, x17]) ∧ ∃ M, st = [M] ∧ GD M) 5 (fun k ρ st hk hI => by
      obtain ⟨⟨y6, y7, rfl⟩, M, rfl, g⟩ := hI
      refine ⟨[some sc, some (.ref 0), x2, some (.int ((v + 1 : Nat) : Int)), some (shD a b), some (.lst (vec (fun k => .int (fig a b k : Nat)) 160)), some (.int (k : Int)), y7, x8, x9, x10, x11, x12, x13, x14, x15, x16, x17], rfl, ?_⟩
      obtain ⟨w, M', d3, hw, g'⟩ := drawM g (st := [M]) (k := 0) rfl 60 (by decide) (by decide)
      rw [← f_draw] at d3
      replace d3 : callM F_law_draw [.ref 0, .int 60] [M] = .ok (.int w) [M'] := d3
      have ew : (1 : Int) + (w : Int) = ((w + 1 : Nat) : Int) := by omega
      have ew2 : ((w + 1 : Nat) : Int) - 1 = w := by omega
      have i1 : ∀ st, ixD (.lst (vec (fun k => D.int (fig a b k : Nat)) 160)) (.int (w : Int)) st = some (.int (fig a b w : Nat)) := fun st => by rw [z_ixl, vec_at (by omega)]
      have bi : F_bit [shD a b, .int ((w + 1 : Nat) : Int)] [] = .ok (.int (fig a b w : Nat)) [] := by
        have := bit_eq hab hb w (by omega) []
        rwa [show (w : Int) + 1 = ((w + 1 : Nat) : Int) by omega] at this
      have sm1 : F_law_same 8 [.int (fig a b w : Nat), .int (fig a b w : Nat)] [] = .ok (.bl true) [] := by rw [f_same]; exact same8 [] (n := 0) (by decide) gd_int
      refine Ends.of (ρ := [some sc, some (.ref 0), x2, some (.int ((v + 1 : Nat) : Int)), some (shD a b), some (.lst (vec (fun k => .int (fig a b k : Nat)) 160)), some (.int (k : Int)), some (.int ((w + 1 : Nat) : Int)), x8, x9, x10, x11, x12, x13, x14, x15, x16, x17]) (st := [M']) ?_ ⟨⟨_, _, rfl⟩, M', rfl, g'⟩
      unfold b2_law
      simp -implicitDefEqProofs only [x_set, x_asg, x_call, x_callM, x_callN, x_cons, x_nil, x_V, x_C, x_1, x_2, x_N, x_tup, x_lst, x_lstM, x_lc, x_rg1, x_rg2, x_iseq, x_ifE, x_ifS, x_and, x_or, x_not, x_ret, x_retN, x_par, x_drop, x_nx, x_raise, x_seq, x_for, x_chain, x_met, x_callP, x_bname, x_bnil, x_bcons, x_btup, x_put, x_fnil, List.getElem?_cons_zero, List.getElem?_cons_succ, List.set_cons_succ, List.set_cons_zero, y_bn, y_bn', y_un, y_of, y_of2, y_nN, y_ac, y_ac', tp0, tp1, tp2, tp3, tp4, lp0, lp1, lp2, lp3, lp4, lp5, lp6, lp7, y_lpM0, y_ift, y_iff, y_not, y_cl, y_clM, y_clN, y_clP, y_clPx, y_st, y_rt, y_rtx, y_dr, y_drx, y_ifst, y_ifsf, y_pr, y_pr', y_asg, y_rg1, y_rg2, y_rg2', y_sql, y_sqt, y_fr, y_lc, y_thn, y_thr, y_thx, y_ch0, y_ch1, y_ch2t, y_ch2f, y_ch3, y_pt1, y_pt2, y_me2, z_add, z_sub, z_lt, z_le, z_gt, z_ge, z_eq, z_ne, z_neg, z_nri, z_nrb, z_nrn, z_nrt, z_nrl, z_lent, z_lenl, z_min, z_max, z_ixt, z_ixl, z_revt, z_revl, z_tupt, z_tupl, z_lstt, z_lstl, z_inti, z_isi_ii, z_isi_ib, z_isi_is, z_isi_it, z_isi_il, z_isi_tt, z_isi_tl, z_isi_ti, z_isi_tb, z_isi_lt, z_isi_ll, z_isi_bb, z_isi_bi, z_isi_bt, z_isi_bls, at_0, at_1, at_2, at_3, List.all_cons, List.all_nil, Bool.and_self, Bool.true_and, Bool.and_true, if_true, decide_true, decide_false, Bool.not_true, Bool.not_false, wipeD, finL, rgOk_0, rgOk_1, and_true, true_and, List.reverse_nil, List.nil_append, and_self, reduceIte, Bool.false_eq_true, d3, ew, ew2, i1, bi, nn, sm1])
    (ρ := [some sc, some (.ref 0), x2, some (.int ((v + 1 : Nat) : Int)), some (shD a b), some (.lst (vec (fun k => .int (fig a b k : Nat)) 160)), x6, x7, x8, x9, x10, x11, x12, x13, x14, x15, x16, x17]) (st := [M2]) ⟨⟨_, _, rfl⟩, M2, rfl, g2⟩).get
  rw [← rg0_vec] at f3
  refine seq_en (ρ1 := [some sc, some (.ref 0), x2, some (.int ((v + 1 : Nat) : Int)), some (shD a b), some (.lst (vec (fun k => .int (fig a b k : Nat)) 160)), y6, y7, x8, x9, x10, x11, x12, x13, x14, x15, x16, x17]) (st1 := [M3]) (by simp -implicitDefEqProofs only [x_set, x_asg, x_call, x_callM, x_callN, x_cons, x_nil, x_V, x_C, x_1, x_2, x_N, x_tup, x_lst, x_lstM, x_lc, x_rg1, x_rg2, x_iseq, x_ifE, x_ifS, x_and, x_or, x_not, x_ret, x_retN, x_par, x_drop, x_nx, x_raise, x_seq, x_for, x_chain, x_met, x_callP, x_bname, x_bnil, x_bcons, x_btup, x_put, x_fnil, List.getElem?_cons_zero, List.getElem?_cons_succ, List.set_cons_succ, List.set_cons_zero, y_bn, y_bn', y_un, y_of, y_of2, y_nN, y_ac, y_ac', tp0, tp1, tp2, tp3, tp4, lp0, lp1, lp2, lp3, lp4, lp5, lp6, lp7, y_lpM0, y_ift, y_iff, y_not, y_cl, y_clM, y_clN, y_clP, y_clPx, y_st, y_rt, y_rtx, y_dr, y_drx, y_ifst, y_ifsf, y_pr, y_pr', y_asg, y_rg1, y_rg2, y_rg2', y_sql, y_sqt, y_fr, y_lc, y_thn, y_thr, y_thx, y_ch0, y_ch1, y_ch2t, y_ch2f, y_ch3, y_pt1, y_pt2, y_me2, z_add, z_sub, z_lt, z_le, z_gt, z_ge, z_eq, z_ne, z_neg, z_nri, z_nrb, z_nrn, z_nrt, z_nrl, z_lent, z_lenl, z_min, z_max, z_ixt, z_ixl, z_revt, z_revl, z_tupt, z_tupl, z_lstt, z_lstl, z_inti, z_isi_ii, z_isi_ib, z_isi_is, z_isi_it, z_isi_il, z_isi_tt, z_isi_tl, z_isi_ti, z_isi_tb, z_isi_lt, z_isi_ll, z_isi_bb, z_isi_bi, z_isi_bt, z_isi_bls, at_0, at_1, at_2, at_3, List.all_cons, List.all_nil, Bool.and_self, Bool.true_and, Bool.and_true, if_true, decide_true, decide_false, Bool.not_true, Bool.not_false, wipeD, finL, rgOk_0, rgOk_1, and_true, true_and, List.reverse_nil, List.nil_append, and_self, reduceIte, Bool.false_eq_true, rgOk_of (show -1000000 ≤ (5 : Int) by decide) (show (5 : Int) ≤ 1000000 by decide), show Int.toNat 5 = 5 from rfl, f3]) ?_
  refine seq_en (ρ1 := [some sc, some (.ref 0), x2, some (.int ((v + 1 : Nat) : Int)), some (shD a b), some (.lst (vec (fun k => .int (fig a b k : Nat)) 160)), y6, y7, some (tF a b 0 s), some (tF a b s (m - s)), x10, x11, x12, x13, x14, x15, x16, x17]) (st1 := [M3]) (by simp -implicitDefEqProofs only [x_set, x_asg, x_call, x_callM, x_callN, x_cons, x_nil, x_V, x_C, x_1, x_2, x_N, x_tup, x_lst, x_lstM, x_lc, x_rg1, x_rg2, x_iseq, x_ifE, x_ifS, x_and, x_or, x_not, x_ret, x_retN, x_par, x_drop, x_nx, x_raise, x_seq, x_for, x_chain, x_met, x_callP, x_bname, x_bnil, x_bcons, x_btup, x_put, x_fnil, List.getElem?_cons_zero, List.getElem?_cons_succ, List.set_cons_succ, List.set_cons_zero, y_bn, y_bn', y_un, y_of, y_of2, y_nN, y_ac, y_ac', tp0, tp1, tp2, tp3, tp4, lp0, lp1, lp2, lp3, lp4, lp5, lp6, lp7, y_lpM0, y_ift, y_iff, y_not, y_cl, y_clM, y_clN, y_clP, y_clPx, y_st, y_rt, y_rtx, y_dr, y_drx, y_ifst, y_ifsf, y_pr, y_pr', y_asg, y_rg1, y_rg2, y_rg2', y_sql, y_sqt, y_fr, y_lc, y_thn, y_thr, y_thx, y_ch0, y_ch1, y_ch2t, y_ch2f, y_ch3, y_pt1, y_pt2, y_me2, z_add, z_sub, z_lt, z_le, z_gt, z_ge, z_eq, z_ne, z_neg, z_nri, z_nrb, z_nrn, z_nrt, z_nrl, z_lent, z_lenl, z_min, z_max, z_ixt, z_ixl, z_revt, z_revl, z_tupt, z_tupl, z_lstt, z_lstl, z_inti, z_isi_ii, z_isi_ib, z_isi_is, z_isi_it, z_isi_il, z_isi_tt, z_isi_tl, z_isi_ti, z_isi_tb, z_isi_lt, z_isi_ll, z_isi_bb, z_isi_bi, z_isi_bt, z_isi_bls, at_0, at_1, at_2, at_3, List.all_cons, List.all_nil, Bool.and_self, Bool.true_and, Bool.and_true, if_true, decide_true, decide_false, Bool.not_true, Bool.not_false, wipeD, finL, rgOk_0, rgOk_1, and_true, true_and, List.reverse_nil, List.nil_append, and_self, reduceIte, Bool.false_eq_true, nn, be, nt2]; rfl) ?_
  have zl0 : ∀ st, g0 listD [tF a b 0 s] st = some (.lst (vec (fun i => .int (fig a b (0 + i) : Nat)) s), st) := fun st => rfl
  have zl1 : ∀ st, g0 listD [tF a b s (m - s)] st = some (.lst (vec (fun i => .int (fig a b (s + i) : Nat)) (m - s)), st) := fun st => rfl
  have e00 : vec (fun i => D.int (fig a b (0 + i) : Nat)) s = vec (fun i => D.int (fig a b i : Nat)) s := vec_ext fun i _ => by rw [Nat.zero_add]
  refine seq_en (ρ1 := [some sc, some (.ref 0), x2, some (.int ((v + 1 : Nat) : Int)), some (shD a b), some (.lst (vec (fun k => .int (fig a b k : Nat)) 160)), y6, y7, some (tF a b 0 s), some (tF a b s (m - s)), some (.lst (vec (fun i => .int (fig a b i : Nat)) s)), x11, x12, x13, x14, x15, x16, x17]) (st1 := [M3]) (by simp -implicitDefEqProofs only [x_set, x_asg, x_call, x_callM, x_callN, x_cons, x_nil, x_V, x_C, x_1, x_2, x_N, x_tup, x_lst, x_lstM, x_lc, x_rg1, x_rg2, x_iseq, x_ifE, x_ifS, x_and, x_or, x_not, x_ret, x_retN, x_par, x_drop, x_nx, x_raise, x_seq, x_for, x_chain, x_met, x_callP, x_bname, x_bnil, x_bcons, x_btup, x_put, x_fnil, List.getElem?_cons_zero, List.getElem?_cons_succ, List.set_cons_succ, List.set_cons_zero, y_bn, y_bn', y_un, y_of, y_of2, y_nN, y_ac, y_ac', tp0, tp1, tp2, tp3, tp4, lp0, lp1, lp2, lp3, lp4, lp5, lp6, lp7, y_lpM0, y_ift, y_iff, y_not, y_cl, y_clM, y_clN, y_clP, y_clPx, y_st, y_rt, y_rtx, y_dr, y_drx, y_ifst, y_ifsf, y_pr, y_pr', y_asg, y_rg1, y_rg2, y_rg2', y_sql, y_sqt, y_fr, y_lc, y_thn, y_thr, y_thx, y_ch0, y_ch1, y_ch2t, y_ch2f, y_ch3, y_pt1, y_pt2, y_me2, z_add, z_sub, z_lt, z_le, z_gt, z_ge, z_eq, z_ne, z_neg, z_nri, z_nrb, z_nrn, z_nrt, z_nrl, z_lent, z_lenl, z_min, z_max, z_ixt, z_ixl, z_revt, z_revl, z_tupt, z_tupl, z_lstt, z_lstl, z_inti, z_isi_ii, z_isi_ib, z_isi_is, z_isi_it, z_isi_il, z_isi_tt, z_isi_tl, z_isi_ti, z_isi_tb, z_isi_lt, z_isi_ll, z_isi_bb, z_isi_bi, z_isi_bt, z_isi_bls, at_0, at_1, at_2, at_3, List.all_cons, List.all_nil, Bool.and_self, Bool.true_and, Bool.and_true, if_true, decide_true, decide_false, Bool.not_true, Bool.not_false, wipeD, finL, rgOk_0, rgOk_1, and_true, true_and, List.reverse_nil, List.nil_append, and_self, reduceIte, Bool.false_eq_true, zl0, e00]) ?_
  obtain ⟨n, n160, hn1, hn2⟩ := turns (s := s) (p := m - s) (by omega)
  have nle : s + n * (m - s) ≤ 1000 := by
    cases n with
    | zero => omega
    | succ n =>
      have := hn1 n (by omega)
      rw [Nat.succ_mul]
      omega
  have wl := while_vec (c := e2 ltD (eN (g0 lenD) (aCons (eV 10) aNil)) (eC (.int 160))) (b := w3_law) (fun t => [some sc, some (.ref 0), x2, some (.int ((v + 1 : Nat) : Int)), some (shD a b), some (.lst (vec (fun k => .int (fig a b k : Nat)) 160)), y6, y7, some (tF a b 0 s), some (tF a b s (m - s)), some (.lst (vec (fun i => .int (fig a b i : Nat)) (s + t * (m - s)))), x11, x12, x13, x14, x15, x16, x17]) (fun _ => [M3]) n (fun t ht => by
      have h1 := hn1 t ht
      have e1 : decide (((s + t * (m - s) : Nat) : Int) < 160) = true := decide_eq_true (by omega)
      constructor
      · simp -implicitDefEqProofs only [x_set, x_asg, x_call, x_callM, x_callN, x_cons, x_nil, x_V, x_C, x_1, x_2, x_N, x_tup, x_lst, x_lstM, x_lc, x_rg1, x_rg2, x_iseq, x_ifE, x_ifS, x_and, x_or, x_not, x_ret, x_retN, x_par, x_drop, x_nx, x_raise, x_seq, x_for, x_chain, x_met, x_callP, x_bname, x_bnil, x_bcons, x_btup, x_put, x_fnil, List.getElem?_cons_zero, List.getElem?_cons_succ, List.set_cons_succ, List.set_cons_zero, y_bn, y_bn', y_un, y_of, y_of2, y_nN, y_ac, y_ac', tp0, tp1, tp2, tp3, tp4, lp0, lp1, lp2, lp3, lp4, lp5, lp6, lp7, y_lpM0, y_ift, y_iff, y_not, y_cl, y_clM, y_clN, y_clP, y_clPx, y_st, y_rt, y_rtx, y_dr, y_drx, y_ifst, y_ifsf, y_pr, y_pr', y_asg, y_rg1, y_rg2, y_rg2', y_sql, y_sqt, y_fr, y_lc, y_thn, y_thr, y_thx, y_ch0, y_ch1, y_ch2t, y_ch2f, y_ch3, y_pt1, y_pt2, y_me2, z_add, z_sub, z_lt, z_le, z_gt, z_ge, z_eq, z_ne, z_neg, z_nri, z_nrb, z_nrn, z_nrt, z_nrl, z_lent, z_lenl, z_min, z_max, z_ixt, z_ixl, z_revt, z_revl, z_tupt, z_tupl, z_lstt, z_lstl, z_inti, z_isi_ii, z_isi_ib, z_isi_is, z_isi_it, z_isi_il, z_isi_tt, z_isi_tl, z_isi_ti, z_isi_tb, z_isi_lt, z_isi_ll, z_isi_bb, z_isi_bi, z_isi_bt, z_isi_bls, at_0, at_1, at_2, at_3, List.all_cons, List.all_nil, Bool.and_self, Bool.true_and, Bool.and_true, if_true, decide_true, decide_false, Bool.not_true, Bool.not_false, wipeD, finL, rgOk_0, rgOk_1, and_true, true_and, List.reverse_nil, List.nil_append, and_self, reduceIte, Bool.false_eq_true, vec_len, e1]
      · have ad : addD (.lst (vec (fun i => D.int (fig a b i : Nat)) (s + t * (m - s)))) (.lst (vec (fun i => D.int (fig a b (s + i) : Nat)) (m - s))) [M3] = some (.lst (vec (fun i => .int (fig a b i : Nat)) (s + (t + 1) * (m - s)))) := by
          show (if (vec (fun i => D.int (fig a b i : Nat)) (s + t * (m - s))).length + (vec (fun i => D.int (fig a b (s + i) : Nat)) (m - s)).length ≤ 1000000 then some (D.lst (vec (fun i => D.int (fig a b i : Nat)) (s + t * (m - s)) ++ vec (fun i => D.int (fig a b (s + i) : Nat)) (m - s))) else none) = _
          rw [vec_len, vec_len, if_pos (by omega)]
          rw [vec_append, Nat.succ_mul, ← Nat.add_assoc]
          congr 2
          refine vec_ext fun i hi => ?_
          by_cases hc : i < s + t * (m - s)
          · rw [if_pos hc]
          · rw [if_neg hc]
            obtain ⟨j, rfl⟩ := Nat.le.dest (Nat.le_of_not_lt hc)
            rw [Nat.add_sub_cancel_left, fig_again F t j]
        unfold w3_law
        simp -implicitDefEqProofs only [x_set, x_asg, x_call, x_callM, x_callN, x_cons, x_nil, x_V, x_C, x_1, x_2, x_N, x_tup, x_lst, x_lstM, x_lc, x_rg1, x_rg2, x_iseq, x_ifE, x_ifS, x_and, x_or, x_not, x_ret, x_retN, x_par, x_drop, x_nx, x_raise, x_seq, x_for, x_chain, x_met, x_callP, x_bname, x_bnil, x_bcons, x_btup, x_put, x_fnil, List.getElem?_cons_zero, List.getElem?_cons_succ, List.set_cons_succ, List.set_cons_zero, y_bn, y_bn', y_un, y_of, y_of2, y_nN, y_ac, y_ac', tp0, tp1, tp2, tp3, tp4, lp0, lp1, lp2, lp3, lp4, lp5, lp6, lp7, y_lpM0, y_ift, y_iff, y_not, y_cl, y_clM, y_clN, y_clP, y_clPx, y_st, y_rt, y_rtx, y_dr, y_drx, y_ifst, y_ifsf, y_pr, y_pr', y_asg, y_rg1, y_rg2, y_rg2', y_sql, y_sqt, y_fr, y_lc, y_thn, y_thr, y_thx, y_ch0, y_ch1, y_ch2t, y_ch2f, y_ch3, y_pt1, y_pt2, y_me2, z_add, z_sub, z_lt, z_le, z_gt, z_ge, z_eq, z_ne, z_neg, z_nri, z_nrb, z_nrn, z_nrt, z_nrl, z_lent, z_lenl, z_min, z_max, z_ixt, z_ixl, z_revt, z_revl, z_tupt, z_tupl, z_lstt, z_lstl, z_inti, z_isi_ii, z_isi_ib, z_isi_is, z_isi_it, z_isi_il, z_isi_tt, z_isi_tl, z_isi_ti, z_isi_tb, z_isi_lt, z_isi_ll, z_isi_bb, z_isi_bi, z_isi_bt, z_isi_bls, at_0, at_1, at_2, at_3, List.all_cons, List.all_nil, Bool.and_self, Bool.true_and, Bool.and_true, if_true, decide_true, decide_false, Bool.not_true, Bool.not_false, wipeD, finL, rgOk_0, rgOk_1, and_true, true_and, List.reverse_nil, List.nil_append, and_self, reduceIte, Bool.false_eq_true, zl1, ad]) (by
      have e1 : decide (((s + n * (m - s) : Nat) : Int) < 160) = false := decide_eq_false (by omega)
      simp -implicitDefEqProofs only [x_set, x_asg, x_call, x_callM, x_callN, x_cons, x_nil, x_V, x_C, x_1, x_2, x_N, x_tup, x_lst, x_lstM, x_lc, x_rg1, x_rg2, x_iseq, x_ifE, x_ifS, x_and, x_or, x_not, x_ret, x_retN, x_par, x_drop, x_nx, x_raise, x_seq, x_for, x_chain, x_met, x_callP, x_bname, x_bnil, x_bcons, x_btup, x_put, x_fnil, List.getElem?_cons_zero, List.getElem?_cons_succ, List.set_cons_succ, List.set_cons_zero, y_bn, y_bn', y_un, y_of, y_of2, y_nN, y_ac, y_ac', tp0, tp1, tp2, tp3, tp4, lp0, lp1, lp2, lp3, lp4, lp5, lp6, lp7, y_lpM0, y_ift, y_iff, y_not, y_cl, y_clM, y_clN, y_clP, y_clPx, y_st, y_rt, y_rtx, y_dr, y_drx, y_ifst, y_ifsf, y_pr, y_pr', y_asg, y_rg1, y_rg2, y_rg2', y_sql, y_sqt, y_fr, y_lc, y_thn, y_thr, y_thx, y_ch0, y_ch1, y_ch2t, y_ch2f, y_ch3, y_pt1, y_pt2, y_me2, z_add, z_sub, z_lt, z_le, z_gt, z_ge, z_eq, z_ne, z_neg, z_nri, z_nrb, z_nrn, z_nrt, z_nrl, z_lent, z_lenl, z_min, z_max, z_ixt, z_ixl, z_revt, z_revl, z_tupt, z_tupl, z_lstt, z_lstl, z_inti, z_isi_ii, z_isi_ib, z_isi_is, z_isi_it, z_isi_il, z_isi_tt, z_isi_tl, z_isi_ti, z_isi_tb, z_isi_lt, z_isi_ll, z_isi_bb, z_isi_bi, z_isi_bt, z_isi_bls, at_0, at_1, at_2, at_3, List.all_cons, List.all_nil, Bool.and_self, Bool.true_and, Bool.and_true, if_true, decide_true, decide_false, Bool.not_true, Bool.not_false, wipeD, finL, rgOk_0, rgOk_1, and_true, true_and, List.reverse_nil, List.nil_append, and_self, reduceIte, Bool.false_eq_true, vec_len, e1]) 400 (by omega)
  simp only [Nat.zero_mul, Nat.add_zero] at wl
  refine seq_en (ρ1 := [some sc, some (.ref 0), x2, some (.int ((v + 1 : Nat) : Int)), some (shD a b), some (.lst (vec (fun k => .int (fig a b k : Nat)) 160)), y6, y7, some (tF a b 0 s), some (tF a b s (m - s)), some (.lst (vec (fun i => .int (fig a b i : Nat)) (s + n * (m - s)))), x11, x12, x13, x14, x15, x16, x17]) (st1 := [M3]) wl ?_
  have sl1 : ∀ st, slD (.lst (vec (fun i => D.int (fig a b i : Nat)) (s + n * (m - s)))) none (some 160) st = some (.lst (vec (fun i => .int (fig a b i : Nat)) 160)) := fun st => by
    rw [z_sll, show (160 : Int) = ((160 : Nat) : Int) from rfl, cut_take hn2]
  have ne1 : ∀ st, neD (.lst (vec (fun i => D.int (fig a b i : Nat)) 160)) (.lst (vec (fun i => D.int (fig a b i : Nat)) 160)) st = some (.bl false) := fun st => by
    rw [vec_int_map, ne_ints_l, decide_eq_true rfl]; rfl
  have c1 : decide (((m - s : Nat) : Int) = 0) = false := decide_eq_false (by omega)
  have c2 : decide ((80 : Int) < (s : Int) + ((m - s : Nat) : Int)) = false := decide_eq_false (by omega)
  refine seq_en (ρ1 := [some sc, some (.ref 0), x2, some (.int ((v + 1 : Nat) : Int)), some (shD a b), some (.lst (vec (fun k => .int (fig a b k : Nat)) 160)), y6, y7, some (tF a b 0 s), some (tF a b s (m - s)), some (.lst (vec (fun i => .int (fig a b i : Nat)) (s + n * (m - s)))), x11, x12, x13, x14, x15, x16, x17]) (st1 := [M3]) (by simp -implicitDefEqProofs only [x_set, x_asg, x_call, x_callM, x_callN, x_cons, x_nil, x_V, x_C, x_1, x_2, x_N, x_tup, x_lst, x_lstM, x_lc, x_rg1, x_rg2, x_iseq, x_ifE, x_ifS, x_and, x_or, x_not, x_ret, x_retN, x_par, x_drop, x_nx, x_raise, x_seq, x_for, x_chain, x_met, x_callP, x_bname, x_bnil, x_bcons, x_btup, x_put, x_fnil, List.getElem?_cons_zero, List.getElem?_cons_succ, List.set_cons_succ, List.set_cons_zero, y_bn, y_bn', y_un, y_of, y_of2, y_nN, y_ac, y_ac', tp0, tp1, tp2, tp3, tp4, lp0, lp1, lp2, lp3, lp4, lp5, lp6, lp7, y_lpM0, y_ift, y_iff, y_not, y_cl, y_clM, y_clN, y_clP, y_clPx, y_st, y_rt, y_rtx, y_dr, y_drx, y_ifst, y_ifsf, y_pr, y_pr', y_asg, y_rg1, y_rg2, y_rg2', y_sql, y_sqt, y_fr, y_lc, y_thn, y_thr, y_thx, y_ch0, y_ch1, y_ch2t, y_ch2f, y_ch3, y_pt1, y_pt2, y_me2, z_add, z_sub, z_lt, z_le, z_gt, z_ge, z_eq, z_ne, z_neg, z_nri, z_nrb, z_nrn, z_nrt, z_nrl, z_lent, z_lenl, z_min, z_max, z_ixt, z_ixl, z_revt, z_revl, z_tupt, z_tupl, z_lstt, z_lstl, z_inti, z_isi_ii, z_isi_ib, z_isi_is, z_isi_it, z_isi_il, z_isi_tt, z_isi_tl, z_isi_ti, z_isi_tb, z_isi_lt, z_isi_ll, z_isi_bb, z_isi_bi, z_isi_bt, z_isi_bls, at_0, at_1, at_2, at_3, List.all_cons, List.all_nil, Bool.and_self, Bool.true_and, Bool.and_true, if_true, decide_true, decide_false, Bool.not_true, Bool.not_false, wipeD, finL, rgOk_0, rgOk_1, and_true, true_and, List.reverse_nil, List.nil_append, and_self, reduceIte, Bool.false_eq_true, x_sl, y_sl1, x_pNone, y_sl2, x_pSome, y_ps, y_sl3, sl1, ne1, len_tF, c1, c2]) ?_
  have f4 := for_vec (b := bName 11) (body := b4_law) (it := fun k => .int (1 + (k : Int))) (fun k => [some sc, some (.ref 0), x2, some (.int ((v + 1 : Nat) : Int)), some (shD a b), some (.lst (vec (fun k => .int (fig a b k : Nat)) 160)), y6, y7, some (tF a b 0 s), some (tF a b s (m - s)), some (.lst (vec (fun i => .int (fig a b i : Nat)) (s + n * (m - s)))), lv x11 (fun k => .int (1 + (k : Int))) k, x12, x13, x14, x15, x16, x17]) (fun _ => [M3]) (m - s - 1) fun k hk => by
    refine ⟨[some sc, some (.ref 0), x2, some (.int ((v + 1 : Nat) : Int)), some (shD a b), some (.lst (vec (fun k => .int (fig a b k : Nat)) 160)), y6, y7, some (tF a b 0 s), some (tF a b s (m - s)), some (.lst (vec (fun i => .int (fig a b i : Nat)) (s + n * (m - s)))), some (.int (1 + (k : Int))), x12, x13, x14, x15, x16, x17], rfl, ?_⟩
    have e2 : (1 : Int) + (k : Int) = ((k + 1 : Nat) : Int) := by omega
    have zm : modD (.int ((m - s : Nat) : Int)) (.int ((k + 1 : Nat) : Int)) [M3] = some (.int ((m - s) % (k + 1) : Nat)) := md (by omega)
    unfold b4_law
    by_cases hd : (m - s) % (k + 1) = 0
    · have c3 : decide ((((m - s) % (k + 1) : Nat) : Int) = 0) = true := by rw [hd]; rfl
      have L := F.least (k + 1) (by omega) (by omega) hd
      have sl2 : ∀ st, slD (tF a b s (m - s)) none (some ((k + 1 : Nat) : Int)) st = some (tF a b s (k + 1)) := fun st => by unfold tF; rw [z_slt, cut_take (by omega)]
      have zd : fdivD (.int ((m - s : Nat) : Int)) (.int ((k + 1 : Nat) : Int)) [M3] = some (.int ((m - s) / (k + 1) : Nat)) := dv (by omega) (by omega)
      have q2 : 2 ≤ (m - s) / (k + 1) := by
        have := Nat.div_add_mod (m - s) (k + 1)
        rw [hd] at this
        generalize (m - s) / (k + 1) = q at this ⊢
        have h0 : q ≠ 0 := fun e => by rw [e] at this; omega
        have h1 : q ≠ 1 := fun e => by rw [e] at this; omega
        omega
      have q6 : (m - s) / (k + 1) ≤ 60 := Nat.le_trans (Nat.div_le_self _ _) (by omega)
      have mt : mulD (tF a b s (k + 1)) (.int ((m - s) / (k + 1) : Nat)) [M3] = some (.tup ((List.replicate ((m - s) / (k + 1)) (vec (fun i => fig a b (s + i)) (k + 1))).flatten.map fun (x : Nat) => .int x)) := by
        unfold tF
        show (if 1 ≤ (vec (fun i => D.int (fig a b (s + i) : Nat)) (k + 1)).length ∧ 2 ≤ (((m - s) / (k + 1) : Nat) : Int) ∧ (((m - s) / (k + 1) : Nat) : Int) ≤ 1000 ∧ (vec (fun i => D.int (fig a b (s + i) : Nat)) (k + 1)).length ≤ 1000 then _ else _) = _
        rw [vec_len, if_pos ⟨by omega, by omega, by omega, by omega⟩, Int.toNat_natCast, List.map_flatten, List.map_replicate, vec_map]
      have en : eqD (tF a b s (m - s)) (.tup ((List.replicate ((m - s) / (k + 1)) (vec (fun i => fig a b (s + i)) (k + 1))).flatten.map fun (x : Nat) => .int x)) [M3] = some (.bl false) := by
        rw [tF_map, eq_ints_t, decide_eq_false L]
      simp -implicitDefEqProofs only [x_set, x_asg, x_call, x_callM, x_callN, x_cons, x_nil, x_V, x_C, x_1, x_2, x_N, x_tup, x_lst, x_lstM, x_lc, x_rg1, x_rg2, x_iseq, x_ifE, x_ifS, x_and, x_or, x_not, x_ret, x_retN, x_par, x_drop, x_nx, x_raise, x_seq, x_for, x_chain, x_met, x_callP, x_bname, x_bnil, x_bcons, x_btup, x_put, x_fnil, List.getElem?_cons_zero, List.getElem?_cons_succ, List.set_cons_succ, List.set_cons_zero, y_bn, y_bn', y_un, y_of, y_of2, y_nN, y_ac, y_ac', tp0, tp1, tp2, tp3, tp4, lp0, lp1, lp2, lp3, lp4, lp5, lp6, lp7, y_lpM0, y_ift, y_iff, y_not, y_cl, y_clM, y_clN, y_clP, y_clPx, y_st, y_rt, y_rtx, y_dr, y_drx, y_ifst, y_ifsf, y_pr, y_pr', y_asg, y_rg1, y_rg2, y_rg2', y_sql, y_sqt, y_fr, y_lc, y_thn, y_thr, y_thx, y_ch0, y_ch1, y_ch2t, y_ch2f, y_ch3, y_pt1, y_pt2, y_me2, z_add, z_sub, z_lt, z_le, z_gt, z_ge, z_eq, z_ne, z_neg, z_nri, z_nrb, z_nrn, z_nrt, z_nrl, z_lent, z_lenl, z_min, z_max, z_ixt, z_ixl, z_revt, z_revl, z_tupt, z_tupl, z_lstt, z_lstl, z_inti, z_isi_ii, z_isi_ib, z_isi_is, z_isi_it, z_isi_il, z_isi_tt, z_isi_tl, z_isi_ti, z_isi_tb, z_isi_lt, z_isi_ll, z_isi_bb, z_isi_bi, z_isi_bt, z_isi_bls, at_0, at_1, at_2, at_3, List.all_cons, List.all_nil, Bool.and_self, Bool.true_and, Bool.and_true, if_true, decide_true, decide_false, Bool.not_true, Bool.not_false, wipeD, finL, rgOk_0, rgOk_1, and_true, true_and, List.reverse_nil, List.nil_append, and_self, reduceIte, Bool.false_eq_true, len_tF, e2, zm, c3, x_sl, y_sl1, x_pNone, y_sl2, x_pSome, y_ps, y_sl3, sl2, zd, mt, en, lv]
    · have c3 : decide ((((m - s) % (k + 1) : Nat) : Int) = 0) = false := decide_eq_false (fun e => hd (Int.ofNat_eq_zero.mp e))
      simp -implicitDefEqProofs only [x_set, x_asg, x_call, x_callM, x_callN, x_cons, x_nil, x_V, x_C, x_1, x_2, x_N, x_tup, x_lst, x_lstM, x_lc, x_rg1, x_rg2, x_iseq, x_ifE, x_ifS, x_and, x_or, x_not, x_ret, x_retN, x_par, x_drop, x_nx, x_raise, x_seq, x_for, x_chain, x_met, x_callP, x_bname, x_bnil, x_bcons, x_btup, x_put, x_fnil, List.getElem?_cons_zero, List.getElem?_cons_succ, List.set_cons_succ, List.set_cons_zero, y_bn, y_bn', y_un, y_of, y_of2, y_nN, y_ac, y_ac', tp0, tp1, tp2, tp3, tp4, lp0, lp1, lp2, lp3, lp4, lp5, lp6, lp7, y_lpM0, y_ift, y_iff, y_not, y_cl, y_clM, y_clN, y_clP, y_clPx, y_st, y_rt, y_rtx, y_dr, y_drx, y_ifst, y_ifsf, y_pr, y_pr', y_asg, y_rg1, y_rg2, y_rg2', y_sql, y_sqt, y_fr, y_lc, y_thn, y_thr, y_thx, y_ch0, y_ch1, y_ch2t, y_ch2f, y_ch3, y_pt1, y_pt2, y_me2, z_add, z_sub, z_lt, z_le, z_gt, z_ge, z_eq, z_ne, z_neg, z_nri, z_nrb, z_nrn, z_nrt, z_nrl, z_lent, z_lenl, z_min, z_max, z_ixt, z_ixl, z_revt, z_revl, z_tupt, z_tupl, z_lstt, z_lstl, z_inti, z_isi_ii, z_isi_ib, z_isi_is, z_isi_it, z_isi_il, z_isi_tt, z_isi_tl, z_isi_ti, z_isi_tb, z_isi_lt, z_isi_ll, z_isi_bb, z_isi_bi, z_isi_bt, z_isi_bls, at_0, at_1, at_2, at_3, List.all_cons, List.all_nil, Bool.and_self, Bool.true_and, Bool.and_true, if_true, decide_true, decide_false, Bool.not_true, Bool.not_false, wipeD, finL, rgOk_0, rgOk_1, and_true, true_and, List.reverse_nil, List.nil_append, and_self, reduceIte, Bool.false_eq_true, len_tF, e2, zm, c3, lv]
  rw [← rg_vec] at f4
  have t1 : (((m - s : Nat) : Int) - 1).toNat = m - s - 1 := by omega
  refine seq_en (ρ1 := [some sc, some (.ref 0), x2, some (.int ((v + 1 : Nat) : Int)), some (shD a b), some (.lst (vec (fun k => .int (fig a b k : Nat)) 160)), y6, y7, some (tF a b 0 s), some (tF a b s (m - s)), some (.lst (vec (fun i => .int (fig a b i : Nat)) (s + n * (m - s)))), lv x11 (fun k => .int (1 + (k : Int))) (m - s - 1), x12, x13, x14, x15, x16, x17]) (st1 := [M3]) (by simp -implicitDefEqProofs only [x_set, x_asg, x_call, x_callM, x_callN, x_cons, x_nil, x_V, x_C, x_1, x_2, x_N, x_tup, x_lst, x_lstM, x_lc, x_rg1, x_rg2, x_iseq, x_ifE, x_ifS, x_and, x_or, x_not, x_ret, x_retN, x_par, x_drop, x_nx, x_raise, x_seq, x_for, x_chain, x_met, x_callP, x_bname, x_bnil, x_bcons, x_btup, x_put, x_fnil, List.getElem?_cons_zero, List.getElem?_cons_succ, List.set_cons_succ, List.set_cons_zero, y_bn, y_bn', y_un, y_of, y_of2, y_nN, y_ac, y_ac', tp0, tp1, tp2, tp3, tp4, lp0, lp1, lp2, lp3, lp4, lp5, lp6, lp7, y_lpM0, y_ift, y_iff, y_not, y_cl, y_clM, y_clN, y_clP, y_clPx, y_st, y_rt, y_rtx, y_dr, y_drx, y_ifst, y_ifsf, y_pr, y_pr', y_asg, y_rg1, y_rg2, y_rg2', y_sql, y_sqt, y_fr, y_lc, y_thn, y_thr, y_thx, y_ch0, y_ch1, y_ch2t, y_ch2f, y_ch3, y_pt1, y_pt2, y_me2, z_add, z_sub, z_lt, z_le, z_gt, z_ge, z_eq, z_ne, z_neg, z_nri, z_nrb, z_nrn, z_nrt, z_nrl, z_lent, z_lenl, z_min, z_max, z_ixt, z_ixl, z_revt, z_revl, z_tupt, z_tupl, z_lstt, z_lstl, z_inti, z_isi_ii, z_isi_ib, z_isi_is, z_isi_it, z_isi_il, z_isi_tt, z_isi_tl, z_isi_ti, z_isi_tb, z_isi_lt, z_isi_ll, z_isi_bb, z_isi_bi, z_isi_bt, z_isi_bls, at_0, at_1, at_2, at_3, List.all_cons, List.all_nil, Bool.and_self, Bool.true_and, Bool.and_true, if_true, decide_true, decide_false, Bool.not_true, Bool.not_false, wipeD, finL, rgOk_0, rgOk_1, and_true, true_and, List.reverse_nil, List.nil_append, and_self, reduceIte, Bool.false_eq_true, len_tF, rgOk_nat (show m - s ≤ 1000000 by omega), t1]; exact f4) ?_
  have last : ∀ st : Sto, (eAnd (e2 gtD (eN (g0 lenD) (aCons (eV 8) aNil)) (eC (.int 0))) (e2 eqD (e2 ixD (eV 8) (e1 negD (eC (.int 1)))) (e2 ixD (eV 9) (e1 negD (eC (.int 1)))))) [some sc, some (.ref 0), x2, some (.int ((v + 1 : Nat) : Int)), some (shD a b), some (.lst (vec (fun k => .int (fig a b k : Nat)) 160)), y6, y7, some (tF a b 0 s), some (tF a b s (m - s)), some (.lst (vec (fun i => .int (fig a b i : Nat)) (s + n * (m - s)))), lv x11 (fun k => .int (1 + (k : Int))) (m - s - 1), x12, x13, x14, x15, x16, x17] st = .ok (.bl false) st := fun st => by
    by_cases hs0 : 0 < s
    · have c4 : decide ((0 : Int) < (s : Int)) = true := decide_eq_true (by omega)
      have j1 : ∀ st, ixD (tF a b 0 s) (.int (-1)) st = some (.int (fig a b (s - 1) : Nat)) := fun st => by
        have := vec_at_neg (f := fun i => D.int (fig a b (0 + i) : Nat)) (n := s) (k := 0) hs0
        unfold tF
        rw [z_ixt]
        rw [show (-((0 : Nat) : Int) - 1) = -1 from rfl] at this
        rw [this, Nat.sub_zero, Nat.zero_add]
      have j2 : ∀ st, ixD (tF a b s (m - s)) (.int (-1)) st = some (.int (fig a b (m - 1) : Nat)) := fun st => by
        have := vec_at_neg (f := fun i => D.int (fig a b (s + i) : Nat)) (n := m - s) (k := 0) (by omega)
        unfold tF
        rw [z_ixt]
        rw [show (-((0 : Nat) : Int) - 1) = -1 from rfl] at this
        rw [this, Nat.sub_zero, show s + (m - s - 1) = m - 1 by omega]
      have c5 : decide (((fig a b (s - 1) : Nat) : Int) = ((fig a b (m - 1) : Nat) : Int)) = false := decide_eq_false (fun e => F.last hs0 (by omega))
      simp -implicitDefEqProofs only [x_set, x_asg, x_call, x_callM, x_callN, x_cons, x_nil, x_V, x_C, x_1, x_2, x_N, x_tup, x_lst, x_lstM, x_lc, x_rg1, x_rg2, x_iseq, x_ifE, x_ifS, x_and, x_or, x_not, x_ret, x_retN, x_par, x_drop, x_nx, x_raise, x_seq, x_for, x_chain, x_met, x_callP, x_bname, x_bnil, x_bcons, x_btup, x_put, x_fnil, List.getElem?_cons_zero, List.getElem?_cons_succ, List.set_cons_succ, List.set_cons_zero, y_bn, y_bn', y_un, y_of, y_of2, y_nN, y_ac, y_ac', tp0, tp1, tp2, tp3, tp4, lp0, lp1, lp2, lp3, lp4, lp5, lp6, lp7, y_lpM0, y_ift, y_iff, y_not, y_cl, y_clM, y_clN, y_clP, y_clPx, y_st, y_rt, y_rtx, y_dr, y_drx, y_ifst, y_ifsf, y_pr, y_pr', y_asg, y_rg1, y_rg2, y_rg2', y_sql, y_sqt, y_fr, y_lc, y_thn, y_thr, y_thx, y_ch0, y_ch1, y_ch2t, y_ch2f, y_ch3, y_pt1, y_pt2, y_me2, z_add, z_sub, z_lt, z_le, z_gt, z_ge, z_eq, z_ne, z_neg, z_nri, z_nrb, z_nrn, z_nrt, z_nrl, z_lent, z_lenl, z_min, z_max, z_ixt, z_ixl, z_revt, z_revl, z_tupt, z_tupl, z_lstt, z_lstl, z_inti, z_isi_ii, z_isi_ib, z_isi_is, z_isi_it, z_isi_il, z_isi_tt, z_isi_tl, z_isi_ti, z_isi_tb, z_isi_lt, z_isi_ll, z_isi_bb, z_isi_bi, z_isi_bt, z_isi_bls, at_0, at_1, at_2, at_3, List.all_cons, List.all_nil, Bool.and_self, Bool.true_and, Bool.and_true, if_true, decide_true, decide_false, Bool.not_true, Bool.not_false, wipeD, finL, rgOk_0, rgOk_1, and_true, true_and, List.reverse_nil, List.nil_append, and_self, reduceIte, Bool.false_eq_true, len_tF, c4, j1, j2, c5]
    · have c4 : decide ((0 : Int) < (s : Int)) = false := decide_eq_false (by omega)
      simp -implicitDefEqProofs only [x_set, x_asg, x_call, x_callM, x_callN, x_cons, x_nil, x_V, x_C, x_1, x_2, x_N, x_tup, x_lst, x_lstM, x_lc, x_rg1, x_rg2, x_iseq, x_ifE, x_ifS, x_and, x_or, x_not, x_ret, x_retN, x_par, x_drop, x_nx, x_raise, x_seq, x_for, x_chain, x_met, x_callP, x_bname, x_bnil, x_bcons, x_btup, x_put, x_fnil, List.getElem?_cons_zero, List.getElem?_cons_succ, List.set_cons_succ, List.set_cons_zero, y_bn, y_bn', y_un, y_of, y_of2, y_nN, y_ac, y_ac', tp0, tp1, tp2, tp3, tp4, lp0, lp1, lp2, lp3, lp4, lp5, lp6, lp7, y_lpM0, y_ift, y_iff, y_not, y_cl, y_clM, y_clN, y_clP, y_clPx, y_st, y_rt, y_rtx, y_dr, y_drx, y_ifst, y_ifsf, y_pr, y_pr', y_asg, y_rg1, y_rg2, y_rg2', y_sql, y_sqt, y_fr, y_lc, y_thn, y_thr, y_thx, y_ch0, y_ch1, y_ch2t, y_ch2f, y_ch3, y_pt1, y_pt2, y_me2, z_add, z_sub, z_lt, z_le, z_gt, z_ge, z_eq, z_ne, z_neg, z_nri, z_nrb, z_nrn, z_nrt, z_nrl, z_lent, z_lenl, z_min, z_max, z_ixt, z_ixl, z_revt, z_revl, z_tupt, z_tupl, z_lstt, z_lstl, z_inti, z_isi_ii, z_isi_ib, z_isi_is, z_isi_it, z_isi_il, z_isi_tt, z_isi_tl, z_isi_ti, z_isi_tb, z_isi_lt, z_isi_ll, z_isi_bb, z_isi_bi, z_isi_bt, z_isi_bls, at_0, at_1, at_2, at_3, List.all_cons, List.all_nil, Bool.and_self, Bool.true_and, Bool.and_true, if_true, decide_true, decide_false, Bool.not_true, Bool.not_false, wipeD, finL, rgOk_0, rgOk_1, and_true, true_and, List.reverse_nil, List.nil_append, and_self, reduceIte, Bool.false_eq_true, len_tF, c4]
  refine seq_en (ρ1 := [some sc, some (.ref 0), x2, some (.int ((v + 1 : Nat) : Int)), some (shD a b), some (.lst (vec (fun k => .int (fig a b k : Nat)) 160)), y6, y7, some (tF a b 0 s), some (tF a b s (m - s)), some (.lst (vec (fun i => .int (fig a b i : Nat)) (s + n * (m - s)))), lv x11 (fun k => .int (1 + (k : Int))) (m - s - 1), x12, x13, x14, x15, x16, x17]) (st1 := [M3]) (by rw [x_ifS, last, y_ifsf, x_nx]) ?_
  refine seq_en (ρ1 := [some sc, some (.ref 0), x2, some (.int ((v + 1 : Nat) : Int)), some (shD a b), some (.lst (vec (fun k => .int (fig a b k : Nat)) 160)), y6, y7, some (tF a b 0 s), some (tF a b s (m - s)), some (.lst (vec (fun i => .int (fig a b i : Nat)) (s + n * (m - s)))), lv x11 (fun k => .int (1 + (k : Int))) (m - s - 1), some (sh 0), some (.int 1), x14, x15, x16, x17]) (st1 := [M3]) (by simp -implicitDefEqProofs only [x_set, x_asg, x_call, x_callM, x_callN, x_cons, x_nil, x_V, x_C, x_1, x_2, x_N, x_tup, x_lst, x_lstM, x_lc, x_rg1, x_rg2, x_iseq, x_ifE, x_ifS, x_and, x_or, x_not, x_ret, x_retN, x_par, x_drop, x_nx, x_raise, x_seq, x_for, x_chain, x_met, x_callP, x_bname, x_bnil, x_bcons, x_btup, x_put, x_fnil, List.getElem?_cons_zero, List.getElem?_cons_succ, List.set_cons_succ, List.set_cons_zero, y_bn, y_bn', y_un, y_of, y_of2, y_nN, y_ac, y_ac', tp0, tp1, tp2, tp3, tp4, lp0, lp1, lp2, lp3, lp4, lp5, lp6, lp7, y_lpM0, y_ift, y_iff, y_not, y_cl, y_clM, y_clN, y_clP, y_clPx, y_st, y_rt, y_rtx, y_dr, y_drx, y_ifst, y_ifsf, y_pr, y_pr', y_asg, y_rg1, y_rg2, y_rg2', y_sql, y_sqt, y_fr, y_lc, y_thn, y_thr, y_thx, y_ch0, y_ch1, y_ch2t, y_ch2f, y_ch3, y_pt1, y_pt2, y_me2, z_add, z_sub, z_lt, z_le, z_gt, z_ge, z_eq, z_ne, z_neg, z_nri, z_nrb, z_nrn, z_nrt, z_nrl, z_lent, z_lenl, z_min, z_max, z_ixt, z_ixl, z_revt, z_revl, z_tupt, z_tupl, z_lstt, z_lstl, z_inti, z_isi_ii, z_isi_ib, z_isi_is, z_isi_it, z_isi_il, z_isi_tt, z_isi_tl, z_isi_ti, z_isi_tb, z_isi_lt, z_isi_ll, z_isi_bb, z_isi_bi, z_isi_bt, z_isi_bls, at_0, at_1, at_2, at_3, List.all_cons, List.all_nil, Bool.and_self, Bool.true_and, Bool.and_true, if_true, decide_true, decide_false, Bool.not_true, Bool.not_false, wipeD, finL, rgOk_0, rgOk_1, and_true, true_and, List.reverse_nil, List.nil_append, and_self, reduceIte, Bool.false_eq_true, sh_00]; rfl) ?_
  have f5 := for_vec (b := bName 7) (body := b5_law) (it := fun k => .int (1 + (k : Int))) (fun k => [some sc, some (.ref 0), x2, some (.int ((v + 1 : Nat) : Int)), some (shD a b), some (.lst (vec (fun k => .int (fig a b k : Nat)) 160)), y6, lv y7 (fun k => .int (1 + (k : Int))) k, some (tF a b 0 s), some (tF a b s (m - s)), some (.lst (vec (fun i => .int (fig a b i : Nat)) (s + n * (m - s)))), lv x11 (fun k => .int (1 + (k : Int))) (m - s - 1), some (sh (W a b k)), some (.int (2 ^ k : Nat)), x14, x15, x16, x17]) (fun _ => [M3]) 60 fun k hk => by
    refine ⟨[some sc, some (.ref 0), x2, some (.int ((v + 1 : Nat) : Int)), some (shD a b), some (.lst (vec (fun k => .int (fig a b k : Nat)) 160)), y6, some (.int (1 + (k : Int))), some (tF a b 0 s), some (tF a b s (m - s)), some (.lst (vec (fun i => .int (fig a b i : Nat)) (s + n * (m - s)))), lv x11 (fun k => .int (1 + (k : Int))) (m - s - 1), some (sh (W a b k)), some (.int (2 ^ k : Nat)), x14, x15, x16, x17], rfl, ?_⟩
    exact place_eq hab k hk _ _ _ _ _ _ _ _ _ _ _ _ _ _ M3
  rw [← rg_vec] at f5
  refine seq_en (ρ1 := [some sc, some (.ref 0), x2, some (.int ((v + 1 : Nat) : Int)), some (shD a b), some (.lst (vec (fun k => .int (fig a b k : Nat)) 160)), y6, lv y7 (fun k => .int (1 + (k : Int))) 60, some (tF a b 0 s), some (tF a b s (m - s)), some (.lst (vec (fun i => .int (fig a b i : Nat)) (s + n * (m - s)))), lv x11 (fun k => .int (1 + (k : Int))) (m - s - 1), some (sh (W a b 60)), some (.int (2 ^ 60 : Nat)), x14, x15, x16, x17]) (st1 := [M3]) (by simp -implicitDefEqProofs only [x_set, x_asg, x_call, x_callM, x_callN, x_cons, x_nil, x_V, x_C, x_1, x_2, x_N, x_tup, x_lst, x_lstM, x_lc, x_rg1, x_rg2, x_iseq, x_ifE, x_ifS, x_and, x_or, x_not, x_ret, x_retN, x_par, x_drop, x_nx, x_raise, x_seq, x_for, x_chain, x_met, x_callP, x_bname, x_bnil, x_bcons, x_btup, x_put, x_fnil, List.getElem?_cons_zero, List.getElem?_cons_succ, List.set_cons_succ, List.set_cons_zero, y_bn, y_bn', y_un, y_of, y_of2, y_nN, y_ac, y_ac', tp0, tp1, tp2, tp3, tp4, lp0, lp1, lp2, lp3, lp4, lp5, lp6, lp7, y_lpM0, y_ift, y_iff, y_not, y_cl, y_clM, y_clN, y_clP, y_clPx, y_st, y_rt, y_rtx, y_dr, y_drx, y_ifst, y_ifsf, y_pr, y_pr', y_asg, y_rg1, y_rg2, y_rg2', y_sql, y_sqt, y_fr, y_lc, y_thn, y_thr, y_thx, y_ch0, y_ch1, y_ch2t, y_ch2f, y_ch3, y_pt1, y_pt2, y_me2, z_add, z_sub, z_lt, z_le, z_gt, z_ge, z_eq, z_ne, z_neg, z_nri, z_nrb, z_nrn, z_nrt, z_nrl, z_lent, z_lenl, z_min, z_max, z_ixt, z_ixl, z_revt, z_revl, z_tupt, z_tupl, z_lstt, z_lstl, z_inti, z_isi_ii, z_isi_ib, z_isi_is, z_isi_it, z_isi_il, z_isi_tt, z_isi_tl, z_isi_ti, z_isi_tb, z_isi_lt, z_isi_ll, z_isi_bb, z_isi_bi, z_isi_bt, z_isi_bls, at_0, at_1, at_2, at_3, List.all_cons, List.all_nil, Bool.and_self, Bool.true_and, Bool.and_true, if_true, decide_true, decide_false, Bool.not_true, Bool.not_false, wipeD, finL, rgOk_0, rgOk_1, and_true, true_and, List.reverse_nil, List.nil_append, and_self, reduceIte, Bool.false_eq_true, rgOk_of (show -1000000 ≤ (61 : Int) by decide) (show (61 : Int) ≤ 1000000 by decide), show Int.toNat (61 - 1) = 60 from rfl]; exact f5) ?_
  have bW := W_bn hab 60 (Nat.le_refl _)
  have lw2 : F_law_low [.int 62, .int (2 ^ 60 : Nat)] [] = .ok (sh (62 * hf 60)) [] := law_low_hf 62 60 (by decide) (by decide) []
  have b62 : Bn 900 (62 * hf 60) := by
    have h1 : Fr (2 ^ 60) (62 * hf 60) := by
      have h2 : Fr (2 ^ 0) (62 : Rat) := Fr.nat _ 62
      exact (h2.mulp (fr_hf 60)).pow (by decide)
    exact (Bn.of (k := 70) (B := 62) h1 (Nat.pow_pos (by decide)) ⟨by decide +kernel, by decide +kernel⟩ (by decide +kernel) (by decide +kernel)).mono (by decide)
  have pl2 : F_law_plus [sh (W a b 60), sh (62 * hf 60)] [] = .ok (sh (W a b 60 + 62 * hf 60)) [] := lo.plus (bW.mono (by decide)) (b62.mono (by decide))
  have bT : Bn 900 (told a b m s) := by
    have := run_bn (s := s) (k := m - s) (p := m - s) hab (by omega) (by omega) (by omega)
    exact this
  have bR : Bn 2000 (W a b 60 + 62 * hf 60) := (Bn.add bW b62).mono (by decide)
  refine seq_en (ρ1 := [some sc, some (.ref 0), x2, some (.int ((v + 1 : Nat) : Int)), some (shD a b), some (.lst (vec (fun k => .int (fig a b k : Nat)) 160)), y6, lv y7 (fun k => .int (1 + (k : Int))) 60, some (tF a b 0 s), some (tF a b s (m - s)), some (.lst (vec (fun i => .int (fig a b i : Nat)) (s + n * (m - s)))), lv x11 (fun k => .int (1 + (k : Int))) (m - s - 1), some (sh (W a b 60)), some (.int (2 ^ 60 : Nat)), some (sh (W a b 60 + 62 * hf 60)), x15, x16, x17]) (st1 := [M3]) (by simp -implicitDefEqProofs only [x_set, x_asg, x_call, x_callM, x_callN, x_cons, x_nil, x_V, x_C, x_1, x_2, x_N, x_tup, x_lst, x_lstM, x_lc, x_rg1, x_rg2, x_iseq, x_ifE, x_ifS, x_and, x_or, x_not, x_ret, x_retN, x_par, x_drop, x_nx, x_raise, x_seq, x_for, x_chain, x_met, x_callP, x_bname, x_bnil, x_bcons, x_btup, x_put, x_fnil, List.getElem?_cons_zero, List.getElem?_cons_succ, List.set_cons_succ, List.set_cons_zero, y_bn, y_bn', y_un, y_of, y_of2, y_nN, y_ac, y_ac', tp0, tp1, tp2, tp3, tp4, lp0, lp1, lp2, lp3, lp4, lp5, lp6, lp7, y_lpM0, y_ift, y_iff, y_not, y_cl, y_clM, y_clN, y_clP, y_clPx, y_st, y_rt, y_rtx, y_dr, y_drx, y_ifst, y_ifsf, y_pr, y_pr', y_asg, y_rg1, y_rg2, y_rg2', y_sql, y_sqt, y_fr, y_lc, y_thn, y_thr, y_thx, y_ch0, y_ch1, y_ch2t, y_ch2f, y_ch3, y_pt1, y_pt2, y_me2, z_add, z_sub, z_lt, z_le, z_gt, z_ge, z_eq, z_ne, z_neg, z_nri, z_nrb, z_nrn, z_nrt, z_nrl, z_lent, z_lenl, z_min, z_max, z_ixt, z_ixl, z_revt, z_revl, z_tupt, z_tupl, z_lstt, z_lstl, z_inti, z_isi_ii, z_isi_ib, z_isi_is, z_isi_it, z_isi_il, z_isi_tt, z_isi_tl, z_isi_ti, z_isi_tb, z_isi_lt, z_isi_ll, z_isi_bb, z_isi_bi, z_isi_bt, z_isi_bls, at_0, at_1, at_2, at_3, List.all_cons, List.all_nil, Bool.and_self, Bool.true_and, Bool.and_true, if_true, decide_true, decide_false, Bool.not_true, Bool.not_false, wipeD, finL, rgOk_0, rgOk_1, and_true, true_and, List.reverse_nil, List.nil_append, and_self, reduceIte, Bool.false_eq_true, lw2, sh_nr, pl2]) ?_
  refine seq_en (ρ1 := [some sc, some (.ref 0), x2, some (.int ((v + 1 : Nat) : Int)), some (shD a b), some (.lst (vec (fun k => .int (fig a b k : Nat)) 160)), y6, lv y7 (fun k => .int (1 + (k : Int))) 60, some (tF a b 0 s), some (tF a b s (m - s)), some (.lst (vec (fun i => .int (fig a b i : Nat)) (s + n * (m - s)))), lv x11 (fun k => .int (1 + (k : Int))) (m - s - 1), some (sh (W a b 60)), some (.int (2 ^ 60 : Nat)), some (sh (W a b 60 + 62 * hf 60)), some (sh (told a b m s)), x16, x17]) (st1 := [M3]) (by simp -implicitDefEqProofs only [x_set, x_asg, x_call, x_callM, x_callN, x_cons, x_nil, x_V, x_C, x_1, x_2, x_N, x_tup, x_lst, x_lstM, x_lc, x_rg1, x_rg2, x_iseq, x_ifE, x_ifS, x_and, x_or, x_not, x_ret, x_retN, x_par, x_drop, x_nx, x_raise, x_seq, x_for, x_chain, x_met, x_callP, x_bname, x_bnil, x_bcons, x_btup, x_put, x_fnil, List.getElem?_cons_zero, List.getElem?_cons_succ, List.set_cons_succ, List.set_cons_zero, y_bn, y_bn', y_un, y_of, y_of2, y_nN, y_ac, y_ac', tp0, tp1, tp2, tp3, tp4, lp0, lp1, lp2, lp3, lp4, lp5, lp6, lp7, y_lpM0, y_ift, y_iff, y_not, y_cl, y_clM, y_clN, y_clP, y_clPx, y_st, y_rt, y_rtx, y_dr, y_drx, y_ifst, y_ifsf, y_pr, y_pr', y_asg, y_rg1, y_rg2, y_rg2', y_sql, y_sqt, y_fr, y_lc, y_thn, y_thr, y_thx, y_ch0, y_ch1, y_ch2t, y_ch2f, y_ch3, y_pt1, y_pt2, y_me2, z_add, z_sub, z_lt, z_le, z_gt, z_ge, z_eq, z_ne, z_neg, z_nri, z_nrb, z_nrn, z_nrt, z_nrl, z_lent, z_lenl, z_min, z_max, z_ixt, z_ixl, z_revt, z_revl, z_tupt, z_tupl, z_lstt, z_lstl, z_inti, z_isi_ii, z_isi_ib, z_isi_is, z_isi_it, z_isi_il, z_isi_tt, z_isi_tl, z_isi_ti, z_isi_tb, z_isi_lt, z_isi_ll, z_isi_bb, z_isi_bi, z_isi_bt, z_isi_bls, at_0, at_1, at_2, at_3, List.all_cons, List.all_nil, Bool.and_self, Bool.true_and, Bool.and_true, if_true, decide_true, decide_false, Bool.not_true, Bool.not_false, wipeD, finL, rgOk_0, rgOk_1, and_true, true_and, List.reverse_nil, List.nil_append, and_self, reduceIte, Bool.false_eq_true, nn, we, sh_nr]) ?_
  have q1 : decide ((told a b m s).num * ((W a b 60).den : Int) < (W a b 60).num * ((told a b m s).den : Int)) = false := decide_eq_false (fun e => by
    have := (Rat.lt_iff _ _).mpr e
    exact absurd F.lo (Rat.not_le.mpr this))
  have q2 : decide ((W a b 60 + 62 * hf 60).num * ((told a b m s).den : Int) < (told a b m s).num * ((W a b 60 + 62 * hf 60).den : Int)) = false := decide_eq_false (fun e => by
    have := (Rat.lt_iff _ _).mpr e
    exact absurd F.hi (Rat.not_le.mpr this))
  have T4 := bT.mono (j := 4000) (by decide)
  have W4 := bW.mono (j := 4000) (by decide)
  have R4 := bR.mono (j := 4000) (by decide)
  refine Ends.of (ρ := [some sc, some (.ref 0), x2, some (.int ((v + 1 : Nat) : Int)), some (shD a b), some (.lst (vec (fun k => .int (fig a b k : Nat)) 160)), y6, lv y7 (fun k => .int (1 + (k : Int))) 60, some (tF a b 0 s), some (tF a b s (m - s)), some (.lst (vec (fun i => .int (fig a b i : Nat)) (s + n * (m - s)))), lv x11 (fun k => .int (1 + (k : Int))) (m - s - 1), some (sh (W a b 60)), some (.int (2 ^ 60 : Nat)), some (sh (W a b 60 + 62 * hf 60)), some (sh (told a b m s)), x16, x17]) (st := [M3]) (by simp -implicitDefEqProofs only [x_set, x_asg, x_call, x_callM, x_callN, x_cons, x_nil, x_V, x_C, x_1, x_2, x_N, x_tup, x_lst, x_lstM, x_lc, x_rg1, x_rg2, x_iseq, x_ifE, x_ifS, x_and, x_or, x_not, x_ret, x_retN, x_par, x_drop, x_nx, x_raise, x_seq, x_for, x_chain, x_met, x_callP, x_bname, x_bnil, x_bcons, x_btup, x_put, x_fnil, List.getElem?_cons_zero, List.getElem?_cons_succ, List.set_cons_succ, List.set_cons_zero, y_bn, y_bn', y_un, y_of, y_of2, y_nN, y_ac, y_ac', tp0, tp1, tp2, tp3, tp4, lp0, lp1, lp2, lp3, lp4, lp5, lp6, lp7, y_lpM0, y_ift, y_iff, y_not, y_cl, y_clM, y_clN, y_clP, y_clPx, y_st, y_rt, y_rtx, y_dr, y_drx, y_ifst, y_ifsf, y_pr, y_pr', y_asg, y_rg1, y_rg2, y_rg2', y_sql, y_sqt, y_fr, y_lc, y_thn, y_thr, y_thx, y_ch0, y_ch1, y_ch2t, y_ch2f, y_ch3, y_pt1, y_pt2, y_me2, z_add, z_sub, z_lt, z_le, z_gt, z_ge, z_eq, z_ne, z_neg, z_nri, z_nrb, z_nrn, z_nrt, z_nrl, z_lent, z_lenl, z_min, z_max, z_ixt, z_ixl, z_revt, z_revl, z_tupt, z_tupl, z_lstt, z_lstl, z_inti, z_isi_ii, z_isi_ib, z_isi_is, z_isi_it, z_isi_il, z_isi_tt, z_isi_tl, z_isi_ti, z_isi_tb, z_isi_lt, z_isi_ll, z_isi_bb, z_isi_bi, z_isi_bt, z_isi_bls, at_0, at_1, at_2, at_3, List.all_cons, List.all_nil, Bool.and_self, Bool.true_and, Bool.and_true, if_true, decide_true, decide_false, Bool.not_true, Bool.not_false, wipeD, finL, rgOk_0, rgOk_1, and_true, true_and, List.reverse_nil, List.nil_append, and_self, reduceIte, Bool.false_eq_true, sh_ix0, sh_ix1, mu T4.1 (den_abs W4), mu W4.1 (den_abs T4), q1, mu T4.1 (den_abs R4), mu R4.1 (den_abs T4), q2]) ⟨⟨_, _, _, _, _, _, _, _, _, _, _, _, _, _, _, _, rfl⟩, M3, rfl, g3⟩
end K57
set_option exponentiation.threshold 10000
namespace K57
open PySem L2 L4
theorem tp5 {a b c d e : D} {st : Sto} : tp (.ok [a, b, c, d, e] st) = .ok (.tup [a, b, c, d, e]) st := by rw [y_tp, if_pos (by show 5 ≤ 1000000; omega)]
theorem weigh {a b : Nat} {r : Rat} (h : a < b) (hb : b ≤ 60) (hc : Nat.gcd a b = 1) (ht : told a b (mOf a b) (sOf a b) = r) : F_weighed_bits [shD a b] [] = .ok (sh r) [] := by
  obtain ⟨m, s, rfl, rfl, F⟩ := figs h hb hc
  rw [weighed_eq h hb hc F, ht]
theorem bits_bad {d : D} (hn : nr 12 d = true) (h : isChanceF [d] [] = .ok (.bl false) []) : F_bits_of [d] [] = .exc ⟨"BadPlan"⟩ [] := by
  refine fn_ex (ρ := [some d, none, none, none, none]) rfl ?_
  show g_bits_of [some d, none, none, none, none] [] = _
  unfold g_bits_of
  simp -implicitDefEqProofs only [x_set, x_asg, x_call, x_callM, x_callN, x_cons, x_nil, x_V, x_C, x_1, x_2, x_N, x_tup, x_lst, x_lstM, x_lc, x_rg1, x_rg2, x_iseq, x_ifE, x_ifS, x_and, x_or, x_not, x_ret, x_retN, x_par, x_drop, x_nx, x_raise, x_seq, x_for, x_chain, x_met, x_callP, x_bname, x_bnil, x_bcons, x_btup, x_put, x_fnil, List.getElem?_cons_zero, List.getElem?_cons_succ, List.set_cons_succ, List.set_cons_zero, y_bn, y_bn', y_un, y_of, y_of2, y_nN, y_ac, y_ac', tp0, tp1, tp2, tp3, tp4, lp0, lp1, lp2, lp3, lp4, lp5, lp6, lp7, y_lpM0, y_ift, y_iff, y_not, y_cl, y_clM, y_clN, y_clP, y_clPx, y_st, y_rt, y_rtx, y_dr, y_drx, y_ifst, y_ifsf, y_pr, y_pr', y_asg, y_rg1, y_rg2, y_rg2', y_sql, y_sqt, y_fr, y_lc, y_thn, y_thr, y_thx, y_ch0, y_ch1, y_ch2t, y_ch2f, y_ch3, y_pt1, y_pt2, y_me2, z_add, z_sub, z_lt, z_le, z_gt, z_ge, z_eq, z_ne, z_neg, z_nri, z_nrb, z_nrn, z_nrt, z_nrl, z_lent, z_lenl, z_min, z_max, z_ixt, z_ixl, z_revt, z_revl, z_tupt, z_tupl, z_lstt, z_lstl, z_inti, z_isi_ii, z_isi_ib, z_isi_is, z_isi_it, z_isi_il, z_isi_tt, z_isi_tl, z_isi_ti, z_isi_tb, z_isi_lt, z_isi_ll, z_isi_bb, z_isi_bi, z_isi_bt, z_isi_bls, at_0, at_1, at_2, at_3, List.all_cons, List.all_nil, Bool.and_self, Bool.true_and, Bool.and_true, if_true, decide_true, decide_false, Bool.not_true, Bool.not_false, wipeD, finL, rgOk_0, rgOk_1, and_true, true_and, List.reverse_nil, List.nil_append, and_self, reduceIte, Bool.false_eq_true, f_chance, h, hn]
theorem bits_one : F_bits_of [.tup [.int 1, .int 1]] [] = .exc ⟨"BadPlan"⟩ [] := by
  have ch := chance_int 1 1 (by decide) (by decide) (by decide) []
  have ch : isChanceF [.tup [.int 1, .int 1]] [] = .ok (.bl true) [] := ch
  have e : eqD (.tup [.int 1, .int 1]) (.tup [.int 1, .int 1]) [] = some (.bl true) := gd_eq (n := 1) (by decide) (by decide) []
  refine fn_ex (ρ := [some (.tup [.int 1, .int 1]), none, none, none, none]) rfl ?_
  show g_bits_of [some (.tup [.int 1, .int 1]), none, none, none, none] [] = _
  unfold g_bits_of
  simp -implicitDefEqProofs only [x_set, x_asg, x_call, x_callM, x_callN, x_cons, x_nil, x_V, x_C, x_1, x_2, x_N, x_tup, x_lst, x_lstM, x_lc, x_rg1, x_rg2, x_iseq, x_ifE, x_ifS, x_and, x_or, x_not, x_ret, x_retN, x_par, x_drop, x_nx, x_raise, x_seq, x_for, x_chain, x_met, x_callP, x_bname, x_bnil, x_bcons, x_btup, x_put, x_fnil, List.getElem?_cons_zero, List.getElem?_cons_succ, List.set_cons_succ, List.set_cons_zero, y_bn, y_bn', y_un, y_of, y_of2, y_nN, y_ac, y_ac', tp0, tp1, tp2, tp3, tp4, lp0, lp1, lp2, lp3, lp4, lp5, lp6, lp7, y_lpM0, y_ift, y_iff, y_not, y_cl, y_clM, y_clN, y_clP, y_clPx, y_st, y_rt, y_rtx, y_dr, y_drx, y_ifst, y_ifsf, y_pr, y_pr', y_asg, y_rg1, y_rg2, y_rg2', y_sql, y_sqt, y_fr, y_lc, y_thn, y_thr, y_thx, y_ch0, y_ch1, y_ch2t, y_ch2f, y_ch3, y_pt1, y_pt2, y_me2, z_add, z_sub, z_lt, z_le, z_gt, z_ge, z_eq, z_ne, z_neg, z_nri, z_nrb, z_nrn, z_nrt, z_nrl, z_lent, z_lenl, z_min, z_max, z_ixt, z_ixl, z_revt, z_revl, z_tupt, z_tupl, z_lstt, z_lstl, z_inti, z_isi_ii, z_isi_ib, z_isi_is, z_isi_it, z_isi_il, z_isi_tt, z_isi_tl, z_isi_ti, z_isi_tb, z_isi_lt, z_isi_ll, z_isi_bb, z_isi_bi, z_isi_bt, z_isi_bls, at_0, at_1, at_2, at_3, List.all_cons, List.all_nil, Bool.and_self, Bool.true_and, Bool.and_true, if_true, decide_true, decide_false, Bool.not_true, Bool.not_false, wipeD, finL, rgOk_0, rgOk_1, and_true, true_and, List.reverse_nil, List.nil_append, and_self, reduceIte, Bool.false_eq_true, f_chance, ch, e]
theorem lk : xl_BadPlan.lookup ("BadPlan" : Str) = some true := by decide +kernel
theorem iv : isB xl_ValueError ("BadPlan" : Str) = true := by decide +kernel
theorem bad_step {d : D} (hn : nr 12 d = true) (h : F_bits_of [d] [] = .exc ⟨"BadPlan"⟩ []) (x0 x1 x2 x3 x4 x5 x6 x7 x8 x9 x10 x11 x12 x13 x14 x15 x17 : Option D) (st : Sto) :
    b8_law [x0, x1, x2, x3, x4, x5, x6, x7, x8, x9, x10, x11, x12, x13, x14, x15, some d, x17] st = .nx [x0, x1, x2, x3, x4, x5, x6, x7, x8, x9, x10, x11, x12, x13, x14, x15, some d, none] st := by
  unfold b8_law
  rw [try_en (x := "BadPlan") (ρ1 := [x0, x1, x2, x3, x4, x5, x6, x7, x8, x9, x10, x11, x12, x13, x14, x15, some d, x17]) (st1 := st) ?_ (by show 17 < 18; omega) lk (by rw [iv]; rfl)]
  · rfl
  · simp -implicitDefEqProofs only [x_set, x_asg, x_call, x_callM, x_callN, x_cons, x_nil, x_V, x_C, x_1, x_2, x_N, x_tup, x_lst, x_lstM, x_lc, x_rg1, x_rg2, x_iseq, x_ifE, x_ifS, x_and, x_or, x_not, x_ret, x_retN, x_par, x_drop, x_nx, x_raise, x_seq, x_for, x_chain, x_met, x_callP, x_bname, x_bnil, x_bcons, x_btup, x_put, x_fnil, List.getElem?_cons_zero, List.getElem?_cons_succ, List.set_cons_succ, List.set_cons_zero, y_bn, y_bn', y_un, y_of, y_of2, y_nN, y_ac, y_ac', tp0, tp1, tp2, tp3, tp4, lp0, lp1, lp2, lp3, lp4, lp5, lp6, lp7, y_lpM0, y_ift, y_iff, y_not, y_cl, y_clM, y_clN, y_clP, y_clPx, y_st, y_rt, y_rtx, y_dr, y_drx, y_ifst, y_ifsf, y_pr, y_pr', y_asg, y_rg1, y_rg2, y_rg2', y_sql, y_sqt, y_fr, y_lc, y_thn, y_thr, y_thx, y_ch0, y_ch1, y_ch2t, y_ch2f, y_ch3, y_pt1, y_pt2, y_me2, z_add, z_sub, z_lt, z_le, z_gt, z_ge, z_eq, z_ne, z_neg, z_nri, z_nrb, z_nrn, z_nrt, z_nrl, z_lent, z_lenl, z_min, z_max, z_ixt, z_ixl, z_revt, z_revl, z_tupt, z_tupl, z_lstt, z_lstl, z_inti, z_isi_ii, z_isi_ib, z_isi_is, z_isi_it, z_isi_il, z_isi_tt, z_isi_tl, z_isi_ti, z_isi_tb, z_isi_lt, z_isi_ll, z_isi_bb, z_isi_bi, z_isi_bt, z_isi_bls, at_0, at_1, at_2, at_3, List.all_cons, List.all_nil, Bool.and_self, Bool.true_and, Bool.and_true, if_true, decide_true, decide_false, Bool.not_true, Bool.not_false, wipeD, finL, rgOk_0, rgOk_1, and_true, true_and, List.reverse_nil, List.nil_append, and_self, reduceIte, Bool.false_eq_true, hn, h]
theorem plain (ns : List Int) (_ : ns.length ≤ 63) : ∃ st, F_law [.scr ns] [] = .ok (.bl true) st := by
  obtain ⟨M0, d0, g0⟩ := drawsN ns []
  rw [← f_draws] at d0
  replace d0 : callN F_law_draws [.scr ns] [] = .ok (.ref 0) [M0] := d0
  obtain ⟨ρ2, st2, fr, ⟨x2, x3, x4, x5, x6, x7, x8, x9, x10, x11, x12, x13, x14, x15, x16, x17, rfl⟩, M, rfl, g⟩ := (for_ends (b := bName 2) (body := b6_law) (it := fun k => .int (k : Int)) (fun _ => Inv (.scr ns)) 8 (fun k ρ st hk hI => by
      obtain ⟨⟨x2, x3, x4, x5, x6, x7, x8, x9, x10, x11, x12, x13, x14, x15, x16, x17, rfl⟩, M, rfl, g⟩ := hI
      exact ⟨_, rfl, turn_eq g (.scr ns) (some (.int (k : Int))) x3 x4 x5 x6 x7 x8 x9 x10 x11 x12 x13 x14 x15 x16 x17⟩)
    (ρ := [some (.scr ns), some (.ref 0), none, none, none, none, none, none, none, none, none, none, none, none, none, none, none, none]) (st := [M0]) ⟨⟨_, _, _, _, _, _, _, _, _, _, _, _, _, _, _, _, rfl⟩, M0, rfl, g0⟩).get
  rw [← rg0_vec] at fr
  have w1 : F_weighed_bits [.tup [.int 0, .int 1]] [] = .ok (.tup [.int 0, .int 1]) [] := weigh (a := 0) (b := 1) (r := 0) (by decide) (by decide) (by decide) (by decide +kernel)
  have w2 : F_weighed_bits [.tup [.int 1, .int 2]] [] = .ok (.tup [.int 1, .int 2]) [] := weigh (a := 1) (b := 2) (r := Rat.divInt 1 2) (by decide) (by decide) (by decide) (by decide +kernel)
  have w3 : F_weighed_bits [.tup [.int 1, .int 3]] [] = .ok (.tup [.int 8, .int 9]) [] := weigh (a := 1) (b := 3) (r := Rat.divInt 8 9) (by decide) (by decide) (by decide) (by decide +kernel)
  have w4 : F_weighed_bits [.tup [.int 2, .int 3]] [] = .ok (.tup [.int 10, .int 9]) [] := weigh (a := 2) (b := 3) (r := Rat.divInt 10 9) (by decide) (by decide) (by decide) (by decide +kernel)
  have w5 : F_weighed_bits [.tup [.int 1, .int 4]] [] = .ok (.tup [.int 1, .int 2]) [] := weigh (a := 1) (b := 4) (r := Rat.divInt 1 2) (by decide) (by decide) (by decide) (by decide +kernel)
  have lc : lcGo (bName 4) (eC (.bl true)) e7_law [some (.scr ns), some (.ref 0), x2, x3, none, x5, x6, x7, x8, x9, x10, x11, x12, x13, x14, x15, x16, x17] finL [.tup [.int 0, .int 1], .tup [.int 1, .int 2], .tup [.int 1, .int 3], .tup [.int 2, .int 3], .tup [.int 1, .int 4]] [M] []
      = .ok (.lst [.tup [.int 0, .int 1], .tup [.int 1, .int 2], .tup [.int 8, .int 9], .tup [.int 10, .int 9], .tup [.int 1, .int 2]]) [M] := by
    have st1 : ∀ (d r : D) (ds acc : List D), nr 12 d = true → nr 12 r = true → F_weighed_bits [d] [] = .ok r [] → lcGo (bName 4) (eC (.bl true)) e7_law [some (.scr ns), some (.ref 0), x2, x3, none, x5, x6, x7, x8, x9, x10, x11, x12, x13, x14, x15, x16, x17] finL (d :: ds) [M] acc
      = lcGo (bName 4) (eC (.bl true)) e7_law [some (.scr ns), some (.ref 0), x2, x3, none, x5, x6, x7, x8, x9, x10, x11, x12, x13, x14, x15, x16, x17] finL ds [M] (r :: acc) := by
      intro d r ds acc h1 h2 h3
      refine lc_true (ρ1 := [some (.scr ns), some (.ref 0), x2, x3, some d, x5, x6, x7, x8, x9, x10, x11, x12, x13, x14, x15, x16, x17]) rfl rfl ?_
      unfold e7_law
      simp -implicitDefEqProofs only [x_set, x_asg, x_call, x_callM, x_callN, x_cons, x_nil, x_V, x_C, x_1, x_2, x_N, x_tup, x_lst, x_lstM, x_lc, x_rg1, x_rg2, x_iseq, x_ifE, x_ifS, x_and, x_or, x_not, x_ret, x_retN, x_par, x_drop, x_nx, x_raise, x_seq, x_for, x_chain, x_met, x_callP, x_bname, x_bnil, x_bcons, x_btup, x_put, x_fnil, List.getElem?_cons_zero, List.getElem?_cons_succ, List.set_cons_succ, List.set_cons_zero, y_bn, y_bn', y_un, y_of, y_of2, y_nN, y_ac, y_ac', tp0, tp1, tp2, tp3, tp4, lp0, lp1, lp2, lp3, lp4, lp5, lp6, lp7, y_lpM0, y_ift, y_iff, y_not, y_cl, y_clM, y_clN, y_clP, y_clPx, y_st, y_rt, y_rtx, y_dr, y_drx, y_ifst, y_ifsf, y_pr, y_pr', y_asg, y_rg1, y_rg2, y_rg2', y_sql, y_sqt, y_fr, y_lc, y_thn, y_thr, y_thx, y_ch0, y_ch1, y_ch2t, y_ch2f, y_ch3, y_pt1, y_pt2, y_me2, z_add, z_sub, z_lt, z_le, z_gt, z_ge, z_eq, z_ne, z_neg, z_nri, z_nrb, z_nrn, z_nrt, z_nrl, z_lent, z_lenl, z_min, z_max, z_ixt, z_ixl, z_revt, z_revl, z_tupt, z_tupl, z_lstt, z_lstl, z_inti, z_isi_ii, z_isi_ib, z_isi_is, z_isi_it, z_isi_il, z_isi_tt, z_isi_tl, z_isi_ti, z_isi_tb, z_isi_lt, z_isi_ll, z_isi_bb, z_isi_bi, z_isi_bt, z_isi_bls, at_0, at_1, at_2, at_3, List.all_cons, List.all_nil, Bool.and_self, Bool.true_and, Bool.and_true, if_true, decide_true, decide_false, Bool.not_true, Bool.not_false, wipeD, finL, rgOk_0, rgOk_1, and_true, true_and, List.reverse_nil, List.nil_append, and_self, reduceIte, Bool.false_eq_true, h1, h2, h3]
    rw [st1 _ _ _ _ rfl rfl w1, st1 _ _ _ _ rfl rfl w2, st1 _ _ _ _ rfl rfl w3, st1 _ _ _ _ rfl rfl w4, st1 _ _ _ _ rfl rfl w5]
    rfl
  have ne1 : ∀ st, neD (.lst [.tup [.int 0, .int 1], .tup [.int 1, .int 2], .tup [.int 8, .int 9], .tup [.int 10, .int 9], .tup [.int 1, .int 2]]) (.lst [.tup [.int 0, .int 1], .tup [.int 1, .int 2], .tup [.int 8, .int 9], .tup [.int 10, .int 9], .tup [.int 1, .int 2]]) st = some (.bl false) := fun st => gd_ne (n := 2) (by decide) (by decide) st
  have c2 : NoCh (.tup [.int 3, .int 2]) := by
    have e : D.tup [.int 3, .int 2] = sh (Rat.divInt 3 2) := by rw [sh_def]; rfl
    rw [e]
    exact noCh_sh fun k => absurd k.2 (by decide +kernel)
  have c3 : NoCh (.tup [.int (-1), .int 2]) := by
    have e : D.tup [.int (-1), .int 2] = sh (Rat.divInt (-1) 2) := by rw [sh_def]; rfl
    rw [e]
    exact noCh_sh fun k => absurd k.1 (by decide +kernel)
  have c4 : NoCh (.tup [.int 2, .int 4]) := noCh_two (by decide)
  have b0 := fun y => bad_step (d := .tup [.int 1, .int 1]) rfl bits_one (some (.scr ns)) (some (.ref 0)) x2 x3 x4 x5 x6 x7 x8 x9 x10 x11 x12 x13 x14 x15 y [M]
  have b1 := fun y => bad_step (d := .tup [.int 3, .int 2]) rfl (bits_bad rfl (c2 [])) (some (.scr ns)) (some (.ref 0)) x2 x3 x4 x5 x6 x7 x8 x9 x10 x11 x12 x13 x14 x15 y [M]
  have b2 := fun y => bad_step (d := .tup [.int (-1), .int 2]) rfl (bits_bad rfl (c3 [])) (some (.scr ns)) (some (.ref 0)) x2 x3 x4 x5 x6 x7 x8 x9 x10 x11 x12 x13 x14 x15 y [M]
  have b3 := fun y => bad_step (d := .tup [.int 2, .int 4]) rfl (bits_bad rfl (c4 [])) (some (.scr ns)) (some (.ref 0)) x2 x3 x4 x5 x6 x7 x8 x9 x10 x11 x12 x13 x14 x15 y [M]
  have b4 := fun y => bad_step (d := .non) rfl (bits_bad rfl (noCh_non [])) (some (.scr ns)) (some (.ref 0)) x2 x3 x4 x5 x6 x7 x8 x9 x10 x11 x12 x13 x14 x15 y [M]
  have b5 := fun y => bad_step (d := .int 1) rfl (bits_bad rfl (noCh_int 1 [])) (some (.scr ns)) (some (.ref 0)) x2 x3 x4 x5 x6 x7 x8 x9 x10 x11 x12 x13 x14 x15 y [M]
  obtain ⟨m1, s1, hm1, hs1, F1⟩ := figs (a := 0) (b := 1) (by decide) (by decide) (by decide)
  obtain ⟨m2, s2, hm2, hs2, F2⟩ := figs (a := 1) (b := 2) (by decide) (by decide) (by decide)
  rw [show mOf 0 1 = 1 by decide +kernel] at hm1
  rw [show sOf 0 1 = 0 by decide +kernel] at hs1
  rw [show mOf 1 2 = 2 by decide +kernel] at hm2
  rw [show sOf 1 2 = 1 by decide +kernel] at hs2
  subst hm1 hs1 hm2 hs2
  obtain ⟨t1, be1⟩ := bits_eq (by decide) (by decide) (by decide) F1
  obtain ⟨t2, be2⟩ := bits_eq (by decide) (by decide) (by decide) F2
  have be1 : F_bits_of [.tup [.int 0, .int 1]] [] = .ok (.tup [.tup [], .tup [.int 0]]) t1 := be1
  have be2 : F_bits_of [.tup [.int 1, .int 2]] [] = .ok (.tup [.tup [.int 1], .tup [.int 0]]) t2 := be2
  have e1 : ∀ st, eqD (.tup [.tup [], .tup [.int 0]]) (.tup [.tup [], .tup [.int 0]]) st = some (.bl true) := fun st => gd_eq (n := 2) (by decide) (by decide) st
  have e2 : ∀ st, eqD (.tup [.tup [.int 1], .tup [.int 0]]) (.tup [.tup [.int 1], .tup [.int 0]]) st = some (.bl true) := fun st => gd_eq (n := 2) (by decide) (by decide) st
  refine ⟨[M], fn_rt rfl ?_⟩
  show g_law [some (.scr ns), none, none, none, none, none, none, none, none, none, none, none, none, none, none, none, none, none] [] = _
  unfold g_law
  refine seq_nx (ρ1 := [some (.scr ns), some (.ref 0), none, none, none, none, none, none, none, none, none, none, none, none, none, none, none, none]) (st1 := [M0]) (by simp -implicitDefEqProofs only [x_set, x_asg, x_call, x_callM, x_callN, x_cons, x_nil, x_V, x_C, x_1, x_2, x_N, x_tup, x_lst, x_lstM, x_lc, x_rg1, x_rg2, x_iseq, x_ifE, x_ifS, x_and, x_or, x_not, x_ret, x_retN, x_par, x_drop, x_nx, x_raise, x_seq, x_for, x_chain, x_met, x_callP, x_bname, x_bnil, x_bcons, x_btup, x_put, x_fnil, List.getElem?_cons_zero, List.getElem?_cons_succ, List.set_cons_succ, List.set_cons_zero, y_bn, y_bn', y_un, y_of, y_of2, y_nN, y_ac, y_ac', tp0, tp1, tp2, tp3, tp4, lp0, lp1, lp2, lp3, lp4, lp5, lp6, lp7, y_lpM0, y_ift, y_iff, y_not, y_cl, y_clM, y_clN, y_clP, y_clPx, y_st, y_rt, y_rtx, y_dr, y_drx, y_ifst, y_ifsf, y_pr, y_pr', y_asg, y_rg1, y_rg2, y_rg2', y_sql, y_sqt, y_fr, y_lc, y_thn, y_thr, y_thx, y_ch0, y_ch1, y_ch2t, y_ch2f, y_ch3, y_pt1, y_pt2, y_me2, z_add, z_sub, z_lt, z_le, z_gt, z_ge, z_eq, z_ne, z_neg, z_nri, z_nrb, z_nrn, z_nrt, z_nrl, z_lent, z_lenl, z_min, z_max, z_ixt, z_ixl, z_revt, z_revl, z_tupt, z_tupl, z_lstt, z_lstl, z_inti, z_isi_ii, z_isi_ib, z_isi_is, z_isi_it, z_isi_il, z_isi_tt, z_isi_tl, z_isi_ti, z_isi_tb, z_isi_lt, z_isi_ll, z_isi_bb, z_isi_bi, z_isi_bt, z_isi_bls, at_0, at_1, at_2, at_3, List.all_cons, List.all_nil, Bool.and_self, Bool.true_and, Bool.and_true, if_true, decide_true, decide_false, Bool.not_true, Bool.not_false, wipeD, finL, rgOk_0, rgOk_1, and_true, true_and, List.reverse_nil, List.nil_append, and_self, reduceIte, Bool.false_eq_true, d0]) ?_
  refine seq_nx (ρ1 := [some (.scr ns), some (.ref 0), x2, x3, x4, x5, x6, x7, x8, x9, x10, x11, x12, x13, x14, x15, x16, x17]) (st1 := [M]) (by simp -implicitDefEqProofs only [x_set, x_asg, x_call, x_callM, x_callN, x_cons, x_nil, x_V, x_C, x_1, x_2, x_N, x_tup, x_lst, x_lstM, x_lc, x_rg1, x_rg2, x_iseq, x_ifE, x_ifS, x_and, x_or, x_not, x_ret, x_retN, x_par, x_drop, x_nx, x_raise, x_seq, x_for, x_chain, x_met, x_callP, x_bname, x_bnil, x_bcons, x_btup, x_put, x_fnil, List.getElem?_cons_zero, List.getElem?_cons_succ, List.set_cons_succ, List.set_cons_zero, y_bn, y_bn', y_un, y_of, y_of2, y_nN, y_ac, y_ac', tp0, tp1, tp2, tp3, tp4, lp0, lp1, lp2, lp3, lp4, lp5, lp6, lp7, y_lpM0, y_ift, y_iff, y_not, y_cl, y_clM, y_clN, y_clP, y_clPx, y_st, y_rt, y_rtx, y_dr, y_drx, y_ifst, y_ifsf, y_pr, y_pr', y_asg, y_rg1, y_rg2, y_rg2', y_sql, y_sqt, y_fr, y_lc, y_thn, y_thr, y_thx, y_ch0, y_ch1, y_ch2t, y_ch2f, y_ch3, y_pt1, y_pt2, y_me2, z_add, z_sub, z_lt, z_le, z_gt, z_ge, z_eq, z_ne, z_neg, z_nri, z_nrb, z_nrn, z_nrt, z_nrl, z_lent, z_lenl, z_min, z_max, z_ixt, z_ixl, z_revt, z_revl, z_tupt, z_tupl, z_lstt, z_lstl, z_inti, z_isi_ii, z_isi_ib, z_isi_is, z_isi_it, z_isi_il, z_isi_tt, z_isi_tl, z_isi_ti, z_isi_tb, z_isi_lt, z_isi_ll, z_isi_bb, z_isi_bi, z_isi_bt, z_isi_bls, at_0, at_1, at_2, at_3, List.all_cons, List.all_nil, Bool.and_self, Bool.true_and, Bool.and_true, if_true, decide_true, decide_false, Bool.not_true, Bool.not_false, wipeD, finL, rgOk_0, rgOk_1, and_true, true_and, List.reverse_nil, List.nil_append, and_self, reduceIte, Bool.false_eq_true, rgOk_of (show -1000000 ≤ (8 : Int) by decide) (show (8 : Int) ≤ 1000000 by decide), show Int.toNat 8 = 8 from rfl, fr]) ?_
  refine seq_nx (ρ1 := [some (.scr ns), some (.ref 0), x2, x3, x4, x5, x6, x7, x8, x9, x10, x11, x12, x13, x14, x15, x16, x17]) (st1 := [M]) (by simp -implicitDefEqProofs only [x_set, x_asg, x_call, x_callM, x_callN, x_cons, x_nil, x_V, x_C, x_1, x_2, x_N, x_tup, x_lst, x_lstM, x_lc, x_rg1, x_rg2, x_iseq, x_ifE, x_ifS, x_and, x_or, x_not, x_ret, x_retN, x_par, x_drop, x_nx, x_raise, x_seq, x_for, x_chain, x_met, x_callP, x_bname, x_bnil, x_bcons, x_btup, x_put, x_fnil, List.getElem?_cons_zero, List.getElem?_cons_succ, List.set_cons_succ, List.set_cons_zero, y_bn, y_bn', y_un, y_of, y_of2, y_nN, y_ac, y_ac', tp0, tp1, tp2, tp3, tp4, lp0, lp1, lp2, lp3, lp4, lp5, lp6, lp7, y_lpM0, y_ift, y_iff, y_not, y_cl, y_clM, y_clN, y_clP, y_clPx, y_st, y_rt, y_rtx, y_dr, y_drx, y_ifst, y_ifsf, y_pr, y_pr', y_asg, y_rg1, y_rg2, y_rg2', y_sql, y_sqt, y_fr, y_lc, y_thn, y_thr, y_thx, y_ch0, y_ch1, y_ch2t, y_ch2f, y_ch3, y_pt1, y_pt2, y_me2, z_add, z_sub, z_lt, z_le, z_gt, z_ge, z_eq, z_ne, z_neg, z_nri, z_nrb, z_nrn, z_nrt, z_nrl, z_lent, z_lenl, z_min, z_max, z_ixt, z_ixl, z_revt, z_revl, z_tupt, z_tupl, z_lstt, z_lstl, z_inti, z_isi_ii, z_isi_ib, z_isi_is, z_isi_it, z_isi_il, z_isi_tt, z_isi_tl, z_isi_ti, z_isi_tb, z_isi_lt, z_isi_ll, z_isi_bb, z_isi_bi, z_isi_bt, z_isi_bls, at_0, at_1, at_2, at_3, List.all_cons, List.all_nil, Bool.and_self, Bool.true_and, Bool.and_true, if_true, decide_true, decide_false, Bool.not_true, Bool.not_false, wipeD, finL, rgOk_0, rgOk_1, and_true, true_and, List.reverse_nil, List.nil_append, and_self, reduceIte, Bool.false_eq_true, tp5, List.length_cons, List.length_nil, lenOk_of (show 0 + 1 + 1 + 1 + 1 + 1 ≤ 1000000 by omega), lc, ne1]) ?_
  refine seq_nx (ρ1 := [some (.scr ns), some (.ref 0), x2, x3, x4, x5, x6, x7, x8, x9, x10, x11, x12, x13, x14, x15, some (.int 1), none]) (st1 := [M]) (by
    simp -implicitDefEqProofs only [x_set, x_asg, x_call, x_callM, x_callN, x_cons, x_nil, x_V, x_C, x_1, x_2, x_N, x_tup, x_lst, x_lstM, x_lc, x_rg1, x_rg2, x_iseq, x_ifE, x_ifS, x_and, x_or, x_not, x_ret, x_retN, x_par, x_drop, x_nx, x_raise, x_seq, x_for, x_chain, x_met, x_callP, x_bname, x_bnil, x_bcons, x_btup, x_put, x_fnil, List.getElem?_cons_zero, List.getElem?_cons_succ, List.set_cons_succ, List.set_cons_zero, y_bn, y_bn', y_un, y_of, y_of2, y_nN, y_ac, y_ac', tp0, tp1, tp2, tp3, tp4, lp0, lp1, lp2, lp3, lp4, lp5, lp6, lp7, y_lpM0, y_ift, y_iff, y_not, y_cl, y_clM, y_clN, y_clP, y_clPx, y_st, y_rt, y_rtx, y_dr, y_drx, y_ifst, y_ifsf, y_pr, y_pr', y_asg, y_rg1, y_rg2, y_rg2', y_sql, y_sqt, y_fr, y_lc, y_thn, y_thr, y_thx, y_ch0, y_ch1, y_ch2t, y_ch2f, y_ch3, y_pt1, y_pt2, y_me2, z_add, z_sub, z_lt, z_le, z_gt, z_ge, z_eq, z_ne, z_neg, z_nri, z_nrb, z_nrn, z_nrt, z_nrl, z_lent, z_lenl, z_min, z_max, z_ixt, z_ixl, z_revt, z_revl, z_tupt, z_tupl, z_lstt, z_lstl, z_inti, z_isi_ii, z_isi_ib, z_isi_is, z_isi_it, z_isi_il, z_isi_tt, z_isi_tl, z_isi_ti, z_isi_tb, z_isi_lt, z_isi_ll, z_isi_bb, z_isi_bi, z_isi_bt, z_isi_bls, at_0, at_1, at_2, at_3, List.all_cons, List.all_nil, Bool.and_self, Bool.true_and, Bool.and_true, if_true, decide_true, decide_false, Bool.not_true, Bool.not_false, wipeD, finL, rgOk_0, rgOk_1, and_true, true_and, List.reverse_nil, List.nil_append, and_self, reduceIte, Bool.false_eq_true]
    rw [forGo_cons rfl (b0 _), forGo_cons rfl (b1 _), forGo_cons rfl (b2 _), forGo_cons rfl (b3 _), forGo_cons rfl (b4 _), forGo_cons rfl (b5 _)]
    rfl) ?_
  simp -implicitDefEqProofs only [x_set, x_asg, x_call, x_callM, x_callN, x_cons, x_nil, x_V, x_C, x_1, x_2, x_N, x_tup, x_lst, x_lstM, x_lc, x_rg1, x_rg2, x_iseq, x_ifE, x_ifS, x_and, x_or, x_not, x_ret, x_retN, x_par, x_drop, x_nx, x_raise, x_seq, x_for, x_chain, x_met, x_callP, x_bname, x_bnil, x_bcons, x_btup, x_put, x_fnil, List.getElem?_cons_zero, List.getElem?_cons_succ, List.set_cons_succ, List.set_cons_zero, y_bn, y_bn', y_un, y_of, y_of2, y_nN, y_ac, y_ac', tp0, tp1, tp2, tp3, tp4, lp0, lp1, lp2, lp3, lp4, lp5, lp6, lp7, y_lpM0, y_ift, y_iff, y_not, y_cl, y_clM, y_clN, y_clP, y_clPx, y_st, y_rt, y_rtx, y_dr, y_drx, y_ifst, y_ifsf, y_pr, y_pr', y_asg, y_rg1, y_rg2, y_rg2', y_sql, y_sqt, y_fr, y_lc, y_thn, y_thr, y_thx, y_ch0, y_ch1, y_ch2t, y_ch2f, y_ch3, y_pt1, y_pt2, y_me2, z_add, z_sub, z_lt, z_le, z_gt, z_ge, z_eq, z_ne, z_neg, z_nri, z_nrb, z_nrn, z_nrt, z_nrl, z_lent, z_lenl, z_min, z_max, z_ixt, z_ixl, z_revt, z_revl, z_tupt, z_tupl, z_lstt, z_lstl, z_inti, z_isi_ii, z_isi_ib, z_isi_is, z_isi_it, z_isi_il, z_isi_tt, z_isi_tl, z_isi_ti, z_isi_tb, z_isi_lt, z_isi_ll, z_isi_bb, z_isi_bi, z_isi_bt, z_isi_bls, at_0, at_1, at_2, at_3, List.all_cons, List.all_nil, Bool.and_self, Bool.true_and, Bool.and_true, if_true, decide_true, decide_false, Bool.not_true, Bool.not_false, wipeD, finL, rgOk_0, rgOk_1, and_true, true_and, List.reverse_nil, List.nil_append, and_self, reduceIte, Bool.false_eq_true, be1, be2, e1, e2]
end K57
open PySem PySem.W PyProof.Rows
set_option maxRecDepth 100000 in
set_option maxHeartbeats 0 in
theorem PySem.Challenge.cw_throwstold_k57_whole_figures_of_chances_holds : PySem.Challenge.rw_throwstold_k57_whole_figures_of_chances.Holds := by
  w_on; o_law; k_head; (case hw => w_witness2)
  k_fill
  refine L4.law_walk (l := PySem.Challenge.rw_throwstold_k57_whole_figures_of_chances) (k := 10) rfl rfl ⟨rfl, by decide, by decide⟩ (fun w h Y => PySem.W.kIn_of Y) ?F
  case F =>
    intro w mg fa h KX G hmg
    refine' K57.end_mk (l := PySem.Challenge.rw_throwstold_k57_whole_figures_of_chances) KX G hmg K57.plain ?z_ValueError ?z_abs ?z_bool ?z_enumerate ?z_int ?z_isinstance ?z_len ?z_list ?z_range ?z_str ?z_tuple ?c_MOST_ROWS ?xa_BadPlan ?xx_BadPlan ?xk_BadPlan ?xb_BadPlan ?xt_BadPlan ?xa_BadShare ?xx_BadShare ?xk_BadShare ?xb_BadShare ?xt_BadShare ?ee_n ?ee_t ?ehd_BadPlan ?ehg_BadPlan ?ehk_BadPlan ?eha_BadPlan ?ehm_BadPlan ?es_BadPlan_BadPlan ?es_BadShare_BadPlan ?es_BadPlan_ValueError ?a_law_bit ?l_law_bit ?cc_law_bit ?k_law_bit ?a_law_draw ?l_law_draw ?cc_law_draw ?k_law_draw ?a_law_draws ?l_law_draws ?cc_law_draws ?k_law_draws ?a_law_low ?l_law_low ?cc_law_low ?k_law_low ?a_law_plus ?l_law_plus ?cc_law_plus ?k_law_plus ?a_law_same ?l_law_same ?cc_law_same ?k_law_same ?a_bit ?l_bit ?cc_bit ?k_bit ?a_divisor ?l_divisor ?cc_divisor ?k_divisor ?a_is_whole ?l_is_whole ?cc_is_whole ?k_is_whole ?a_is_share ?l_is_share ?cc_is_share ?k_is_share ?a_is_chance ?l_is_chance ?cc_is_chance ?k_is_chance ?a_bits_of ?l_bits_of ?cc_bits_of ?k_bits_of ?a_low ?l_low ?cc_low ?k_low ?a_less ?l_less ?cc_less ?k_less ?a_over ?l_over ?cc_over ?k_over ?a_plus ?l_plus ?cc_plus ?k_plus ?a_times ?l_times ?cc_times ?k_times ?a_weighed_bits ?l_weighed_bits ?cc_weighed_bits ?k_weighed_bits ?a_law ?l_law ?cc_law ?k_law
    (case z_ValueError => k_is); (case z_abs => k_is); (case z_bool => k_is); (case z_enumerate => k_is); (case z_int => k_is); (case z_isinstance => k_is)
    (case z_len => k_is); (case z_list => k_is); (case z_range => k_is); (case z_str => k_is); (case z_tuple => k_is); (case c_MOST_ROWS => k_is)
    (case xa_BadPlan => k_is); (case xx_BadPlan => k_exc); (case xk_BadPlan => k_is); (case xb_BadPlan => k_is); (case xt_BadPlan => k_is); (case xa_BadShare => k_is)
    (case xx_BadShare => k_exc); (case xk_BadShare => k_is); (case xb_BadShare => k_is); (case xt_BadShare => k_is); (case ee_n => k_is); (case ee_t => k_is)
    (case ehd_BadPlan => k_is); (case ehg_BadPlan => k_is); (case ehk_BadPlan => k_is); (case eha_BadPlan => k_is); (case ehm_BadPlan => k_is); (case es_BadPlan_BadPlan => k_is)
    (case es_BadShare_BadPlan => k_is); (case es_BadPlan_ValueError => k_is); (case a_law_bit => k_is); (case l_law_bit => k_is); (case cc_law_bit => k_is); (case k_law_bit => k_is)
    (case a_law_draw => k_is); (case l_law_draw => k_is); (case cc_law_draw => k_is); (case k_law_draw => k_is); (case a_law_draws => k_is); (case l_law_draws => k_is)
    (case cc_law_draws => k_is); (case k_law_draws => k_is); (case a_law_low => k_is); (case l_law_low => k_is); (case cc_law_low => k_is); (case k_law_low => k_is)
    (case a_law_plus => k_is); (case l_law_plus => k_is); (case cc_law_plus => k_is); (case k_law_plus => k_is); (case a_law_same => k_is); (case l_law_same => k_is)
    (case cc_law_same => k_is); (case k_law_same => k_is); (case a_bit => k_is); (case l_bit => k_is); (case cc_bit => k_is); (case k_bit => k_is)
    (case a_divisor => k_is); (case l_divisor => k_is); (case cc_divisor => k_is); (case k_divisor => k_is); (case a_is_whole => k_is); (case l_is_whole => k_is)
    (case cc_is_whole => k_is); (case k_is_whole => k_is); (case a_is_share => k_is); (case l_is_share => k_is); (case cc_is_share => k_is); (case k_is_share => k_is)
    (case a_is_chance => k_is); (case l_is_chance => k_is); (case cc_is_chance => k_is); (case k_is_chance => k_is); (case a_bits_of => k_is); (case l_bits_of => k_is)
    (case cc_bits_of => k_is); (case k_bits_of => k_is); (case a_low => k_is); (case l_low => k_is); (case cc_low => k_is); (case k_low => k_is)
    (case a_less => k_is); (case l_less => k_is); (case cc_less => k_is); (case k_less => k_is); (case a_over => k_is); (case l_over => k_is)
    (case cc_over => k_is); (case k_over => k_is); (case a_plus => k_is); (case l_plus => k_is); (case cc_plus => k_is); (case k_plus => k_is)
    (case a_times => k_is); (case l_times => k_is); (case cc_times => k_is); (case k_times => k_is); (case a_weighed_bits => k_is); (case l_weighed_bits => k_is)
    (case cc_weighed_bits => k_is); (case k_weighed_bits => k_is); (case a_law => k_is); (case l_law => k_is); (case cc_law => k_is); (case k_law => k_is)
#print axioms PySem.Challenge.cw_throwstold_k57_whole_figures_of_chances_holds
