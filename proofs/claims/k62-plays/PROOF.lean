import PyProof.Rows.All
import Wide.All
import OpenK.AllK
import Wide.FinOn
import HandS.ForMost
import HandS.ForExc
import HandS.CallSlots
import HandS.IsInst
import HandS.TupAny
import HandS.Deep
import HandS.Wide
import HandS.Star
import HandS.SortInts
import HandS.NoneIn
import HandS.More
import HandS.RaiseMore
import KE.KSortedM
import HandS.Style
import KE.KIntText
import PySem.Challenge.RW_carriedkeys_k62_plays_as_text
set_option Elab.async false
set_option linter.all false
set_option maxRecDepth 100000
set_option maxHeartbeats 2000000
/-! Dn1: plain data, its cells, how they stand in the abstract heap; what a piece of text denotes on them. -/
namespace Dn
open PySem PySem.Spec PyProof.Rows L2

/-- a value by value; .cel n: the n-th cell (a thing that may change) -/
inductive D where
  | non | bl (b : Bool) | int (i : Int) | str (x : Str) | tup (ds : List D) | lst (ds : List D)
  | scr (ds : List D)
  | dct (kvs : List (Key × D)) | dcT (kvs : List (List Key × D)) | cel (n : Nat)
instance : Inhabited D := ⟨.non⟩
/-- a thing that may change; lk: a loop walks it -/
inductive Cell where
  | lst (ds : List D) | dct (kvs : List (Key × D)) (lk : Bool) | dcT (kvs : List (List Key × D)) (lk : Bool)
  | ins (c : Str) (fs : List (Str × D)) | dead
instance : Inhabited Cell := ⟨.dead⟩

/-! ### how data stand -/
section
variable (K : PySem.W.Frag) (G : Hp) (m : List Addr)
mutual
inductive Rep : V → D → Prop
  | non : Rep .non .non
  | bl (b : Bool) : Rep (.bl b) (.bl b)
  | int (i : Int) : Rep (.int i) (.int i)
  | str (x : Str) : Rep (.str x) (.str x)
  | tup {a : Addr} {xs : List V} {ds : List D} : SqT K G a xs → RepL xs ds → Rep (.ref a) (.tup ds)
  | lst {a : Addr} {xs : List V} {ds : List D} : G a = some (.lst xs) → RepL xs ds → Rep (.ref a) (.lst ds)
  | scr {a : Addr} {xs : List V} {ds : List D} : SqL K G a xs → RepL xs ds → Rep (.ref a) (.scr ds)
  | dct {a : Addr} {od : Obj} {kv : List (Key × V)} {kd : List (Key × D)} : G a = some (.frz od (.dK kv)) → RepK kv kd → Rep (.ref a) (.dct kd)
  | dcT {a : Addr} {od : Obj} {kv : List (List Key × V)} {kd : List (List Key × D)} : G a = some (.frz od (.dT kv)) → RepT kv kd → Rep (.ref a) (.dcT kd)
  | cel {n : Nat} {a : Addr} : m[n]? = some a → Rep (.ref a) (.cel n)
inductive RepL : List V → List D → Prop
  | nil : RepL [] []
  | cons {v : V} {vs : List V} {d : D} {ds : List D} : Rep v d → RepL vs ds → RepL (v :: vs) (d :: ds)
inductive RepK : List (Key × V) → List (Key × D) → Prop
  | nil : RepK [] []
  | cons {k : Key} {v : V} {vs : List (Key × V)} {d : D} {ds : List (Key × D)} : Rep v d → RepK vs ds → RepK ((k, v) :: vs) ((k, d) :: ds)
inductive RepT : List (List Key × V) → List (List Key × D) → Prop
  | nil : RepT [] []
  | cons {k : List Key} {v : V} {vs : List (List Key × V)} {d : D} {ds : List (List Key × D)} : Rep v d → RepT vs ds → RepT ((k, v) :: vs) ((k, d) :: ds)
end
/-- an instance's attributes -/
def RepF (vs : List (Str × V)) (ds : List (Str × D)) : Prop := ∀ f d, ds.lookup f = some d → ∃ v, vs.lookup f = some v ∧ Rep K G m v d
end
section
variable {K : PySem.W.Frag} {G G' : Hp} {m m' : List Addr}
theorem SqL.up {a : Addr} {xs : List V} (g : ∀ a o, G a = some o → G' a = some o) (h : SqL K G a xs) : SqL K G' a xs := Same.seq g h
theorem SqT.up {a : Addr} {xs : List V} (g : ∀ a o, G a = some o → G' a = some o) (h : SqT K G a xs) : SqT K G' a xs := by
  rcases h with (h | ⟨o, h⟩) | h
  · exact .inl (.inl (g _ _ h))
  · exact .inl (.inr ⟨o, g _ _ h⟩)
  · exact .inr h
mutual
theorem Rep.up (g : ∀ a o, G a = some o → G' a = some o) (p : ∀ (n : Nat) (a : Addr), m[n]? = some a → m'[n]? = some a) : ∀ {v : V} {d : D}, Rep K G m v d → Rep K G' m' v d
  | _, _, .non => .non
  | _, _, .bl b => .bl b
  | _, _, .int i => .int i
  | _, _, .str x => .str x
  | _, _, .tup h r => .tup (SqT.up g h) (RepL.up g p r)
  | _, _, .lst h r => .lst (g _ _ h) (RepL.up g p r)
  | _, _, .scr h r => .scr (SqL.up g h) (RepL.up g p r)
  | _, _, .dct h r => .dct (g _ _ h) (RepK.up g p r)
  | _, _, .dcT h r => .dcT (g _ _ h) (RepT.up g p r)
  | _, _, .cel h => .cel (p _ _ h)
theorem RepL.up (g : ∀ a o, G a = some o → G' a = some o) (p : ∀ (n : Nat) (a : Addr), m[n]? = some a → m'[n]? = some a) : ∀ {v : List V} {d : List D}, RepL K G m v d → RepL K G' m' v d
  | _, _, .nil => .nil
  | _, _, .cons h r => .cons (Rep.up g p h) (RepL.up g p r)
theorem RepK.up (g : ∀ a o, G a = some o → G' a = some o) (p : ∀ (n : Nat) (a : Addr), m[n]? = some a → m'[n]? = some a) : ∀ {v : List (Key × V)} {d : List (Key × D)}, RepK K G m v d → RepK K G' m' v d
  | _, _, .nil => .nil
  | _, _, .cons h r => .cons (Rep.up g p h) (RepK.up g p r)
theorem RepT.up (g : ∀ a o, G a = some o → G' a = some o) (p : ∀ (n : Nat) (a : Addr), m[n]? = some a → m'[n]? = some a) : ∀ {v : List (List Key × V)} {d : List (List Key × D)}, RepT K G m v d → RepT K G' m' v d
  | _, _, .nil => .nil
  | _, _, .cons h r => .cons (Rep.up g p h) (RepT.up g p r)
end
theorem RepL.iff {vs : List V} {ds : List D} : RepL K G m vs ds ↔ vs.length = ds.length ∧ ∀ (i : Nat) v d, vs[i]? = some v → ds[i]? = some d → Rep K G m v d := by
  constructor
  · intro h
    induction vs generalizing ds with
    | nil => cases h; exact ⟨rfl, fun i v d e => by simp at e⟩
    | cons v vs ih =>
      cases h with
      | cons r rs =>
        obtain ⟨h1, h2⟩ := ih rs
        refine ⟨by simp [h1], fun i w d e1 e2 => ?_⟩
        cases i with
        | zero => simp at e1 e2; subst e1; subst e2; exact r
        | succ i => exact h2 i w d (by simpa using e1) (by simpa using e2)
  · rintro ⟨h1, h2⟩
    induction vs generalizing ds with
    | nil =>
      cases ds with
      | nil => exact .nil
      | cons d ds => simp at h1
    | cons v vs ih =>
      cases ds with
      | nil => simp at h1
      | cons d ds => exact .cons (h2 0 v d rfl rfl) (ih (by simpa using h1) fun i w e a b => h2 (i + 1) w e (by simpa using a) (by simpa using b))
theorem RepL.length {vs : List V} {ds : List D} (h : RepL K G m vs ds) : vs.length = ds.length := (RepL.iff.mp h).1
theorem RepL.get {vs : List V} {ds : List D} {i : Nat} {d : D} (h : RepL K G m vs ds) (e : ds[i]? = some d) : ∃ v, vs[i]? = some v ∧ Rep K G m v d := by
  obtain ⟨h1, h2⟩ := RepL.iff.mp h
  have hi : i < vs.length := by rw [h1]; exact (List.getElem?_eq_some_iff.mp e).1
  exact ⟨vs[i], List.getElem?_eq_getElem hi, h2 i _ d (List.getElem?_eq_getElem hi) e⟩
theorem RepL.get' {vs : List V} {ds : List D} {i : Nat} {v : V} (h : RepL K G m vs ds) (e : vs[i]? = some v) : ∃ d, ds[i]? = some d ∧ Rep K G m v d := by
  obtain ⟨h1, h2⟩ := RepL.iff.mp h
  have hi : i < ds.length := by rw [← h1]; exact (List.getElem?_eq_some_iff.mp e).1
  exact ⟨ds[i], List.getElem?_eq_getElem hi, h2 i v _ e (List.getElem?_eq_getElem hi)⟩
theorem RepL.append : ∀ {vs ws : List V} {ds es : List D}, RepL K G m vs ds → RepL K G m ws es → RepL K G m (vs ++ ws) (ds ++ es)
  | _, _, _, _, .nil, h => h
  | _, _, _, _, .cons r rs, h => .cons r (RepL.append rs h)
theorem RepL.one {v : V} {d : D} (h : Rep K G m v d) : RepL K G m [v] [d] := .cons h .nil
theorem RepL.take : ∀ {vs : List V} {ds : List D} (n : Nat), RepL K G m vs ds → RepL K G m (vs.take n) (ds.take n)
  | _, _, 0, _ => .nil
  | _, _, _ + 1, .nil => .nil
  | _, _, n + 1, .cons r rs => .cons r (RepL.take n rs)
theorem RepL.drop : ∀ {vs : List V} {ds : List D} (n : Nat), RepL K G m vs ds → RepL K G m (vs.drop n) (ds.drop n)
  | _, _, 0, h => h
  | _, _, _ + 1, .nil => .nil
  | _, _, n + 1, .cons _ rs => RepL.drop n rs
theorem RepL.set {v : V} {d : D} (r : Rep K G m v d) : ∀ {vs : List V} {ds : List D} (n : Nat), RepL K G m vs ds → RepL K G m (vs.set n v) (ds.set n d)
  | _, _, _, .nil => .nil
  | _, _, 0, .cons _ rs => .cons r rs
  | _, _, n + 1, .cons q rs => .cons q (RepL.set r n rs)
theorem RepL.reverse : ∀ {vs : List V} {ds : List D}, RepL K G m vs ds → RepL K G m vs.reverse ds.reverse
  | _, _, .nil => .nil
  | _, _, .cons r rs => by
    rw [List.reverse_cons, List.reverse_cons]
    exact RepL.append (RepL.reverse rs) (.one r)
theorem RepL.dropLast {vs : List V} {ds : List D} (h : RepL K G m vs ds) : RepL K G m vs.dropLast ds.dropLast := by
  rw [List.dropLast_eq_take, List.dropLast_eq_take, h.length]
  exact h.take _
theorem RepL.nil_iff {vs : List V} {ds : List D} (h : RepL K G m vs ds) : vs = [] ↔ ds = [] := by
  cases h <;> simp
theorem RepK.length : ∀ {vs : List (Key × V)} {ds : List (Key × D)}, RepK K G m vs ds → vs.length = ds.length
  | _, _, .nil => rfl
  | _, _, .cons _ r => by rw [List.length_cons, List.length_cons, RepK.length r]
theorem RepT.length : ∀ {vs : List (List Key × V)} {ds : List (List Key × D)}, RepT K G m vs ds → vs.length = ds.length
  | _, _, .nil => rfl
  | _, _, .cons _ r => by rw [List.length_cons, List.length_cons, RepT.length r]
end

/-! ### the state -/
section
variable (K : PySem.W.Frag) (mg : Str → Option Value)
/-- what stands at a cell's address -/
def CelR (G : Hp) (m : List Addr) (H : Hp) (a : Addr) : Cell → Prop
  | .lst ds => ∃ vs, H a = some (.lst vs) ∧ RepL K G m vs ds
  | .dct kd lk => ∃ kv, RepK K G m kv kd ∧ if lk = true then ∃ od, H a = some (.frz od (.dK kv)) else H a = some (.dK kv)
  | .dcT kd lk => ∃ kv, RepT K G m kv kd ∧ if lk = true then ∃ od, H a = some (.frz od (.dT kv)) else H a = some (.dT kv)
  | .ins c fs => ∃ C dx fv, mg c = some (.ref C) ∧ H a = some (.ins C dx fv) ∧ fv.map (·.1) = fs.map (·.1) ∧ RepF K G m fv fs
  | .dead => True
structure Sim (G : Hp) (m : List Addr) (w : List Cell) (H : Hp) : Prop where
  sub : ∀ a o, G a = some o → H a = some o
  len : m.length = w.length
  nd : m.Nodup
  sep : ∀ (n : Nat) a c, m[n]? = some a → w[n]? = some c → c ≠ .dead → G a = none
  here : ∀ a ∈ m, H a ≠ none
  cel : ∀ (n : Nat) a c, m[n]? = some a → w[n]? = some c → CelR K mg G m H a c
end
structure Ext (G : Hp) (m : List Addr) (H : Hp) (G' : Hp) (m' : List Addr) (H' : Hp) : Prop where
  g : ∀ a o, G a = some o → G' a = some o
  mm : ∃ more, m' = m ++ more
  fr : ∀ b o, H b = some o → b ∉ m → H' b = some o
  nm : ∀ a ∈ m', a ∉ m → H a = none
  ng : ∀ a o, G' a = some o → G a = some o ∨ H a = none ∨ a ∈ m
  fz : ∀ b o u, H b = some (.frz o u) → H' b = some (.frz o u)
section
variable {K : PySem.W.Frag} {mg : Str → Option Value} {G G1 G2 H H1 H2 : Hp} {m m1 m2 : List Addr} {w w1 : List Cell}
theorem Ext.refl : Ext G m H G m H := ⟨fun _ _ h => h, ⟨[], by simp⟩, fun _ _ h _ => h, fun a h n => absurd h n, fun _ _ h => .inl h, fun _ _ _ h => h⟩
theorem Ext.ix (e : Ext G m H G1 m1 H1) : ∀ (n : Nat) (a : Addr), m[n]? = some a → m1[n]? = some a := fun n a h => by
  obtain ⟨more, rfl⟩ := e.mm
  rw [List.getElem?_append_left (List.getElem?_eq_some_iff.mp h).1]
  exact h
theorem Ext.mem (e : Ext G m H G1 m1 H1) {a : Addr} (h : a ∈ m) : a ∈ m1 := by
  obtain ⟨more, rfl⟩ := e.mm
  exact List.mem_append_left _ h
theorem Ext.trans (e : Ext G m H G1 m1 H1) (f : Ext G1 m1 H1 G2 m2 H2) : Ext G m H G2 m2 H2 := by
  refine ⟨fun a o h => f.g _ _ (e.g _ _ h), ?_, fun b o h n => ?_, fun a h n => ?_, fun a o h => ?_, fun b o u h => f.fz b o u (e.fz b o u h)⟩
  · obtain ⟨x, rfl⟩ := e.mm
    obtain ⟨y, rfl⟩ := f.mm
    exact ⟨x ++ y, by rw [List.append_assoc]⟩
  · refine f.fr b o (e.fr b o h n) fun z => ?_
    rw [e.nm b z n] at h; cases h
  · by_cases z : a ∈ m1
    · exact e.nm a z n
    · have q := f.nm a h z
      cases hh : H a with
      | none => rfl
      | some o => rw [e.fr a o hh n] at q; cases q
  · rcases f.ng a o h with q | q | q
    · exact e.ng a o q
    · by_cases n : a ∈ m
      · exact .inr (.inr n)
      · refine .inr (.inl ?_)
        cases hh : H a with
        | none => rfl
        | some o => rw [e.fr a o hh n] at q; cases q
    · by_cases n : a ∈ m
      · exact .inr (.inr n)
      · exact .inr (.inl (e.nm a q n))
theorem Rep.ext {v : V} {d : D} (r : Rep K G m v d) (e : Ext G m H G1 m1 H1) : Rep K G1 m1 v d := Rep.up e.g e.ix r
theorem RepL.ext {v : List V} {d : List D} (r : RepL K G m v d) (e : Ext G m H G1 m1 H1) : RepL K G1 m1 v d := RepL.up e.g e.ix r
theorem RepK.ext {v : List (Key × V)} {d : List (Key × D)} (r : RepK K G m v d) (e : Ext G m H G1 m1 H1) : RepK K G1 m1 v d := RepK.up e.g e.ix r
theorem RepT.ext {v : List (List Key × V)} {d : List (List Key × D)} (r : RepT K G m v d) (e : Ext G m H G1 m1 H1) : RepT K G1 m1 v d := RepT.up e.g e.ix r
theorem RepF.ext {v : List (Str × V)} {d : List (Str × D)} (r : RepF K G m v d) (e : Ext G m H G1 m1 H1) : RepF K G1 m1 v d := fun f d h =>
  let ⟨v, h1, h2⟩ := r f d h
  ⟨v, h1, h2.ext e⟩
/-- a cell whose thing stands as it stood -/
theorem CelR.ext {a : Addr} {c : Cell} (h : CelR K mg G m H a c) (e : Ext G m H G1 m1 H1) (k : ∀ o, H a = some o → H2 a = some o) : CelR K mg G1 m1 H2 a c := by
  cases c with
  | lst ds => obtain ⟨vs, h1, h2⟩ := h; exact ⟨vs, k _ h1, h2.ext e⟩
  | dct kd lk =>
    obtain ⟨kv, h1, h2⟩ := h
    refine ⟨kv, h1.ext e, ?_⟩
    split
    · rename_i q; rw [if_pos q] at h2; obtain ⟨od, h2⟩ := h2; exact ⟨od, k _ h2⟩
    · rename_i q; rw [if_neg q] at h2; exact k _ h2
  | dcT kd lk =>
    obtain ⟨kv, h1, h2⟩ := h
    refine ⟨kv, h1.ext e, ?_⟩
    split
    · rename_i q; rw [if_pos q] at h2; obtain ⟨od, h2⟩ := h2; exact ⟨od, k _ h2⟩
    · rename_i q; rw [if_neg q] at h2; exact k _ h2
  | ins c fs => obtain ⟨C, dx, fv, h1, h2, h3, h4⟩ := h; exact ⟨C, dx, fv, h1, k _ h2, h3, h4.ext e⟩
  | dead => trivial
theorem Sim.addr (S : Sim K mg G m w H) {n : Nat} {c : Cell} (h : w[n]? = some c) : ∃ a, m[n]? = some a := by
  have hi : n < m.length := by rw [S.len]; exact (List.getElem?_eq_some_iff.mp h).1
  exact ⟨m[n], List.getElem?_eq_getElem hi⟩
theorem Sim.fresh (S : Sim K mg G m w H) {p : Addr} (hp : H p = none) : p ∉ m := fun z => S.here p z hp
theorem Sim.freshG (S : Sim K mg G m w H) {p : Addr} (hp : H p = none) : G p = none := by
  cases q : G p with
  | none => rfl
  | some o => rw [S.sub p o q] at hp; cases hp
theorem ext_newF (S : Sim K mg G m w H) {p : Addr} (hp : H p = none) (o : HO) : Ext G m H (upd G p o) m (upd H p o) := by
  refine ⟨fun a u h => ?_, ⟨[], by simp⟩, fun b u h n => ?_, fun a h n => absurd h n, fun a u h => ?_, fun b u z h => by rw [upd_ne (ne_of_none h hp)]; exact h⟩
  · rw [upd_ne (ne_of_none h (S.freshG hp))]; exact h
  · rw [upd_ne (ne_of_none h hp)]; exact h
  · by_cases z : a = p
    · subst z; exact .inr (.inl hp)
    · rw [upd_ne z] at h; exact .inl h
/-- a new thing that will never change -/
theorem Sim.newF (S : Sim K mg G m w H) {p : Addr} (hp : H p = none) (o : HO) : Sim K mg (upd G p o) m w (upd H p o) := by
  have e := ext_newF S hp o
  refine ⟨fun a u h => ?_, S.len, S.nd, fun n a c h1 h2 h3 => ?_, fun a h => ?_, fun n a c h1 h2 => ?_⟩
  · by_cases z : a = p
    · subst z; rw [upd_same] at h ⊢; exact h
    · rw [upd_ne z] at h ⊢; exact S.sub a u h
  · have z : a ≠ p := fun q => S.fresh hp (q ▸ List.mem_of_getElem? h1)
    rw [upd_ne z]; exact S.sep n a c h1 h2 h3
  · have z : a ≠ p := fun q => S.fresh hp (q ▸ h)
    rw [upd_ne z]; exact S.here a h
  · have z : a ≠ p := fun q => S.fresh hp (q ▸ List.mem_of_getElem? h1)
    exact (S.cel n a c h1 h2).ext e fun o q => by rw [upd_ne z]; exact q
theorem ext_newC (S : Sim K mg G m w H) {p : Addr} (hp : H p = none) (o : HO) : Ext G m H G (m ++ [p]) (upd H p o) := by
  refine ⟨fun _ _ h => h, ⟨[p], rfl⟩, fun b u h n => ?_, fun a h n => ?_, fun a u h => .inl h, fun b u z h => by rw [upd_ne (ne_of_none h hp)]; exact h⟩
  · rw [upd_ne (ne_of_none h hp)]; exact h
  · rcases List.mem_append.mp h with h | h
    · exact absurd h n
    · simp at h; subst h; exact hp
/-- a new thing that may change -/
theorem Sim.newC (S : Sim K mg G m w H) {p : Addr} (hp : H p = none) {o : HO} {c : Cell} (hc : CelR K mg G (m ++ [p]) (upd H p o) p c) : Sim K mg G (m ++ [p]) (w ++ [c]) (upd H p o) := by
  have e := ext_newC S hp o
  have cases_ix : ∀ (n : Nat) (a : Addr) (c' : Cell), (m ++ [p])[n]? = some a → (w ++ [c])[n]? = some c' → (m[n]? = some a ∧ w[n]? = some c') ∨ (a = p ∧ c' = c) := fun n a c' h1 h2 => by
    by_cases hn : n < m.length
    · rw [List.getElem?_append_left hn] at h1
      rw [List.getElem?_append_left (by rw [← S.len]; exact hn)] at h2
      exact .inl ⟨h1, h2⟩
    · rw [List.getElem?_append_right (by omega)] at h1
      rw [List.getElem?_append_right (by rw [← S.len]; omega), ← S.len] at h2
      cases q : n - m.length with
      | zero => rw [q] at h1 h2; simp at h1 h2; exact .inr ⟨h1.symm, h2.symm⟩
      | succ k => rw [q] at h1; simp at h1
  refine ⟨fun a u h => ?_, by simp [S.len], ?_, fun n a c' h1 h2 h3 => ?_, fun a h => ?_, fun n a c' h1 h2 => ?_⟩
  · rw [upd_ne (fun z => by subst z; rw [S.freshG hp] at h; cases h)]; exact S.sub a u h
  · rw [List.nodup_append]
    refine ⟨S.nd, by simp, fun a ha b hb q => ?_⟩
    simp at hb; subst hb; subst q; exact S.fresh hp ha
  · rcases cases_ix n a c' h1 h2 with ⟨q1, q2⟩ | ⟨rfl, rfl⟩
    · exact S.sep n a c' q1 q2 h3
    · exact S.freshG hp
  · rcases List.mem_append.mp h with h | h
    · rw [upd_ne (fun z => S.fresh hp (by rw [← z]; exact h))]; exact S.here a h
    · simp at h; subst h; rw [upd_same]; intro z; cases z
  · rcases cases_ix n a c' h1 h2 with ⟨q1, q2⟩ | ⟨rfl, rfl⟩
    · refine (S.cel n a c' q1 q2).ext e fun o q => ?_
      rw [upd_ne (fun z => S.fresh hp (by rw [← z]; exact List.mem_of_getElem? q1))]; exact q
    · exact hc
def NoFz (H : Hp) (a : Addr) : Prop := ∀ o u, H a ≠ some (.frz o u)
theorem noFz_of {H : Hp} {a : Addr} {v : HO} (h : H a = some v) (d : ∀ o u, v ≠ .frz o u) : NoFz H a := fun o u q => by rw [h] at q; exact d o u (Option.some.inj q)
theorem upd_fz {H : Hp} {a b : Addr} {o : HO} {x : Obj} {u : HO} (hz : NoFz H a) (h : H b = some (.frz x u)) : upd H a o b = some (.frz x u) := by
  rw [upd_ne (fun z => by subst z; exact hz _ _ h)]; exact h
theorem ext_setC {a : Addr} (h : a ∈ m) (hz : NoFz H a) (o : HO) : Ext G m H G m (upd H a o) :=
  ⟨fun _ _ h => h, ⟨[], by simp⟩, fun b u q n => by rw [upd_ne (fun z => n (by rw [z]; exact h))]; exact q, fun b q n => absurd q n, fun _ _ h => .inl h, fun b x u q => upd_fz hz q⟩
theorem getElem?_set_cases {α : Type} {l : List α} {i n : Nat} {x y : α} (h : (l.set i x)[n]? = some y) : (n = i ∧ y = x) ∨ (n ≠ i ∧ l[n]? = some y) := by
  by_cases e : i = n
  · subst e
    have hi : i < l.length := by
      have := (List.getElem?_eq_some_iff.mp h).1
      rwa [List.length_set] at this
    rw [List.getElem?_set_self hi] at h
    exact .inl ⟨rfl, (Option.some.inj h).symm⟩
  · rw [List.getElem?_set_ne e] at h
    exact .inr ⟨fun q => e q.symm, h⟩
theorem ix_addr {N : List Addr} (hN : N.Nodup) {i j : Nat} {x : Addr} (a : N[i]? = some x) (b : N[j]? = some x) : i = j := by
  obtain ⟨h1, e1⟩ := List.getElem?_eq_some_iff.mp a
  obtain ⟨h2, e2⟩ := List.getElem?_eq_some_iff.mp b
  exact (List.getElem_inj hN).mp (e1.trans e2.symm)
/-- a thing changes -/
theorem Sim.setC (S : Sim K mg G m w H) {n : Nat} {a : Addr} {c0 c : Cell} {o : HO} (ha : m[n]? = some a) (h0 : w[n]? = some c0) (hd : c0 ≠ .dead) (hc : CelR K mg G m (upd H a o) a c) : Sim K mg G m (w.set n c) (upd H a o) := by
  have hm := List.mem_of_getElem? ha
  have e : Ext G m H G m H := Ext.refl
  have hG := S.sep n a c0 ha h0 hd
  refine ⟨fun b u h => ?_, by simp [S.len], S.nd, fun k b c' h1 h2 h3 => ?_, fun b h => ?_, fun k b c' h1 h2 => ?_⟩
  · rw [upd_ne (fun z => by subst z; rw [hG] at h; cases h)]; exact S.sub b u h
  · rcases getElem?_set_cases h2 with ⟨rfl, _⟩ | ⟨_, q⟩
    · rw [ha] at h1; cases h1; exact hG
    · exact S.sep k b c' h1 q h3
  · by_cases z : b = a
    · subst z; rw [upd_same]; intro q; cases q
    · rw [upd_ne z]; exact S.here b h
  · rcases getElem?_set_cases h2 with ⟨rfl, rfl⟩ | ⟨ne, q⟩
    · rw [ha] at h1; cases h1; exact hc
    · refine (S.cel k b c' h1 q).ext e fun o q => ?_
      have z : b ≠ a := fun z => by
        subst z
        exact ne (ix_addr S.nd h1 ha)
      rw [upd_ne z]; exact q
/-- a thing is left, it will never change again -/
theorem ext_frz {a : Addr} (h : a ∈ m) {o : HO} (hG : G a = none) (hz : NoFz H a) : Ext G m H (upd G a o) m (upd H a o) := by
  refine ⟨fun b u q => ?_, ⟨[], by simp⟩, fun b u q n => ?_, fun b q n => absurd q n, fun b u q => ?_, fun b x u q => upd_fz hz q⟩
  · rw [upd_ne (ne_of_none q hG)]; exact q
  · rw [upd_ne (fun z => n (by rw [z]; exact h))]; exact q
  · by_cases z : b = a
    · subst z; exact .inr (.inr h)
    · rw [upd_ne z] at q; exact .inl q
theorem Sim.frz (S : Sim K mg G m w H) {n : Nat} {a : Addr} {c0 : Cell} {o : HO} (ha : m[n]? = some a) (h0 : w[n]? = some c0) (hd : c0 ≠ .dead) (hz : NoFz H a) : Sim K mg (upd G a o) m (w.set n .dead) (upd H a o) := by
  have hm := List.mem_of_getElem? ha
  have hG := S.sep n a c0 ha h0 hd
  have e : Ext G m H (upd G a o) m (upd H a o) := ext_frz hm hG hz
  refine ⟨fun b u h => ?_, by simp [S.len], S.nd, fun k b c' h1 h2 h3 => ?_, fun b h => ?_, fun k b c' h1 h2 => ?_⟩
  · by_cases z : b = a
    · subst z; rw [upd_same] at h ⊢; exact h
    · rw [upd_ne z] at h ⊢; exact S.sub b u h
  · rcases getElem?_set_cases h2 with ⟨rfl, q⟩ | ⟨ne, q⟩
    · exact absurd q h3
    · have z : b ≠ a := fun z => by subst z; exact ne (ix_addr S.nd h1 ha)
      rw [upd_ne z]; exact S.sep k b c' h1 q h3
  · by_cases z : b = a
    · subst z; rw [upd_same]; intro q; cases q
    · rw [upd_ne z]; exact S.here b h
  · rcases getElem?_set_cases h2 with ⟨rfl, rfl⟩ | ⟨ne, q⟩
    · trivial
    · refine (S.cel k b c' h1 q).ext e fun o q => ?_
      have z : b ≠ a := fun z => by subst z; exact ne (ix_addr S.nd h1 ha)
      rw [upd_ne z]; exact q
end

/-! ### what comes out -/
structure Ex where
  nm : Str
  vl : D
inductive Out (α : Type) where
  | ok (a : α) (w : List Cell)
  | exc (x : Ex) (w : List Cell)
  | bad
def Out.bnd {α β : Type} : Out α → (α → List Cell → Out β) → Out β
  | .ok a w, f => f a w
  | .exc x w, _ => .exc x w
  | .bad, _ => .bad
@[simp] theorem Out.bnd_ok {α β : Type} (a : α) (w : List Cell) (f : α → List Cell → Out β) : (Out.ok a w).bnd f = f a w := rfl
@[simp] theorem Out.bnd_exc {α β : Type} (x : Ex) (w : List Cell) (f : α → List Cell → Out β) : (Out.exc x w : Out α).bnd f = .exc x w := rfl
@[simp] theorem Out.bnd_bad {α β : Type} (f : α → List Cell → Out β) : (Out.bad : Out α).bnd f = .bad := rfl
/-- a partial value -/
def Out.of {α : Type} : Option α → List Cell → Out α
  | some a, w => .ok a w
  | none, _ => .bad
@[simp] theorem Out.of_some {α : Type} (a : α) (w : List Cell) : Out.of (some a) w = .ok a w := rfl
@[simp] theorem Out.of_none {α : Type} (w : List Cell) : Out.of (none : Option α) w = .bad := rfl
abbrev DEnv := List (Option D)
abbrev Den := DEnv → List Cell → Out D
abbrev DenT := DEnv → List Cell → Out Bool
abbrev DenA := DEnv → List Cell → Out (List D)
/-- how a statement ends -/
inductive Fl where
  | next | brk | cont | ret (d : D)
inductive OutS where
  | go (f : Fl) (r : DEnv) (w : List Cell)
  | exc (x : Ex) (r : DEnv) (w : List Cell)
  | bad
abbrev DenS := DEnv → List Cell → OutS
def Out.thenS {α : Type} (o : Out α) (r : DEnv) (f : α → List Cell → OutS) : OutS := match o with
  | .ok a w => f a w
  | .exc x w => .exc x r w
  | .bad => .bad
@[simp] theorem Out.thenS_ok {α : Type} (a : α) (r : DEnv) (w : List Cell) (f : α → List Cell → OutS) : (Out.ok a w).thenS r f = f a w := rfl
@[simp] theorem Out.thenS_exc {α : Type} (x : Ex) (r : DEnv) (w : List Cell) (f : α → List Cell → OutS) : (Out.exc x w : Out α).thenS r f = .exc x r w := rfl
@[simp] theorem Out.thenS_bad {α : Type} (r : DEnv) (f : α → List Cell → OutS) : (Out.bad : Out α).thenS r f = .bad := rfl

section
variable (K : PySem.W.Frag) (mg : Str → Option Value)
/-- the frame's values -/
def EnvR (G : Hp) (m : List Addr) (σ : L2.St) (r : DEnv) : Prop := σ.length = r.length ∧ ∀ (i : Nat) d, r[i]? = some (some d) → ∃ v, σ[i]? = some (some v) ∧ Rep K G m v d
/-- what must hold behind -/
def okO {α β : Type} (R : Hp → List Addr → Hp → β → α → Prop) (E : XK) (G : Hp) (m : List Addr) (H : Hp) (Q : β → Hp → Prop) : Out α → Prop
  | .ok a w => ∀ G' m' H' b, Ext G m H G' m' H' → Sim K mg G' m' w H' → R G' m' H' b a → Q b H'
  | .exc x w => ∀ G' m' H' cls dd v, Ext G m H G' m' H' → Sim K mg G' m' w H' → mg x.nm = some cls → H' dd = some (.xd [(("value" : Str), v)]) → Rep K G' m' v x.vl → E cls (some dd) H'
  | .bad => False
def okS (W : WX) (G : Hp) (m : List Addr) (H : Hp) (C : Ends) : OutS → Prop
  | .go .next r w => ∀ G' m' H' σ', Ext G m H G' m' H' → Sim K mg G' m' w H' → EnvR K G' m' σ' r → C.nx σ' H'
  | .go .brk r w => ∀ G' m' H' σ', Ext G m H G' m' H' → Sim K mg G' m' w H' → EnvR K G' m' σ' r → C.bk σ' H'
  | .go .cont r w => ∀ G' m' H' σ', Ext G m H G' m' H' → Sim K mg G' m' w H' → EnvR K G' m' σ' r → C.ct σ' H'
  | .go (.ret d) _ w => ∀ G' m' H' v, Ext G m H G' m' H' → Sim K mg G' m' w H' → Rep K G' m' v d → C.rt v H'
  | .exc x r w => ∀ G' m' H' σ' cls dd v, Ext G m H G' m' H' → Sim K mg G' m' w H' → EnvR K G' m' σ' r → mg x.nm = some cls → H' dd = some (.xd [(("value" : Str), v)]) → Rep K G' m' v x.vl → W cls (some dd) σ' H'
  | .bad => False
end
abbrev okD (K : PySem.W.Frag) (mg : Str → Option Value) := okO (α := D) (β := V) K mg (fun G m _ v d => Rep K G m v d)
abbrev okB (K : PySem.W.Frag) (mg : Str → Option Value) := okO (α := Bool) (β := Bool) K mg (fun _ _ _ v d => v = d)
abbrev okA (K : PySem.W.Frag) (mg : Str → Option Value) := okO (α := List D) (β := List V) K mg (fun G m _ v d => RepL K G m v d)
section
variable {K : PySem.W.Frag} {mg : Str → Option Value} {G G1 H H1 : Hp} {m m1 : List Addr} {w : List Cell} {E : XK} {W : WX}
theorem okO.ext {α β : Type} {R : Hp → List Addr → Hp → β → α → Prop} {Q : β → Hp → Prop} {o : Out α} (h : okO K mg R E G m H Q o) (e : Ext G m H G1 m1 H1) : okO K mg R E G1 m1 H1 Q o := by
  cases o with
  | ok a w => exact fun G' m' H' b e1 => h G' m' H' b (e.trans e1)
  | exc x w => exact fun G' m' H' cls dd v e1 => h G' m' H' cls dd v (e.trans e1)
  | bad => exact h
theorem okO.mono {α β : Type} {R : Hp → List Addr → Hp → β → α → Prop} {Q Q' : β → Hp → Prop} {o : Out α} (h : okO K mg R E G m H Q o) (k : ∀ b H, Q b H → Q' b H) : okO K mg R E G m H Q' o := by
  cases o with
  | ok a w => exact fun G' m' H' b e1 s r => k _ _ (h G' m' H' b e1 s r)
  | exc x w => exact h
  | bad => exact h
theorem okO.bind {α β γ δ : Type} {R : Hp → List Addr → Hp → β → α → Prop} {R2 : Hp → List Addr → Hp → δ → γ → Prop} {Q : δ → Hp → Prop} {o : Out α} {f : α → List Cell → Out γ} (h : okO K mg R2 E G m H Q (o.bnd f)) :
    okO K mg R E G m H (fun b H1 => ∃ G1 m1 w1 a, Ext G m H G1 m1 H1 ∧ Sim K mg G1 m1 w1 H1 ∧ R G1 m1 H1 b a ∧ okO K mg R2 E G1 m1 H1 Q (f a w1)) o := by
  cases o with
  | ok a w => exact fun G' m' H' b e s r => ⟨G', m', w, a, e, s, r, okO.ext (R := R2) h e⟩
  | exc x w => exact h
  | bad => exact h
theorem okS.ext {C : Ends} {o : OutS} (h : okS K mg W G m H C o) (e : Ext G m H G1 m1 H1) : okS K mg W G1 m1 H1 C o := by
  cases o with
  | go f r w => cases f <;> exact fun G' m' H' b e1 => h G' m' H' b (e.trans e1)
  | exc x r w => exact fun G' m' H' σ' cls dd v e1 => h G' m' H' σ' cls dd v (e.trans e1)
  | bad => exact h
theorem okO.bindS {α β : Type} {R : Hp → List Addr → Hp → β → α → Prop} {C : Ends} {o : Out α} {σ : L2.St} {r : DEnv} {f : α → List Cell → OutS} (h : okS K mg W G m H C (o.thenS r f)) (he : EnvR K G m σ r) (up : ∀ G' m' H', Ext G m H G' m' H' → EnvR K G' m' σ r) :
    okO K mg R (fun c d H => W c d σ H) G m H (fun b H1 => ∃ G1 m1 w1 a, Ext G m H G1 m1 H1 ∧ Sim K mg G1 m1 w1 H1 ∧ R G1 m1 H1 b a ∧ okS K mg W G1 m1 H1 C (f a w1)) o := by
  cases o with
  | ok a w => exact fun G' m' H' b e s r => ⟨G', m', w, a, e, s, r, okS.ext h e⟩
  | exc x w => exact fun G' m' H' cls dd v e1 s1 c1 d1 v1 => h G' m' H' σ cls dd v e1 s1 (up _ _ _ e1) c1 d1 v1
  | bad => exact h
theorem EnvR.ext {σ : L2.St} {r : DEnv} (h : EnvR K G m σ r) (e : Ext G m H G1 m1 H1) : EnvR K G1 m1 σ r := ⟨h.1, fun i d q => let ⟨v, a, b⟩ := h.2 i d q; ⟨v, a, b.ext e⟩⟩
theorem EnvR.set {σ : L2.St} {r : DEnv} (h : EnvR K G m σ r) {v : V} {d : D} (q : Rep K G m v d) (i : Nat) : EnvR K G m (σ.set i (some v)) (r.set i (some d)) := by
  refine ⟨by simp [h.1], fun j e z => ?_⟩
  rcases getElem?_set_cases z with ⟨rfl, e1⟩ | ⟨ne, z⟩
  · have hj : j < σ.length := by
      have := (List.getElem?_eq_some_iff.mp z).1
      rw [List.length_set] at this
      rw [h.1]; exact this
    cases e1
    exact ⟨v, by rw [List.getElem?_set_self hj], q⟩
  · obtain ⟨u, a, b⟩ := h.2 j e z
    exact ⟨u, by rw [List.getElem?_set_ne (Ne.symm ne)]; exact a, b⟩
theorem EnvR.get {σ : L2.St} {r : DEnv} (h : EnvR K G m σ r) {i : Nat} {d : D} (e : r[i]? = some (some d)) : ∃ v, σ[i]? = some (some v) ∧ Rep K G m v d := h.2 i d e
end

/-! ### what a piece of text denotes -/
section
variable (X : Cx) (W : WX)
def teD (A : Den) : TE := fun σ H Q => ∃ G m w r, Sim X.K X.mg G m w H ∧ EnvR X.K G m σ r ∧ okD X.K X.mg (fun c d H => W c d σ H) G m H Q (A r w)
def ttD (A : DenT) : TT := fun σ H Q => ∃ G m w r, Sim X.K X.mg G m w H ∧ EnvR X.K G m σ r ∧ okB X.K X.mg (fun c d H => W c d σ H) G m H Q (A r w)
def taD (A : DenA) : TA := fun σ H Q => ∃ G m w r, Sim X.K X.mg G m w H ∧ EnvR X.K G m σ r ∧ okA X.K X.mg (fun c d H => W c d σ H) G m H Q (A r w)
def tsD (A : DenS) : TS := fun C σ H => ∃ G m w r, Sim X.K X.mg G m w H ∧ EnvR X.K G m σ r ∧ okS X.K X.mg W G m H C (A r w)
abbrev DE (e : Expr) (A : Den) : Prop := PE X e (teD X W A)
abbrev DT (e : Expr) (A : DenT) : Prop := PT X e (ttD X W A)
abbrev DA (e : List Expr) (A : DenA) : Prop := PA X e (taD X W A)
abbrev DS (e : Stmt) (A : DenS) : Prop := PS X e (tsD X W A)
abbrev DSs (e : List Stmt) (A : DenS) : Prop := PSs X e (tsD X W A)
end
section
variable {X : Cx}
theorem _root_.L2.PE.weak {e : Expr} {t t' : TE} (h : PE X e t) (k : ∀ σ H Q, t' σ H Q → t σ H Q) : PE X e t' := ⟨fun pins s σ H Q I q => h.run pins s σ H Q I (k _ _ _ q)⟩
theorem _root_.L2.PT.weak {e : Expr} {t t' : TT} (h : PT X e t) (k : ∀ σ H Q, t' σ H Q → t σ H Q) : PT X e t' := ⟨fun pins s σ H Q I q => h.run pins s σ H Q I (k _ _ _ q)⟩
theorem _root_.L2.PA.weak {e : List Expr} {t t' : TA} (h : PA X e t) (k : ∀ σ H Q, t' σ H Q → t σ H Q) : PA X e t' := ⟨fun pos pins s σ H Q I q => h.run pos pins s σ H Q I (k _ _ _ q)⟩
theorem _root_.L2.PS.weak {e : Stmt} {t t' : TS} (h : PS X e t) (k : ∀ C σ H, t' C σ H → t C σ H) : PS X e t' := ⟨fun pins s σ H Q I q => h.run pins s σ H Q I (k _ _ _ q)⟩
theorem _root_.L2.PSs.weak {e : List Stmt} {t t' : TS} (h : PSs X e t) (k : ∀ C σ H, t' C σ H → t C σ H) : PSs X e t' := ⟨fun pins s σ H Q I q => h.run pins s σ H Q I (k _ _ _ q)⟩
theorem _root_.Dn.OpR.weak {f : Value → Value → Sem Value} {r r' : R2} (h : OpR X f r) (k : ∀ x y H Q, r' x y H Q → r x y H Q) : OpR X f r' := fun pins s σ H x y v u Q I rx ry q => h pins s σ H x y v u Q I rx ry (k _ _ _ _ q)
theorem _root_.Dn.CallR.weak {f : Value} {r r' : List V → Hp → VK → Prop} (h : CallR X f r) (k : ∀ xs H Q, r' xs H Q → r xs H Q) : CallR X f r' := fun pins s σ H xs us Q I r q => h pins s σ H xs us Q I r (k _ _ _ q)
end
end Dn
/-! Dn2: names, constants, operators, tests. -/
namespace Dn
open PySem PySem.Spec PyProof.Rows L2

section
variable {X : Cx} {W : WX}
/-! ### names and constants -/
def eVar (i : Nat) : Den := fun r w => match r[i]? with | some (some d) => .ok d w | _ => .bad
def eC (d : D) : Den := fun _ w => .ok d w
theorem de_pe {e : Expr} {i : Nat} (h : PE X e (tVar i)) : DE X W e (eVar i) := PE.weak h fun σ H Q ⟨G, m, w, r, S, E, k⟩ => by
  unfold eVar at k
  cases q : r[i]? with
  | none => rw [q] at k; exact k.elim
  | some o =>
    cases o with
    | none => rw [q] at k; exact k.elim
    | some d =>
      rw [q] at k
      obtain ⟨v, e1, e2⟩ := E.get q
      exact ⟨v, e1, k G m H v Ext.refl S e2⟩
theorem de_var (i : Nat) {x : Str} {pos : Pos} (hN : X.N[i]? = some x := by rfl) (hv : Vis X.env.scope x := by first | exact Or.inl rfl | exact Or.inr (Or.inl rfl) | exact Or.inr (Or.inr rfl)) (hd : (x == ("__debug__" : Str)) = false := by decide)
    (hcd : (x == ("__classdict__" : Str)) = false := by decide) : DE X W (.Name x pos) (eVar i) := de_pe (pe_var hN hv hd hcd)
/-- a constant: v stands for d anywhere -/
theorem de_const {e : Expr} {v : V} {d : D} (h : PE X e (tC v)) (hd : ∀ G m, Rep X.K G m v d) : DE X W e (eC d) := PE.weak h fun σ H Q ⟨G, m, w, r, S, E, k⟩ => k G m H v Ext.refl S (hd _ _)
theorem de_int {i j pos} : DE X W (.Constant (.int i) j pos) (eC (.int i)) := de_const pe_int fun _ _ => .int i
theorem de_bl {b j pos} : DE X W (.Constant (.bool b) j pos) (eC (.bl b)) := de_const pe_bl fun _ _ => .bl b
theorem de_non {j pos} : DE X W (.Constant .none j pos) (eC .non) := de_const pe_non fun _ _ => .non
theorem de_str {x j pos} : DE X W (.Constant (.str x) j pos) (eC (.str x)) := de_const pe_str fun _ _ => .str x
/-- a module's constant -/
theorem de_glob {x : Str} {v : V} {u : Value} {d : D} {pos : Pos} (hm : X.mg x = some u) (r : RelV v u) (hd : ∀ G m, Rep X.K G m v d) (hg : Gl X x := by rfl) (hdb : (x == ("__debug__" : Str)) = false := by decide) : DE X W (.Name x pos) (eC d) :=
  de_const (pe_glob hg hm r hdb) hd

/-! ### operators on two values -/
abbrev Op2 := D → D → List Cell → Option D
/-- a partial function's wish -/
def rD (K : PySem.W.Frag) (mg : Str → Option Value) (f : Op2) : R2 := fun x y H Q => ∃ G m w d e r, Sim K mg G m w H ∧ Rep K G m x d ∧ Rep K G m y e ∧ f d e w = some r ∧
  ∀ G' H' v, Ext G m H G' m H' → Sim K mg G' m w H' → Rep K G' m v r → Q v H'
abbrev OpD (X : Cx) (F : Value → Value → Sem Value) (f : Op2) : Prop := OpR X F (rD X.K X.mg f)
def eBin (f : Op2) (A B : Den) : Den := fun r w => (A r w).bnd fun x w1 => (B r w1).bnd fun y w2 => Out.of (f x y w2) w2
theorem okD_of {K : PySem.W.Frag} {mg : Str → Option Value} {E : XK} {G : Hp} {m : List Addr} {H : Hp} {Q : VK} {o : Option D} {w : List Cell} (h : okD K mg E G m H Q (Out.of o w)) :
    ∃ r, o = some r ∧ ∀ G' m' H' v, Ext G m H G' m' H' → Sim K mg G' m' w H' → Rep K G' m' v r → Q v H' := by
  cases o with
  | none => exact h.elim
  | some r => exact ⟨r, rfl, h⟩
theorem eBin_ok {f : Op2} {A B : Den} : ∀ σ H Q, teD X W (eBin f A B) σ H Q → tOp (rD X.K X.mg f) (teD X W A) (teD X W B) σ H Q := by
  rintro σ H Q ⟨G, m, w, r, S, E, h⟩
  refine ⟨G, m, w, r, S, E, (okO.bind h).mono ?_⟩
  rintro x H1 ⟨G1, m1, w1, d, e1, S1, R1, h1⟩
  refine ⟨G1, m1, w1, r, S1, E.ext e1, (okO.bind h1).mono ?_⟩
  rintro y H2 ⟨G2, m2, w2, d2, e2, S2, R2, h2⟩
  obtain ⟨z, hz, k⟩ := okD_of h2
  exact ⟨G2, m2, w2, d, d2, z, S2, R1.ext e2, R2, hz, fun G' H' v => k G' m2 H' v⟩
theorem de_bin {op : Operator} {f : Op2} {a b : Expr} {A B : Den} {pos : Pos} (ho : OpD X (binaryOp op) f) (ha : DE X W a A) (hb : DE X W b B) : DE X W (.BinOp a op b pos) (eBin f A B) := (pe_op ho ha hb).weak eBin_ok
theorem de_cmp {op : CmpOp} {f : Op2} {a b : Expr} {A B : Den} {pos : Pos} (ho : OpD X (compareOp op) f) (ha : DE X W a A) (hb : DE X W b B) (hm : behindInMarks op b = false := by first | exact nomark _ | rfl | with_unfolding_all rfl) : DE X W (.Compare a [op] [b] pos) (eBin f A B) := (pe_cmpR ho ha hb hm).weak eBin_ok
/-- a truth value -/
def asB : D → Option Bool
  | .bl b => some b
  | _ => none
/-- a value that is a bool, as a test -/
def tVal (A : Den) : DenT := fun r w => (A r w).bnd fun x w1 => Out.of (asB x) w1
theorem rep_bl {K : PySem.W.Frag} {G : Hp} {m : List Addr} {v : V} {d : D} {b : Bool} (h : Rep K G m v d) (e : asB d = some b) : v = .bl b := by
  cases h <;> simp [asB] at e
  subst e; rfl
theorem okB_of {K : PySem.W.Frag} {mg : Str → Option Value} {E : XK} {G : Hp} {m : List Addr} {H : Hp} {Q : Bool → Hp → Prop} {o : Option Bool} {w : List Cell} (S : Sim K mg G m w H) (h : okB K mg E G m H Q (Out.of o w)) : ∃ r, o = some r ∧ Q r H := by
  cases o with
  | none => exact h.elim
  | some r => exact ⟨r, rfl, h G m H r Ext.refl S rfl⟩
theorem tVal_ok {A : Den} : ∀ σ H Q, ttD X W (tVal A) σ H Q → teD X W A σ H fun x H1 => ∃ c, x = .bl c ∧ Q c H1 := by
  rintro σ H Q ⟨G, m, w, r, S, E, h⟩
  refine ⟨G, m, w, r, S, E, (okO.bind h).mono ?_⟩
  rintro x H1 ⟨G1, m1, w1, d, e1, S1, R1, h1⟩
  obtain ⟨b, hb, q⟩ := okB_of S1 h1
  exact ⟨b, rep_bl R1 hb, q⟩
theorem dt_val {e : Expr} {A : Den} (h : DE X W e A) (he : ∀ whole, isTrue e X.env whole = (do let v ← whole; standAt e.pos; holding [v] (truthy v)) := by intro _; rfl) : DT X W e (tVal A) := (pt_val h he).weak tVal_ok
theorem dt_cmp {op : CmpOp} {f : Op2} {a b : Expr} {A B : Den} {pos : Pos} (ho : OpD X (compareOp op) f) (ha : DE X W a A) (hb : DE X W b B) (hm : behindInMarks op b = false := by first | exact nomark _ | rfl | with_unfolding_all rfl) : DT X W (.Compare a [op] [b] pos) (tVal (eBin f A B)) :=
  (pt_cmpR ho ha hb hm).weak fun σ H Q h => eBin_ok σ H _ (show teD X W (eBin f A B) σ H (fun x H1 => ∃ k, x = .bl k ∧ Q k H1) from tVal_ok σ H Q h)
/-! ### chains of two comparisons -/
def eChain (f g : Op2) (A B C : Den) : Den := fun r w => (A r w).bnd fun x w1 => (B r w1).bnd fun y w2 => (Out.of ((f x y w2).bind asB) w2).bnd fun b w3 => if b = true then (C r w3).bnd fun z w4 => Out.of (g y z w4) w4 else .ok (.bl false) w3
theorem eChain_ok {f g : Op2} {A B C : Den} : ∀ σ H Q, teD X W (eChain f g A B C) σ H Q → tChain (rD X.K X.mg f) (rD X.K X.mg g) (teD X W A) (teD X W B) (teD X W C) σ H Q := by
  rintro σ H Q ⟨G, m, w, r, S, E, h⟩
  refine ⟨G, m, w, r, S, E, (okO.bind h).mono ?_⟩
  rintro x H1 ⟨G1, m1, w1, d, e1, S1, R1, h1⟩
  refine ⟨G1, m1, w1, r, S1, E.ext e1, (okO.bind h1).mono ?_⟩
  rintro y H2 ⟨G2, m2, w2, d2, e2, S2, R2, h2⟩
  cases q : (f d d2 w2).bind asB with
  | none => rw [q] at h2; exact h2.elim
  | some b =>
    rw [q] at h2
    obtain ⟨z, hz, hb⟩ := Option.bind_eq_some_iff.mp q
    refine ⟨G2, m2, w2, d, d2, z, S2, R1.ext e2, R2, hz, fun G3 H3 v e3 S3 R3 => ⟨b, rep_bl R3 hb, ?_⟩⟩
    have h3 : okD X.K X.mg (fun c d H => W c d σ H) G2 m2 H2 Q (if b = true then (C r w2).bnd fun z w4 => Out.of (g d2 z w4) w4 else .ok (.bl false) w2) := h2
    by_cases hb2 : b = true
    · rw [if_pos hb2] at h3 ⊢
      refine ⟨G3, m2, w2, r, S3, ((E.ext e1).ext e2).ext e3, (okO.bind (okO.ext h3 e3)).mono ?_⟩
      rintro u H4 ⟨G4, m4, w4, d4, e4, S4, R4, h4⟩
      obtain ⟨t, ht, k⟩ := okD_of h4
      exact ⟨G4, m4, w4, d2, d4, t, S4, (R2.ext e3).ext e4, R4, ht, fun G' H' v => k G' m4 H' v⟩
    · rw [if_neg hb2] at h3 ⊢
      exact h3 G3 m2 H3 _ e3 S3 (.bl false)
theorem de_chain {op op' : CmpOp} {f g : Op2} {a b c : Expr} {A B C : Den} {pos : Pos} (ho : OpD X (compareOp op) f) (ho' : OpD X (compareOp op') g) (ha : DE X W a A) (hb : DE X W b B) (hc : DE X W c C)
    (hm : lastMarks [op, op'] [b, c] = false := by with_unfolding_all rfl) : DE X W (.Compare a [op, op'] [b, c] pos) (eChain f g A B C) := (pe_chain ho ho' ha hb hc hm).weak eChain_ok
theorem dt_chain {op op' : CmpOp} {f g : Op2} {a b c : Expr} {A B C : Den} {pos : Pos} (ho : OpD X (compareOp op) f) (ho' : OpD X (compareOp op') g) (ha : DE X W a A) (hb : DE X W b B) (hc : DE X W c C)
    (hm : lastMarks [op, op'] [b, c] = false := by with_unfolding_all rfl) : DT X W (.Compare a [op, op'] [b, c] pos) (tVal (eChain f g A B C)) :=
  (pt_chain ho ho' ha hb hc hm).weak fun σ H Q h => eChain_ok σ H _ (show teD X W (eChain f g A B C) σ H (fun x H1 => ∃ k, x = .bl k ∧ Q k H1) from tVal_ok σ H Q h)

/-! ### and, or, not, a if t else b -/
def tAndD (A B : DenT) : DenT := fun r w => (A r w).bnd fun b w1 => if b = true then B r w1 else .ok false w1
def tOrD (A B : DenT) : DenT := fun r w => (A r w).bnd fun b w1 => if b = true then .ok true w1 else B r w1
def tNotD (A : DenT) : DenT := fun r w => (A r w).bnd fun b w1 => .ok (!b) w1
theorem _root_.L2.PW.weak {e : Expr} {t t' : TT} (h : PW X e t) (k : ∀ σ H Q, t' σ H Q → t σ H Q) : PW X e t' := ⟨fun wh pins s σ H Q I q => h.run wh pins s σ H Q I (k _ _ _ q)⟩
abbrev DW (X : Cx) (W : WX) (e : Expr) (A : DenT) : Prop := PW X e (ttD X W A)
theorem dw_and1 {a : Expr} {A : DenT} {pos : Pos} (ha : DT X W a A) : DW X W (.BoolOp .And [a] pos) A := pw_and1 ha
theorem dw_or1 {a : Expr} {A : DenT} {pos : Pos} (ha : DT X W a A) : DW X W (.BoolOp .Or [a] pos) A := pw_or1 ha
theorem dw_and {a b : Expr} {rest : List Expr} {A B : DenT} {pos : Pos} (ha : DT X W a A) (hb : DW X W (.BoolOp .And (b :: rest) pos) B) : DW X W (.BoolOp .And (a :: b :: rest) pos) (tAndD A B) := PW.weak (pw_and ha hb) <| by
  rintro σ H Q ⟨G, m, w, r, S, E, h⟩
  refine ⟨G, m, w, r, S, E, (okO.bind h).mono ?_⟩
  rintro b H1 ⟨G1, m1, w1, d, e1, S1, R1, h1⟩
  subst R1
  cases b with
  | true => rw [if_pos rfl] at h1 ⊢; exact ⟨G1, m1, w1, r, S1, E.ext e1, h1⟩
  | false => rw [if_neg Bool.false_ne_true] at h1 ⊢; exact h1 G1 m1 H1 _ Ext.refl S1 rfl
theorem dw_or {a b : Expr} {rest : List Expr} {A B : DenT} {pos : Pos} (ha : DT X W a A) (hb : DW X W (.BoolOp .Or (b :: rest) pos) B) : DW X W (.BoolOp .Or (a :: b :: rest) pos) (tOrD A B) := PW.weak (pw_or ha hb) <| by
  rintro σ H Q ⟨G, m, w, r, S, E, h⟩
  refine ⟨G, m, w, r, S, E, (okO.bind h).mono ?_⟩
  rintro b H1 ⟨G1, m1, w1, d, e1, S1, R1, h1⟩
  subst R1
  cases b with
  | true => rw [if_pos rfl] at h1 ⊢; exact h1 G1 m1 H1 _ Ext.refl S1 rfl
  | false => rw [if_neg Bool.false_ne_true] at h1 ⊢; exact ⟨G1, m1, w1, r, S1, E.ext e1, h1⟩
theorem dt_w {e : Expr} {A : DenT} (h : DW X W e A) : DT X W e A := h.pt
theorem dt_not {a : Expr} {A : DenT} {pos : Pos} (ha : DT X W a A) : DT X W (.UnaryOp .Not a pos) (tNotD A) := (pt_not ha).weak <| by
  rintro σ H Q ⟨G, m, w, r, S, E, h⟩
  refine ⟨G, m, w, r, S, E, (okO.bind h).mono ?_⟩
  rintro b H1 ⟨G1, m1, w1, d, e1, S1, R1, h1⟩
  subst R1
  exact h1 G1 m1 H1 _ Ext.refl S1 rfl
/-- as values -/
def eAnd (A : Den) (B : Den) : Den := fun r w => (A r w).bnd fun x w1 => (Out.of (asB x) w1).bnd fun b w2 => if b = true then B r w2 else .ok (.bl false) w2
def eOr (A : Den) (B : Den) : Den := fun r w => (A r w).bnd fun x w1 => (Out.of (asB x) w1).bnd fun b w2 => if b = true then .ok (.bl true) w2 else B r w2
def eNot (A : Den) : Den := fun r w => (A r w).bnd fun x w1 => (Out.of (asB x) w1).bnd fun b w2 => .ok (.bl (!b)) w2
theorem de_one {op : BoolOp} {a : Expr} {A : Den} {pos : Pos} (ha : DE X W a A) : DE X W (.BoolOp op [a] pos) A := pe_one ha
theorem de_and {a b : Expr} {rest : List Expr} {A B : Den} {pos : Pos} (ha : DE X W a A) (hb : DE X W (.BoolOp .And (b :: rest) pos) B) : DE X W (.BoolOp .And (a :: b :: rest) pos) (eAnd A B) := (pe_and ha hb).weak <| by
  rintro σ H Q ⟨G, m, w, r, S, E, h⟩
  refine ⟨G, m, w, r, S, E, (okO.bind h).mono ?_⟩
  rintro x H1 ⟨G1, m1, w1, d, e1, S1, R1, h1⟩
  cases q : asB d with
  | none => rw [q] at h1; exact h1.elim
  | some b =>
    rw [q] at h1
    refine ⟨b, rep_bl R1 q, ?_⟩
    have h2 : okD X.K X.mg (fun c d H => W c d σ H) G1 m1 H1 Q (if b = true then B r w1 else .ok (.bl false) w1) := h1
    cases b with
    | true => rw [if_pos rfl] at h2 ⊢; exact ⟨G1, m1, w1, r, S1, E.ext e1, h2⟩
    | false => rw [if_neg Bool.false_ne_true] at h2 ⊢; exact h2 G1 m1 H1 _ Ext.refl S1 (.bl _)
theorem de_or {a b : Expr} {rest : List Expr} {A B : Den} {pos : Pos} (ha : DE X W a A) (hb : DE X W (.BoolOp .Or (b :: rest) pos) B) : DE X W (.BoolOp .Or (a :: b :: rest) pos) (eOr A B) := (pe_or ha hb).weak <| by
  rintro σ H Q ⟨G, m, w, r, S, E, h⟩
  refine ⟨G, m, w, r, S, E, (okO.bind h).mono ?_⟩
  rintro x H1 ⟨G1, m1, w1, d, e1, S1, R1, h1⟩
  cases q : asB d with
  | none => rw [q] at h1; exact h1.elim
  | some b =>
    rw [q] at h1
    refine ⟨b, rep_bl R1 q, ?_⟩
    have h2 : okD X.K X.mg (fun c d H => W c d σ H) G1 m1 H1 Q (if b = true then .ok (.bl true) w1 else B r w1) := h1
    cases b with
    | true => rw [if_pos rfl] at h2 ⊢; exact h2 G1 m1 H1 _ Ext.refl S1 (.bl _)
    | false => rw [if_neg Bool.false_ne_true] at h2 ⊢; exact ⟨G1, m1, w1, r, S1, E.ext e1, h2⟩
def eIf (T : DenT) (A B : Den) : Den := fun r w => (T r w).bnd fun b w1 => if b = true then A r w1 else B r w1
theorem de_not {a : Expr} {A : Den} {pos : Pos} (ha : DE X W a A) : DE X W (.UnaryOp .Not a pos) (eNot A) := (pe_not ha).weak <| by
  rintro σ H Q ⟨G, m, w, r, S, E, h⟩
  refine ⟨G, m, w, r, S, E, (okO.bind h).mono ?_⟩
  rintro x H1 ⟨G1, m1, w1, d, e1, S1, R1, h1⟩
  cases q : asB d with
  | none => rw [q] at h1; exact h1.elim
  | some b =>
    rw [q] at h1
    exact ⟨b, rep_bl R1 q, h1 G1 m1 H1 _ Ext.refl S1 (.bl _)⟩
theorem de_ifExp {c a b : Expr} {T : DenT} {A B : Den} {pos : Pos} (hc : DT X W c T) (ha : DE X W a A) (hb : DE X W b B) : DE X W (.IfExp c a b pos) (eIf T A B) := (pe_ifExp hc ha hb).weak <| by
  rintro σ H Q ⟨G, m, w, r, S, E, h⟩
  refine ⟨G, m, w, r, S, E, (okO.bind h).mono ?_⟩
  rintro b H1 ⟨G1, m1, w1, d, e1, S1, R1, h1⟩
  subst R1
  cases b with
  | true => rw [if_pos rfl] at h1 ⊢; exact ⟨G1, m1, w1, r, S1, E.ext e1, h1⟩
  | false => rw [if_neg Bool.false_ne_true] at h1 ⊢; exact ⟨G1, m1, w1, r, S1, E.ext e1, h1⟩
end
end Dn
/-! Dn3: the operations on data. -/
namespace Dn
open PySem PySem.Spec PyProof.Rows L2

/-! ### reading -/
/-- a list: a frozen one, or a cell's -/
def asL (d : D) (w : List Cell) : Option (List D) := match d with
  | .lst ds => some ds
  | .cel n => match w[n]? with
    | some (.lst ds) => some ds
    | _ => none
  | _ => none
def asT (d : D) : Option (List D) := match d with
  | .tup ds => some ds
  | _ => none
/-- a list, a tuple, the script -/
def asQ (d : D) (w : List Cell) : Option (List D) := match d with
  | .lst ds => some ds
  | .tup ds => some ds
  | .scr ds => some ds
  | .cel n => match w[n]? with
    | some (.lst ds) => some ds
    | _ => none
  | _ => none
section
variable {K : PySem.W.Frag} {mg : Str → Option Value} {G H : Hp} {m : List Addr} {w : List Cell} {v : V} {d : D} {ds : List D}
theorem rep_asL (S : Sim K mg G m w H) (r : Rep K G m v d) (e : asL d w = some ds) : ∃ a vs, v = .ref a ∧ H a = some (.lst vs) ∧ RepL K G m vs ds := by
  cases r with
  | lst h q => cases e; exact ⟨_, _, rfl, S.sub _ _ h, q⟩
  | @cel n a h =>
    unfold asL at e
    cases q : w[n]? with
    | none => simp only [q] at e; cases e
    | some c =>
      cases c with
      | lst xs =>
        simp only [q] at e
        cases e
        obtain ⟨vs, h1, h2⟩ := S.cel n a _ h q
        exact ⟨a, vs, rfl, h1, h2⟩
      | _ => simp only [q] at e; cases e
  | _ => cases e
theorem rep_asT (S : Sim K mg G m w H) (r : Rep K G m v d) (e : asT d = some ds) : ∃ a vs, v = .ref a ∧ SqT K H a vs ∧ RepL K G m vs ds := by
  cases r with
  | tup h q => cases e; exact ⟨_, _, rfl, SqT.up S.sub h, q⟩
  | _ => cases e
theorem rep_asQ (S : Sim K mg G m w H) (r : Rep K G m v d) (e : asQ d w = some ds) : ∃ a vs, v = .ref a ∧ (SqL K H a vs ∨ SqT K H a vs) ∧ RepL K G m vs ds := by
  cases r with
  | tup h q => cases e; exact ⟨_, _, rfl, .inr (SqT.up S.sub h), q⟩
  | lst h q => cases e; exact ⟨_, _, rfl, .inl (SqL.of (S.sub _ _ h)), q⟩
  | scr h q => cases e; exact ⟨_, _, rfl, .inl (SqL.up S.sub h), q⟩
  | @cel n a h =>
    have e' : asL (.cel n) w = some ds := e
    obtain ⟨b, vs, h0, h1, h2⟩ := rep_asL S (.cel h : Rep K G m (.ref a) (.cel n)) e'
    cases h0
    exact ⟨a, vs, rfl, .inl (SqL.of h1), h2⟩
  | _ => cases e
/-- a new thing, frozen -/
theorem new_lst (S : Sim K mg G m w H) {vs : List V} {Q : VK} (r : RepL K G m vs ds) (k : ∀ G' H' v, Ext G m H G' m H' → Sim K mg G' m w H' → Rep K G' m v (.lst ds) → Q v H') : ∀ p, H p = none → Q (.ref p) (upd H p (.lst vs)) :=
  fun p hp => k _ _ _ (ext_newF S hp _) (S.newF hp _) (.lst upd_same (r.ext (ext_newF S hp _)))
theorem new_tup (S : Sim K mg G m w H) {vs : List V} {Q : VK} (r : RepL K G m vs ds) (k : ∀ G' H' v, Ext G m H G' m H' → Sim K mg G' m w H' → Rep K G' m v (.tup ds) → Q v H') : ∀ p, H p = none → Q (.ref p) (upd H p (.tup vs)) :=
  fun p hp => k _ _ _ (ext_newF S hp _) (S.newF hp _) (.tup (SqT.of upd_same) (r.ext (ext_newF S hp _)))
end

/-! ### as the library's data, for == and in -/
mutual
def toPy : D → Option PyData
  | .non => some .none
  | .bl b => some (.bool b)
  | .int i => some (.int i)
  | .str x => some (.str x)
  | .tup ds => (toPys ds).map .tuple
  | .lst ds => (toPys ds).map .list
  | .scr ds => (toPys ds).map .list
  | .dct _ => none
  | .dcT _ => none
  | .cel _ => none
def toPys : List D → Option (List PyData)
  | [] => some []
  | d :: ds => (toPy d).bind fun p => (toPys ds).map fun ps => p :: ps
end
/-- with one cell's list at the top -/
def toPyW (d : D) (w : List Cell) : Option PyData := match d with
  | .cel n => match w[n]? with
    | some (.lst ds) => (toPys ds).map .list
    | _ => none
  | d => toPy d
section
variable {K : PySem.W.Frag} {mg : Str → Option Value} {G H : Hp} {m : List Addr} {w : List Cell}
mutual
theorem dp_of (sub : ∀ a o, G a = some o → H a = some o) : ∀ {d : D} {v : V} {p : PyData}, Rep K G m v d → toPy d = some p → Dp K H v p
  | .non, _, _, r, e => by cases r; simp only [toPy] at e; cases e; exact .non
  | .bl b, _, _, r, e => by cases r; simp only [toPy] at e; cases e; exact .bl b
  | .int i, _, _, r, e => by cases r; simp only [toPy] at e; cases e; exact .int i
  | .str x, _, _, r, e => by cases r; simp only [toPy] at e; cases e; exact .str x
  | .tup ds, _, _, r, e => by
    cases r with
    | tup h q =>
      simp only [toPy, Option.map_eq_some_iff] at e
      obtain ⟨ps, e1, rfl⟩ := e
      exact .tup (SqT.up sub h) (dps_of sub q e1)
  | .lst ds, _, _, r, e => by
    cases r with
    | lst h q =>
      simp only [toPy, Option.map_eq_some_iff] at e
      obtain ⟨ps, e1, rfl⟩ := e
      exact .lst (SqL.of (sub _ _ h)) (dps_of sub q e1)
  | .scr ds, _, _, r, e => by
    cases r with
    | scr h q =>
      simp only [toPy, Option.map_eq_some_iff] at e
      obtain ⟨ps, e1, rfl⟩ := e
      exact .lst (SqL.up sub h) (dps_of sub q e1)
  | .dct _, _, _, _, e => by simp only [toPy] at e; cases e
  | .dcT _, _, _, _, e => by simp only [toPy] at e; cases e
  | .cel _, _, _, _, e => by simp only [toPy] at e; cases e
theorem dps_of (sub : ∀ a o, G a = some o → H a = some o) : ∀ {ds : List D} {vs : List V} {ps : List PyData}, RepL K G m vs ds → toPys ds = some ps → DpAll K H vs ps
  | [], _, _, r, e => by cases r; simp only [toPys] at e; cases e; exact .nil
  | d :: ds, _, _, r, e => by
    cases r with
    | cons r1 r2 =>
      simp only [toPys, Option.bind_eq_some_iff, Option.map_eq_some_iff] at e
      obtain ⟨p, e1, ps, e2, rfl⟩ := e
      exact .cons (dp_of sub r1 e1) (dps_of sub r2 e2)
end
theorem dpW_of (S : Sim K mg G m w H) {d : D} {v : V} {p : PyData} (r : Rep K G m v d) (e : toPyW d w = some p) : Dp K H v p := by
  cases r with
  | @cel n a h =>
    unfold toPyW at e
    cases q : w[n]? with
    | none => simp only [q] at e; cases e
    | some c =>
      cases c with
      | lst xs =>
        simp only [q, Option.map_eq_some_iff] at e
        obtain ⟨ps, e1, rfl⟩ := e
        obtain ⟨vs, h1, h2⟩ := S.cel n a _ h q
        exact .lst (SqL.of h1) (dps_of S.sub h2 e1)
      | _ => simp only [q] at e; cases e
  | non => exact dp_of (m := m) S.sub .non e
  | bl b => exact dp_of (m := m) S.sub (.bl b) e
  | int b => exact dp_of (m := m) S.sub (.int b) e
  | str b => exact dp_of (m := m) S.sub (.str b) e
  | tup h q => exact dp_of S.sub (.tup h q) e
  | lst h q => exact dp_of S.sub (.lst h q) e
  | scr h q => exact dp_of S.sub (.scr h q) e
  | dct h q => exact dp_of S.sub (.dct h q) e
  | dcT h q => exact dp_of S.sub (.dcT h q) e
end
/-- two scalars that == tells by being the same -/
def scalD : D → D → Option Bool
  | .non, .non => some true
  | .non, .int _ => some false | .int _, .non => some false | .non, .bl _ => some false | .bl _, .non => some false | .non, .str _ => some false | .str _, .non => some false
  | .int i, .int j => some (decide (i = j))
  | .bl a, .bl b => some (decide (a = b))
  | .str x, .str y => some (decide (x = y))
  | .int _, .str _ => some false | .str _, .int _ => some false | .bl _, .str _ => some false | .str _, .bl _ => some false
  | _, _ => none
def eqB (x y : D) (w : List Cell) : Option Bool := match scalD x y with
  | some b => some b
  | none => (toPyW x w).bind fun d => (toPyW y w).bind fun e => if SeqAt.shaped d = true ∧ SeqAt.shaped e = true then some (PyData.eqv d e) else none
def eqD : Op2 := fun x y w => (eqB x y w).map .bl
def neD : Op2 := fun x y w => (eqB x y w).map fun b => .bl (!b)
def inB (x y : D) (w : List Cell) : Option Bool := match toPyW y w with
  | some (.list es) => (toPyW x w).bind fun d => if SeqAt.shaped d = true ∧ SeqAt.shaped (.list es) = true then some (es.any fun z => PyData.eqv z d) else none
  | some (.tuple es) => (toPyW x w).bind fun d => if SeqAt.shaped d = true ∧ SeqAt.shaped (.tuple es) = true then some (es.any fun z => PyData.eqv z d) else none
  | _ => none
theorem rep_scal {K : PySem.W.Frag} {G : Hp} {m : List Addr} {x y : V} {d e : D} {b : Bool} (r : Rep K G m x d) (q : Rep K G m y e) (h : scalD d e = some b) : scal x y = true ∧ decide (x = y) = b := by
  cases r <;> cases q <;> simp [scalD] at h <;> subst h <;> simp [scal]
section
variable {X : Cx} {W : WX}
theorem op_eqA (hu : X.A.units + 65 < cLine) : OpD X (compareOp .Eq) eqD := OpR.weak (X := X) (OpR.or op_eq (op_eqD (X := X) (by omega))) fun x y H Q ⟨G, m, w, d, e, r, S, R1, R2, h, k⟩ => by
  unfold eqD at h
  obtain ⟨b, h1, rfl⟩ := Option.map_eq_some_iff.mp h
  unfold eqB at h1
  cases q : scalD d e with
  | some c =>
    simp only [q] at h1
    cases h1
    obtain ⟨a1, a2⟩ := rep_scal R1 R2 q
    exact .inl ⟨a1, by rw [a2]; exact k G H _ Ext.refl S (.bl _)⟩
  | none =>
    simp only [q, Option.bind_eq_some_iff] at h1
    obtain ⟨p, e1, p2, e2, h2⟩ := h1
    split at h2
    · rename_i z
      cases h2
      exact .inr ⟨p, p2, dpW_of S R1 e1, dpW_of S R2 e2, z.1, z.2, k G H _ Ext.refl S (.bl _)⟩
    · cases h2
theorem op_neA (hu : X.A.units + 65 < cLine) : OpD X (compareOp .NotEq) neD := OpR.weak (X := X) (OpR.or op_ne (op_neD (X := X) (by omega))) fun x y H Q ⟨G, m, w, d, e, r, S, R1, R2, h, k⟩ => by
  unfold neD at h
  obtain ⟨b, h1, rfl⟩ := Option.map_eq_some_iff.mp h
  unfold eqB at h1
  cases q : scalD d e with
  | some c =>
    simp only [q] at h1
    cases h1
    obtain ⟨a1, a2⟩ := rep_scal R1 R2 q
    exact .inl ⟨a1, by rw [a2]; exact k G H _ Ext.refl S (.bl _)⟩
  | none =>
    simp only [q, Option.bind_eq_some_iff] at h1
    obtain ⟨p, e1, p2, e2, h2⟩ := h1
    split at h2
    · rename_i z
      cases h2
      exact .inr ⟨p, p2, dpW_of S R1 e1, dpW_of S R2 e2, z.1, z.2, k G H _ Ext.refl S (.bl _)⟩
    · cases h2
/-! in: lists and tuples of data; one text in another; keys of dicts -/
def rInTD (K : PySem.W.Frag) (neg : Bool) : R2 := fun x y H Q => ∃ d ds, Dp K H x d ∧ Dp K H y (.tuple ds) ∧ SeqAt.shaped d = true ∧ SeqAt.shaped (.tuple ds) = true ∧ Q (.bl (if neg = true then !(ds.any fun z => PyData.eqv z d) else ds.any fun z => PyData.eqv z d)) H
theorem room_inT {A : Around} {d : PyData} {ds : List PyData} (h : SeqAt.shaped d = true) (hu : A.units + 65 < cLine) : A.units + 1 + min (PyData.depthAll ds) d.depth < cLine := by
  have h1 := SeqAt.depth_of_shaped h
  have h2 : min (PyData.depthAll ds) d.depth ≤ d.depth := Nat.min_le_right _ _
  omega
theorem op_inTD (hu : X.A.units + 65 < cLine) : OpR X (compareOp .In) (rInTD X.K false) := by
  intro pins s σ H x y v u Q I rx ry h
  obtain ⟨d, ds, hd, he, sd, se, q⟩ := h
  obtain ⟨as, r1⟩ := Dp.reads I d x v hd rx
  obtain ⟨bs, r2⟩ := Dp.reads I (.tuple ds) y u he ry
  exact SeqAt.in_tuple_reads r2 r1 (SeqAt.canLay_of_shaped se) (SeqAt.canLay_of_shaped sd) (room_inT sd hu) ⟨.bl _, H, I, rfl, q⟩
theorem op_notInTD (hu : X.A.units + 65 < cLine) : OpR X (compareOp .NotIn) (rInTD X.K true) := by
  intro pins s σ H x y v u Q I rx ry h
  obtain ⟨d, ds, hd, he, sd, se, q⟩ := h
  obtain ⟨as, r1⟩ := Dp.reads I d x v hd rx
  obtain ⟨bs, r2⟩ := Dp.reads I (.tuple ds) y u he ry
  exact SeqAt.notIn_tuple_reads r2 r1 (SeqAt.canLay_of_shaped se) (SeqAt.canLay_of_shaped sd) (room_inT sd hu) ⟨.bl _, H, I, rfl, q⟩
end
/-! ### dicts -/
def keyOf : D → Option Key
  | .int i => some (.inl i)
  | .str x => some (.inr x)
  | _ => none
def asK (d : D) (w : List Cell) : Option (List (Key × D)) := match d with
  | .dct kd => some kd
  | .cel n => match w[n]? with
    | some (.dct kd _) => some kd
    | _ => none
  | _ => none
def look {κ : Type} [DecidableEq κ] (kd : List (κ × D)) (k : κ) : Option D := (kd.find? fun kv => decide (kv.1 = k)).map (·.2)
section
variable {K : PySem.W.Frag} {mg : Str → Option Value} {G H : Hp} {m : List Addr} {w : List Cell}
theorem rep_key {v : V} {d : D} {k : Key} (r : Rep K G m v d) (e : keyOf d = some k) : v = kV k := by
  cases r <;> simp [keyOf] at e <;> subst e <;> rfl
theorem rep_asK (S : Sim K mg G m w H) {v : V} {d : D} {kd : List (Key × D)} (r : Rep K G m v d) (e : asK d w = some kd) : ∃ a kv, v = .ref a ∧ Rd H a (.dK kv) ∧ RepK K G m kv kd := by
  cases r with
  | dct h q => cases e; exact ⟨_, _, rfl, .inr ⟨_, S.sub _ _ h⟩, q⟩
  | @cel n a h =>
    unfold asK at e
    cases q : w[n]? with
    | none => simp only [q] at e; cases e
    | some c =>
      cases c with
      | dct xs lk =>
        simp only [q] at e
        cases e
        obtain ⟨kv, h1, h2⟩ := S.cel n a _ h q
        refine ⟨a, kv, rfl, ?_, h1⟩
        split at h2
        · obtain ⟨od, h2⟩ := h2; exact .inr ⟨od, h2⟩
        · exact .inl h2
      | _ => simp only [q] at e; cases e
  | _ => cases e
theorem RepK.look {k : Key} : ∀ {kv : List (Key × V)} {kd : List (Key × D)}, RepK K G m kv kd → (∀ d, Dn.look kd k = some d → ∃ v, valV kv k = some v ∧ Rep K G m v d) ∧ (Dn.look kd k = none → valV kv k = none)
  | _, _, .nil => ⟨fun d h => (by cases h), fun _ => rfl⟩
  | _, _, .cons (k := k') r rs => by
    by_cases e : k' = k
    · subst e
      refine ⟨fun d h => ?_, fun h => ?_⟩
      · simp [Dn.look] at h; subst h; exact ⟨_, by simp [valV], r⟩
      · simp [Dn.look] at h
    · have ih := RepK.look (k := k) rs
      refine ⟨fun d h => ?_, fun h => ?_⟩
      · simp only [Dn.look, List.find?_cons, decide_eq_false e] at h
        obtain ⟨v, h1, h2⟩ := ih.1 d h
        exact ⟨v, by simp only [valV, List.find?_cons, decide_eq_false e]; exact h1, h2⟩
      · simp only [Dn.look, List.find?_cons, decide_eq_false e] at h
        simp only [valV, List.find?_cons, decide_eq_false e]
        exact ih.2 h
end
/-! ### in -/
def inAny (x y : D) (w : List Cell) : Option Bool := match y with
  | .str z => match x with
    | .str t => some (!(Builtin.Str.occurrences z t 0 z.length 1).isEmpty)
    | _ => none
  | y => match asK y w with
    | some kd => (keyOf x).map fun k => (look kd k).isSome
    | none => inB x y w
def inD : Op2 := fun x y w => (inAny x y w).map .bl
def notInD : Op2 := fun x y w => (inAny x y w).map fun b => .bl (!b)
/-- what inAny tells, in the readings -/
def rInAll (K : PySem.W.Frag) (neg : Bool) : R2 := fun x y H Q => ∃ b, Q (.bl (if neg = true then !b else b)) H ∧
  ((∃ i j, x = .str i ∧ y = .str j ∧ b = !(Builtin.Str.occurrences j i 0 j.length 1).isEmpty) ∨
   (∃ a o, y = .ref a ∧ DGet H a x o ∧ b = o.isSome) ∨
   (∃ d ds, Dp K H x d ∧ Dp K H y (.list ds) ∧ SeqAt.shaped d = true ∧ SeqAt.shaped (.list ds) = true ∧ b = ds.any fun z => PyData.eqv z d) ∨
   ∃ d ds, Dp K H x d ∧ Dp K H y (.tuple ds) ∧ SeqAt.shaped d = true ∧ SeqAt.shaped (.tuple ds) = true ∧ b = ds.any fun z => PyData.eqv z d)
theorem inAny_ok {K : PySem.W.Frag} {mg : Str → Option Value} {G H : Hp} {m : List Addr} {w : List Cell} (S : Sim K mg G m w H) {x y : V} {d e : D} {b : Bool} (R1 : Rep K G m x d) (R2 : Rep K G m y e) (h : inAny d e w = some b) :
    (∃ i j, x = .str i ∧ y = .str j ∧ b = !(Builtin.Str.occurrences j i 0 j.length 1).isEmpty) ∨
    (∃ a o, y = .ref a ∧ DGet H a x o ∧ b = o.isSome) ∨
    (∃ d ds, Dp K H x d ∧ Dp K H y (.list ds) ∧ SeqAt.shaped d = true ∧ SeqAt.shaped (.list ds) = true ∧ b = ds.any fun z => PyData.eqv z d) ∨
    ∃ d ds, Dp K H x d ∧ Dp K H y (.tuple ds) ∧ SeqAt.shaped d = true ∧ SeqAt.shaped (.tuple ds) = true ∧ b = ds.any fun z => PyData.eqv z d := by
  have key : ∀ kd, asK e w = some kd → ∀ k, keyOf d = some k → b = (look kd k).isSome → ∃ a o, y = .ref a ∧ DGet H a x o ∧ b = o.isSome := fun kd h1 k h2 h3 => by
    obtain ⟨a, kv, rfl, rd, rk⟩ := rep_asK S R2 h1
    have ex := rep_key R1 h2
    refine ⟨a, valV kv k, rfl, .inl ⟨kv, k, rd, ex, rfl⟩, ?_⟩
    have q := RepK.look (k := k) rk
    cases z : look kd k with
    | none => rw [h3, z, q.2 z] <;> rfl
    | some u => obtain ⟨v, z1, _⟩ := q.1 u z; rw [h3, z, z1] <;> rfl
  have dat : inB d e w = some b → (∃ d ds, Dp K H x d ∧ Dp K H y (.list ds) ∧ SeqAt.shaped d = true ∧ SeqAt.shaped (.list ds) = true ∧ b = ds.any fun z => PyData.eqv z d) ∨
    ∃ d ds, Dp K H x d ∧ Dp K H y (.tuple ds) ∧ SeqAt.shaped d = true ∧ SeqAt.shaped (.tuple ds) = true ∧ b = ds.any fun z => PyData.eqv z d := fun h => by
    unfold inB at h
    split at h
    · rename_i es he
      obtain ⟨p, e1, h⟩ := Option.bind_eq_some_iff.mp h
      split at h
      · rename_i z; cases h; exact .inl ⟨p, es, dpW_of S R1 e1, dpW_of S R2 he, z.1, z.2, rfl⟩
      · cases h
    · rename_i es he
      obtain ⟨p, e1, h⟩ := Option.bind_eq_some_iff.mp h
      split at h
      · rename_i z; cases h; exact .inr ⟨p, es, dpW_of S R1 e1, dpW_of S R2 he, z.1, z.2, rfl⟩
      · cases h
    · cases h
  have main : (match asK e w with | some kd => (keyOf d).map fun k => (look kd k).isSome | none => inB d e w) = some b → (∃ a o, y = .ref a ∧ DGet H a x o ∧ b = o.isSome) ∨
    (∃ d ds, Dp K H x d ∧ Dp K H y (.list ds) ∧ SeqAt.shaped d = true ∧ SeqAt.shaped (.list ds) = true ∧ b = ds.any fun z => PyData.eqv z d) ∨
    ∃ d ds, Dp K H x d ∧ Dp K H y (.tuple ds) ∧ SeqAt.shaped d = true ∧ SeqAt.shaped (.tuple ds) = true ∧ b = ds.any fun z => PyData.eqv z d := fun h => by
    split at h
    · rename_i kd hk
      obtain ⟨k, h1, h2⟩ := Option.map_eq_some_iff.mp h
      exact .inl (key kd hk k h1 h2.symm)
    · exact .inr (dat h)
  cases e with
  | str z =>
    cases d with
    | str t => cases R1; cases R2; simp only [inAny] at h; cases h; exact .inl ⟨t, z, rfl, rfl, rfl⟩
    | _ => simp [inAny] at h
  | _ => exact .inr (main h)
section
variable {X : Cx} {W : WX}
theorem op_inA (hu : X.A.units + 65 < cLine) : OpD X (compareOp .In) inD := by
  intro pins s σ H x y v u Q I rx ry ⟨G, m, w, d, e, r, S, R1, R2, h, k⟩
  obtain ⟨b, h1, rfl⟩ := Option.map_eq_some_iff.mp h
  have kk := k G H _ Ext.refl S (.bl b)
  rcases inAny_ok S R1 R2 h1 with ⟨i, j, e1, e2, rfl⟩ | ⟨a, o, e1, g, rfl⟩ | ⟨d, ds, q1, q2, q3, q4, rfl⟩ | ⟨d, ds, q1, q2, q3, q4, rfl⟩
  · exact op_in_str pins s σ H x y v u Q I rx ry ⟨i, j, e1, e2, kk⟩
  · subst e1
    cases (show u = Value.ref a from ry)
    exact d_in (by omega) I g rx fun s' I' => ⟨.bl o.isSome, H, I', rfl, kk⟩
  · exact op_inD hu pins s σ H x y v u Q I rx ry ⟨d, ds, q1, q2, q3, q4, kk⟩
  · exact op_inTD hu pins s σ H x y v u Q I rx ry ⟨d, ds, q1, q2, q3, q4, kk⟩
theorem op_notInA (hu : X.A.units + 65 < cLine) : OpD X (compareOp .NotIn) notInD := by
  intro pins s σ H x y v u Q I rx ry ⟨G, m, w, d, e, r, S, R1, R2, h, k⟩
  obtain ⟨b, h1, rfl⟩ := Option.map_eq_some_iff.mp h
  have kk := k G H _ Ext.refl S (.bl (!b))
  rcases inAny_ok S R1 R2 h1 with ⟨i, j, e1, e2, rfl⟩ | ⟨a, o, e1, g, rfl⟩ | ⟨d, ds, q1, q2, q3, q4, rfl⟩ | ⟨d, ds, q1, q2, q3, q4, rfl⟩
  · exact op_notIn_str pins s σ H x y v u Q I rx ry ⟨i, j, e1, e2, kk⟩
  · subst e1
    cases (show u = Value.ref a from ry)
    exact d_notIn (by omega) I g rx fun s' I' => ⟨.bl (!o.isSome), H, I', rfl, kk⟩
  · exact op_notInD hu pins s σ H x y v u Q I rx ry ⟨d, ds, q1, q2, q3, q4, kk⟩
  · exact op_notInTD hu pins s σ H x y v u Q I rx ry ⟨d, ds, q1, q2, q3, q4, kk⟩
/-! ### is None -/
def isD : Op2 := fun x y _ => match y with
  | .non => match x with
    | .non => some (.bl true)
    | _ => some (.bl false)
  | _ => none
def isNotD : Op2 := fun x y _ => match y with
  | .non => match x with
    | .non => some (.bl false)
    | _ => some (.bl true)
  | _ => none
theorem op_isA : OpD X (compareOp .Is) isD := OpR.weak (X := X) op_isN fun x y H Q ⟨G, m, w, d, e, r, S, R1, R2, h, k⟩ => by
  cases e <;> simp [isD] at h
  cases R2
  refine ⟨rfl, ?_⟩
  cases R1 <;> simp at h <;> subst h <;> exact k G H _ Ext.refl S (.bl _)
theorem op_isNotA : OpD X (compareOp .IsNot) isNotD := OpR.weak (X := X) op_notN fun x y H Q ⟨G, m, w, d, e, r, S, R1, R2, h, k⟩ => by
  cases e <;> simp [isNotD] at h
  cases R2
  refine ⟨rfl, ?_⟩
  cases R1 <;> simp at h <;> subst h <;> exact k G H _ Ext.refl S (.bl _)
/-! ### order -/
def cmpI (f : Int → Int → Bool) : Op2 := fun x y _ => match x, y with
  | .int i, .int j => some (.bl (f i j))
  | _, _ => none
theorem cmpI_ok {K : PySem.W.Frag} {mg : Str → Option Value} {f : Int → Int → Bool} {x y : V} {H : Hp} {Q : VK} (h : rD K mg (cmpI f) x y H Q) : ∃ i j, x = .int i ∧ y = .int j ∧ Q (.bl (f i j)) H := by
  obtain ⟨G, m, w, d, e, r, S, R1, R2, h, k⟩ := h
  cases d <;> cases e <;> simp [cmpI] at h
  subst h
  cases R1; cases R2
  exact ⟨_, _, rfl, rfl, k G H _ Ext.refl S (.bl _)⟩
abbrev leD : Op2 := cmpI fun i j => decide (i ≤ j)
abbrev gtD : Op2 := cmpI fun i j => decide (j < i)
abbrev geD : Op2 := cmpI fun i j => decide (j ≤ i)
theorem op_leA : OpD X (compareOp .LtE) leD := OpR.weak (X := X) op_le fun x y H Q h => cmpI_ok h
theorem op_gtA : OpD X (compareOp .Gt) gtD := OpR.weak (X := X) op_gt fun x y H Q h => cmpI_ok h
theorem op_geA : OpD X (compareOp .GtE) geD := OpR.weak (X := X) op_ge fun x y H Q h => cmpI_ok h
def ltD : Op2 := fun x y _ => match x, y with
  | .int i, .int j => some (.bl (decide (i < j)))
  | .str a, .str b => some (.bl (decide (a.cps.toList < b.cps.toList)))
  | _, _ => none
theorem op_ltA : OpD X (compareOp .Lt) ltD := OpR.weak (X := X) (OpR.or op_lt op_lt_str) fun x y H Q ⟨G, m, w, d, e, r, S, R1, R2, h, k⟩ => by
  cases d <;> cases e <;> simp only [ltD] at h <;> first | (cases h; done) | skip
  · cases h; cases R1; cases R2; exact .inl ⟨_, _, rfl, rfl, k G H _ Ext.refl S (.bl _)⟩
  · cases h; cases R1; cases R2; exact .inr ⟨_, _, rfl, rfl, k G H _ Ext.refl S (.bl _)⟩
/-! ### arithmetic -/
def addD : Op2 := fun x y w => match x, y with
  | .int i, .int j => some (.int (i + j))
  | .str a, .str b => if a.length + b.length ≤ sizeLine then some (.str (a ++ b)) else none
  | .tup a, .tup b => if a.length + b.length ≤ sizeLine then some (.tup (a ++ b)) else none
  | x, y => (asL x w).bind fun a => (asL y w).bind fun b => if a.length + b.length ≤ sizeLine then some (.lst (a ++ b)) else none
theorem op_addA : OpD X (binaryOp .Add) addD := by
  intro pins s σ H x y v u Q I rx ry ⟨G, m, w, d, e, r, S, R1, R2, h, k⟩
  have lists : ((asL d w).bind fun a => (asL e w).bind fun b => if a.length + b.length ≤ sizeLine then some (.lst (a ++ b)) else none) = some r → wpAny (model X.prog X.w) X.A (binaryOp .Add v u) (EP X pins σ Q) X.xe s := fun h => by
    obtain ⟨a, e1, h⟩ := Option.bind_eq_some_iff.mp h
    obtain ⟨b, e2, h⟩ := Option.bind_eq_some_iff.mp h
    split at h
    · rename_i hz
      cases h
      obtain ⟨p, vs, rfl, hp, rl⟩ := rep_asL S R1 e1
      obtain ⟨p2, vs2, rfl, hp2, rl2⟩ := rep_asL S R2 e2
      exact op_cat pins s σ H _ _ v u Q I rx ry ⟨p, p2, vs, vs2, rfl, rfl, hp, hp2, by rw [rl.length, rl2.length]; exact hz, new_lst S (rl.append rl2) k⟩
    · cases h
  cases d <;> cases e <;> simp only [addD] at h <;> first | exact lists h | skip
  · cases h; cases R1; cases R2
    exact op_add pins s σ H _ _ v u Q I rx ry ⟨_, _, rfl, rfl, k G H _ Ext.refl S (.int _)⟩
  · split at h
    · rename_i hz
      cases h; cases R1; cases R2
      exact op_add_str pins s σ H _ _ v u Q I rx ry ⟨_, _, rfl, rfl, hz, k G H _ Ext.refl S (.str _)⟩
    · cases h
  · split at h
    · rename_i hz
      cases h
      cases R1 with
      | @tup a xs ds ha ra =>
        cases R2 with
        | @tup b ys es hb rb =>
          refine op_catA pins s σ H _ _ v u Q I rx ry ⟨a, b, xs, ys, rfl, rfl, SqT.up S.sub ha, SqT.up S.sub hb, by rw [ra.length, rb.length]; exact hz, fun q => ?_, fun q1 q2 => ?_, fun q1 q2 => new_tup S (ra.append rb) k⟩
          · have := (ra.nil_iff).mp q
            subst this
            exact k G H _ Ext.refl S (.tup hb rb)
          · have := (rb.nil_iff).mp q2
            subst this
            rw [List.append_nil] at k
            exact k G H _ Ext.refl S (.tup ha ra)
    · cases h
def subD : Op2 := fun x y _ => match x, y with
  | .int i, .int j => some (.int (i - j))
  | _, _ => none
theorem op_subA : OpD X (binaryOp .Sub) subD := OpR.weak (X := X) op_sub fun x y H Q ⟨G, m, w, d, e, r, S, R1, R2, h, k⟩ => by
  cases d <;> cases e <;> simp [subD] at h
  subst h; cases R1; cases R2; exact ⟨_, _, rfl, rfl, k G H _ Ext.refl S (.int _)⟩
def mulD : Op2 := fun x y _ => match x, y with
  | .int i, .int j => if i.natAbs.log2 + j.natAbs.log2 < 1000000 then some (.int (i * j)) else none
  | _, _ => none
theorem op_mulA : OpD X (binaryOp .Mult) mulD := OpR.weak (X := X) op_mulW fun x y H Q ⟨G, m, w, d, e, r, S, R1, R2, h, k⟩ => by
  cases d <;> cases e <;> simp only [mulD] at h <;> first | (cases h; done) | skip
  split at h
  · rename_i z
    cases h; cases R1; cases R2; exact ⟨_, _, rfl, rfl, z, k G H _ Ext.refl S (.int _)⟩
  · cases h
def fdivD : Op2 := fun x y _ => match x, y with
  | .int i, .int j => if 0 < j ∧ j.natAbs.log2 < 9000 then some (.int (i / j)) else none
  | _, _ => none
theorem op_fdivA : OpD X (binaryOp .FloorDiv) fdivD := OpR.weak (X := X) op_fdivW fun x y H Q ⟨G, m, w, d, e, r, S, R1, R2, h, k⟩ => by
  cases d <;> cases e <;> simp only [fdivD] at h <;> first | (cases h; done) | skip
  split at h
  · rename_i z
    cases h; cases R1; cases R2; exact ⟨_, _, rfl, rfl, z, k G H _ Ext.refl S (.int _)⟩
  · cases h
def modD : Op2 := fun x y _ => match x, y with
  | .int i, .int j => if 0 < j then some (.int (i % j)) else none
  | _, _ => none
theorem op_modA : OpD X (binaryOp .Mod) modD := OpR.weak (X := X) op_mod fun x y H Q ⟨G, m, w, d, e, r, S, R1, R2, h, k⟩ => by
  cases d <;> cases e <;> simp only [modD] at h <;> first | (cases h; done) | skip
  split at h
  · rename_i z
    cases h; cases R1; cases R2; exact ⟨_, _, rfl, rfl, z, k G H _ Ext.refl S (.int _)⟩
  · cases h
def powD : Op2 := fun x y _ => match x, y with
  | .int i, .int j => if 0 ≤ j ∧ Builtin.Int.intBits i * j.toNat ≤ 134217728 then some (.int (i ^ j.toNat)) else none
  | _, _ => none
theorem op_powA : OpD X (binaryOp .Pow) powD := by
  intro pins s σ H x y v u Q I rx ry ⟨G, m, w, d, e, r, S, R1, R2, h, k⟩
  cases d <;> cases e <;> simp only [powD] at h <;> first | (cases h; done) | skip
  rename_i i j
  split at h
  · rename_i z
    cases h; cases R1; cases R2
    obtain ⟨t, rfl⟩ := rx
    obtain ⟨t', rfl⟩ := ry
    have e27 : (2 : Int) ^ 27 = 134217728 := rfl
    have z2 : (Builtin.Int.intBits i : Int) * j ≤ 2 ^ 27 := by
      rw [e27, ← Int.toNat_of_nonneg z.1]
      have h3 : ((Builtin.Int.intBits i * j.toNat : Nat) : Int) ≤ ((134217728 : Nat) : Int) := Int.ofNat_le.mpr z.2
      rw [Int.natCast_mul] at h3
      exact h3
    exact pow_int z.1 z2 ⟨.int _, H, I.tok _, ⟨_, rfl⟩, k G H _ Ext.refl S (.int _)⟩
  · cases h
end
end Dn
/-! Dn4: subscripts, slices, displays, calls of the text's own defs. -/
namespace Dn
open PySem PySem.Spec PyProof.Rows L2

/-! ### subscripts -/
def ixD : Op2 := fun x y w => match asQ x w with
  | some ds => match y with
    | .int i => atI ds i
    | _ => none
  | none => match x with
    | .str z => match y with
      | .int i => if z.length ≤ sizeLine then (atI z.cps.toList i).map fun c => .str ⟨#[c]⟩ else none
      | _ => none
    | x => (asK x w).bind fun kd => (keyOf y).bind fun k => look kd k
theorem rep_atI {K : PySem.W.Frag} {G : Hp} {m : List Addr} {vs : List V} {ds : List D} {i : Int} {d : D} (r : RepL K G m vs ds) (h : atI ds i = some d) : ∃ v, atI vs i = some v ∧ Rep K G m v d := by
  unfold atI at h ⊢
  obtain ⟨j, h1, h2⟩ := Option.bind_eq_some_iff.mp h
  obtain ⟨v, h3, h4⟩ := r.get h2
  exact ⟨v, by rw [r.length, h1]; exact h3, h4⟩
section
variable {X : Cx} {W : WX}
abbrev IxD (X : Cx) (f : Op2) : Prop := IxR X (rD X.K X.mg f)
theorem ix_dict (hu : X.A.units + 1 < cLine) : IxR X (fun x y H Q => ∃ a v, x = .ref a ∧ DGet H a y (some v) ∧ Q v H) := by
  intro value slice pins s σ H x y v u Q I rx ry ⟨a, z, e, g, q⟩ hs
  subst e
  cases (show v = Value.ref a from rx)
  exact tail_any (dict_typeIs I g) PySem.F.slot_dict_getitem.lookup (d_getItem hu I g ry fun w' s' I' r => ⟨z, H, I', r, q⟩) hs
theorem ix_any (hu : X.A.units + 65 < cLine) : IxD X ixD := by
  intro value slice pins s σ H x y v u Q I rx ry ⟨G, m, w, d, e, r, S, R1, R2, h, k⟩ hs
  unfold ixD at h
  cases q : asQ d w with
  | some ds =>
    simp only [q] at h
    cases e <;> simp only at h <;> first | (cases h; done) | skip
    rename_i i
    obtain ⟨a, vs, rfl, hq, rl⟩ := rep_asQ S R1 q
    obtain ⟨z, h1, h2⟩ := rep_atI rl h
    cases R2
    have kk := k G H z Ext.refl S h2
    exact ix_seq value slice pins s σ H _ _ v u Q I rx ry (hq.elim (fun hq => .inl ⟨a, vs, i, z, rfl, rfl, hq, h1, kk⟩) fun hq => .inr (.inl ⟨a, vs, i, z, rfl, rfl, hq, h1, kk⟩)) hs
  | none =>
    simp only [q] at h
    have dicts : ((asK d w).bind fun kd => (keyOf e).bind fun k => look kd k) = some r → wpAny (model X.prog X.w) X.A (subscriptTail value slice v u) (EP X pins σ Q) X.xe s := fun h => by
      obtain ⟨kd, h1, h⟩ := Option.bind_eq_some_iff.mp h
      obtain ⟨ky, h2, h⟩ := Option.bind_eq_some_iff.mp h
      obtain ⟨a, kv, rfl, rd, rk⟩ := rep_asK S R1 h1
      obtain ⟨z, h3, h4⟩ := (RepK.look (k := ky) rk).1 _ h
      exact ix_dict (by omega) value slice pins s σ H _ _ v u Q I rx ry ⟨a, z, rfl, .inl ⟨kv, ky, rd, rep_key R2 h2, h3.symm⟩, k G H z Ext.refl S h4⟩ hs
    cases d <;> simp only at h <;> first | exact dicts h | skip
    cases e <;> simp only at h <;> first | (cases h; done) | skip
    split at h
    · rename_i hz
      obtain ⟨c, h1, rfl⟩ := Option.map_eq_some_iff.mp h
      cases R1; cases R2
      exact ix_seq value slice pins s σ H _ _ v u Q I rx ry (.inr (.inr ⟨_, _, c, rfl, rfl, hz, h1, k G H _ Ext.refl S (.str _)⟩)) hs
    · cases h
theorem de_ix {f : Op2} {a b : Expr} {A B : Den} {pos : Pos} (hr : IxD X f) (ha : DE X W a A) (hb : DE X W b B) (hs : PlainIx b := by intro _ _; rfl) : DE X W (.Subscript a b pos) (eBin f A B) := (pe_ix hr ha hb hs).weak eBin_ok
/-! ### slices -/
def cutL {α : Type} (xs : List α) (lo hi : Option Int) : List α := (xs.drop (HT.sIx xs.length 0 lo)).take (HT.sIx xs.length xs.length hi - HT.sIx xs.length 0 lo)
def sliceD (x : D) (lo hi : Option Int) (w : List Cell) : Option D := match x with
  | .str z => if z.length ≤ sizeLine then some (.str (cutS z lo hi)) else none
  | .tup ds => some (.tup (cutL ds lo hi))
  | x => (asL x w).map fun ds => .lst (cutL ds lo hi)
theorem rep_cut {K : PySem.W.Frag} {G : Hp} {m : List Addr} {vs : List V} {ds : List D} (r : RepL K G m vs ds) (lo hi : Option Int) : RepL K G m (cutV vs lo hi) (cutL ds lo hi) := by
  unfold cutV cutL
  rw [r.length]
  exact (r.drop _).take _
def rSlD (K : PySem.W.Frag) (mg : Str → Option Value) : V → Option Int → Option Int → Hp → VK → Prop := fun x lo hi H Q => ∃ G m w d r, Sim K mg G m w H ∧ Rep K G m x d ∧ sliceD d lo hi w = some r ∧
  ∀ G' H' v, Ext G m H G' m H' → Sim K mg G' m w H' → Rep K G' m v r → Q v H'
theorem sl_any : SlR X (rSlD X.K X.mg) := by
  intro pins s σ H x v vl vu lo hi sl Q I rx hs pl pu ⟨G, m, w, d, r, S, R, h, k⟩
  unfold sliceD at h
  have lists : ((asL d w).map fun ds => D.lst (cutL ds lo hi)) = some r → ∃ T id, typeLookup (.type T) "__getitem__" = pure (some (.builtin id)) ∧ s.TypeIs v T ∧ wpAny (model X.prog X.w) X.A (getItem v (.ref sl)) (EP X pins σ Q) X.xe s := fun h => by
    obtain ⟨ds, h1, rfl⟩ := Option.map_eq_some_iff.mp h
    obtain ⟨a, vs, rfl, hl, rl⟩ := rep_asL S R h1
    exact sl_list pins s σ H _ v vl vu lo hi sl Q I rx hs pl pu ⟨a, vs, rfl, SqL.of hl, new_lst S (rep_cut rl lo hi) k⟩
  cases d <;> simp only at h <;> first | exact lists h | skip
  · split at h
    · rename_i hz
      cases h; cases R
      exact sl_str pins s σ H _ v vl vu lo hi sl Q I rx hs pl pu ⟨_, rfl, hz, k G H _ Ext.refl S (.str _)⟩
    · cases h
  · cases h
    cases R with
    | @tup a xs ds ha ra =>
      refine sl_tupA pins s σ H _ v vl vu lo hi sl Q I rx hs pl pu ⟨a, xs, rfl, SqT.up S.sub ha, fun q => ?_, fun q => new_tup S (rep_cut ra lo hi) k⟩
      refine k G H _ Ext.refl S (.tup ha ?_)
      have e : ∀ es : List D, xs.length = es.length → cutL es lo hi = es := fun es hl => by
        unfold cutL
        rw [← hl, q.1, q.2, List.drop_zero, Nat.sub_zero, hl, List.take_length]
      rw [e _ ra.length]; exact ra
abbrev DenO := DEnv → List Cell → Out (Option Int)
def toD (X : Cx) (W : WX) (A : DenO) : TO := fun σ H Q => ∃ G m w r, Sim X.K X.mg G m w H ∧ EnvR X.K G m σ r ∧ okO (α := Option Int) (β := Option Int) X.K X.mg (fun _ _ _ v d => v = d) (fun c d H => W c d σ H) G m H Q (A r w)
def oNone : DenO := fun _ w => .ok none w
def asI : D → Option Int
  | .int i => some i
  | _ => none
def oSome (A : Den) : DenO := fun r w => (A r w).bnd fun x w1 => Out.of ((asI x).map some) w1
theorem rep_int {K : PySem.W.Frag} {G : Hp} {m : List Addr} {v : V} {d : D} {b : Int} (h : Rep K G m v d) (e : asI d = some b) : v = .int b := by
  cases h <;> simp [asI] at e
  subst e; rfl
theorem PO.weak {e : Option Expr} {t t' : TO} (h : PO X e t) (k : ∀ σ H Q, t' σ H Q → t σ H Q) : PO X e t' := ⟨fun pins s σ H Q I q => h.run pins s σ H Q I (k _ _ _ q)⟩
abbrev DO (X : Cx) (W : WX) (e : Option Expr) (A : DenO) : Prop := PO X e (toD X W A)
theorem do_none : DO X W none oNone := PO.weak po_none fun σ H Q ⟨G, m, w, r, S, E, k⟩ => k G m H _ Ext.refl S rfl
theorem do_some {e : Expr} {A : Den} (h : DE X W e A) : DO X W (some e) (oSome A) := PO.weak (po_some h) <| by
  rintro σ H Q ⟨G, m, w, r, S, E, h⟩
  refine ⟨G, m, w, r, S, E, (okO.bind h).mono ?_⟩
  rintro x H1 ⟨G1, m1, w1, d, e1, S1, R1, h1⟩
  cases q : asI d with
  | none => rw [q] at h1; exact h1.elim
  | some i =>
    rw [q] at h1
    exact ⟨i, rep_int R1 q, h1 G1 m1 H1 _ Ext.refl S1 rfl⟩
def eSlice (A : Den) (L U : DenO) : Den := fun r w => (A r w).bnd fun x w1 => (L r w1).bnd fun lo w2 => (U r w2).bnd fun hi w3 => Out.of (sliceD x lo hi w3) w3
theorem de_slice {e : Expr} {lo hi : Option Expr} {A : Den} {L U : DenO} {p2 pos : Pos} (he : DE X W e A) (hl : DO X W lo L) (hu : DO X W hi U) : DE X W (.Subscript e (.Slice lo hi none p2) pos) (eSlice A L U) := (pe_slice sl_any he hl hu).weak <| by
  rintro σ H Q ⟨G, m, w, r, S, E, h⟩
  refine ⟨G, m, w, r, S, E, (okO.bind h).mono ?_⟩
  rintro x H1 ⟨G1, m1, w1, d, e1, S1, R1, h1⟩
  refine ⟨G1, m1, w1, r, S1, E.ext e1, (okO.bind h1).mono ?_⟩
  rintro y H2 ⟨G2, m2, w2, l, e2, S2, rfl, h2⟩
  refine ⟨G2, m2, w2, r, S2, (E.ext e1).ext e2, (okO.bind h2).mono ?_⟩
  rintro z H3 ⟨G3, m3, w3, u, e3, S3, rfl, h3⟩
  obtain ⟨t, ht, k⟩ := okD_of h3
  exact ⟨G3, m3, w3, d, t, S3, (R1.ext e2).ext e3, ht, fun G' H' v => k G' m3 H' v⟩

/-! ### argument lists, displays -/
def aNil : DenA := fun _ w => .ok [] w
def aCons (A : Den) (B : DenA) : DenA := fun r w => (A r w).bnd fun x w1 => (B r w1).bnd fun xs w2 => .ok (x :: xs) w2
def aStar (A : Den) (B : DenA) : DenA := fun r w => (A r w).bnd fun x w1 => (Out.of (asQ x w1) w1).bnd fun xs w2 => (B r w2).bnd fun ys w3 => .ok (xs ++ ys) w3
theorem da_nil : DA X W [] aNil := PA.weak pa_nil fun σ H Q ⟨G, m, w, r, S, E, k⟩ => k G m H _ Ext.refl S .nil
theorem da_cons {e : Expr} {es : List Expr} {A : Den} {B : DenA} (ha : DE X W e A) (hr : DA X W es B) (hs : starEach (e :: es) X.env = (false, eval e X.env) :: starEach es X.env := by rfl) : DA X W (e :: es) (aCons A B) := PA.weak (pa_cons ha hr hs) <| by
  rintro σ H Q ⟨G, m, w, r, S, E, h⟩
  refine ⟨G, m, w, r, S, E, (okO.bind h).mono ?_⟩
  rintro x H1 ⟨G1, m1, w1, d, e1, S1, R1, h1⟩
  refine ⟨G1, m1, w1, r, S1, E.ext e1, (okO.bind h1).mono ?_⟩
  rintro y H2 ⟨G2, m2, w2, l, e2, S2, R2, h2⟩
  exact h2 G2 m2 H2 _ Ext.refl S2 (.cons (R1.ext e2) R2)
theorem da_star {e : Expr} {es : List Expr} {A : Den} {B : DenA} {p : Pos} (ha : DE X W e A) (hr : DA X W es B) (hs : starEach (.Starred e p :: es) X.env = (true, eval e X.env) :: starEach es X.env := by rfl) : DA X W (.Starred e p :: es) (aStar A B) := PA.weak (StX.pa_star ha hr hs) <| by
  rintro σ H Q ⟨G, m, w, r, S, E, h⟩
  refine ⟨G, m, w, r, S, E, (okO.bind h).mono ?_⟩
  rintro x H1 ⟨G1, m1, w1, d, e1, S1, R1, h1⟩
  cases q : asQ d w1 with
  | none => rw [q] at h1; exact h1.elim
  | some ds =>
    rw [q] at h1
    obtain ⟨a, vs, rfl, hq, rl⟩ := rep_asQ S1 R1 q
    refine ⟨a, vs, rfl, hq.symm, G1, m1, w1, r, S1, E.ext e1, (okO.bind (f := fun ys w3 => Out.ok (ds ++ ys) w3) h1).mono ?_⟩
    rintro y H2 ⟨G2, m2, w2, l, e2, S2, R2, h2⟩
    exact h2 G2 m2 H2 _ Ext.refl S2 ((rl.ext e2).append R2)
def eTup (B : DenA) : Den := fun r w => (B r w).bnd fun xs w1 => if xs.length ≤ sizeLine then .ok (.tup xs) w1 else .bad
def eLst (B : DenA) : Den := fun r w => (B r w).bnd fun xs w1 => if xs.length ≤ sizeLine then .ok (.lst xs) w1 else .bad
/-- a list that may change -/
def eLstC (B : DenA) : Den := fun r w => (B r w).bnd fun xs w1 => if xs.length ≤ sizeLine then .ok (.cel w1.length) (w1 ++ [.lst xs]) else .bad
theorem rep_last {K : PySem.W.Frag} {G : Hp} {m : List Addr} {n : Nat} (h : m.length = n) (p : Addr) : Rep K G (m ++ [p]) (.ref p) (.cel n) := by
  subst h
  exact .cel (by simp)
theorem de_tup {es : List Expr} {B : DenA} {x1 : Nat} {pos : Pos} (h : DA X W es B) : DE X W (.Tuple es x1 pos) (eTup B) := (pe_tup h).weak <| by
  rintro σ H Q ⟨G, m, w, r, S, E, h⟩
  refine ⟨G, m, w, r, S, E, (okO.bind h).mono ?_⟩
  rintro xs H1 ⟨G1, m1, w1, ds, e1, S1, R1, h1⟩
  split at h1
  · rename_i hz
    exact ⟨by rw [R1.length]; exact hz, new_tup S1 R1 fun G' H' v => h1 G' m1 H' v⟩
  · exact h1.elim
theorem de_lst {es : List Expr} {B : DenA} {pos : Pos} (h : DA X W es B) : DE X W (.List es pos) (eLst B) := (pe_lst h).weak <| by
  rintro σ H Q ⟨G, m, w, r, S, E, h⟩
  refine ⟨G, m, w, r, S, E, (okO.bind h).mono ?_⟩
  rintro xs H1 ⟨G1, m1, w1, ds, e1, S1, R1, h1⟩
  split at h1
  · rename_i hz
    exact ⟨by rw [R1.length]; exact hz, new_lst S1 R1 fun G' H' v => h1 G' m1 H' v⟩
  · exact h1.elim
theorem de_lstC {es : List Expr} {B : DenA} {pos : Pos} (h : DA X W es B) : DE X W (.List es pos) (eLstC B) := (pe_lst h).weak <| by
  rintro σ H Q ⟨G, m, w, r, S, E, h⟩
  refine ⟨G, m, w, r, S, E, (okO.bind h).mono ?_⟩
  rintro xs H1 ⟨G1, m1, w1, ds, e1, S1, R1, h1⟩
  split at h1
  · rename_i hz
    refine ⟨by rw [R1.length]; exact hz, fun p hp => ?_⟩
    have e := ext_newC S1 hp (.lst xs)
    exact h1 G1 (m1 ++ [p]) _ _ e (S1.newC hp ⟨xs, upd_same, R1.ext e⟩) (rep_last S1.len p)
  · exact h1.elim

/-! ### ghost: a thing that may change is left -/
def frzD (d : D) (w : List Cell) : Out D := match d with
  | .cel n => match w[n]? with
    | some (.lst ds) => .ok (.lst ds) (w.set n .dead)
    | some (.dct kd false) => .ok (.dct kd) (w.set n .dead)
    | some (.dcT kd false) => .ok (.dcT kd) (w.set n .dead)
    | _ => .bad
  | _ => .bad
def eFrz (A : Den) : Den := fun r w => (A r w).bnd fun x w1 => frzD x w1
theorem upd_self {H : Hp} {a : Addr} {o : HO} (h : H a = some o) : upd H a o = H := by
  funext b
  by_cases e : b = a
  · subst e; rw [upd_same, h]
  · rw [upd_ne e]
theorem de_frz {e : Expr} {A : Den} (h : DE X W e A) : DE X W e (eFrz A) := by
  refine ⟨fun pins s σ H Q I hq => ?_⟩
  have step : ∀ x H1 s1, Inv X pins σ H1 s1 → (∃ G1 m1 w1 d, Sim X.K X.mg G1 m1 w1 H1 ∧ Rep X.K G1 m1 x d ∧ okD X.K X.mg (fun c d H => W c d σ H) G1 m1 H1 Q (frzD d w1)) → ∃ H2, Inv X pins σ H2 s1 ∧ Q x H2 := by
    rintro x H1 s1 I1 ⟨G1, m1, w1, d, S1, R1, h1⟩
    cases R1 with
    | @cel n a hn =>
      unfold frzD at h1
      cases q : w1[n]? with
      | none => simp only [q] at h1; exact h1.elim
      | some c =>
        cases c with
        | lst ds =>
          simp only [q] at h1
          obtain ⟨vs, g1, g2⟩ := S1.cel n a _ hn q
          have hz : NoFz H1 a := noFz_of g1 fun _ _ z => nomatch z
          have e := ext_frz (G := G1) (H := H1) (o := .lst vs) (List.mem_of_getElem? hn) (S1.sep n a _ hn q (fun z => nomatch z)) hz
          have S2 := S1.frz (o := .lst vs) hn q (fun z => nomatch z) hz
          rw [upd_self g1] at e S2
          exact ⟨H1, I1, h1 _ _ _ _ e S2 (.lst upd_same (g2.ext e))⟩
        | dct kd lk =>
          cases lk with
          | true => simp only [q] at h1; exact h1.elim
          | false =>
            simp only [q] at h1
            obtain ⟨kv, g1, g2⟩ := S1.cel n a _ hn q
            simp only [Bool.false_eq_true, if_false] at g2
            obtain ⟨od, I2⟩ := I1.lock g2 trivial
            have hz : NoFz H1 a := noFz_of g2 fun _ _ z => nomatch z
            have e := ext_frz (G := G1) (H := H1) (o := .frz od (.dK kv)) (List.mem_of_getElem? hn) (S1.sep n a _ hn q (fun z => nomatch z)) hz
            have S2 := S1.frz (o := .frz od (.dK kv)) hn q (fun z => nomatch z) hz
            exact ⟨_, I2, h1 _ _ _ _ e S2 (.dct upd_same (g1.ext e))⟩
        | dcT kd lk =>
          cases lk with
          | true => simp only [q] at h1; exact h1.elim
          | false =>
            simp only [q] at h1
            obtain ⟨kv, g1, g2⟩ := S1.cel n a _ hn q
            simp only [Bool.false_eq_true, if_false] at g2
            obtain ⟨od, I2⟩ := I1.lock g2 trivial
            have hz : NoFz H1 a := noFz_of g2 fun _ _ z => nomatch z
            have e := ext_frz (G := G1) (H := H1) (o := .frz od (.dT kv)) (List.mem_of_getElem? hn) (S1.sep n a _ hn q (fun z => nomatch z)) hz
            have S2 := S1.frz (o := .frz od (.dT kv)) hn q (fun z => nomatch z) hz
            exact ⟨_, I2, h1 _ _ _ _ e S2 (.dcT upd_same (g1.ext e))⟩
        | _ => simp only [q] at h1; exact h1.elim
    | _ => exact h1.elim
  obtain ⟨G, m, w, r, S, E, hh⟩ := hq
  have hq2 : teD X W A σ H (fun x H1 => ∃ G1 m1 w1 d, Sim X.K X.mg G1 m1 w1 H1 ∧ Rep X.K G1 m1 x d ∧ okD X.K X.mg (fun c d H => W c d σ H) G1 m1 H1 Q (frzD d w1)) :=
    ⟨G, m, w, r, S, E, (okO.bind hh).mono fun x H1 ⟨G1, m1, w1, d, e1, S1, R1, h1⟩ => ⟨G1, m1, w1, d, S1, R1, h1⟩⟩
  refine thn (h.run pins s σ H _ I hq2) fun v s1 ⟨x, H1, I1, r1, q1⟩ => ?_
  obtain ⟨H2, I2, q2⟩ := step x H1 s1 I1 q1
  exact ⟨x, H2, I2, r1, q2⟩
end
end Dn
/-! Dn5: the text's own defs: their contracts, calls; small statements. -/
namespace Dn
open PySem PySem.Spec PyProof.Rows L2

/-! ### no cell within -/
mutual
def nc : D → Bool
  | .tup ds => ncs ds
  | .lst ds => ncs ds
  | .scr ds => ncs ds
  | .dct kd => nck kd
  | .dcT kd => nct kd
  | .cel _ => false
  | .non => true
  | .bl _ => true
  | .int _ => true
  | .str _ => true
def ncs : List D → Bool
  | [] => true
  | d :: ds => nc d && ncs ds
def nck : List (Key × D) → Bool
  | [] => true
  | (_, d) :: ds => nc d && nck ds
def nct : List (List Key × D) → Bool
  | [] => true
  | (_, d) :: ds => nc d && nct ds
end
def ncC : Cell → Bool
  | .lst ds => ncs ds
  | .dct kd _ => nck kd
  | .dcT kd _ => nct kd
  | .ins _ fs => fs.all fun p => nc p.2
  | .dead => true
section
variable {K : PySem.W.Frag} {mg : Str → Option Value} {G : Hp} {m m' : List Addr}
mutual
theorem Rep.nc : ∀ {d : D} {v : V}, Rep K G m v d → Dn.nc d = true → Rep K G m' v d
  | .non, _, r, _ => by cases r; exact .non
  | .bl _, _, r, _ => by cases r; exact .bl _
  | .int _, _, r, _ => by cases r; exact .int _
  | .str _, _, r, _ => by cases r; exact .str _
  | .tup ds, _, r, h => by
    cases r with
    | tup a b => exact .tup a (RepL.nc b (by simpa only [Dn.nc] using h))
  | .lst ds, _, r, h => by
    cases r with
    | lst a b => exact .lst a (RepL.nc b (by simpa only [Dn.nc] using h))
  | .scr ds, _, r, h => by
    cases r with
    | scr a b => exact .scr a (RepL.nc b (by simpa only [Dn.nc] using h))
  | .dct kd, _, r, h => by
    cases r with
    | dct a b => exact .dct a (RepK.nc b (by simpa only [Dn.nc] using h))
  | .dcT kd, _, r, h => by
    cases r with
    | dcT a b => exact .dcT a (RepT.nc b (by simpa only [Dn.nc] using h))
  | .cel _, _, _, h => by simp only [Dn.nc] at h; cases h
theorem RepL.nc : ∀ {d : List D} {v : List V}, RepL K G m v d → ncs d = true → RepL K G m' v d
  | [], _, r, _ => by cases r; exact .nil
  | d :: ds, _, r, h => by
    cases r with
    | cons a b =>
      simp only [ncs, Bool.and_eq_true] at h
      exact .cons (Rep.nc a h.1) (RepL.nc b h.2)
theorem RepK.nc : ∀ {d : List (Key × D)} {v : List (Key × V)}, RepK K G m v d → nck d = true → RepK K G m' v d
  | [], _, r, _ => by cases r; exact .nil
  | (k, d) :: ds, _, r, h => by
    cases r with
    | cons a b =>
      simp only [nck, Bool.and_eq_true] at h
      exact .cons (Rep.nc a h.1) (RepK.nc b h.2)
theorem RepT.nc : ∀ {d : List (List Key × D)} {v : List (List Key × V)}, RepT K G m v d → nct d = true → RepT K G m' v d
  | [], _, r, _ => by cases r; exact .nil
  | (k, d) :: ds, _, r, h => by
    cases r with
    | cons a b =>
      simp only [nct, Bool.and_eq_true] at h
      exact .cons (Rep.nc a h.1) (RepT.nc b h.2)
end
theorem lookup_mem {α : Type} {f : Str} {x : α} : ∀ {l : List (Str × α)}, l.lookup f = some x → (f, x) ∈ l
  | [], h => by cases h
  | (g, y) :: l, h => by
    rw [List.lookup_cons] at h
    split at h
    · rename_i e
      cases h
      have : f = g := by simpa using e
      subst this
      exact List.mem_cons_self
    · exact List.mem_cons_of_mem _ (lookup_mem h)
theorem CelR.nc {H : Hp} {a : Addr} : ∀ {c : Cell}, CelR K mg G m H a c → ncC c = true → CelR K mg G m' H a c
  | .lst ds, ⟨vs, h1, h2⟩, h => ⟨vs, h1, h2.nc h⟩
  | .dct kd lk, ⟨kv, h1, h2⟩, h => ⟨kv, h1.nc h, h2⟩
  | .dcT kd lk, ⟨kv, h1, h2⟩, h => ⟨kv, h1.nc h, h2⟩
  | .ins c fs, ⟨C, dx, fv, h1, h2, h3, h4⟩, h => ⟨C, dx, fv, h1, h2, h3, fun f d e => by
      obtain ⟨v, e1, e2⟩ := h4 f d e
      refine ⟨v, e1, e2.nc ?_⟩
      have := List.all_eq_true.mp h (f, d) (lookup_mem e)
      exact this⟩
  | .dead, _, _ => trivial
end

/-! ### a def's contract -/
abbrev FnS := List D → List Cell → Out D
def spD (K : PySem.W.Frag) (mg : Str → Option Value) (n : Nat) (F : FnS) : Sp := fun vs H Q E => vs.length = n ∧ ∃ G m w ds, Sim K mg G m w H ∧ RepL K G m vs ds ∧ okD K mg E G m H Q (F ds w)
/-- the def f: its mirror is F -/
abbrev FnD (P : Program) (w : World) (K : PySem.W.Frag) (mg : Str → Option Value) (base : Heap) (k : Nat) (f : Addr) (fd : FuncData) (ps : List Str) (F : FnS) : Prop := FnOk P w K mg base (L2.CX P w) k f fd ps (spD K mg ps.length F)
/-- the body's mirror, called -/
def runB (n : Nat) (A : DenS) : FnS := fun ds w => match A (ds.map some ++ List.replicate (n - ds.length) none) w with
  | .go (.ret d) _ w' => .ok d w'
  | .go .next _ w' => .ok .non w'
  | .exc x _ w' => .exc x w'
  | _ => .bad
theorem envR_start {K : PySem.W.Frag} {G : Hp} {m : List Addr} {vs : List V} {ds : List D} (r : RepL K G m vs ds) (N : List Str) : EnvR K G m (L2.start N vs) (ds.map some ++ List.replicate (N.length - ds.length) none) := by
  unfold L2.start
  refine ⟨by simp [r.length], fun i d h => ?_⟩
  by_cases hi : i < ds.length
  · rw [List.getElem?_append_left (by simpa using hi), List.getElem?_map] at h
    cases q : ds[i]? with
    | none => rw [q] at h; cases h
    | some e =>
      rw [q] at h
      have e1 : e = d := by simpa using h
      subst e1
      obtain ⟨v, h1, h2⟩ := r.get q
      refine ⟨v, ?_, h2⟩
      rw [List.getElem?_append_left (by simpa [r.length] using hi), List.getElem?_map, h1]
      rfl
  · rw [List.getElem?_append_right (by simpa using hi)] at h
    have := List.mem_of_getElem? h
    have e := (List.mem_replicate.mp this).2
    cases e
section
variable {P : Program} {w : World} {K : PySem.W.Frag} {mg : Str → Option Value} {base : Heap}
/-- THE RULE for a def -/
theorem fnD_of {x qual : Str} {st : Stmt} {f : Addr} {fd : FuncData} {N ps : List Str} {k : Nat} {A : DenS} (F : Fun K x qual st f fd) (S : FnScope N ps (defScope st))
    (hb : ∀ X : Cx, X.K = K → X.mg = mg → X.prog = P → X.w = w → X.base = base → X.N = N → X.env.scope = defScope st → X.calm = true → Room k X.A → (∀ x, X.fn x = true) →
      ∀ W : WX, Takes X W → PassesOwn (model X.prog X.w) X.A X.env X.xe → X.stack = X.env :: X.outer → X.env.frame = some X.env.locals → (∀ x, X.env.kindOf x = (defScope st).names.lookup x) → DSs X W (defBody st) A) : FnD P w K mg base (k + 1) f fd ps (runB N.length A) := by
  refine F.okX S (fun vs H Q E h => h.1) fun cdv Ar outer s H vs Q E hr hsp => ?_
  obtain ⟨hl, G, m, w0, ds, hS, hR, hk⟩ := hsp
  refine ⟨_, hb (cxOf (L2.CX P w) P w K mg base N qual (defScope st) f cdv Ar outer s H E) rfl rfl rfl rfl rfl rfl rfl rfl hr (fun _ => rfl) (fun c d _ H => E c d H) (takes_of rfl rfl rfl rfl) (passes_of rfl) rfl rfl (fun _ => rfl), ?_⟩
  refine ⟨G, m, w0, _, hS, envR_start hR N, ?_⟩
  unfold runB at hk
  cases q : A (ds.map some ++ List.replicate (N.length - ds.length) none) w0 with
  | go fl r1 w1 =>
    rw [q] at hk
    cases fl with
    | ret d => exact fun G' m' H' v e1 s1 r1 => hk G' m' H' v e1 s1 r1
    | next => exact fun G' m' H' σ' e1 s1 r1 => hk G' m' H' .non e1 s1 .non
    | brk => exact hk.elim
    | cont => exact hk.elim
  | exc y r1 w1 =>
    rw [q] at hk
    exact fun G' m' H' σ' cls dd v e1 s1 r1 => hk G' m' H' cls dd v e1 s1
  | bad => rw [q] at hk; exact hk.elim
end

/-! ### calls -/
def eCall (n : Nat) (F : FnS) (dd : List D) (B : DenA) : Den := fun r w => (B r w).bnd fun ds w1 => if ds.length = n then F (ds ++ dd) w1 else .bad
/-- the cells among arguments, in their order; the arguments with them numbered anew -/
def celsOf : List D → List Nat
  | [] => []
  | .cel n :: r => n :: celsOf r
  | _ :: r => celsOf r
def renum : Nat → List D → List D
  | _, [] => []
  | k, .cel _ :: r => .cel k :: renum (k + 1) r
  | k, d :: r => d :: renum k r
def ncArgs : List D → Bool
  | [] => true
  | .cel _ :: r => ncArgs r
  | d :: r => nc d && ncArgs r
def cellsAt (w : List Cell) : List Nat → Option (List Cell)
  | [] => some []
  | n :: r => match w[n]? with
    | some c => (cellsAt w r).map (c :: ·)
    | none => none
def backAt : List Cell → List Nat → List Cell → List Cell
  | w, n :: r, c :: cs => backAt (w.set n c) r cs
  | w, _, _ => w
/-- a call that sees the cells of its arguments alone, and leaves no other one behind -/
def callS (F : FnS) (ds : List D) (w : List Cell) : Out D :=
  if (celsOf ds).Nodup ∧ ncArgs ds = true then
    match cellsAt w (celsOf ds) with
    | some cs => if cs.all ncC = true then
        match F (renum 0 ds) cs with
        | .ok d w' => if nc d = true ∧ (w'.take cs.length).all ncC = true then .ok d (backAt w (celsOf ds) (w'.take cs.length)) else .bad
        | .exc x w' => if nc x.vl = true ∧ (w'.take cs.length).all ncC = true then .exc x (backAt w (celsOf ds) (w'.take cs.length)) else .bad
        | .bad => .bad
      else .bad
    | none => .bad
  else .bad
def eCallS (n : Nat) (F : FnS) (dd : List D) (B : DenA) : Den := eCall n (callS F) dd B
/-- a def of the module, by its name, called with n arguments; dd: the defaults that are left -/
structure CalN (P : Program) (w : World) (K : PySem.W.Frag) (mg : Str → Option Value) (base : Heap) (x : Str) (k n : Nat) (dd : List D) (F : FnS) : Prop where
  ex : ∃ f fd ps ds dvs, FnD P w K mg base k f fd ps F ∧ ps.length = n + dd.length ∧ mg x = some (.ref f) ∧ PySem.W.keepIn K (.ref f) = true ∧ Binds K fd ps ds ∧ Vals dvs ds ∧ ∀ G m, RepL K G m dvs dd
theorem CalN.mono {P : Program} {w : World} {K : PySem.W.Frag} {mg : Str → Option Value} {base : Heap} {x : Str} {j k n : Nat} {dd : List D} {F : FnS} (C : CalN P w K mg base x j n dd F) (h : j ≤ k) : CalN P w K mg base x k n dd F := by
  obtain ⟨f, fd, ps, ds, dvs, a, b⟩ := C.ex
  exact ⟨f, fd, ps, ds, dvs, a.mono h, b⟩
section
variable {K : PySem.W.Frag} {mg : Str → Option Value} {G G1 H H1 : Hp} {m m1 : List Addr} {w w1 : List Cell}
theorem celsOf_rep : ∀ {vs : List V} {ds : List D}, RepL K G m vs ds → ∀ n ∈ celsOf ds, ∃ a, m[n]? = some a
  | _, _, .nil, n, h => by cases h
  | _, _, .cons (d := d) r rs, n, h => by
    cases r with
    | cel e =>
      rcases List.mem_cons.mp h with h | h
      · subst h; exact ⟨_, e⟩
      · exact celsOf_rep rs n h
    | _ => exact celsOf_rep rs n h
/-- the addresses of the cells of the arguments -/
def addrsAt (m : List Addr) : List Nat → List Addr
  | [] => []
  | n :: r => (m[n]?).getD 0 :: addrsAt m r
theorem addrsAt_len (m : List Addr) : ∀ ns : List Nat, (addrsAt m ns).length = ns.length
  | [] => rfl
  | _ :: r => by rw [addrsAt, List.length_cons, List.length_cons, addrsAt_len m r]
theorem addrsAt_get {m : List Addr} : ∀ {ns : List Nat} {j n : Nat}, ns[j]? = some n → (addrsAt m ns)[j]? = some ((m[n]?).getD 0)
  | [], _, _, h => by cases h
  | n :: r, 0, k, h => by simp at h; subst h; rfl
  | n :: r, j + 1, k, h => by rw [addrsAt, List.getElem?_cons_succ]; exact addrsAt_get (by simpa using h)
theorem addrsAt_mem {m : List Addr} {ns : List Nat} {a : Addr} (h : a ∈ addrsAt m ns) : ∃ (j n : Nat), ns[j]? = some n ∧ a = (m[n]?).getD 0 := by
  obtain ⟨j, hj⟩ := List.getElem?_of_mem h
  have hl : j < ns.length := by rw [← addrsAt_len m ns]; exact (List.getElem?_eq_some_iff.mp hj).1
  have e := addrsAt_get (m := m) (List.getElem?_eq_getElem hl)
  rw [hj] at e
  exact ⟨j, ns[j], List.getElem?_eq_getElem hl, Option.some.inj e⟩
theorem renum_rep : ∀ {vs : List V} {ds : List D} (pre : List Addr), RepL K G m vs ds → ncArgs ds = true → RepL K G (pre ++ addrsAt m (celsOf ds)) vs (renum pre.length ds)
  | _, _, _, .nil, _ => .nil
  | _, _, pre, .cons (d := d) r rs, h => by
    cases r with
    | @cel n a e =>
      simp only [celsOf, renum, addrsAt, e, Option.getD_some]
      have ih := renum_rep (pre ++ [a]) rs (by simpa [ncArgs] using h)
      rw [List.length_append, List.append_assoc] at ih
      refine .cons (.cel ?_) ih
      rw [List.getElem?_append_right (Nat.le_refl _)]; simp
    | non => simp only [ncArgs, Bool.and_eq_true] at h; exact .cons .non (renum_rep pre rs h.2)
    | bl b => simp only [ncArgs, Bool.and_eq_true] at h; exact .cons (.bl b) (renum_rep pre rs h.2)
    | int b => simp only [ncArgs, Bool.and_eq_true] at h; exact .cons (.int b) (renum_rep pre rs h.2)
    | str b => simp only [ncArgs, Bool.and_eq_true] at h; exact .cons (.str b) (renum_rep pre rs h.2)
    | tup a b => simp only [ncArgs, Bool.and_eq_true] at h; exact .cons (Rep.nc (.tup a b) h.1) (renum_rep pre rs h.2)
    | lst a b => simp only [ncArgs, Bool.and_eq_true] at h; exact .cons (Rep.nc (.lst a b) h.1) (renum_rep pre rs h.2)
    | scr a b => simp only [ncArgs, Bool.and_eq_true] at h; exact .cons (Rep.nc (.scr a b) h.1) (renum_rep pre rs h.2)
    | dct a b => simp only [ncArgs, Bool.and_eq_true] at h; exact .cons (Rep.nc (.dct a b) h.1) (renum_rep pre rs h.2)
    | dcT a b => simp only [ncArgs, Bool.and_eq_true] at h; exact .cons (Rep.nc (.dcT a b) h.1) (renum_rep pre rs h.2)
theorem cellsAt_len : ∀ {ns : List Nat} {cs : List Cell}, cellsAt w ns = some cs → cs.length = ns.length
  | [], _, h => by cases h; rfl
  | n :: r, cs, h => by
    unfold cellsAt at h
    cases q : w[n]? with
    | none => simp only [q] at h; cases h
    | some c =>
      simp only [q] at h
      obtain ⟨cs', h1, rfl⟩ := Option.map_eq_some_iff.mp h
      rw [List.length_cons, List.length_cons, cellsAt_len h1]
theorem cellsAt_get : ∀ {ns : List Nat} {cs : List Cell} {j n : Nat}, cellsAt w ns = some cs → ns[j]? = some n → cs[j]? = w[n]? ∧ ∃ c, w[n]? = some c
  | [], _, _, _, h, h2 => by cases h2
  | n :: r, cs, j, k, h, h2 => by
    unfold cellsAt at h
    cases q : w[n]? with
    | none => simp only [q] at h; cases h
    | some c =>
      simp only [q] at h
      obtain ⟨cs', h1, rfl⟩ := Option.map_eq_some_iff.mp h
      cases j with
      | zero => simp at h2; subst h2; exact ⟨by rw [q] <;> rfl, c, q⟩
      | succ j => rw [List.getElem?_cons_succ]; exact cellsAt_get h1 (by simpa using h2)
theorem backAt_len : ∀ {ns : List Nat} {w : List Cell} {cs : List Cell}, (backAt w ns cs).length = w.length
  | [], w, cs => by cases cs <;> rfl
  | n :: r, w, [] => rfl
  | n :: r, w, c :: cs => by rw [backAt, backAt_len, List.length_set]
theorem backAt_out {n : Nat} : ∀ {ns : List Nat} {w : List Cell} {cs : List Cell}, n ∉ ns → (backAt w ns cs)[n]? = w[n]?
  | [], w, cs, _ => by cases cs <;> rfl
  | k :: r, w, [], _ => rfl
  | k :: r, w, c :: cs, h => by
    simp only [List.mem_cons, not_or] at h
    rw [backAt, backAt_out h.2, List.getElem?_set_ne (fun e => h.1 e.symm)]
theorem backAt_in : ∀ {ns : List Nat} {w : List Cell} {cs : List Cell} {j n : Nat}, ns.Nodup → ns[j]? = some n → n < w.length → cs.length = ns.length → (backAt w ns cs)[n]? = cs[j]?
  | [], _, _, _, _, _, h, _, _ => by cases h
  | k :: r, w, [], _, _, _, _, _, h => by simp at h
  | k :: r, w, c :: cs, 0, n, nd, h, hw, hl => by
    simp at h; subst h
    rw [backAt, backAt_out (List.nodup_cons.mp nd).1, List.getElem?_set_self hw]
    rfl
  | k :: r, w, c :: cs, j + 1, n, nd, h, hw, hl => by
    rw [backAt, List.getElem?_cons_succ]
    exact backAt_in (List.nodup_cons.mp nd).2 (by simpa using h) (by simpa using hw) (by simpa using hl)
theorem nd_ix {α : Type} {N : List α} (hN : N.Nodup) {i j : Nat} {x : α} (a : N[i]? = some x) (b : N[j]? = some x) : i = j := by
  obtain ⟨h1, e1⟩ := List.getElem?_eq_some_iff.mp a
  obtain ⟨h2, e2⟩ := List.getElem?_eq_some_iff.mp b
  exact (List.getElem_inj hN).mp (e1.trans e2.symm)
/-- the state as the callee sees it -/
theorem Sim.part (S : Sim K mg G m w H) {ns : List Nat} {cs : List Cell} (hr : ∀ n ∈ ns, ∃ a, m[n]? = some a) (nd : ns.Nodup) (hc : cellsAt w ns = some cs) (hnc : cs.all ncC = true) : Sim K mg G (addrsAt m ns) cs H := by
  have ad : ∀ (j : Nat) a, (addrsAt m ns)[j]? = some a → ∃ n, ns[j]? = some n ∧ m[n]? = some a := fun j a h => by
    have hl : j < ns.length := by rw [← addrsAt_len m ns]; exact (List.getElem?_eq_some_iff.mp h).1
    have e := addrsAt_get (m := m) (List.getElem?_eq_getElem hl)
    rw [h] at e
    obtain ⟨b, hb⟩ := hr ns[j] (List.getElem_mem hl)
    rw [hb] at e
    exact ⟨ns[j], List.getElem?_eq_getElem hl, by rw [hb, Option.some.inj e] <;> rfl⟩
  refine ⟨S.sub, by rw [addrsAt_len, cellsAt_len hc], ?_, fun j a c h1 h2 h3 => ?_, fun a h => ?_, fun j a c h1 h2 => ?_⟩
  · refine List.pairwise_iff_getElem.mpr fun i j hi hj hij e => ?_
    obtain ⟨n1, q1, q2⟩ := ad i _ (List.getElem?_eq_getElem hi)
    obtain ⟨n2, q3, q4⟩ := ad j _ (List.getElem?_eq_getElem hj)
    rw [e] at q2
    have := nd_ix S.nd q2 q4
    subst this
    have := nd_ix nd q1 q3
    omega
  · obtain ⟨n, q1, q2⟩ := ad j a h1
    rw [(cellsAt_get hc q1).1] at h2
    exact S.sep n a c q2 h2 h3
  · obtain ⟨j, hj⟩ := List.getElem?_of_mem h
    obtain ⟨n, q1, q2⟩ := ad j a hj
    exact S.here a (List.mem_of_getElem? q2)
  · obtain ⟨n, q1, q2⟩ := ad j a h1
    have h2' := h2
    rw [(cellsAt_get hc q1).1] at h2
    exact (S.cel n a c q2 h2).nc (List.all_eq_true.mp hnc c (List.mem_of_getElem? h2'))
/-- the caller's state behind the callee -/
theorem Sim.whole (S : Sim K mg G m w H) {ns : List Nat} {cs : List Cell} (hr : ∀ n ∈ ns, ∃ a, m[n]? = some a) (nd : ns.Nodup) (hc : cellsAt w ns = some cs) {m' : List Addr} {w' : List Cell}
    (e : Ext G (addrsAt m ns) H G1 m' H1) (S1 : Sim K mg G1 m' w' H1) (hnc : (w'.take cs.length).all ncC = true) : Ext G m H G1 m H1 ∧ Sim K mg G1 m (backAt w ns (w'.take cs.length)) H1 := by
  have sub : ∀ a ∈ addrsAt m ns, ∃ (j n : Nat), ns[j]? = some n ∧ m[n]? = some a := fun a h => by
    obtain ⟨j, n, h1, h2⟩ := addrsAt_mem h
    obtain ⟨b, hb⟩ := hr n (List.mem_of_getElem? h1)
    rw [hb] at h2
    exact ⟨j, n, h1, by rw [hb, h2] <;> rfl⟩
  have ex : Ext G m H G1 m H1 := by
    refine ⟨e.g, ⟨[], by simp⟩, fun b o h n => e.fr b o h fun z => ?_, fun a h n => absurd h n, fun a o h => ?_, e.fz⟩
    · obtain ⟨j, k, _, q⟩ := sub b z; exact n (List.mem_of_getElem? q)
    · rcases e.ng a o h with q | q | q
      · exact .inl q
      · exact .inr (.inl q)
      · obtain ⟨j, k, _, q⟩ := sub a q; exact .inr (.inr (List.mem_of_getElem? q))
  have hlen : (w'.take cs.length).length = ns.length := by
    have h1 := cellsAt_len hc
    obtain ⟨more, hm⟩ := e.mm
    have h2 := S1.len
    rw [hm, List.length_append, addrsAt_len] at h2
    rw [List.length_take]; omega
  have inn : ∀ (j n : Nat) a, ns[j]? = some n → m[n]? = some a → m'[j]? = some a ∧ (backAt w ns (w'.take cs.length))[n]? = w'[j]? ∧ j < cs.length := fun j n a h1 h2 => by
    have hj : j < ns.length := (List.getElem?_eq_some_iff.mp h1).1
    refine ⟨?_, ?_, by rw [cellsAt_len hc]; exact hj⟩
    · obtain ⟨more, hm⟩ := e.mm
      rw [hm, List.getElem?_append_left (by rw [addrsAt_len]; exact hj), addrsAt_get h1, h2]; rfl
    · rw [backAt_in nd h1 (by rw [← S.len]; exact (List.getElem?_eq_some_iff.mp h2).1) hlen, List.getElem?_take_of_lt (by rw [cellsAt_len hc]; exact hj)]
  have outn : ∀ (n : Nat) a, m[n]? = some a → n ∉ ns → a ∉ addrsAt m ns := fun n a h1 h2 z => by
    obtain ⟨j, k, q1, q2⟩ := sub a z
    have := nd_ix S.nd h1 q2
    subst this
    exact h2 (List.mem_of_getElem? q1)
  refine ⟨ex, S1.sub, by rw [backAt_len]; exact S.len, S.nd, fun n a c h1 h2 h3 => ?_, fun a h => ?_, fun n a c h1 h2 => ?_⟩
  · by_cases hn : n ∈ ns
    · obtain ⟨j, hj⟩ := List.getElem?_of_mem hn
      obtain ⟨q1, q2, _⟩ := inn j n a hj h1
      rw [q2] at h2
      exact S1.sep j a c q1 h2 h3
    · rw [backAt_out hn] at h2
      have g0 := S.sep n a c h1 h2 h3
      cases q : G1 a with
      | none => rfl
      | some o =>
        rcases e.ng a o q with z | z | z
        · rw [g0] at z; cases z
        · exact absurd z (S.here a (List.mem_of_getElem? h1))
        · exact absurd z (outn n a h1 hn)
  · cases q : H a with
    | none => exact absurd q (S.here a h)
    | some o =>
      by_cases z : a ∈ addrsAt m ns
      · exact S1.here a (e.mem z)
      · rw [e.fr a o q z]; intro y; cases y
  · by_cases hn : n ∈ ns
    · obtain ⟨j, hj⟩ := List.getElem?_of_mem hn
      obtain ⟨q1, q2, q3⟩ := inn j n a hj h1
      rw [q2] at h2
      refine (S1.cel j a c q1 h2).nc (List.all_eq_true.mp hnc c ?_)
      exact List.mem_of_getElem? (i := j) (by rw [List.getElem?_take_of_lt q3]; exact h2)
    · rw [backAt_out hn] at h2
      exact (S.cel n a c h1 h2).ext ex fun o q => e.fr a o q (outn n a h1 hn)
/-- a call with the cells of its arguments alone -/
theorem callS_ok {E : XK} {Q : VK} {F : FnS} {vs : List V} {ds : List D} (S : Sim K mg G m w H) (r : RepL K G m vs ds) (h : okD K mg E G m H Q (callS F ds w)) :
    ∃ m0 cs es, Sim K mg G m0 cs H ∧ RepL K G m0 vs es ∧ es.length = ds.length ∧ okD K mg E G m0 H Q (F es cs) := by
  unfold callS at h
  split at h
  · rename_i hd
    cases q : cellsAt w (celsOf ds) with
    | none => simp only [q] at h; exact h.elim
    | some cs =>
      simp only [q] at h
      split at h
      · rename_i hcs
        have hr := celsOf_rep r
        have hrl : (renum 0 ds).length = ds.length := (renum_rep [] r hd.2).length.symm.trans r.length
        refine ⟨addrsAt m (celsOf ds), cs, renum 0 ds, S.part hr hd.1 q hcs, renum_rep [] r hd.2, hrl, ?_⟩
        cases z : F (renum 0 ds) cs with
        | bad => simp only [z] at h; exact h.elim
        | ok d w' =>
          simp only [z] at h
          split at h
          · rename_i hn
            intro G' m' H' v e1 S1 R1
            obtain ⟨e2, S2⟩ := S.whole hr hd.1 q e1 S1 hn.2
            exact h G' m H' v e2 S2 (R1.nc hn.1)
          · exact h.elim
        | exc x w' =>
          simp only [z] at h
          split at h
          · rename_i hn
            intro G' m' H' cls dd v e1 S1 c1 d1 R1
            obtain ⟨e2, S2⟩ := S.whole hr hd.1 q e1 S1 hn.2
            exact h G' m H' cls dd v e2 S2 c1 d1 (R1.nc hn.1)
          · exact h.elim
      · exact h.elim
  · exact h.elim
end
section
variable {X : Cx} {W : WX}
/-- the two ways of a call, in one: f(e, ..) -/
theorem de_call' {x : Str} {k n : Nat} {dd : List D} {F F' : FnS} {e : Expr} {es : List Expr} {B : DenA} {p pos : Pos} (C : CalN X.prog X.w X.K X.mg X.base x k n dd F) (hr : Room k X.A) (tk : Takes X W) (ha : DA X W (e :: es) B)
    (hF : ∀ {G H : Hp} {m : List Addr} {w : List Cell} {vs : List V} {ds : List D} {E : XK} {Q : VK}, Sim X.K X.mg G m w H → RepL X.K G m vs ds → okD X.K X.mg E G m H Q (F' ds w) → ∃ m0 cs es, Sim X.K X.mg G m0 cs H ∧ RepL X.K G m0 vs es ∧ es.length = ds.length ∧ okD X.K X.mg E G m0 H Q (F es cs))
    (hg : Gl X x) (hdb : (x == ("__debug__" : Str)) = false) (he : starEach (e :: es) X.env = (false, eval e X.env) :: starEach es X.env) (hpl : (backTo pos (starEach es X.env)).any (·.1) = false) :
    DE X W (.Call (.Name x p) (e :: es) [] pos) (eCall n F' dd B) := by
  obtain ⟨f, fd, ps, ds, dvs, hFn, hps, hm, hk, hb, hd, hdd⟩ := C.ex
  refine (pe_callSD (E := WE W) hFn hr hg hm hk hb hd (passAt tk) ha hdb he hpl).weak ?_
  rintro σ H Q ⟨G, m, w, r, S, E, h⟩
  refine ⟨G, m, w, r, S, E, (okO.bind h).mono ?_⟩
  rintro vs H1 ⟨G1, m1, w1, xs, e1, S1, R1, h1⟩
  split at h1
  · rename_i hl
    obtain ⟨m0, cs, es', S2, R2, l2, h2⟩ := hF S1 (R1.append (hdd G1 m1)) h1
    refine ⟨?_, G1, m0, cs, es', S2, R2, h2⟩
    rw [List.length_append, R1.length, (hdd G1 m1).length, hps, hl]
  · exact h1.elim
theorem de_call {x : Str} {k n : Nat} {dd : List D} {F : FnS} {e : Expr} {es : List Expr} {B : DenA} {p pos : Pos} (C : CalN X.prog X.w X.K X.mg X.base x k n dd F) (hr : Room k X.A) (tk : Takes X W) (ha : DA X W (e :: es) B)
    (hg : Gl X x := by rfl) (hdb : (x == ("__debug__" : Str)) = false := by decide) (he : starEach (e :: es) X.env = (false, eval e X.env) :: starEach es X.env := by rfl) (hpl : (backTo pos (starEach es X.env)).any (·.1) = false := by rfl) :
    DE X W (.Call (.Name x p) (e :: es) [] pos) (eCall n F dd B) := de_call' C hr tk ha (fun S r h => ⟨_, _, _, S, r, rfl, h⟩) hg hdb he hpl
theorem de_callS {x : Str} {k n : Nat} {dd : List D} {F : FnS} {e : Expr} {es : List Expr} {B : DenA} {p pos : Pos} (C : CalN X.prog X.w X.K X.mg X.base x k n dd F) (hr : Room k X.A) (tk : Takes X W) (ha : DA X W (e :: es) B)
    (hg : Gl X x := by rfl) (hdb : (x == ("__debug__" : Str)) = false := by decide) (he : starEach (e :: es) X.env = (false, eval e X.env) :: starEach es X.env := by rfl) (hpl : (backTo pos (starEach es X.env)).any (·.1) = false := by rfl) :
    DE X W (.Call (.Name x p) (e :: es) [] pos) (eCallS n F dd B) := de_call' C hr tk ha (fun S r h => callS_ok S r h) hg hdb he hpl
theorem run_fnSD0 {f : Addr} {fd : FuncData} {ps : List Str} {sp : Sp} {k : Nat} {dvs : List V} {ds : List Value} {CX : CXT} {E : L2.St → XK} {x : Str} {p pos : Pos} (F : FnOk X.prog X.w X.K X.mg X.base CX k f fd ps sp) (hr : Room k X.A) (hg : Gl X x) (hm : X.mg x = some (.ref f)) (hk : PySem.W.keepIn X.K (.ref f) = true) (hb : Binds X.K fd ps ds) (hd : Vals dvs ds) (hx : ∀ σ, PassesAt CX X σ (E σ))
    (hdb : (x == ("__debug__" : Str)) = false := by decide) : PE X (.Call (.Name x p) [] [] pos) (tCallSD sp dvs E tNil) := by
  refine ⟨fun pins s σ H Q I h => ?_⟩
  refine wpAny_Call_Name_kw (ld_glob I hg hm ?_ hdb)
  exact PySem.W.callWith_K0 I.kIn hk (run_fnSD (us := []) F hr hb hd (hx σ) I .nil h)
def eCall0 (F : FnS) (dd : List D) : Den := fun r w => F dd w
theorem de_call0' {x : Str} {k : Nat} {dd : List D} {F F' : FnS} {p pos : Pos} (C : CalN X.prog X.w X.K X.mg X.base x k 0 dd F) (hr : Room k X.A) (tk : Takes X W)
    (hF : ∀ {G H : Hp} {m : List Addr} {w : List Cell} {vs : List V} {ds : List D} {E : XK} {Q : VK}, Sim X.K X.mg G m w H → RepL X.K G m vs ds → okD X.K X.mg E G m H Q (F' ds w) → ∃ m0 cs es, Sim X.K X.mg G m0 cs H ∧ RepL X.K G m0 vs es ∧ es.length = ds.length ∧ okD X.K X.mg E G m0 H Q (F es cs))
    (hg : Gl X x) (hdb : (x == ("__debug__" : Str)) = false) : DE X W (.Call (.Name x p) [] [] pos) (eCall0 F' dd) := by
  obtain ⟨f, fd, ps, ds, dvs, hFn, hps, hm, hk, hb, hd, hdd⟩ := C.ex
  refine (run_fnSD0 (E := WE W) hFn hr hg hm hk hb hd (passAt tk) hdb).weak ?_
  rintro σ H Q ⟨G, m, w, r, S, E, h⟩
  obtain ⟨m0, cs, es', S2, R2, l2, h2⟩ := hF S (hdd G m) h
  exact ⟨by rw [List.nil_append, (hdd G m).length, hps, Nat.zero_add], G, m0, cs, es', S2, R2, h2⟩
theorem de_call0 {x : Str} {k : Nat} {dd : List D} {F : FnS} {p pos : Pos} (C : CalN X.prog X.w X.K X.mg X.base x k 0 dd F) (hr : Room k X.A) (tk : Takes X W) (hg : Gl X x := by rfl) (hdb : (x == ("__debug__" : Str)) = false := by decide) :
    DE X W (.Call (.Name x p) [] [] pos) (eCall0 F dd) := de_call0' C hr tk (fun S r h => ⟨_, _, _, S, r, rfl, h⟩) hg hdb
theorem de_callS0 {x : Str} {k : Nat} {dd : List D} {F : FnS} {p pos : Pos} (C : CalN X.prog X.w X.K X.mg X.base x k 0 dd F) (hr : Room k X.A) (tk : Takes X W) (hg : Gl X x := by rfl) (hdb : (x == ("__debug__" : Str)) = false := by decide) :
    DE X W (.Call (.Name x p) [] [] pos) (eCall0 (callS F) dd) := de_call0' C hr tk (fun S r h => callS_ok S r h) hg hdb

/-! ### small statements -/
def sNil : DenS := fun r w => .go .next r w
def sSeq (A B : DenS) : DenS := fun r w => match A r w with
  | .go .next r1 w1 => B r1 w1
  | o => o
def sSet (i : Nat) (A : Den) : DenS := fun r w => (A r w).thenS r fun d w1 => .go .next (r.set i (some d)) w1
def sExpr (A : Den) : DenS := fun r w => (A r w).thenS r fun _ w1 => .go .next r w1
def sRet (A : Den) : DenS := fun r w => (A r w).thenS r fun d w1 => .go (.ret d) r w1
def sRetN : DenS := fun r w => .go (.ret .non) r w
def sIf (T : DenT) (A B : DenS) : DenS := fun r w => (T r w).thenS r fun b w1 => if b = true then A r w1 else B r w1
def sBrk : DenS := fun r w => .go .brk r w
def sCont : DenS := fun r w => .go .cont r w
theorem dss_nil : DSs X W [] sNil := PSs.weak pss_nil fun C σ H ⟨G, m, w, r, S, E, k⟩ => k G m H σ Ext.refl S E
theorem dss_cons {st : Stmt} {rest : List Stmt} {A B : DenS} (h1 : DS X W st A) (h2 : DSs X W rest B) : DSs X W (st :: rest) (sSeq A B) := PSs.weak (pss_cons h1 h2) <| by
  rintro C σ H ⟨G, m, w, r, S, E, h⟩
  refine ⟨G, m, w, r, S, E, ?_⟩
  unfold sSeq at h
  cases q : A r w with
  | go f r1 w1 =>
    rw [q] at h
    cases f with
    | next => exact fun G' m' H' σ' e1 s1 v1 => ⟨G', m', w1, r1, s1, v1, okS.ext h e1⟩
    | brk => exact h
    | cont => exact h
    | ret d => exact h
  | exc x r1 w1 => rw [q] at h; exact h
  | bad => rw [q] at h; exact h
theorem dss_one {st : Stmt} {A : DenS} (h1 : DS X W st A) : DSs X W [st] A := pss_one h1
theorem envR_up {K : PySem.W.Frag} {G : Hp} {m : List Addr} {H : Hp} {σ : L2.St} {r : DEnv} (E : EnvR K G m σ r) : ∀ G' m' H', Ext G m H G' m' H' → EnvR K G' m' σ r := fun _ _ _ e => E.ext e
theorem ds_set {i : Nat} {x : Str} {e : Expr} {A : Den} {pos' pos : Pos} (hN : X.N.Nodup) (he : DE X W e A) (hi : X.N[i]? = some x := by rfl) (hx : Loc X.env.scope x := by first | exact Or.inl rfl | exact Or.inr rfl) (hs : swapsWith e (some (.Name x pos')) pos.line X.env = pure false := by rfl)
    (hf : X.fn x = true ∨ X.env.scope.names.lookup x = some .local := by first | exact .inl rfl | exact .inr rfl | assumption) : DS X W (.Assign [.Name x pos'] e pos) (sSet i A) := PS.weak (ps_set hN hi hx he hs hf) <| by
  rintro C σ H ⟨G, m, w, r, S, E, h⟩
  refine ⟨G, m, w, r, S, E, (okO.bindS h E (envR_up E)).mono ?_⟩
  rintro x H1 ⟨G1, m1, w1, d, e1, S1, R1, h1⟩
  exact h1 G1 m1 H1 _ Ext.refl S1 ((E.ext e1).set R1 i)
theorem ds_expr {e : Expr} {A : Den} {pos : Pos} (he : DE X W e A) (hs : swapsWith e none pos.line X.env = pure false := by rfl) : DS X W (.Expr e pos) (sExpr A) := PS.weak (ps_expr he hs) <| by
  rintro C σ H ⟨G, m, w, r, S, E, h⟩
  refine ⟨G, m, w, r, S, E, (okO.bindS h E (envR_up E)).mono ?_⟩
  rintro x H1 ⟨G1, m1, w1, d, e1, S1, R1, h1⟩
  exact h1 G1 m1 H1 _ Ext.refl S1 (E.ext e1)
theorem ds_doc {x : Str} {j : Nat} {pos pos' : Pos} : DS X W (.Expr (.Constant (.str x) j pos) pos') sNil := PS.weak ps_doc fun C σ H ⟨G, m, w, r, S, E, k⟩ => k G m H σ Ext.refl S E
theorem ds_ret {e : Expr} {A : Den} {pos : Pos} (he : DE X W e A) : DS X W (.Return (some e) pos) (sRet A) := PS.weak (ps_ret he) <| by
  rintro C σ H ⟨G, m, w, r, S, E, h⟩
  refine ⟨G, m, w, r, S, E, (okO.bindS h E (envR_up E)).mono ?_⟩
  rintro x H1 ⟨G1, m1, w1, d, e1, S1, R1, h1⟩
  exact h1 G1 m1 H1 x Ext.refl S1 R1
theorem ds_retN {pos : Pos} : DS X W (.Return none pos) sRetN := PS.weak ps_retN fun C σ H ⟨G, m, w, r, S, E, k⟩ => k G m H .non Ext.refl S .non
theorem ds_if {c : Expr} {a b : List Stmt} {T : DenT} {A B : DenS} {pos : Pos} (hc : DT X W c T) (ha : DSs X W a A) (hb : DSs X W b B) : DS X W (.If c a b pos) (sIf T A B) := PS.weak (ps_if hc ha hb) <| by
  rintro C σ H ⟨G, m, w, r, S, E, h⟩
  refine ⟨G, m, w, r, S, E, (okO.bindS h E (envR_up E)).mono ?_⟩
  rintro b H1 ⟨G1, m1, w1, d, e1, S1, R1, h1⟩
  subst R1
  cases b with
  | true => rw [if_pos rfl] at h1 ⊢; exact ⟨G1, m1, w1, r, S1, E.ext e1, h1⟩
  | false => rw [if_neg Bool.false_ne_true] at h1 ⊢; exact ⟨G1, m1, w1, r, S1, E.ext e1, h1⟩
theorem ds_brk {pos : Pos} : DS X W (.Break pos) sBrk := PS.weak ps_break fun C σ H ⟨G, m, w, r, S, E, k⟩ => k G m H σ Ext.refl S E
theorem ds_cont {pos : Pos} : DS X W (.Continue pos) sCont := PS.weak ps_continue fun C σ H ⟨G, m, w, r, S, E, k⟩ => k G m H σ Ext.refl S E
theorem ds_pass {pos : Pos} : DS X W (.Pass pos) sNil := PS.weak ps_pass fun C σ H ⟨G, m, w, r, S, E, k⟩ => k G m H σ Ext.refl S E
end
end Dn
/-! Dn6: targets, what is walked, for, comprehensions. -/
namespace Dn
open PySem PySem.Spec PyProof.Rows L2

/-! ### targets -/
abbrev Bd := D → DEnv → List Cell → Option DEnv
abbrev Bds := List D → DEnv → List Cell → Option DEnv
def bName (i : Nat) : Bd := fun d r _ => some (r.set i (some d))
def bNil : Bds := fun ds r _ => match ds with
  | [] => some r
  | _ => none
def bCons (b : Bd) (bs : Bds) : Bds := fun ds r w => match ds with
  | d :: ds => (b d r w).bind fun r1 => bs ds r1 w
  | [] => none
def bTup (n : Nat) (bs : Bds) : Bd := fun d r w => (asQ d w).bind fun ds => if ds.length = n then bs ds r w else none
section
variable (X : Cx)
def tgD (b : Bd) (sl : List Nat) : TG := fun v σ H Q => ∃ G m w r d r', Sim X.K X.mg G m w H ∧ EnvR X.K G m σ r ∧ Rep X.K G m v d ∧ b d r w = some r' ∧ ∀ σ', EnvR X.K G m σ' r' → σ'.length = σ.length → (∀ i, i ∉ sl → σ'[i]? = σ[i]?) → Q σ' H
def tgsD (b : Bds) (sl : List Nat) : TGs := fun v σ H Q => ∃ G m w r d r', Sim X.K X.mg G m w H ∧ EnvR X.K G m σ r ∧ RepL X.K G m v d ∧ b d r w = some r' ∧ ∀ σ', EnvR X.K G m σ' r' → σ'.length = σ.length → (∀ i, i ∉ sl → σ'[i]? = σ[i]?) → Q σ' H
abbrev DG (e : Expr) (b : Bd) (sl : List Nat) : Prop := PG X e (tgD X b sl)
abbrev DGs (e : List Expr) (b : Bds) (sl : List Nat) : Prop := PGs X e (tgsD X b sl)
end
section
variable {X : Cx} {W : WX}
theorem _root_.L2.PG.weak {e : Expr} {t t' : TG} (h : PG X e t) (k : ∀ v σ H Q, t' v σ H Q → t v σ H Q) : PG X e t' := ⟨fun pins s σ H v u Q I r q => h.run pins s σ H v u Q I r (k _ _ _ _ q)⟩
theorem _root_.L2.PGs.weak {e : List Expr} {t t' : TGs} (h : PGs X e t) (k : ∀ v σ H Q, t' v σ H Q → t v σ H Q) : PGs X e t' := ⟨fun pins s σ H v u Q I r q => h.run pins s σ H v u Q I r (k _ _ _ _ q)⟩
theorem _root_.L2.PG.or {e : Expr} {t t' : TG} (h : PG X e t) (h' : PG X e t') : PG X e (fun v σ H Q => t v σ H Q ∨ t' v σ H Q) := ⟨fun pins s σ H v u Q I r q => q.elim (h.run pins s σ H v u Q I r) (h'.run pins s σ H v u Q I r)⟩
theorem set_out {σ : L2.St} {i j : Nat} {v : Option V} (h : j ∉ [i]) : (σ.set i v)[j]? = σ[j]? := List.getElem?_set_ne (fun e => h (by simp [e]))
theorem dg_name (i : Nat) {x : Str} {pos : Pos} (hN : X.N.Nodup) (hi : X.N[i]? = some x := by rfl) (hx : Loc X.env.scope x := by first | exact Or.inl rfl | exact Or.inr rfl) (hf : X.fn x = true ∨ X.env.scope.names.lookup x = some .local := by first | exact .inl rfl | exact .inr rfl | assumption) : DG X (.Name x pos) (bName i) [i] :=
  (pg_name hN hi hx hf).weak fun v σ H Q ⟨G, m, w, r, d, r', S, E, R, h, k⟩ => by
    cases h
    exact k _ (E.set R i) (by simp) fun j hj => set_out hj
theorem dgs_nil : DGs X [] bNil [] := pgs_nil.weak fun v σ H Q ⟨G, m, w, r, d, r', S, E, R, h, k⟩ => by
  cases R with
  | nil => cases h; exact ⟨rfl, k _ E rfl fun _ _ => rfl⟩
  | cons _ _ => cases h
theorem dgs_cons {e : Expr} {es : List Expr} {b : Bd} {bs : Bds} {sl sl2 : List Nat} (h1 : DG X e b sl) (h2 : DGs X es bs sl2) (hs : (assignEach (e :: es) X.env).map (·.2) = assign e X.env :: (assignEach es X.env).map (·.2) := by rfl) : DGs X (e :: es) (bCons b bs) (sl ++ sl2) := (pgs_cons h1 h2 hs).weak fun v σ H Q ⟨G, m, w, r, d, r', S, E, R, h, k⟩ => by
  cases R with
  | nil => cases h
  | cons r1 rs =>
    obtain ⟨r2, e1, e2⟩ := Option.bind_eq_some_iff.mp h
    refine ⟨_, _, rfl, G, m, w, r, _, r2, S, E, r1, e1, fun σ' E' l1 a => ⟨G, m, w, r2, _, r', S, E', rs, e2, fun σ2 E2 l2 a2 => k σ2 E2 (l2.trans l1) fun i hi => ?_⟩⟩
    rw [a2 i (fun z => hi (List.mem_append_right _ z)), a i (fun z => hi (List.mem_append_left _ z))]
theorem dg_tup {es : List Expr} {k n : Nat} {bs : Bds} {sl : List Nat} {pos : Pos} (hc : X.calm = true) (h : DGs X es bs sl) (hn : (assignEach es X.env).length = n := by rfl) (hst : (assignEach es X.env).findIdx? (·.1) = none := by rfl) : DG X (.Tuple es k pos) (bTup n bs) sl :=
  ((pg_tup hc h hn hst).or (pg_unl hc h hn hst)).weak fun v σ H Q ⟨G, m, w, r, d, r', S, E, R, h, kk⟩ => by
    obtain ⟨ds, e1, h⟩ := Option.bind_eq_some_iff.mp h
    split at h
    · rename_i hl
      obtain ⟨a, vs, rfl, hq, rl⟩ := rep_asQ S R e1
      have go : tgsD X bs sl vs σ H Q := ⟨G, m, w, r, ds, r', S, E, rl, h, kk⟩
      rcases hq with hq | hq
      · exact .inr ⟨a, vs, rfl, hq, by rw [rl.length]; exact hl, go⟩
      · exact .inl ⟨a, vs, rfl, hq, by rw [rl.length]; exact hl, go⟩
    · cases h
/-- target = e, any target of these -/
def sAsg (b : Bd) (A : Den) : DenS := fun r w => (A r w).thenS r fun d w1 => match b d r w1 with
  | some r' => .go .next r' w1
  | none => .bad
theorem ds_asg {tg e : Expr} {b : Bd} {sl : List Nat} {A : Den} {pos : Pos} (he : DE X W e A) (hg : DG X tg b sl) (hs : swapsWithSole [tg] e pos.line X.env = pure false := by rfl) (hw : swappedStores [tg] e X.env = pure none := by rfl)
    (h1 : (assignEach [tg] X.env).map (·.2) = [assign tg X.env] := by rfl) : DS X W (.Assign [tg] e pos) (sAsg b A) := PS.weak (ps_asg he hg hs hw h1) <| by
  rintro C σ H ⟨G, m, w, r, S, E, h⟩
  refine ⟨G, m, w, r, S, E, (okO.bindS h E (envR_up E)).mono ?_⟩
  rintro x H1 ⟨G1, m1, w1, d, e1, S1, R1, h1⟩
  cases q : b d r w1 with
  | none => simp only [q] at h1; exact h1.elim
  | some r' =>
    simp only [q] at h1
    exact ⟨G1, m1, w1, r, d, r', S1, E.ext e1, R1, q, fun σ' E' _ _ => h1 G1 m1 H1 σ' Ext.refl S1 E'⟩
/-- x, y = a, b -/
def sPar (i j : Nat) (B : DenA) : DenS := fun r w => (B r w).thenS r fun ds w1 => match ds with
  | [d, e] => .go .next ((r.set i (some d)).set j (some e)) w1
  | _ => .bad
theorem ds_par {i j : Nat} {x y : Str} {a b : Expr} {B : DenA} {px py pt pos : Pos} {kt k2 : Nat} {pt2 : Pos} (hc : X.calm = true) (hN : X.N.Nodup) (ha : DA X W [a, b] B) (hi : X.N[i]? = some x := by rfl) (hj : X.N[j]? = some y := by rfl) (hij : i ≠ j := by decide)
    (hx : X.env.scope.names.lookup x = some .local := by rfl) (hy : X.env.scope.names.lookup y = some .local := by rfl)
    (hw : swappedStores [.Tuple [.Name x px, .Name y py] kt pt] (.Tuple [a, b] k2 pt2) X.env = pure (some [x, y]) := by rfl)
    (hs : swapsWithSole [.Tuple [.Name x px, .Name y py] kt pt] (.Tuple [a, b] k2 pt2) pos.line X.env = pure false := by rfl) :
    DS X W (.Assign [.Tuple [.Name x px, .Name y py] kt pt] (.Tuple [a, b] k2 pt2) pos) (sPar i j B) := PS.weak (ps_par hc hN hi hj hij hx hy ha hw hs) <| by
  rintro C σ H ⟨G, m, w, r, S, E, h⟩
  refine ⟨G, m, w, r, S, E, (okO.bindS h E (envR_up E)).mono ?_⟩
  rintro vs H1 ⟨G1, m1, w1, ds, e1, S1, R1, h1⟩
  cases R1 with
  | nil => exact h1.elim
  | cons r1 rs =>
    cases rs with
    | nil => exact h1.elim
    | cons r2 rs =>
      cases rs with
      | nil => exact ⟨_, _, rfl, h1 G1 m1 H1 _ Ext.refl S1 (((E.ext e1).set r1 i).set r2 j)⟩
      | cons _ _ => exact h1.elim

/-! ### what is walked -/
abbrev TF := Nat → List Cell → Option (Option D)
abbrev DenI := DEnv → List Cell → Out (Nat × TF)
structure Drives (K : PySem.W.Frag) (mg : Str → Option Value) (G0 : Hp) (m0 : List Addr) (H0 : Hp) (J : It) (tf : TF) : Prop where
  stop : ∀ i G m w H, Ext G0 m0 H0 G m H → Sim K mg G m w H → tf i w = some none → J.stop i H
  go : ∀ i G m w H d, Ext G0 m0 H0 G m H → Sim K mg G m w H → tf i w = some (some d) → J.go i H ∧ ∀ x H2, J.yld i H x H2 → ∃ G2, Ext G m H G2 m H2 ∧ Sim K mg G2 m w H2 ∧ Rep K G2 m x d
def tiD (X : Cx) (W : WX) (S : DenI) : TI := fun σ H R => ∃ G m w r, Sim X.K X.mg G m w H ∧ EnvR X.K G m σ r ∧ okO (α := Nat × TF) (β := It) X.K X.mg (fun G m H J a => Drives X.K X.mg G m H J a.2) (fun c d H => W c d σ H) G m H R (S r w)
abbrev DI (X : Cx) (W : WX) (tg e : Expr) (S : DenI) : Prop := PI X tg e (tiD X W S)
theorem _root_.L2.PI.weak {tg e : Expr} {t t' : TI} (h : PI X tg e t) (k : ∀ σ H R, t' σ H R → t σ H R) : PI X tg e t' := ⟨fun pins s σ H R I q => h.run pins s σ H R I (k _ _ _ q)⟩
theorem _root_.L2.PI.or {tg e : Expr} {t t' : TI} (h : PI X tg e t) (h' : PI X tg e t') : PI X tg e (fun σ H R => t σ H R ∨ t' σ H R) := ⟨fun pins s σ H R I q => q.elim (h.run pins s σ H R I) (h'.run pins s σ H R I)⟩
/-- the items of a sequence, as it stands at each turn -/
def seqTF (d : D) : TF := match d with
  | .str z => fun i _ => some ((z.cps[i]?).map fun c => .str ⟨#[c]⟩)
  | d => fun i w => (asQ d w).map fun ds => ds[i]?
def seqLen (d : D) (w : List Cell) : Option Nat := match d with
  | .str z => some z.cps.size
  | d => (asQ d w).map (·.length)
def iSeq (A : Den) : DenI := fun r w => (A r w).bnd fun d w1 => match seqLen d w1 with
  | some n => .ok (n, seqTF d) w1
  | none => .bad
theorem di_seq {tg e : Expr} {A : Den} (he : DE X W e A) : DI X W tg e (iSeq A) := ((pi_list he).or ((pi_tup he).or (pi_str he))).weak <| by
  rintro σ H R ⟨G, m, w, r, S, E, h⟩
  cases q : A r w with
  | bad => unfold iSeq at h; rw [q] at h; exact h.elim
  | exc x w1 => unfold iSeq at h; rw [q] at h; exact .inl ⟨G, m, w, r, S, E, by rw [q]; exact h⟩
  | ok d w1 =>
    unfold iSeq at h; rw [q, Out.bnd_ok] at h
    cases z : seqLen d w1 with
    | none => simp only [z] at h; exact h.elim
    | some n =>
      simp only [z] at h
      have lists : (∀ G1 m1 H1 v, Ext G m H G1 m1 H1 → Sim X.K X.mg G1 m1 w1 H1 → Rep X.K G1 m1 v d → ∃ a, v = .ref a ∧ (∃ xs, SqL X.K H1 a xs) ∧ Drives X.K X.mg G1 m1 H1 (Itl X.K a) (seqTF d)) → iList X.K (teD X W A) σ H R := fun k =>
        ⟨G, m, w, r, S, E, by rw [q]; exact fun G1 m1 H1 v e1 S1 R1 => let ⟨a, h1, h2, h3⟩ := k G1 m1 H1 v e1 S1 R1; ⟨a, h1, h2, h G1 m1 H1 _ e1 S1 h3⟩⟩
      have seqD : ∀ (d : D) (hns : ∀ z, d ≠ .str z) (i : Nat) (w : List Cell), seqTF d i w = (asQ d w).map fun ds => ds[i]? := fun d hns i w => by
        cases d <;> first | rfl | exact absurd rfl (hns _)
      have drL : ∀ (hns : ∀ z, d ≠ .str z) (G1 : Hp) (m1 : List Addr) (H1 : Hp) (a : Addr), Rep X.K G1 m1 (.ref a) d → (∀ (G : Hp) (m : List Addr) (w : List Cell) (H : Hp) ds, Sim X.K X.mg G m w H → Rep X.K G m (.ref a) d → asQ d w = some ds → ∃ vs, SqL X.K H a vs ∧ RepL X.K G m vs ds) → Drives X.K X.mg G1 m1 H1 (Itl X.K a) (seqTF d) := fun hns G1 m1 H1 a R1 sq => by
        refine ⟨fun i G m w H eh S2 ht => ?_, fun i G m w H x eh S2 ht => ?_⟩
        · rw [seqD d hns] at ht
          obtain ⟨ds, e1, e2⟩ := Option.map_eq_some_iff.mp ht
          obtain ⟨vs, h1, h2⟩ := sq G m w H ds S2 (R1.ext eh) e1
          exact ⟨vs, h1, by rw [h2.length]; exact List.getElem?_eq_none_iff.mp e2⟩
        · rw [seqD d hns] at ht
          obtain ⟨ds, e1, e2⟩ := Option.map_eq_some_iff.mp ht
          obtain ⟨vs, h1, h2⟩ := sq G m w H ds S2 (R1.ext eh) e1
          obtain ⟨v, h3, h4⟩ := h2.get e2
          refine ⟨⟨vs, v, h1, h3⟩, fun x2 H2 hy => ?_⟩
          obtain ⟨rfl, hy⟩ := hy
          have := hy vs h1
          rw [h3] at this
          cases this
          exact ⟨G, Ext.refl, S2, h4⟩
      cases d with
      | str zz =>
        refine .inr (.inr ⟨G, m, w, r, S, E, ?_⟩)
        rw [q]
        intro G1 m1 H1 v e1 S1 R1
        cases R1
        refine ⟨zz, rfl, h G1 m1 H1 (Its zz) e1 S1 ⟨fun i G m w H eh S2 ht => ?_, fun i G m w H x eh S2 ht => ?_⟩⟩
        · simp only [seqTF, Option.some.injEq, Option.map_eq_none_iff] at ht
          exact Array.getElem?_eq_none_iff.mp ht
        · simp only [seqTF, Option.some.injEq, Option.map_eq_some_iff] at ht
          obtain ⟨c, h1, rfl⟩ := ht
          refine ⟨(Array.getElem?_eq_some_iff.mp h1).1, fun x2 H2 hy => ?_⟩
          obtain ⟨rfl, c2, h2, rfl⟩ := hy
          rw [h1] at h2; cases h2
          exact ⟨G, Ext.refl, S2, .str _⟩
      | tup ds =>
        refine .inr (.inl ⟨G, m, w, r, S, E, ?_⟩)
        rw [q]
        intro G1 m1 H1 v e1 S1 R1
        cases R1 with
        | @tup a vs es ha ra =>
          refine ⟨a, rfl, ⟨vs, SqT.up S1.sub ha⟩, h G1 m1 H1 (Itt X.K a) e1 S1 ⟨fun i G m w H eh S2 ht => ?_, fun i G m w H x eh S2 ht => ?_⟩⟩
          · simp only [seqTF, asQ, Option.map_some, Option.some.injEq] at ht
            exact ⟨vs, SqT.up S2.sub (SqT.up eh.g ha), by rw [ra.length]; exact List.getElem?_eq_none_iff.mp ht⟩
          · simp only [seqTF, asQ, Option.map_some, Option.some.injEq] at ht
            have ra2 : RepL X.K G m vs ds := ra.ext eh
            obtain ⟨v, h3, h4⟩ := ra2.get ht
            have hT := SqT.up S2.sub (SqT.up eh.g ha)
            refine ⟨⟨vs, v, hT, h3⟩, fun x2 H2 hy => ?_⟩
            obtain ⟨rfl, hy⟩ := hy
            have := hy vs hT
            rw [h3] at this
            cases this
            exact ⟨G, Ext.refl, S2, h4⟩
      | lst ds =>
        refine .inl (lists fun G1 m1 H1 v e1 S1 R1 => ?_)
        cases R1 with
        | lst ha ra => exact ⟨_, rfl, ⟨_, SqL.of (S1.sub _ _ ha)⟩, drL (fun _ z => nomatch z) G1 m1 H1 _ (.lst ha ra) fun G m w H es S2 R2 hq => by
            obtain ⟨b, vs, e, h1, h2⟩ := rep_asL S2 R2 (show asL (.lst ds) w = some es from hq)
            cases e
            exact ⟨vs, SqL.of h1, h2⟩⟩
      | scr ds =>
        refine .inl (lists fun G1 m1 H1 v e1 S1 R1 => ?_)
        cases R1 with
        | scr ha ra => exact ⟨_, rfl, ⟨_, SqL.up S1.sub ha⟩, drL (fun _ z => nomatch z) G1 m1 H1 _ (.scr ha ra) fun G m w H es S2 R2 hq => by
            cases R2 with
            | scr hb rb => cases hq; exact ⟨_, SqL.up S2.sub hb, rb⟩⟩
      | cel k =>
        refine .inl (lists fun G1 m1 H1 v e1 S1 R1 => ?_)
        obtain ⟨ds, e2, _⟩ := Option.map_eq_some_iff.mp (show ((asQ (.cel k) w1).map (·.length)) = some n from z)
        obtain ⟨a, vs, rfl, h1, h2⟩ := rep_asL S1 R1 (show asL (.cel k) w1 = some ds from e2)
        exact ⟨a, rfl, ⟨vs, SqL.of h1⟩, drL (fun _ z => nomatch z) G1 m1 H1 _ R1 fun G m w H es S2 R2 hq => by
          obtain ⟨b, vs, e, h1, h2⟩ := rep_asL S2 R2 (show asL (.cel k) w = some es from hq)
          cases e
          exact ⟨vs, SqL.of h1, h2⟩⟩
      | _ => simp [seqLen, asQ] at z
/-! range -/
def rangeTF (lo : Int) (n : Nat) : TF := fun i _ => if i < n then some (some (.int (lo + i))) else some none
theorem in62 {j : Int} (h : j.natAbs ≤ 1000000000) : -(2 ^ 62) ≤ j ∧ j < 2 ^ 62 := by
  have e : (2 : Int) ^ 62 = 4611686018427387904 := rfl
  rw [e]
  omega
def iRange1 (B : DenA) : DenI := fun r w => (B r w).bnd fun ds w1 => match ds with
  | [.int j] => if j.natAbs ≤ 1000000000 then .ok (j.toNat, rangeTF 0 j.toNat) w1 else .bad
  | _ => .bad
def iRange2 (B : DenA) : DenI := fun r w => (B r w).bnd fun ds w1 => match ds with
  | [.int i, .int j] => if i.natAbs ≤ 1000000000 ∧ j.natAbs ≤ 1000000000 then .ok ((j - i).toNat, rangeTF i (j - i).toNat) w1 else .bad
  | _ => .bad
theorem drives_range {K : PySem.W.Frag} {mg : Str → Option Value} {G H : Hp} {m : List Addr} (lo : Int) (n : Nat) : Drives K mg G m H (Itr lo n) (rangeTF lo n) := by
  refine ⟨fun i G m w H eh S2 ht => ?_, fun i G m w H x eh S2 ht => ?_⟩
  · unfold rangeTF at ht
    split at ht
    · cases ht
    · rename_i h; exact Nat.le_of_not_lt h
  · unfold rangeTF at ht
    split at ht
    · rename_i h
      cases ht
      refine ⟨h, fun x2 H2 hy => ?_⟩
      obtain ⟨rfl, rfl⟩ := hy
      exact ⟨G, Ext.refl, S2, .int _⟩
    · cases ht
theorem di_range1 {tg a : Expr} {B : DenA} {p pos : Pos} (hm : X.mg "range" = none) (ha : DA X W [a] B) (hg : Gl X "range" := by rfl) (hs : starEach [a] X.env = [(false, eval a X.env)] := by rfl) : DI X W tg (.Call (.Name "range" p) [a] [] pos) (iRange1 B) := (pi_range1 hg hm ha hs).weak <| by
  rintro σ H R ⟨G, m, w, r, S, E, h⟩
  refine ⟨G, m, w, r, S, E, (okO.bind h).mono ?_⟩
  rintro vs H1 ⟨G1, m1, w1, ds, e1, S1, R1, h1⟩
  cases R1 with
  | nil => exact h1.elim
  | cons r1 rs =>
    cases rs with
    | cons _ _ => cases r1 <;> exact h1.elim
    | nil =>
      cases r1 with
      | int j =>
        simp only at h1
        split at h1
        · rename_i hj
          exact ⟨j, rfl, (in62 hj).1, (in62 hj).2, h1 G1 m1 H1 _ Ext.refl S1 (drives_range _ _)⟩
        · exact h1.elim
      | _ => exact h1.elim
theorem di_range2 {tg a b : Expr} {B : DenA} {p pos : Pos} (hm : X.mg "range" = none) (ha : DA X W [a, b] B) (hg : Gl X "range" := by rfl) (hs : starEach [a, b] X.env = [(false, eval a X.env), (false, eval b X.env)] := by rfl) (hs2 : starEach [b] X.env = [(false, eval b X.env)] := by rfl) : DI X W tg (.Call (.Name "range" p) [a, b] [] pos) (iRange2 B) := (pi_range2 hg hm ha hs hs2).weak <| by
  rintro σ H R ⟨G, m, w, r, S, E, h⟩
  refine ⟨G, m, w, r, S, E, (okO.bind h).mono ?_⟩
  rintro vs H1 ⟨G1, m1, w1, ds, e1, S1, R1, h1⟩
  cases R1 with
  | nil => exact h1.elim
  | cons r1 rs =>
    cases rs with
    | nil => cases r1 <;> exact h1.elim
    | cons r2 rs =>
      cases rs with
      | cons _ _ => cases r1 <;> cases r2 <;> exact h1.elim
      | nil =>
        cases r1 with
        | int i =>
          cases r2 with
          | int j =>
            simp only at h1
            split at h1
            · rename_i hj
              exact ⟨i, j, rfl, ⟨(in62 hj.1).1, (in62 hj.1).2, (in62 hj.2).1, (in62 hj.2).2⟩, h1 G1 m1 H1 _ Ext.refl S1 (drives_range _ _)⟩
            · exact h1.elim
          | _ => exact h1.elim
        | _ => cases r2 <;> exact h1.elim
/-! enumerate of a list -/
def asLs (d : D) (w : List Cell) : Option (List D) := match d with
  | .lst ds => some ds
  | .scr ds => some ds
  | .cel n => match w[n]? with
    | some (.lst ds) => some ds
    | _ => none
  | _ => none
theorem rep_asLs {K : PySem.W.Frag} {mg : Str → Option Value} {G H : Hp} {m : List Addr} {w : List Cell} {v : V} {d : D} {ds : List D} (S : Sim K mg G m w H) (r : Rep K G m v d) (e : asLs d w = some ds) : ∃ a vs, v = .ref a ∧ SqL K H a vs ∧ RepL K G m vs ds := by
  cases r with
  | lst h q => cases e; exact ⟨_, _, rfl, SqL.of (S.sub _ _ h), q⟩
  | scr h q => cases e; exact ⟨_, _, rfl, SqL.up S.sub h, q⟩
  | @cel n a h =>
    obtain ⟨b, vs, e1, h1, h2⟩ := rep_asL S (.cel h : Rep K G m (.ref a) (.cel n)) (show asL (.cel n) w = some ds from e)
    exact ⟨b, vs, e1, SqL.of h1, h2⟩
  | _ => cases e
def enumTF (d : D) : TF := fun i w => (asLs d w).map fun ds => (ds[i]?).map fun x => .tup [.int (i : Nat), x]
def iEnumD (B : DenA) : DenI := fun r w => (B r w).bnd fun ds w1 => match ds with
  | [d] => match asLs d w1 with
    | some xs => .ok (xs.length, enumTF d) w1
    | none => .bad
  | _ => .bad
theorem di_enum {e : Expr} {B : DenA} {p pos tpos : Pos} {elts : List Expr} {kk : Nat} (hm : X.mg "enumerate" = none) (ha : DA X W [e] B) (hg : Gl X "enumerate" := by rfl) (hs : starEach [e] X.env = [(false, eval e X.env)] := by rfl) : DI X W (.Tuple elts kk tpos) (.Call (.Name "enumerate" p) [e] [] pos) (iEnumD B) := (pi_enum hg hm ha hs).weak <| by
  rintro σ H R ⟨G, m, w, r, S, E, h⟩
  refine ⟨G, m, w, r, S, E, (okO.bind h).mono ?_⟩
  rintro vs H1 ⟨G1, m1, w1, ds, e1, S1, R1, h1⟩
  cases R1 with
  | nil => exact h1.elim
  | cons r1 rs =>
    cases rs with
    | cons _ _ => exact h1.elim
    | nil =>
      rename_i d
      simp only at h1
      cases q : asLs d w1 with
      | none => simp only [q] at h1; exact h1.elim
      | some xs =>
        simp only [q] at h1
        obtain ⟨a, vs, rfl, hq, rl⟩ := rep_asLs S1 r1 q
        refine ⟨a, vs, rfl, hq, h1 G1 m1 H1 (Ite X.K a) Ext.refl S1 ⟨fun i G m w H eh S2 ht => ?_, fun i G m w H x eh S2 ht => ?_⟩⟩
        · obtain ⟨ds, q1, q2⟩ := Option.map_eq_some_iff.mp ht
          obtain ⟨b, us, eb, h3, h4⟩ := rep_asLs S2 (r1.ext eh) q1
          cases eb
          exact ⟨us, h3, by rw [h4.length]; exact List.getElem?_eq_none_iff.mp (Option.map_eq_none_iff.mp q2)⟩
        · obtain ⟨ds, q1, q2⟩ := Option.map_eq_some_iff.mp ht
          obtain ⟨y, q3, rfl⟩ := Option.map_eq_some_iff.mp q2
          obtain ⟨b, us, eb, h3, h4⟩ := rep_asLs S2 (r1.ext eh) q1
          cases eb
          obtain ⟨v, h5, h6⟩ := h4.get q3
          refine ⟨⟨us, v, h3, h5⟩, fun x2 H2 hy => ?_⟩
          obtain ⟨T, z, rfl, hT, rfl, hz⟩ := hy
          have := hz us h3
          rw [h5] at this
          cases this
          exact ⟨_, ext_newF S2 hT _, S2.newF hT _, .tup (SqT.of upd_same) (.cons (.int _) (.cons (h6.ext (ext_newF S2 hT _)) .nil))⟩
/-! ### for -/
def forD (tf : TF) (bd : Bd) (B : DenS) : Nat → Nat → DEnv → List Cell → OutS
  | 0, i, r, w => match tf i w with
    | some none => .go .next r w
    | _ => .bad
  | n + 1, i, r, w => match tf i w with
    | some none => .go .next r w
    | some (some d) => match bd d r w with
      | some r1 => match B r1 w with
        | .go .next r2 w2 => forD tf bd B n (i + 1) r2 w2
        | .go .cont r2 w2 => forD tf bd B n (i + 1) r2 w2
        | .go .brk r2 w2 => .go .next r2 w2
        | .go (.ret d) r2 w2 => .go (.ret d) r2 w2
        | .exc x r2 w2 => .exc x r2 w2
        | .bad => .bad
      | none => .bad
    | none => .bad
def sFor (S : DenI) (bd : Bd) (B : DenS) : DenS := fun r w => (S r w).thenS r fun a w1 => forD a.2 bd B a.1 0 r w1
theorem ds_for {tg iter : Expr} {body : List Stmt} {S : DenI} {bd : Bd} {sl : List Nat} {B : DenS} {pos : Pos} (hp : PassesOwn (model X.prog X.w) X.A X.env X.xe) (hc : X.calm = true) (hi : DI X W tg iter S) (hg : DG X tg bd sl) (hb : DSs X W body B)
    (hs : ∀ x, foldedSetIterable iter X.env x = pure x := by intro _; rfl) : DS X W (.For tg iter body [] pos) (sFor S bd B) := PS.weak (ps_for hp hc hi hg hb hs) <| by
  rintro C σ H ⟨G, m, w, r, Sm, E, h⟩
  refine ⟨G, m, w, r, Sm, E, (okO.bindS h E (envR_up E)).mono ?_⟩
  rintro J H1 ⟨G1, m1, w1, a, e1, S1, D1, h1⟩
  obtain ⟨n0, tf⟩ := a
  refine ⟨fun i n σ H => ∃ G m w r, Ext G1 m1 H1 G m H ∧ Sim X.K X.mg G m w H ∧ EnvR X.K G m σ r ∧ okS X.K X.mg W G m H C (forD tf bd B n i r w), ⟨n0, G1, m1, w1, r, Ext.refl, S1, E.ext e1, h1⟩, ?_⟩
  rintro i n σ2 H2 ⟨G2, m2, w2, r2, e2, S2, E2, h2⟩
  have stopped : ∀ n, tf i w2 = some none → okS X.K X.mg W G2 m2 H2 C (forD tf bd B n i r2 w2) → C.nx σ2 H2 := fun n q k => by
    cases n <;> (unfold forD at k; simp only [q] at k; exact k G2 m2 H2 σ2 Ext.refl S2 E2)
  cases q : tf i w2 with
  | none => cases n <;> (unfold forD at h2; simp only [q] at h2; exact h2.elim)
  | some o =>
    cases o with
    | none => exact .inl ⟨D1.stop i G2 m2 w2 H2 e2 S2 q, stopped n q h2⟩
    | some d =>
      obtain ⟨g1, g2⟩ := D1.go i G2 m2 w2 H2 d e2 S2 q
      cases n with
      | zero => unfold forD at h2; simp only [q] at h2; exact h2.elim
      | succ n =>
        unfold forD at h2; simp only [q] at h2
        refine .inr ⟨g1, fun σ H => ∃ G m w r, Ext G1 m1 H1 G m H ∧ Sim X.K X.mg G m w H ∧ EnvR X.K G m σ r ∧ okS X.K X.mg W G m H C (forD tf bd B n (i + 1) r w), fun σ' H' hh => ⟨n, Nat.lt_succ_self n, hh⟩, fun x H3 hy => ?_⟩
        obtain ⟨G3, e3, S3, R3⟩ := g2 x H3 hy
        cases z : bd d r2 w2 with
        | none => simp only [z] at h2; exact h2.elim
        | some r3 =>
          simp only [z] at h2
          refine ⟨G3, m2, w2, r2, d, r3, S3, E2.ext e3, R3, z, fun σ3 E3 _ _ => ⟨G3, m2, w2, r3, S3, E3, ?_⟩⟩
          have e13 := e2.trans e3
          cases u : B r3 w2 with
          | bad => rw [u] at h2; exact h2.elim
          | exc y r4 w4 => rw [u] at h2; exact okS.ext (o := .exc y r4 w4) h2 e3
          | go f r4 w4 =>
            rw [u] at h2
            cases f with
            | next => exact fun G4 m4 H4 σ4 e4 S4 E4 => ⟨G4, m4, w4, r4, e13.trans e4, S4, E4, okS.ext h2 (e3.trans e4)⟩
            | cont => exact fun G4 m4 H4 σ4 e4 S4 E4 => ⟨G4, m4, w4, r4, e13.trans e4, S4, E4, okS.ext h2 (e3.trans e4)⟩
            | brk => exact fun G4 m4 H4 σ4 e4 S4 E4 => h2 G4 m4 H4 σ4 (e3.trans e4) S4 E4
            | ret d => exact fun G4 m4 H4 v e4 S4 R4 => h2 G4 m4 H4 v (e3.trans e4) S4 R4
end
end Dn
/-! Dn7: comprehensions. -/
namespace Dn
open PySem PySem.Spec PyProof.Rows L2

section
variable {K : PySem.W.Frag} {mg : Str → Option Value} {G G1 H H0 H1 : Hp} {m m1 : List Addr} {w w1 : List Cell}
/-- a thing that nobody names -/
theorem Sim.hid (S : Sim K mg G m w H0) {p : Addr} (hp : H0 p = none) (o : HO) : Sim K mg G m w (upd H0 p o) := by
  have ne : ∀ a, a ∈ m → a ≠ p := fun a h z => S.here a h (z ▸ hp)
  refine ⟨fun a u h => ?_, S.len, S.nd, S.sep, fun a h => ?_, fun n a c h1 h2 => ?_⟩
  · rw [upd_ne (fun z => by subst z; rw [S.freshG hp] at h; cases h)]; exact S.sub a u h
  · rw [upd_ne (ne a h)]; exact S.here a h
  · refine (S.cel n a c h1 h2).ext (Ext.refl (H := H0)) fun o q => ?_
    rw [upd_ne (ne a (List.mem_of_getElem? h1))]; exact q
def del (H : Hp) (p : Addr) : Hp := fun b => if b = p then none else H b
theorem del_at {H : Hp} {p : Addr} : del H p p = none := if_pos rfl
theorem del_ne {H : Hp} {p b : Addr} (h : b ≠ p) : del H p b = H b := if_neg h
theorem upd_del {H : Hp} {p : Addr} {o : HO} (h : H p = some o) : upd (del H p) p o = H := by
  funext b
  by_cases e : b = p
  · subst e; rw [upd_same, h]
  · rw [upd_ne e, del_ne e]
/-- behind a step that nobody told of it -/
theorem Sim.unhid (S : Sim K mg G m w H0) {p : Addr} (hp : H0 p = none) {o : HO} (e : Ext G m (upd H0 p o) G1 m1 H1) (S1 : Sim K mg G1 m1 w1 H1) : H1 p = some o ∧ Ext G m H0 G1 m1 (del H1 p) ∧ Sim K mg G1 m1 w1 (del H1 p) := by
  have hpm : p ∉ m := S.fresh hp
  have h1 : H1 p = some o := e.fr p o upd_same hpm
  have hp1 : p ∉ m1 := fun z => by have := e.nm p z hpm; rw [upd_same] at this; cases this
  have none_of : ∀ a, upd H0 p o a = none → H0 a = none := fun a h => by
    by_cases z : a = p
    · subst z; exact hp
    · rwa [upd_ne z] at h
  have hG1 : G1 p = none := by
    cases q : G1 p with
    | none => rfl
    | some u =>
      rcases e.ng p u q with z | z | z
      · rw [S.freshG hp] at z; cases z
      · rw [upd_same] at z; cases z
      · exact absurd z hpm
  refine ⟨h1, ⟨e.g, e.mm, fun b u h n => ?_, fun a h n => none_of a (e.nm a h n), fun a u h => ?_, fun b x u h => ?_⟩, ⟨fun a u h => ?_, S1.len, S1.nd, S1.sep, fun a h => ?_, fun n a c q1 q2 => ?_⟩⟩
  · have z : b ≠ p := fun z => by rw [z, hp] at h; cases h
    rw [del_ne z]
    exact e.fr b u (by rw [upd_ne z]; exact h) n
  · rcases e.ng a u h with z | z | z
    · exact .inl z
    · exact .inr (.inl (none_of a z))
    · exact .inr (.inr z)
  · have z : b ≠ p := fun z => by rw [z, hp] at h; cases h
    rw [del_ne z]
    exact e.fz b x u (by rw [upd_ne z]; exact h)
  · rw [del_ne (fun z => by rw [z, hG1] at h; cases h)]; exact S1.sub a u h
  · rw [del_ne (fun z => hp1 (by rw [← z]; exact h))]; exact S1.here a h
  · refine (S1.cel n a c q1 q2).ext (Ext.refl (H := H1)) fun u q => ?_
    rw [del_ne (fun z => hp1 (by rw [← z]; exact List.mem_of_getElem? q1))]; exact q
end
def wipeD (r : DEnv) : List Nat → DEnv
  | [] => r
  | v :: vs => (wipeD r vs).set v none
theorem wipeD_length (r : DEnv) : ∀ vs : List Nat, (wipeD r vs).length = r.length
  | [] => rfl
  | v :: vs => by rw [wipeD, List.length_set, wipeD_length r vs]
theorem wipe_at {σ : L2.St} {i : Nat} : ∀ {vs : List Nat}, (wipe σ vs)[i]? = if i ∈ vs ∧ i < σ.length then some none else σ[i]?
  | [] => by simp [wipe]
  | v :: vs => by
    have ih := wipe_at (σ := σ) (i := i) (vs := vs)
    rw [wipe]
    by_cases e : v = i
    · subst e
      by_cases hv : v < σ.length
      · rw [List.getElem?_set_self (by rw [wipe_length]; exact hv), if_pos ⟨List.mem_cons_self, hv⟩]
      · rw [List.getElem?_eq_none (by rw [List.length_set, wipe_length]; omega), if_neg (fun z => hv z.2), List.getElem?_eq_none (by omega)]
    · rw [List.getElem?_set_ne e, ih]
      have : (i ∈ v :: vs) ↔ i ∈ vs := by rw [List.mem_cons]; exact ⟨fun h => h.elim (fun z => absurd z.symm e) id, .inr⟩
      simp only [this]
theorem wipeD_some {r : DEnv} {i : Nat} {x : D} : ∀ {vs : List Nat}, (wipeD r vs)[i]? = some (some x) → r[i]? = some (some x) ∧ i ∉ vs
  | [], h => ⟨h, by simp⟩
  | v :: vs, h => by
    unfold wipeD at h
    rcases getElem?_set_cases h with ⟨rfl, q⟩ | ⟨ne, q⟩
    · cases q
    · obtain ⟨h1, h2⟩ := wipeD_some q
      exact ⟨h1, by simp only [List.mem_cons, not_or]; exact ⟨ne, h2⟩⟩
theorem EnvR.wipe {K : PySem.W.Frag} {G : Hp} {m : List Addr} {σ : L2.St} {r : DEnv} (E : EnvR K G m σ r) (vs : List Nat) : EnvR K G m (L2.wipe σ vs) (wipeD r vs) := by
  refine ⟨by rw [wipe_length, wipeD_length]; exact E.1, fun i d h => ?_⟩
  obtain ⟨h1, h2⟩ := wipeD_some h
  obtain ⟨v, h3, h4⟩ := E.2 i d h1
  exact ⟨v, by rw [wipe_at, if_neg (fun z => h2 z.1)]; exact h3, h4⟩
theorem wipe_agree {σ σ2 : L2.St} {vs sl : List Nat} (hl : σ2.length = σ.length) (h : ∀ i, i ∉ sl → σ2[i]? = (wipe σ vs)[i]?) (hs : ∀ i ∈ sl, i ∈ vs) : wipe σ2 vs = wipe σ vs := by
  apply List.ext_getElem?
  intro i
  rw [wipe_at]
  by_cases e : i ∈ vs
  · rw [wipe_at, hl]
    by_cases z : i < σ.length
    · rw [if_pos ⟨e, z⟩, if_pos ⟨e, z⟩]
    · rw [if_neg (fun q => z q.2), if_neg (fun q => z q.2), List.getElem?_eq_none (by omega), List.getElem?_eq_none (by omega)]
  · rw [if_neg (fun q => e q.1)]
    exact h i fun q => e (hs i q)

theorem ext_hid {K : PySem.W.Frag} {mg : Str → Option Value} {G H : Hp} {m : List Addr} {w : List Cell} (S : Sim K mg G m w H) {p : Addr} (hp : H p = none) (o : HO) : Ext G m H G m (upd H p o) :=
  ⟨fun _ _ h => h, ⟨[], by simp⟩, fun b u h n => by rw [upd_ne (ne_of_none h hp)]; exact h, fun a h n => absurd h n, fun _ _ h => .inl h, fun b u z h => by rw [upd_ne (ne_of_none h hp)]; exact h⟩
/-- what is raised is not told of -/
def Out.nox {α : Type} : Out α → Out α
  | .ok a w => .ok a w
  | _ => .bad
@[simp] theorem Out.nox_ok {α : Type} (a : α) (w : List Cell) : (Out.ok a w).nox = .ok a w := rfl
@[simp] theorem Out.nox_exc {α : Type} (x : Ex) (w : List Cell) : (Out.exc x w : Out α).nox = .bad := rfl
@[simp] theorem Out.nox_bad {α : Type} : (Out.bad : Out α).nox = .bad := rfl
def compD (tf : TF) (bd : Bd) (T : DenT) (E : Den) (r : DEnv) : Nat → Nat → List D → List Cell → Out (List D)
  | 0, i, acc, w => match tf i w with
    | some none => .ok acc w
    | _ => .bad
  | n + 1, i, acc, w => match tf i w with
    | some none => .ok acc w
    | some (some d) => match bd d r w with
      | some r1 => (T r1 w).nox.bnd fun b w1 => if b = true then (E r1 w1).nox.bnd fun y w2 => if acc.length < sizeLine then compD tf bd T E r n (i + 1) (acc ++ [y]) w2 else .bad else compD tf bd T E r n (i + 1) acc w1
      | none => .bad
    | none => .bad
def compL (S : DenI) (bd : Bd) (T : DenT) (E : Den) (vs : List Nat) : DenA := fun r w => (S r w).bnd fun a w1 => compD a.2 bd T E (wipeD r vs) a.1 0 [] w1
def eComp (S : DenI) (bd : Bd) (T : DenT) (E : Den) (vs : List Nat) : Den := fun r w => (compL S bd T E vs r w).bnd fun ds w1 => .ok (.lst ds) w1
/-- a list that may change -/
def eCompC (S : DenI) (bd : Bd) (T : DenT) (E : Den) (vs : List Nat) : Den := fun r w => (compL S bd T E vs r w).bnd fun ds w1 => .ok (.cel w1.length) (w1 ++ [.lst ds])
abbrev W0 : WX := fun _ _ _ _ => False
section
variable {X : Cx} {W : WX}
def tYesD : DenT := fun _ w => .ok true w
abbrev DTs (X : Cx) (W : WX) (ifs : List Expr) (T : DenT) : Prop := PTs X ifs (ttD X W T)
theorem _root_.L2.PTs.weak {e : List Expr} {t t' : TT} (h : PTs X e t) (k : ∀ σ H Q, t' σ H Q → t σ H Q) : PTs X e t' := ⟨fun pins s σ H Q I q => h.run pins s σ H Q I (k _ _ _ q)⟩
theorem dts_nil : DTs X W [] tYesD := pts_nil.weak fun σ H Q ⟨G, m, w, r, S, E, k⟩ => k G m H true Ext.refl S rfl
theorem dts_one {c : Expr} {T : DenT} (h : DT X W c T) : DTs X W [c] T := pts_one h
/-- the reading of a comprehension; fin: what is done with the new list -/
theorem comp_step {S : DenI} {bd : Bd} {T : DenT} {E : Den} {vs sl : List Nat} {fin : List D → List Cell → Out D} (hsl : ∀ i ∈ sl, i ∈ vs)
    (hfin : ∀ {G m w H0 D acc accV Q}, Sim X.K X.mg G m w H0 → H0 D = none → RepL X.K G m accV acc → ∀ {E}, okD X.K X.mg E G m H0 Q (fin acc w) → Q (.ref D) (upd H0 D (.lst accV)))
    (σ : L2.St) (H : Hp) (Q : VK) (h : teD X W (fun r w => (compL S bd T E vs r w).bnd fin) σ H Q) : tLc (tiD X W S) (tgD X bd sl) (ttD X W0 T) (teD X W0 E) vs σ H Q := by
  obtain ⟨G, m, w, r, Sm, Ev, h⟩ := h
  have h0 : okD X.K X.mg (fun c d H => W c d σ H) G m H Q ((S r w).bnd fun a w1 => (compD a.2 bd T E (wipeD r vs) a.1 0 [] w1).bnd fin) := by
    have e : (compL S bd T E vs r w).bnd fin = (S r w).bnd fun a w1 => (compD a.2 bd T E (wipeD r vs) a.1 0 [] w1).bnd fin := by
      unfold compL
      cases S r w <;> rfl
    rw [← e]; exact h
  refine ⟨G, m, w, r, Sm, Ev, (okO.bind h0).mono ?_⟩
  rintro J H1 ⟨G1, m1, w1, a, e1, S1, D1, h1⟩ Dd hD
  obtain ⟨n0, tf⟩ := a
  refine ⟨fun i n H => ∃ H0 G m w acc accV, H = upd H0 Dd (.lst accV) ∧ H0 Dd = none ∧ Ext G1 m1 H1 G m H0 ∧ Sim X.K X.mg G m w H0 ∧ EnvR X.K G m σ r ∧ RepL X.K G m accV acc ∧
      okD X.K X.mg (fun c d H => W c d σ H) G m H0 Q ((compD tf bd T E (wipeD r vs) n i acc w).bnd fin), ⟨n0, H1, G1, m1, w1, [], [], rfl, hD, Ext.refl, S1, Ev.ext e1, .nil, h1⟩, ?_⟩
  rintro i n H2 ⟨H0, G2, m2, w2, acc, accV, rfl, hp, e2, S2, E2, RA, h2⟩
  have S2h := S2.hid hp (.lst accV)
  have e2h := e2.trans (ext_hid S2 hp (.lst accV))
  have stopped : ∀ n, tf i w2 = some none → okD X.K X.mg (fun c d H => W c d σ H) G2 m2 H0 Q ((compD tf bd T E (wipeD r vs) n i acc w2).bnd fin) → Q (.ref Dd) (upd H0 Dd (.lst accV)) := fun n q k => by
    cases n <;> (unfold compD at k; simp only [q] at k; exact hfin S2 hp RA k)
  cases q : tf i w2 with
  | none => cases n <;> (unfold compD at h2; simp only [q] at h2; exact h2.elim)
  | some o =>
    cases o with
    | none => exact .inl ⟨D1.stop i G2 m2 w2 _ e2h S2h q, stopped n q h2⟩
    | some d =>
      obtain ⟨g1, g2⟩ := D1.go i G2 m2 w2 _ d e2h S2h q
      cases n with
      | zero => unfold compD at h2; simp only [q] at h2; exact h2.elim
      | succ n =>
        unfold compD at h2; simp only [q] at h2
        refine .inr ⟨g1, fun H => ∃ H0 G m w acc accV, H = upd H0 Dd (.lst accV) ∧ H0 Dd = none ∧ Ext G1 m1 H1 G m H0 ∧ Sim X.K X.mg G m w H0 ∧ EnvR X.K G m σ r ∧ RepL X.K G m accV acc ∧
          okD X.K X.mg (fun c d H => W c d σ H) G m H0 Q ((compD tf bd T E (wipeD r vs) n (i + 1) acc w).bnd fin), fun H' hh => ⟨n, Nat.lt_succ_self n, hh⟩, fun x H3 hy => ?_⟩
        obtain ⟨G3, e3, S3, R3⟩ := g2 x H3 hy
        cases z : bd d (wipeD r vs) w2 with
        | none => simp only [z] at h2; exact h2.elim
        | some r3 =>
          simp only [z] at h2
          refine ⟨G3, m2, w2, wipeD r vs, d, r3, S3, (E2.ext e3).wipe vs, R3, z, fun σ3 E3 ll ag => ⟨wipe_agree ?_ ag hsl, ?_⟩⟩
          · rw [ll, wipe_length]
          · refine ⟨G3, m2, w2, r3, S3, E3, ?_⟩
            cases u : T r3 w2 with
            | bad => rw [u] at h2; exact h2.elim
            | exc y w4 => rw [u] at h2; exact h2.elim
            | ok b w4 =>
              rw [u] at h2
              rintro G4 m4 H4 b' e4 S4 rfl
              have e34 := e3.trans e4
              simp only [Out.nox_ok, Out.bnd_ok] at h2
              cases b' with
              | false =>
                rw [if_neg Bool.false_ne_true] at h2 ⊢
                obtain ⟨k1, k2, k3⟩ := S2.unhid hp e34 S4
                exact ⟨del H4 Dd, G4, m4, w4, acc, accV, (upd_del k1).symm, del_at, e2.trans k2, k3, E2.ext k2, RA.ext k2, okO.ext h2 k2⟩
              | true =>
                rw [if_pos rfl] at h2 ⊢
                refine ⟨G4, m4, w4, r3, S4, E3.ext e4, ?_⟩
                cases u2 : E r3 w4 with
                | bad => rw [u2] at h2; exact h2.elim
                | exc y w5 => rw [u2] at h2; exact h2.elim
                | ok y w5 =>
                  rw [u2] at h2
                  intro G5 m5 H5 v5 e5 S5 R5
                  simp only [Out.nox_ok, Out.bnd_ok] at h2
                  split at h2
                  · rename_i hz
                    obtain ⟨k1, k2, k3⟩ := S2.unhid hp (e34.trans e5) S5
                    have k4 : upd H5 Dd (.lst (accV ++ [v5])) = upd (del H5 Dd) Dd (.lst (accV ++ [v5])) := by
                      funext b
                      by_cases e : b = Dd
                      · subst e; rw [upd_same, upd_same]
                      · rw [upd_ne e, upd_ne e, del_ne e]
                    exact ⟨accV, k1, by rw [RA.length]; exact hz, del H5 Dd, G5, m5, w5, acc ++ [y], accV ++ [v5], k4, del_at, e2.trans k2, k3, E2.ext k2, (RA.ext k2).append (.one R5), okO.ext h2 k2⟩
                  · exact h2.elim

theorem fin_lst {K : PySem.W.Frag} {mg : Str → Option Value} {G : Hp} {m : List Addr} {w : List Cell} {H0 : Hp} {D : Addr} {acc : List Dn.D} {accV : List V} {Q : VK} (S : Sim K mg G m w H0) (hp : H0 D = none) (R : RepL K G m accV acc) {E : XK} (k : okD K mg E G m H0 Q (.ok (.lst acc) w)) : Q (.ref D) (upd H0 D (.lst accV)) :=
  k _ _ _ _ (ext_newF S hp _) (S.newF hp _) (.lst upd_same (R.ext (ext_newF S hp _)))
theorem fin_cel {K : PySem.W.Frag} {mg : Str → Option Value} {G : Hp} {m : List Addr} {w : List Cell} {H0 : Hp} {D : Addr} {acc : List Dn.D} {accV : List V} {Q : VK} (S : Sim K mg G m w H0) (hp : H0 D = none) (R : RepL K G m accV acc) {E : XK} (k : okD K mg E G m H0 Q (.ok (.cel w.length) (w ++ [.lst acc]))) : Q (.ref D) (upd H0 D (.lst accV)) :=
  have e := ext_newC S hp (.lst accV)
  k _ _ _ _ e (S.newC hp ⟨_, upd_same, R.ext e⟩) (rep_last S.len _)
theorem de_comp {elt tg iter : Expr} {ifs : List Expr} {scope : Scope} {own : List (Str × Nat)} {pos : Pos} {S : DenI} {bd : Bd} {sl : List Nat} {T : DenT} {E : Den} (hc : X.calm = true) (hN : X.N.Nodup) (hi : DI X W tg iter S) (ok : BlkOk X.N X.env.scope scope own)
    (hg : ∀ (s : Shared) (H : Hp) (C : Addr) (cl : List (Str × Addr)) (fp : List Addr), DG (X.blk s H scope (compEnvC scope cl C X.env) fp) tg bd sl) (ht : ∀ (s : Shared) (H : Hp) (C : Addr) (cl : List (Str × Addr)) (fp : List Addr), DTs (X.blk s H scope (compEnvC scope cl C X.env) fp) W0 ifs T)
    (he : ∀ (s : Shared) (H : Hp) (C : Addr) (cl : List (Str × Addr)) (fp : List Addr), DE (X.blk s H scope (compEnvC scope cl C X.env) fp) W0 elt E) (hsl : ∀ i ∈ sl, i ∈ own.map (·.2) := by decide) (hs : ∀ x, foldedSetIterable iter X.env x = pure x := by intro _; rfl) :
    DE X W (.ListComp elt [⟨tg, iter, ifs, 0⟩] scope pos) (eComp S bd T E (own.map (·.2))) :=
  (pe_lc (wi := tiD X W S) (g := tgD X bd sl) (tt := ttD X W0 T) (te := teD X W0 E) hc hN hi ok hg ht he hs).weak fun σ H Q h => comp_step (fin := fun ds w1 => .ok (.lst ds) w1) hsl fin_lst σ H Q h
theorem de_compC {elt tg iter : Expr} {ifs : List Expr} {scope : Scope} {own : List (Str × Nat)} {pos : Pos} {S : DenI} {bd : Bd} {sl : List Nat} {T : DenT} {E : Den} (hc : X.calm = true) (hN : X.N.Nodup) (hi : DI X W tg iter S) (ok : BlkOk X.N X.env.scope scope own)
    (hg : ∀ (s : Shared) (H : Hp) (C : Addr) (cl : List (Str × Addr)) (fp : List Addr), DG (X.blk s H scope (compEnvC scope cl C X.env) fp) tg bd sl) (ht : ∀ (s : Shared) (H : Hp) (C : Addr) (cl : List (Str × Addr)) (fp : List Addr), DTs (X.blk s H scope (compEnvC scope cl C X.env) fp) W0 ifs T)
    (he : ∀ (s : Shared) (H : Hp) (C : Addr) (cl : List (Str × Addr)) (fp : List Addr), DE (X.blk s H scope (compEnvC scope cl C X.env) fp) W0 elt E) (hsl : ∀ i ∈ sl, i ∈ own.map (·.2) := by decide) (hs : ∀ x, foldedSetIterable iter X.env x = pure x := by intro _; rfl) :
    DE X W (.ListComp elt [⟨tg, iter, ifs, 0⟩] scope pos) (eCompC S bd T E (own.map (·.2))) :=
  (pe_lc (wi := tiD X W S) (g := tgD X bd sl) (tt := ttD X W0 T) (te := teD X W0 E) hc hN hi ok hg ht he hs).weak fun σ H Q h => comp_step (fin := fun ds w1 => Out.ok (D.cel w1.length) (w1 ++ [Cell.lst ds])) hsl fin_cel σ H Q h
/-- name = [..] on one line, the name a plain local -/
theorem ds_setLc {i : Nat} {y : Str} {py : Pos} {elt tg iter : Expr} {ifs : List Expr} {scope : Scope} {own : List (Str × Nat)} {pos spos : Pos} {S : DenI} {bd : Bd} {sl : List Nat} {T : DenT} {E : Den} (hc : X.calm = true) (hN : X.N.Nodup) (hi : DI X W tg iter S) (ok : BlkOk X.N X.env.scope scope own)
    (hg : ∀ (s : Shared) (H : Hp) (C : Addr) (cl : List (Str × Addr)) (fp : List Addr), DG (X.blk s H scope (compEnvC scope cl C X.env) fp) tg bd sl) (ht : ∀ (s : Shared) (H : Hp) (C : Addr) (cl : List (Str × Addr)) (fp : List Addr), DTs (X.blk s H scope (compEnvC scope cl C X.env) fp) W0 ifs T)
    (he : ∀ (s : Shared) (H : Hp) (C : Addr) (cl : List (Str × Addr)) (fp : List Addr), DE (X.blk s H scope (compEnvC scope cl C X.env) fp) W0 elt E)
    (hsw : swapsWith (.ListComp elt [⟨tg, iter, ifs, 0⟩] scope pos) (some (.Name y py)) spos.line X.env = pure true) (hy : X.N[i]? = some y := by rfl) (hyl : X.env.scope.names.lookup y = some .local := by rfl) (hsl : ∀ i ∈ sl, i ∈ own.map (·.2) := by decide) (hs : ∀ x, foldedSetIterable iter X.env x = pure x := by intro _; rfl) :
    DS X W (.Assign [.Name y py] (.ListComp elt [⟨tg, iter, ifs, 0⟩] scope pos) spos) (sSet i (eComp S bd T E (own.map (·.2)))) :=
  PS.weak (ps_setLc (i := i) (wi := tiD X W S) (g := tgD X bd sl) (tt := ttD X W0 T) (te := teD X W0 E) hc hN hy hyl hsw hi ok hg ht he hs) <| by
    rintro C σ H ⟨G, m, w, r, Sm, Ev, h⟩
    refine comp_step (fin := fun ds w1 => .ok (.lst ds) w1) hsl fin_lst σ H (fun x H1 => gName i x σ H1 C.nx) ⟨G, m, w, r, Sm, Ev, ?_⟩
    refine (okO.bindS h Ev (envR_up Ev)).mono ?_
    rintro x H1 ⟨G1, m1, w1, d, e1, S1, R1, h1⟩
    exact h1 G1 m1 H1 _ Ext.refl S1 ((Ev.ext e1).set R1 i)
end
end Dn
/-! Dn8: built-in functions and methods; stores into lists and dicts. -/
namespace Dn
open PySem PySem.Spec PyProof.Rows L2

/-- a built-in's mirror: its value, the cells behind it -/
abbrev OpN := List D → List Cell → Option (D × List Cell)
def pureN (f : List D → List Cell → Option D) : OpN := fun ds w => (f ds w).map fun d => (d, w)
def rCN (K : PySem.W.Frag) (mg : Str → Option Value) (f : OpN) : List V → Hp → VK → Prop := fun xs H Q => ∃ G m w ds r w', Sim K mg G m w H ∧ RepL K G m xs ds ∧ f ds w = some (r, w') ∧
  ∀ G' m' H' v, Ext G m H G' m' H' → Sim K mg G' m' w' H' → Rep K G' m' v r → Q v H'
abbrev CallD (X : Cx) (F : Value) (f : OpN) : Prop := CallR X F (rCN X.K X.mg f)
def ofN (o : Option (D × List Cell)) : Out D := match o with
  | some (d, w) => .ok d w
  | none => .bad
@[simp] theorem ofN_some (d : D) (w : List Cell) : ofN (some (d, w)) = .ok d w := rfl
@[simp] theorem ofN_none : ofN none = .bad := rfl
def eCallB (f : OpN) (B : DenA) : Den := fun r w => (B r w).bnd fun ds w1 => ofN (f ds w1)
theorem okD_ofN {K : PySem.W.Frag} {mg : Str → Option Value} {E : XK} {G : Hp} {m : List Addr} {H : Hp} {Q : VK} {o : Option (D × List Cell)} (h : okD K mg E G m H Q (ofN o)) :
    ∃ r w', o = some (r, w') ∧ ∀ G' m' H' v, Ext G m H G' m' H' → Sim K mg G' m' w' H' → Rep K G' m' v r → Q v H' := by
  cases o with
  | none => exact h.elim
  | some r => exact ⟨r.1, r.2, rfl, h⟩
section
variable {X : Cx} {W : WX}
theorem eCallB_ok {f : OpN} {B : DenA} : ∀ σ H Q, teD X W (eCallB f B) σ H Q → tCB (rCN X.K X.mg f) (taD X W B) σ H Q := by
  rintro σ H Q ⟨G, m, w, r, S, E, h⟩
  refine ⟨G, m, w, r, S, E, (okO.bind h).mono ?_⟩
  rintro vs H1 ⟨G1, m1, w1, ds, e1, S1, R1, h1⟩
  obtain ⟨z, w', hz, k⟩ := okD_ofN h1
  exact ⟨G1, m1, w1, ds, z, w', S1, R1, hz, k⟩
theorem de_callB {id : String} {f : OpN} {x : Str} {e : Expr} {es : List Expr} {B : DenA} {p pos : Pos} (hc : CallD X (.builtin id) f) (hm : X.mg x = none) (ha : DA X W (e :: es) B) (hg : Gl X x := by rfl) (hv : bootBuiltins x = some (.builtin id) := by decide +kernel) (hn : x ≠ "__name__" := by decide) (hdb : (x == ("__debug__" : Str)) = false := by decide)
    (he : starEach (e :: es) X.env = (false, eval e X.env) :: starEach es X.env := by rfl) (hpl : (backTo pos (starEach es X.env)).any (·.1) = false := by rfl) : DE X W (.Call (.Name x p) (e :: es) [] pos) (eCallB f B) := (pe_callB hc hg hm hv ha hn hdb he hpl).weak eCallB_ok
theorem de_callTy {T : String} {f : OpN} {x : Str} {e : Expr} {es : List Expr} {B : DenA} {p pos : Pos} (hc : CallD X (.type T) f) (hm : X.mg x = none) (ha : DA X W (e :: es) B) (hg : Gl X x := by rfl) (hv : bootBuiltins x = some (.type T) := by decide +kernel) (hn : x ≠ "__name__" := by decide) (hdb : (x == ("__debug__" : Str)) = false := by decide)
    (he : starEach (e :: es) X.env = (false, eval e X.env) :: starEach es X.env := by rfl) (hpl : (backTo pos (starEach es X.env)).any (·.1) = false := by rfl) : DE X W (.Call (.Name x p) (e :: es) [] pos) (eCallB f B) := (pe_callTy hc hg hm hv ha hn hdb he hpl).weak eCallB_ok
/-! ### what they are -/
theorem pureN_ok {K : PySem.W.Frag} {mg : Str → Option Value} {f : List D → List Cell → Option D} {xs : List V} {H : Hp} {Q : VK} (h : rCN K mg (pureN f) xs H Q) : ∃ G m w ds r, Sim K mg G m w H ∧ RepL K G m xs ds ∧ f ds w = some r ∧ ∀ G' H' v, Ext G m H G' m H' → Sim K mg G' m w H' → Rep K G' m v r → Q v H' := by
  obtain ⟨G, m, w, ds, r, w', S, R, h, k⟩ := h
  obtain ⟨z, h1, h2⟩ := Option.map_eq_some_iff.mp h
  cases h2
  exact ⟨G, m, w, ds, _, S, R, h1, fun G' H' v => k G' m H' v⟩
def one (f : D → List Cell → Option D) : OpN := pureN fun ds w => match ds with
  | [d] => f d w
  | _ => none
def two (f : D → D → List Cell → Option D) : OpN := pureN fun ds w => match ds with
  | [d, e] => f d e w
  | _ => none
theorem one_ok {K : PySem.W.Frag} {mg : Str → Option Value} {f : D → List Cell → Option D} {xs : List V} {H : Hp} {Q : VK} (h : rCN K mg (one f) xs H Q) : ∃ G m w x d r, xs = [x] ∧ Sim K mg G m w H ∧ Rep K G m x d ∧ f d w = some r ∧ ∀ G' H' v, Ext G m H G' m H' → Sim K mg G' m w H' → Rep K G' m v r → Q v H' := by
  obtain ⟨G, m, w, ds, r, S, R, h, k⟩ := pureN_ok h
  cases R with
  | nil => cases h
  | cons r1 rs =>
    cases rs with
    | nil => exact ⟨G, m, w, _, _, r, rfl, S, r1, h, k⟩
    | cons _ _ => cases h
theorem two_ok {K : PySem.W.Frag} {mg : Str → Option Value} {f : D → D → List Cell → Option D} {xs : List V} {H : Hp} {Q : VK} (h : rCN K mg (two f) xs H Q) : ∃ G m w x d y e r, xs = [x, y] ∧ Sim K mg G m w H ∧ Rep K G m x d ∧ Rep K G m y e ∧ f d e w = some r ∧ ∀ G' H' v, Ext G m H G' m H' → Sim K mg G' m w H' → Rep K G' m v r → Q v H' := by
  obtain ⟨G, m, w, ds, r, S, R, h, k⟩ := pureN_ok h
  cases R with
  | nil => cases h
  | cons r1 rs =>
    cases rs with
    | nil => cases h
    | cons r2 rs =>
      cases rs with
      | nil => exact ⟨G, m, w, _, _, _, _, r, rfl, S, r1, r2, h, k⟩
      | cons _ _ => cases h
def lenD (d : D) (w : List Cell) : Option D := match d with
  | .str z => if z.length ≤ sizeLine then some (.int (z.length : Nat)) else none
  | d => match asQ d w with
    | some ds => some (.int (ds.length : Nat))
    | none => (asK d w).map fun kd => .int (kd.length : Nat)
theorem call_lenA : CallD X (.builtin "len") (one lenD) := by
  intro pins s σ H xs us Q I rr h
  obtain ⟨G, m, w, x, d, r, rfl, S, R, h, k⟩ := one_ok h
  have rest : (∀ z, d ≠ .str z) → (match asQ d w with | some ds => some (D.int (ds.length : Nat)) | none => (asK d w).map fun kd => D.int (kd.length : Nat)) = some r → wpAny (model X.prog X.w) X.A (call (.builtin "len") us) (EP X pins σ Q) X.xe s := fun _ h => by
    cases q : asQ d w with
    | some ds =>
      simp only [q] at h
      cases h
      obtain ⟨a, vs, rfl, hq, rl⟩ := rep_asQ S R q
      exact call_len_seq pins s σ H _ us Q I rr ⟨a, vs, rfl, hq, by rw [rl.length]; exact k G H _ Ext.refl S (.int _)⟩
    | none =>
      simp only [q] at h
      obtain ⟨kd, h1, rfl⟩ := Option.map_eq_some_iff.mp h
      obtain ⟨a, kv, rfl, rd, rk⟩ := rep_asK S R h1
      obtain ⟨u, rfl, ru⟩ := vals1 rr
      cases (show u = Value.ref a from ru)
      exact d_len I rd fun t s' I' => ⟨.int (kv.length : Nat), H, I', ⟨t, rfl⟩, by rw [rk.length]; exact k G H _ Ext.refl S (.int _)⟩
  cases d with
  | str z =>
    simp only [lenD] at h
    split at h
    · rename_i hz
      cases h; cases R
      exact call_len_str pins s σ H _ us Q I rr ⟨z, rfl, hz, k G H _ Ext.refl S (.int _)⟩
    · cases h
  | _ => exact rest (fun _ z => nomatch z) h
def absD (d : D) (_ : List Cell) : Option D := match d with
  | .int i => some (.int (if i < 0 then -i else i))
  | _ => none
theorem call_absA : CallD X (.builtin "abs") (one absD) := CallR.weak (X := X) call_abs fun xs H Q h => by
  obtain ⟨G, m, w, x, d, r, rfl, S, R, h, k⟩ := one_ok h
  cases d <;> simp only [absD] at h <;> first | (cases h; done) | skip
  cases h; cases R; exact ⟨_, rfl, k G H _ Ext.refl S (.int _)⟩
def maxD (d e : D) (_ : List Cell) : Option D := match d, e with
  | .int i, .int j => some (.int (if j > i then j else i))
  | _, _ => none
def minD (d e : D) (_ : List Cell) : Option D := match d, e with
  | .int i, .int j => some (.int (if j < i then j else i))
  | _, _ => none
theorem call_maxA (hc : X.calm = true) : CallD X (.builtin "max") (two maxD) := CallR.weak (X := X) (call_max2 hc) fun xs H Q h => by
  obtain ⟨G, m, w, x, d, y, e, r, rfl, S, R1, R2, h, k⟩ := two_ok h
  cases d <;> cases e <;> simp only [maxD] at h <;> first | (cases h; done) | skip
  cases h; cases R1; cases R2; exact ⟨_, _, rfl, k G H _ Ext.refl S (.int _)⟩
theorem call_minA (hc : X.calm = true) : CallD X (.builtin "min") (two minD) := CallR.weak (X := X) (call_min2 hc) fun xs H Q h => by
  obtain ⟨G, m, w, x, d, y, e, r, rfl, S, R1, R2, h, k⟩ := two_ok h
  cases d <;> cases e <;> simp only [minD] at h <;> first | (cases h; done) | skip
  cases h; cases R1; cases R2; exact ⟨_, _, rfl, k G H _ Ext.refl S (.int _)⟩
def intD (d : D) (_ : List Cell) : Option D := match d with
  | .int i => some (.int i)
  | .bl b => some (.int (if b then 1 else 0))
  | .str a => if a.length ≤ 640 then (PySem.intText? a).map .int else none
  | _ => none
theorem CallR.or {F : Value} {r r' : List V → Hp → VK → Prop} (h : CallR X F r) (h' : CallR X F r') : CallR X F (fun xs H Q => r xs H Q ∨ r' xs H Q) := fun pins s σ H xs us Q I rr q => q.elim (h pins s σ H xs us Q I rr) (h' pins s σ H xs us Q I rr)
theorem call_intA : CallD X (.type "int") (one intD) := CallR.weak (X := X) (CallR.or call_int1 call_int_str) fun xs H Q h => by
  obtain ⟨G, m, w, x, d, r, rfl, S, R, h, k⟩ := one_ok h
  cases d <;> simp only [intD] at h <;> first | (cases h; done) | skip
  · cases h; cases R; exact .inl (.inr ⟨_, rfl, k G H _ Ext.refl S (.int _)⟩)
  · cases h; cases R; exact .inl (.inl ⟨_, rfl, k G H _ Ext.refl S (.int _)⟩)
  · split at h
    · rename_i hz
      obtain ⟨n, h1, rfl⟩ := Option.map_eq_some_iff.mp h
      cases R
      exact .inr ⟨_, n, rfl, h1, hz, k G H _ Ext.refl S (.int _)⟩
    · cases h
def strD (d : D) (_ : List Cell) : Option D := match d with
  | .int i => if i.natAbs.log2 < 1920 then some (.str (toString i)) else none
  | .str x => some (.str x)
  | _ => none
theorem call_strA : CallD X (.type "str") (one strD) := CallR.weak (X := X) (CallR.or call_str_int SkE.call_str_str) fun xs H Q h => by
  obtain ⟨G, m, w, x, d, r, rfl, S, R, h, k⟩ := one_ok h
  cases d <;> simp only [strD] at h <;> first | (cases h; done) | skip
  · split at h
    · rename_i hz
      cases h; cases R; exact .inl ⟨_, rfl, hz, k G H _ Ext.refl S (.str _)⟩
    · cases h
  · cases h; cases R; exact .inr ⟨_, rfl, k G H _ Ext.refl S (.str _)⟩
/-! list(..), tuple(..), dict(..) -/
def keyD : Key → D
  | .inl i => .int i
  | .inr x => .str x
theorem rep_keyD {K : PySem.W.Frag} {G : Hp} {m : List Addr} (k : Key) : Rep K G m (kV k) (keyD k) := by
  cases k
  · exact .int _
  · exact .str _
theorem RepK.keys {K : PySem.W.Frag} {G : Hp} {m : List Addr} : ∀ {kv : List (Key × V)} {kd : List (Key × D)}, RepK K G m kv kd → RepL K G m (kv.map fun p => kV p.1) (kd.map fun p => keyD p.1)
  | _, _, .nil => .nil
  | _, _, .cons (k := k) _ rs => .cons (rep_keyD k) (RepK.keys rs)
theorem RepK.fst {K : PySem.W.Frag} {G : Hp} {m : List Addr} : ∀ {kv : List (Key × V)} {kd : List (Key × D)}, RepK K G m kv kd → kv.map (·.1) = kd.map (·.1)
  | _, _, .nil => rfl
  | _, _, .cons _ rs => by rw [List.map_cons, List.map_cons, RepK.fst rs]
/-- the items that list(..) takes -/
def itemsD (d : D) (w : List Cell) : Option (List D) := match asQ d w with
  | some ds => some ds
  | none => (asK d w).map fun kd => kd.map fun p => keyD p.1
theorem list_step (hc : X.calm = true) {pins : List (Addr × Obj)} {s : Shared} {σ : L2.St} {H : Hp} {us : List Value} {Q : VK} (I : Inv X pins σ H s) {G : Hp} {m : List Addr} {w : List Cell} {x : V} {d : D} {ds : List D} (S : Sim X.K X.mg G m w H) (R : Rep X.K G m x d) (rr : Vals [x] us) (h : itemsD d w = some ds)
    (k : ∀ vs, RepL X.K G m vs ds → ∀ p, H p = none → Q (.ref p) (upd H p (.lst vs))) : wpAny (model X.prog X.w) X.A (call (.type "list") us) (EP X pins σ Q) X.xe s := by
  unfold itemsD at h
  cases q : asQ d w with
  | some es =>
    simp only [q] at h
    cases h
    obtain ⟨a, vs, rfl, hq, rl⟩ := rep_asQ S R q
    exact call_list_of pins s σ H _ us Q I rr ⟨a, vs, rfl, hq, k vs rl⟩
  | none =>
    simp only [q] at h
    obtain ⟨kd, h1, rfl⟩ := Option.map_eq_some_iff.mp h
    obtain ⟨a, kv, rfl, rd, rk⟩ := rep_asK S R h1
    exact call_listD hc pins s σ H _ us Q I rr ⟨a, kv, rfl, rd, k _ rk.keys⟩
def listD (d : D) (w : List Cell) : Option D := (itemsD d w).map .lst
theorem call_listA (hc : X.calm = true) : CallD X (.type "list") (one listD) := fun pins s σ H xs us Q I rr h => by
  obtain ⟨G, m, w, x, d, r, rfl, S, R, h, k⟩ := one_ok h
  obtain ⟨ds, h1, rfl⟩ := Option.map_eq_some_iff.mp h
  exact list_step hc I S R rr h1 fun vs rl => new_lst S rl k
def listC : OpN := fun ds w => match ds with
  | [d] => (itemsD d w).map fun ds => (.cel w.length, w ++ [.lst ds])
  | _ => none
theorem call_listCA (hc : X.calm = true) : CallD X (.type "list") listC := fun pins s σ H xs us Q I rr h => by
  obtain ⟨G, m, w, ds, r, w', S, R, h, k⟩ := h
  cases R with
  | nil => cases h
  | cons r1 rs =>
    cases rs with
    | cons _ _ => cases h
    | nil =>
      obtain ⟨es, h1, h2⟩ := Option.map_eq_some_iff.mp h
      cases h2
      exact list_step hc I S r1 rr h1 fun vs rl p hp => k _ _ _ _ (ext_newC S hp _) (S.newC hp ⟨vs, upd_same, rl.ext (ext_newC S hp (.lst vs))⟩) (rep_last S.len p)
def tupleD (d : D) (w : List Cell) : Option D := match d with
  | .tup ds => some (.tup ds)
  | d => (asLs d w).map .tup
theorem call_tupleA : CallD X (.type "tuple") (one tupleD) := CallR.weak (X := X) call_tuple_of fun xs H Q h => by
  obtain ⟨G, m, w, x, d, r, rfl, S, R, h, k⟩ := one_ok h
  have lists : (asLs d w).map D.tup = some r → ∃ p ys, [x] = [V.ref p] ∧ ((SqL X.K H p ys ∧ ∀ l, H l = none → Q (.ref l) (upd H l (.tup ys))) ∨ (SqT X.K H p ys ∧ Q (.ref p) H)) := fun h => by
    obtain ⟨ds, h1, rfl⟩ := Option.map_eq_some_iff.mp h
    obtain ⟨a, vs, rfl, hq, rl⟩ := rep_asLs S R h1
    exact ⟨a, vs, rfl, .inl ⟨hq, new_tup S rl k⟩⟩
  cases d with
  | tup ds =>
    cases h
    cases R with
    | tup a b => exact ⟨_, _, rfl, .inr ⟨SqT.up S.sub a, k G H _ Ext.refl S (.tup a b)⟩⟩
  | _ => exact lists h
def dictC : OpN := fun ds w => match ds with
  | [d] => (asK d w).map fun kd => (.cel w.length, w ++ [.dct kd false])
  | _ => none
theorem call_dictCA : CallD X (.type "dict") dictC := CallR.weak (X := X) call_dictD fun xs H Q h => by
  obtain ⟨G, m, w, ds, r, w', S, R, h, k⟩ := h
  cases R with
  | nil => cases h
  | cons r1 rs =>
    cases rs with
    | cons _ _ => cases h
    | nil =>
      obtain ⟨es, h1, h2⟩ := Option.map_eq_some_iff.mp h
      cases h2
      obtain ⟨a, kv, rfl, rd, rk⟩ := rep_asK S r1 h1
      exact ⟨a, kv, rfl, rd, fun p hp => k _ _ _ _ (ext_newC S hp _) (S.newC hp ⟨kv, rk.ext (ext_newC S hp (.dK kv)), by rw [if_neg Bool.false_ne_true]; exact upd_same⟩) (rep_last S.len p)⟩
/-! sorted -/
def intsOf : List D → Option (List Int)
  | [] => some []
  | .int i :: r => (intsOf r).map (i :: ·)
  | _ :: _ => none
def strsOf : List D → Option (List Str)
  | [] => some []
  | .str i :: r => (strsOf r).map (i :: ·)
  | _ :: _ => none
def boolsOf : List D → Option (List Bool)
  | [] => some []
  | .bl i :: r => (boolsOf r).map (i :: ·)
  | _ :: _ => none
theorem rep_ints {K : PySem.W.Frag} {G : Hp} {m : List Addr} : ∀ {vs : List V} {ds : List D} {ns : List Int}, RepL K G m vs ds → intsOf ds = some ns → vs = ns.map V.int
  | _, _, _, .nil, h => by cases h; rfl
  | _, _, _, .cons r rs, h => by
    cases r <;> simp only [intsOf] at h <;> first | (cases h; done) | skip
    obtain ⟨ns, h1, rfl⟩ := Option.map_eq_some_iff.mp h
    rw [rep_ints rs h1]; rfl
theorem rep_strs {K : PySem.W.Frag} {G : Hp} {m : List Addr} : ∀ {vs : List V} {ds : List D} {ns : List Str}, RepL K G m vs ds → strsOf ds = some ns → vs = ns.map V.str
  | _, _, _, .nil, h => by cases h; rfl
  | _, _, _, .cons r rs, h => by
    cases r <;> simp only [strsOf] at h <;> first | (cases h; done) | skip
    obtain ⟨ns, h1, rfl⟩ := Option.map_eq_some_iff.mp h
    rw [rep_strs rs h1]; rfl
theorem rep_bools {K : PySem.W.Frag} {G : Hp} {m : List Addr} : ∀ {vs : List V} {ds : List D} {ns : List Bool}, RepL K G m vs ds → boolsOf ds = some ns → vs = ns.map V.bl
  | _, _, _, .nil, h => by cases h; rfl
  | _, _, _, .cons r rs, h => by
    cases r <;> simp only [boolsOf] at h <;> first | (cases h; done) | skip
    obtain ⟨ns, h1, rfl⟩ := Option.map_eq_some_iff.mp h
    rw [rep_bools rs h1]; rfl
theorem rep_intsL {K : PySem.W.Frag} {G : Hp} {m : List Addr} (ns : List Int) : RepL K G m (ns.map V.int) (ns.map D.int) := by
  induction ns with
  | nil => exact .nil
  | cons n ns ih => exact .cons (.int n) ih
theorem rep_strsL {K : PySem.W.Frag} {G : Hp} {m : List Addr} (ns : List Str) : RepL K G m (ns.map V.str) (ns.map D.str) := by
  induction ns with
  | nil => exact .nil
  | cons n ns ih => exact .cons (.str n) ih
def sortI (ns : List Int) : List Int := ns.mergeSort fun a b => decide (a ≤ b)
theorem sortI_perm (ns : List Int) : (sortI ns).Perm ns := List.mergeSort_perm _ _
theorem sortI_sorted (ns : List Int) : (sortI ns).Pairwise (· ≤ ·) := by
  have h := List.pairwise_mergeSort (le := fun a b : Int => decide (a ≤ b)) (fun a b c h1 h2 => by simp at *; omega) (fun a b => by simp; omega) ns
  exact h.imp fun h => by simpa using h
theorem sortI_eq {ns ns' : List Int} (hp : ns'.Perm ns) (hs : ns'.Pairwise (· ≤ ·)) : ns' = sortI ns := PySem.W.ksm_same (hp.trans (sortI_perm ns).symm) hs (sortI_sorted ns)
/-- sorted(..) of ints, of a dict's int keys -/
def sortedD (d : D) (w : List Cell) : Option D := match asK d w with
  | some kd => (intsOf (kd.map fun p => keyD p.1)).bind fun ns => if ns.length < 64 then some (.lst ((sortI ns).map .int)) else none
  | none => (asLs d w).bind fun ds => (intsOf ds).map fun ns => .lst ((sortI ns).map .int)
theorem keys_ints : ∀ {kd : List (Key × D)} {ns : List Int}, intsOf (kd.map fun p => keyD p.1) = some ns → kd.map (·.1) = ns.map Sum.inl
  | [], _, h => by cases h; rfl
  | (.inl i, d) :: r, ns, h => by
    simp only [List.map_cons, keyD, intsOf] at h
    obtain ⟨ns', h1, rfl⟩ := Option.map_eq_some_iff.mp h
    rw [List.map_cons, keys_ints h1]; rfl
  | (.inr x, d) :: r, ns, h => by simp only [List.map_cons, keyD, intsOf] at h; cases h
theorem call_sortedA (hc : X.calm = true) : CallD X (.builtin "sorted") (one sortedD) := CallR.weak (X := X) (CallR.or cr_sortedI (call_sortedDI hc)) fun xs H Q h => by
  obtain ⟨G, m, w, x, d, r, rfl, S, R, h, k⟩ := one_ok h
  unfold sortedD at h
  cases q : asK d w with
  | some kd =>
    simp only [q] at h
    obtain ⟨ns, h1, h⟩ := Option.bind_eq_some_iff.mp h
    split at h
    · rename_i h64
      cases h
      obtain ⟨a, kv, rfl, rd, rk⟩ := rep_asK S R q
      exact .inr ⟨a, kv, ns, rfl, rd, by rw [rk.fst]; exact keys_ints h1, h64, fun ns' p hp hs hn => by
        rw [sortI_eq hp hs]
        exact new_lst S (rep_intsL _) k p hn⟩
    · cases h
  | none =>
    simp only [q] at h
    obtain ⟨ds, h1, h⟩ := Option.bind_eq_some_iff.mp h
    obtain ⟨ns, h2, rfl⟩ := Option.map_eq_some_iff.mp h
    obtain ⟨a, vs, rfl, hq, rl⟩ := rep_asLs S R h1
    have := rep_ints rl h2
    subst this
    exact .inl ⟨a, ns, rfl, hq, fun ns' p hp hs hn => by
      rw [sortI_eq hp hs]
      exact new_lst S (rep_intsL _) k p hn⟩
def allD (d : D) (w : List Cell) : Option D := (asLs d w).bind fun ds => (boolsOf ds).map fun bs => .bl (bs.all id)
def anyD (d : D) (w : List Cell) : Option D := (asLs d w).bind fun ds => (boolsOf ds).map fun bs => .bl (bs.any id)
theorem call_allA (hc : X.calm = true) : CallD X (.builtin "all") (one allD) := CallR.weak (X := X) (cr_all hc) fun xs H Q h => by
  obtain ⟨G, m, w, x, d, r, rfl, S, R, h, k⟩ := one_ok h
  obtain ⟨ds, h1, h⟩ := Option.bind_eq_some_iff.mp h
  obtain ⟨ns, h2, rfl⟩ := Option.map_eq_some_iff.mp h
  obtain ⟨a, vs, rfl, hq, rl⟩ := rep_asLs S R h1
  have := rep_bools rl h2
  subst this
  exact ⟨a, ns, rfl, hq, k G H _ Ext.refl S (.bl _)⟩
theorem call_anyA (hc : X.calm = true) : CallD X (.builtin "any") (one anyD) := CallR.weak (X := X) (cr_any hc) fun xs H Q h => by
  obtain ⟨G, m, w, x, d, r, rfl, S, R, h, k⟩ := one_ok h
  obtain ⟨ds, h1, h⟩ := Option.bind_eq_some_iff.mp h
  obtain ⟨ns, h2, rfl⟩ := Option.map_eq_some_iff.mp h
  obtain ⟨a, vs, rfl, hq, rl⟩ := rep_asLs S R h1
  have := rep_bools rl h2
  subst this
  exact ⟨a, ns, rfl, hq, k G H _ Ext.refl S (.bl _)⟩
/-! ### isinstance with built-in classes -/
inductive Ty where
  | non | bl | int | str | tup | lst | dct
  deriving DecidableEq
def Ty.nm : Ty → String
  | .non => "NoneType" | .bl => "bool" | .int => "int" | .str => "str" | .tup => "tuple" | .lst => "list" | .dct => "dict"
def tyOf (d : D) (w : List Cell) : Option Ty := match d with
  | .non => some .non
  | .bl _ => some .bl
  | .int _ => some .int
  | .str _ => some .str
  | .tup _ => some .tup
  | .lst _ => some .lst
  | .scr _ => some .lst
  | .dct _ => some .dct
  | .dcT _ => none
  | .cel n => match w[n]? with
    | some (.lst _) => some .lst
    | some (.dct _ _) => some .dct
    | _ => none
def isTy (a b : Ty) : Bool := decide (a = b) || (decide (a = .bl) && decide (b = .int))
theorem kit_is (a b : Ty) : kitB a.nm b.nm = some (isTy a b) := by
  cases a <;> cases b <;> decide +kernel
theorem rep_ty {K : PySem.W.Frag} {mg : Str → Option Value} {G H : Hp} {m : List Addr} {w : List Cell} {v : V} {d : D} {t : Ty} (S : Sim K mg G m w H) (r : Rep K G m v d) (e : tyOf d w = some t) : TyX K H v (.type t.nm) := by
  cases r with
  | non => cases e; exact .base .non
  | bl b => cases e; exact .base (.bl b)
  | int b => cases e; exact .base (.int b)
  | str b => cases e; exact .base (.str b)
  | tup a b =>
    cases e
    rcases SqT.up S.sub a with (h | ⟨o, h⟩) | ⟨o, its, n, h1, h2, _⟩
    · exact .base (.tup h)
    · exact .fTuple h
    · exact .kTuple h1 h2
  | lst a b => cases e; exact .base (.lst (S.sub _ _ a))
  | scr a b =>
    cases e
    rcases SqL.up S.sub a with (h | ⟨o, h⟩) | ⟨o, its, n, h1, h2, _⟩
    · exact .base (.lst h)
    · exact .base (.frz h)
    · exact .kList h1 h2
  | dct a b => cases e; exact .fDict (S.sub _ _ a)
  | dcT a b => cases e
  | @cel n a h =>
    unfold tyOf at e
    cases q : w[n]? with
    | none => simp only [q] at e; cases e
    | some c =>
      cases c with
      | lst ds =>
        simp only [q] at e
        cases e
        obtain ⟨vs, h1, h2⟩ := S.cel n a _ h q
        exact .base (.lst h1)
      | dct kd lk =>
        simp only [q] at e
        cases e
        obtain ⟨kv, h1, h2⟩ := S.cel n a _ h q
        split at h2
        · obtain ⟨od, h2⟩ := h2; exact .fDict h2
        · exact .base (.dK h2)
      | _ => simp only [q] at e; cases e
def eIsi (t : Ty) (A : Den) : Den := fun r w => (A r w).bnd fun d w1 => Out.of ((tyOf d w1).map fun u => .bl (isTy u t)) w1
theorem de_isi (t : Ty) {a : Expr} {A : Den} {x : Str} {p p2 pos : Pos} (hm : X.mg "isinstance" = none) (hmx : X.mg x = none) (ha : DE X W a A) (hv : bootBuiltins x = some (.type t.nm) := by decide +kernel) (hg : Gl X "isinstance" := by rfl) (hgx : Gl X x := by rfl) (hn : x ≠ "__name__" := by decide) (hdb : (x == ("__debug__" : Str)) = false := by decide)
    (he : starEach (a :: [.Name x p2]) X.env = (false, eval a X.env) :: starEach [.Name x p2] X.env := by rfl) :
    DE X W (.Call (.Name "isinstance" p) [a, .Name x p2] [] pos) (eIsi t A) :=
  (pe_callB call_isi hg hm (by decide +kernel) (pa_cons ha (pa_cons (pe_bltn (v := .ty t.nm) hgx hmx hv rfl hn hdb) pa_nil) he) (by decide) (by decide) he (by rfl)).weak <| by
    rintro σ H Q ⟨G, m, w, r, S, E, h⟩
    refine ⟨G, m, w, r, S, E, (okO.bind h).mono ?_⟩
    rintro x H1 ⟨G1, m1, w1, d, e1, S1, R1, h1⟩
    obtain ⟨z, hz, k⟩ := okD_of h1
    obtain ⟨u, h2, rfl⟩ := Option.map_eq_some_iff.mp hz
    exact ⟨x, .ty t.nm, _, _, _, rfl, .ty _, rep_ty S1 R1 h2, kit_ty (kit_is u t), k G1 m1 H1 _ Ext.refl S1 (.bl _)⟩
def eIsi2 (t t2 : Ty) (A : Den) : Den := fun r w => (A r w).bnd fun d w1 => Out.of ((tyOf d w1).map fun u => .bl (isTy u t || isTy u t2)) w1
theorem de_isi2 (t t2 : Ty) {a : Expr} {A : Den} {x y : Str} {p p2 p3 p4 pos : Pos} {k1 : Nat} (hm : X.mg "isinstance" = none) (hmx : X.mg x = none) (hmy : X.mg y = none) (ha : DE X W a A) (hv : bootBuiltins x = some (.type t.nm) := by decide +kernel) (hvy : bootBuiltins y = some (.type t2.nm) := by decide +kernel)
    (hg : Gl X "isinstance" := by rfl) (hgx : Gl X x := by rfl) (hgy : Gl X y := by rfl) (hn : x ≠ "__name__" := by decide) (hdb : (x == ("__debug__" : Str)) = false := by decide) (hny : y ≠ "__name__" := by decide) (hdby : (y == ("__debug__" : Str)) = false := by decide)
    (he : starEach (a :: [.Tuple [.Name x p2, .Name y p3] k1 p4]) X.env = (false, eval a X.env) :: starEach [.Tuple [.Name x p2, .Name y p3] k1 p4] X.env := by rfl) :
    DE X W (.Call (.Name "isinstance" p) [a, .Tuple [.Name x p2, .Name y p3] k1 p4] [] pos) (eIsi2 t t2 A) :=
  (pe_callB call_isiT hg hm (by decide +kernel) (pa_cons ha (pa_cons (pe_tup (pa_cons (pe_bltn (v := .ty t.nm) hgx hmx hv rfl hn hdb) (pa_cons (pe_bltn (v := .ty t2.nm) hgy hmy hvy rfl hny hdby) pa_nil))) pa_nil) he) (by decide) (by decide) he (by rfl)).weak <| by
    rintro σ H Q ⟨G, m, w, r, S, E, h⟩
    refine ⟨G, m, w, r, S, E, (okO.bind h).mono ?_⟩
    rintro x H1 ⟨G1, m1, w1, d, e1, S1, R1, h1⟩
    obtain ⟨z, hz, k⟩ := okD_of h1
    obtain ⟨u, h2, rfl⟩ := Option.map_eq_some_iff.mp hz
    refine ⟨by show 2 ≤ sizeLine; decide, fun pp hp => ?_⟩
    have S2 := S1.hid hp (.tup [.ty t.nm, .ty t2.nm])
    have e2 := ext_hid S1 hp (.tup [.ty t.nm, .ty t2.nm])
    refine ⟨x, pp, _, _, _, isTy u t || isTy u t2, rfl, upd_same, .cons (.ty _) (.cons (.ty _) .nil), rep_ty S2 (R1.ext e2) h2, ?_, k G1 m1 _ _ e2 S2 (.bl _)⟩
    refine kitAny_cons (kit_ty (kit_is u t)) (fun hb => kitAny_cons (kit_ty (kit_is u t2)) (fun hb2 => ?_) fun hb2 => ?_) fun hb => ?_
    · rw [hb, hb2]; exact kitAny_nil
    · rw [hb2]; simp
    · rw [hb]; simp
end
/-! ### methods of built-in types -/
abbrev MtN := D → List D → List Cell → Option (D × List Cell)
def rMN (K : PySem.W.Frag) (mg : Str → Option Value) (f : MtN) : V → List V → Hp → VK → Prop := fun x xs H Q => ∃ G m w d ds r w', Sim K mg G m w H ∧ Rep K G m x d ∧ RepL K G m xs ds ∧ f d ds w = some (r, w') ∧
  ∀ G' m' H' v, Ext G m H G' m' H' → Sim K mg G' m' w' H' → Rep K G' m' v r → Q v H'
abbrev MtD (X : Cx) (id : String) (f : MtN) : Prop := MtR X id (rMN X.K X.mg f)
/-- the receiver's kind, ahead of the arguments -/
def isRecv (T : String) (d : D) (w : List Cell) : Bool := match d with
  | .str _ => T = "str"
  | d => (asLs d w).isSome && decide (T = "list")
def eMeth (T : String) (f : MtN) (A : Den) (B : DenA) : Den := fun r w => (A r w).bnd fun d w1 => if isRecv T d w1 = true then (B r w1).bnd fun ds w2 => ofN (f d ds w2) else .bad
theorem recv_ok {K : PySem.W.Frag} {mg : Str → Option Value} {G H : Hp} {m : List Addr} {w : List Cell} {v : V} {d : D} {T : String} (S : Sim K mg G m w H) (r : Rep K G m v d) (e : isRecv T d w = true) : tyV K T v H := by
  have lists : ((asLs d w).isSome && decide (T = "list")) = true → tyV K T v H := fun h => by
    rw [Bool.and_eq_true] at h
    obtain ⟨ds, hd⟩ := Option.isSome_iff_exists.mp h.1
    obtain ⟨a, vs, rfl, hq, rl⟩ := rep_asLs S r hd
    exact .inl ⟨of_decide_eq_true h.2, vs, hq⟩
  cases r with
  | str z => exact (show T = "str" by simpa [isRecv] using e)
  | _ => first | exact lists e | (simp [isRecv, asLs] at e)
section
variable {X : Cx} {W : WX}
theorem MtR.weak {id : String} {r r' : V → List V → Hp → VK → Prop} (h : MtR X id r) (k : ∀ x xs H Q, r' x xs H Q → r x xs H Q) : MtR X id r' := fun pins s σ H x xs v us Q I rx rs q => h pins s σ H x xs v us Q I rx rs (k _ _ _ _ q)
theorem de_bm {T : String} {name : Str} {id : String} {f : MtN} {o e : Expr} {es : List Expr} {A : Den} {B : DenA} {apos cpos : Pos} (pa : PlainAttrs T) (slot : Slot T name id) (hty : typeOf (.builtin id) = pure (.type "method_descriptor")) (hm : MtD X id f) (ho : DE X W o A) (ha : DA X W (e :: es) B)
    (hb : attributeBase o name X.env (eval o X.env) = eval o X.env := by rfl)
    (hf : ((backTo cpos (starEach (e :: es) X.env)).all (fun x => !x.1) && (backToKw cpos (keywordEach [] X.env)).all (fun x => x.1.isSome) && decide ((e :: es).length + ([] : List Keyword).length + (if ([] : List Keyword).isEmpty then 0 else 1) < 30)) = true := by rfl)
    (hl : (apos.endLine == cpos.line) = true := by rfl) (he : starEach (e :: es) X.env = (false, eval e X.env) :: starEach es X.env := by rfl) (hpl : (backTo cpos (starEach es X.env)).any (·.1) = false := by rfl) :
    DE X W (.Call (.Attribute o name apos) (e :: es) [] cpos) (eMeth T f A B) := (pe_bm (hbase := hb) (hfew := hf) (hline := hl) (hs := he) (hplain := hpl) pa slot hty hm ho ha).weak <| by
  rintro σ H Q ⟨G, m, w, r, S, E, h⟩
  refine ⟨G, m, w, r, S, E, (okO.bind h).mono ?_⟩
  rintro x H1 ⟨G1, m1, w1, d, e1, S1, R1, h1⟩
  split at h1
  · rename_i hr
    refine ⟨recv_ok S1 R1 hr, G1, m1, w1, r, S1, E.ext e1, (okO.bind h1).mono ?_⟩
    rintro xs H2 ⟨G2, m2, w2, ds, e2, S2, R2, h2⟩
    obtain ⟨z, w', hz, k⟩ := okD_ofN h2
    exact ⟨G2, m2, w2, d, ds, z, w', S2, R1.ext e2, R2, hz, k⟩
  · exact h1.elim
def joinN : MtN := fun d ds w => match d, ds with
  | .str a, [l] => (asQ l w).bind fun xs => (strsOf xs).bind fun ys => if (ys.map (·.length)).sum + ys.length * a.length ≤ 16777216 then some (.str (Txt.join a ys), w) else none
  | _, _ => none
theorem mt_joinA : MtD X "str.join" joinN := MtR.weak mt_join fun x xs H Q ⟨G, m, w, d, ds, r, w', S, R, RL, h, k⟩ => by
  cases d <;> simp only [joinN] at h <;> first | (cases h; done) | skip
  cases RL with
  | nil => cases h
  | cons r1 rs =>
    cases rs with
    | cons _ _ => cases h
    | nil =>
      obtain ⟨es, h1, h⟩ := Option.bind_eq_some_iff.mp h
      obtain ⟨ys, h2, h⟩ := Option.bind_eq_some_iff.mp h
      split at h
      · rename_i hz
        cases h
        cases R
        obtain ⟨a, vs, rfl, hq, rl⟩ := rep_asQ S r1 h1
        have := rep_strs rl h2
        subst this
        exact ⟨_, a, ys, rfl, rfl, hq, hz, k G m H _ Ext.refl S (.str _)⟩
      · cases h
def splitN : MtN := fun d ds w => match d, ds with
  | .str a, [.str b] => if (b.length == 0) = false ∧ a.length + 2 ≤ sizeLine then some (.lst ((Txt.split a b).map .str), w) else none
  | _, _ => none
theorem mt_splitA : MtD X "str.split" splitN := MtR.weak mt_split fun x xs H Q ⟨G, m, w, d, ds, r, w', S, R, RL, h, k⟩ => by
  cases d <;> simp only [splitN] at h <;> first | (cases h; done) | skip
  cases RL with
  | nil => cases h
  | cons r1 rs =>
    cases rs with
    | cons _ _ => cases r1 <;> cases h
    | nil =>
      cases r1 <;> simp only at h <;> first | (cases h; done) | skip
      split at h
      · rename_i hz
        cases h
        cases R
        exact ⟨_, _, rfl, rfl, hz.1, hz.2, new_lst S (rep_strsL _) fun G' H' v => k G' m H' v⟩
      · cases h
/-- a list that may change -/
def appendN : MtN := fun d ds w => match d, ds with
  | .cel n, [y] => match w[n]? with
    | some (.lst xs) => if xs.length < sizeLine then some (.non, w.set n (.lst (xs ++ [y]))) else none
    | _ => none
  | _, _ => none
theorem mt_appendA : MtD X "list.append" appendN := MtR.weak mt_append fun x xs H Q ⟨G, m, w, d, ds, r, w', S, R, RL, h, k⟩ => by
  cases R with
  | @cel n a hn =>
    cases RL with
    | nil => simp [appendN] at h
    | @cons v1 _ d1 _ r1 rs =>
      cases rs with
      | cons _ _ => simp [appendN] at h
      | nil =>
        cases q : w[n]? with
        | none => simp [appendN, q] at h
        | some c =>
          cases c with
          | lst es =>
            simp only [appendN, q] at h
            split at h
            · rename_i hz
              cases h
              obtain ⟨vs, h1, h2⟩ := S.cel n a _ hn q
              have e := ext_setC (G := G) (H := H) (List.mem_of_getElem? hn) (noFz_of h1 fun _ _ z => nomatch z) (.lst (vs ++ [v1]))
              exact ⟨a, vs, _, rfl, rfl, h1, by rw [h2.length]; exact hz, k G m _ .non e (S.setC hn q (fun z => nomatch z) ⟨_, upd_same, (h2.append (.one r1)).ext e⟩) .non⟩
            · cases h
          | _ => simp [appendN, q] at h
  | _ => simp [appendN] at h
def extendN : MtN := fun d ds w => match d, ds with
  | .cel n, [.lst ys] => match w[n]? with
    | some (.lst xs) => if xs.length + ys.length ≤ sizeLine then some (.non, w.set n (.lst (xs ++ ys))) else none
    | _ => none
  | _, _ => none
theorem mt_extendA : MtD X "list.extend" extendN := MtR.weak mt_extend fun x xs H Q ⟨G, m, w, d, ds, r, w', S, R, RL, h, k⟩ => by
  cases R with
  | @cel n a hn =>
    cases RL with
    | nil => simp [extendN] at h
    | cons r1 rs =>
      cases rs with
      | cons _ _ => cases r1 <;> simp [extendN] at h
      | nil =>
        cases r1 with
        | @lst b us ys hb rb =>
          cases q : w[n]? with
          | none => simp [extendN, q] at h
          | some c =>
            cases c with
            | lst es =>
              simp only [extendN, q] at h
              split at h
              · rename_i hz
                cases h
                obtain ⟨vs, h1, h2⟩ := S.cel n a _ hn q
                have e := ext_setC (G := G) (H := H) (List.mem_of_getElem? hn) (noFz_of h1 fun _ _ z => nomatch z) (.lst (vs ++ us))
                exact ⟨a, b, vs, us, rfl, rfl, h1, S.sub _ _ hb, by rw [h2.length, rb.length]; exact hz, k G m _ .non e (S.setC hn q (fun z => nomatch z) ⟨_, upd_same, (h2.append rb).ext e⟩) .non⟩
              · cases h
            | _ => simp [extendN, q] at h
        | _ => simp [extendN] at h
  | _ => simp [extendN] at h
/-! ### o[i] = v -/
def putD {κ : Type} [DecidableEq κ] (kd : List (κ × D)) (k : κ) (d : D) : List (κ × D) :=
  if (kd.any fun kv => decide (kv.1 = k)) = true then kd.map (fun kv => if kv.1 = k then (kv.1, d) else kv) else kd ++ [(k, d)]
theorem RepK.put {K : PySem.W.Frag} {G : Hp} {m : List Addr} {v : V} {d : D} {k : Key} (r : Rep K G m v d) : ∀ {kv : List (Key × V)} {kd : List (Key × D)}, RepK K G m kv kd → RepK K G m (putK kv k v) (putD kd k d)
  | kv, kd, h => by
    have e : (kv.any fun p => decide (p.1 = k)) = kd.any fun p => decide (p.1 = k) := by
      have := congrArg (fun l => l.any fun x => decide (x = k)) h.fst
      rw [List.any_map, List.any_map] at this
      exact this
    unfold putK putD
    rw [e]
    split
    · exact upd_map h r
    · exact app h (.cons r .nil)
where
  upd_map {K : PySem.W.Frag} {G : Hp} {m : List Addr} {v : V} {d : D} {k : Key} : ∀ {kv : List (Key × V)} {kd : List (Key × D)}, RepK K G m kv kd → Rep K G m v d → RepK K G m (kv.map fun p => if p.1 = k then (p.1, v) else p) (kd.map fun p => if p.1 = k then (p.1, d) else p)
    | _, _, .nil, _ => .nil
    | _, _, .cons r0 rs, r => by
      rw [List.map_cons, List.map_cons]
      split
      · exact .cons r (upd_map rs r)
      · exact .cons r0 (upd_map rs r)
  app {K : PySem.W.Frag} {G : Hp} {m : List Addr} : ∀ {kv kv2 : List (Key × V)} {kd kd2 : List (Key × D)}, RepK K G m kv kd → RepK K G m kv2 kd2 → RepK K G m (kv ++ kv2) (kd ++ kd2)
    | _, _, _, _, .nil, h => h
    | _, _, _, _, .cons r0 rs, h => .cons r0 (app rs h)
def setD (o i v : D) (w : List Cell) : Option (List Cell) := match o with
  | .cel n => match w[n]? with
    | some (.lst xs) => (asI i).bind fun i => (ixN xs.length i).map fun j => w.set n (.lst (xs.set j v))
    | some (.dct kd false) => (keyOf i).bind fun k => if kd.length < sizeLine then some (w.set n (.dct (putD kd k v) false)) else none
    | _ => none
  | _ => none
def rSetD (K : PySem.W.Frag) (mg : Str → Option Value) : TSet := fun o i v H Q => ∃ G m w dO di dv w', Sim K mg G m w H ∧ Rep K G m o dO ∧ Rep K G m i di ∧ Rep K G m v dv ∧ setD dO di dv w = some w' ∧ ∀ H', Ext G m H G m H' → Sim K mg G m w' H' → Q H'
theorem set_any (hu : X.A.units + 65 < cLine) : PSet X (rSetD X.K X.mg) := by
  intro pins s σ H o i v ov iv u Q I ro ri rv ⟨G, m, w, dO, di, dv, w', S, R1, R2, R3, h, k⟩
  cases R1 with
  | @cel n a hn =>
    cases q : w[n]? with
    | none => simp [setD, q] at h
    | some c =>
      cases c with
      | lst es =>
        simp only [setD, q] at h
        obtain ⟨z, h1, h⟩ := Option.bind_eq_some_iff.mp h
        obtain ⟨j, h2, rfl⟩ := Option.map_eq_some_iff.mp h
        obtain ⟨vs, g1, g2⟩ := S.cel n a _ hn q
        have e := ext_setC (G := G) (H := H) (List.mem_of_getElem? hn) (noFz_of g1 fun _ _ z => nomatch z) (.lst (vs.set j v))
        refine set_list pins s σ H _ _ _ ov iv u Q I ro ri rv ⟨a, vs, z, j, rfl, rep_int R2 h1, g1, by rw [g2.length]; exact h2, k _ e (S.setC hn q (fun z => nomatch z) ⟨_, upd_same, (RepL.set R3 j g2).ext e⟩)⟩
      | dct kd lk =>
        cases lk with
        | true => simp [setD, q] at h
        | false =>
          simp only [setD, q] at h
          obtain ⟨ky, h1, h⟩ := Option.bind_eq_some_iff.mp h
          split at h
          · rename_i hz
            cases h
            obtain ⟨kv, g1, g2⟩ := S.cel n a _ hn q
            simp only [Bool.false_eq_true, if_false] at g2
            have e := ext_setC (G := G) (H := H) (List.mem_of_getElem? hn) (noFz_of g2 fun _ _ z => nomatch z) (.dK (putK kv ky v))
            cases (show ov = Value.ref a from ro)
            have hk := rep_key R2 h1
            subst hk
            refine d_setItem (by omega) I (DPut.k g2 (by rw [g1.length]; exact hz)) ri rv fun s' I' => ⟨_, I', k _ e (S.setC hn q (fun z => nomatch z) ⟨_, (RepK.put R3 g1).ext e, by rw [if_neg Bool.false_ne_true]; exact upd_same⟩)⟩
          · cases h
      | _ => simp [setD, q] at h
  | _ => simp [setD] at h
def sSub (O I A : Den) : DenS := fun r w => (A r w).thenS r fun d w1 => (O r w1).thenS r fun o w2 => (I r w2).thenS r fun i w3 => match setD o i d w3 with
  | some w4 => .go .next r w4
  | none => .bad
theorem ds_sub {o i e : Expr} {O I A : Den} {p pos : Pos} (hu : X.A.units + 65 < cLine) (he : DE X W e A) (ho : DE X W o O) (hi : DE X W i I)
    (ha : ∀ v, assign (.Subscript o i p) X.env v = (do
      let ov ← holding [v] (eval o X.env)
      let iv ← holding [v, ov] (eval i X.env)
      standAt p
      holding [v, ov, iv] (setItem ov iv v)
      release [v, ov, iv] []) := by intro _; rfl)
    (hs : swapsWithSole [.Subscript o i p] e pos.line X.env = pure false := by rfl) (hw : swappedStores [.Subscript o i p] e X.env = pure none := by rfl)
    (h1 : (assignEach [.Subscript o i p] X.env).map (·.2) = [assign (.Subscript o i p) X.env] := by rfl) : DS X W (.Assign [.Subscript o i p] e pos) (sSub O I A) :=
  PS.weak (ps_asg he (pg_sub ho hi (set_any hu) ha) hs hw h1) <| by
    rintro C σ H ⟨G, m, w, r, S, E, h⟩
    refine ⟨G, m, w, r, S, E, (okO.bindS h E (envR_up E)).mono ?_⟩
    rintro x H1 ⟨G1, m1, w1, d, e1, S1, R1, h1⟩
    refine ⟨G1, m1, w1, r, S1, E.ext e1, (okO.bindS h1 (E.ext e1) (envR_up (E.ext e1))).mono ?_⟩
    rintro y H2 ⟨G2, m2, w2, d2, e2, S2, R2, h2⟩
    have E2 := (E.ext e1).ext e2
    refine ⟨G2, m2, w2, r, S2, E2, (okO.bindS h2 E2 (envR_up E2)).mono ?_⟩
    rintro z H3 ⟨G3, m3, w3, d3, e3, S3, R3, h3⟩
    cases q : setD d2 d3 d w3 with
    | none => simp only [q] at h3; exact h3.elim
    | some w4 =>
      simp only [q] at h3
      exact ⟨G3, m3, w3, d2, d3, d, w4, S3, R2.ext e3, R3, (R1.ext e2).ext e3, q, fun H' e4 S4 => h3 G3 m3 H' σ e4 S4 ((E2.ext e3).ext e4)⟩
/-- {} -/
def eDictC : Den := fun _ w => .ok (.cel w.length) (w ++ [.dct [] false])
theorem de_dictC {pos : Pos} : DE X W (.Dict [] [] pos) eDictC := pe_dnewK.weak fun σ H Q ⟨G, m, w, r, S, E, k⟩ => fun p hp => by
  have e := ext_newC S hp (.dK [])
  exact k _ _ _ _ e (S.newC hp ⟨[], .nil, by rw [if_neg Bool.false_ne_true]; exact upd_same⟩) (rep_last S.len p)
/-! ### d.get(k), d.get(k, x) -/
def getD (o k : D) (x : D) (w : List Cell) : Option D := (asK o w).bind fun kd => (keyOf k).map fun k => (look kd k).getD x
def eGet2 (O A B : Den) : Den := fun r w => (O r w).bnd fun o w1 => if (asK o w1).isSome = true then (A r w1).bnd fun a w2 => (B r w2).bnd fun b w3 => Out.of (getD o a b w3) w3 else .bad
def eGet1 (O A : Den) : Den := fun r w => (O r w).bnd fun o w1 => if (asK o w1).isSome = true then (A r w1).bnd fun a w2 => Out.of (getD o a .non w2) w2 else .bad
theorem get_ok {K : PySem.W.Frag} {mg : Str → Option Value} {G H : Hp} {m : List Addr} {w : List Cell} {x y z : V} {o k b : D} {r : D} {a : Addr} (S : Sim K mg G m w H) (R1 : Rep K G m (.ref a) o) (R2 : Rep K G m y k) (R3 : Rep K G m z b) (h : getD o k b w = some r) : ∃ oo, DGet H a y oo ∧ Rep K G m (oo.getD z) r := by
  obtain ⟨kd, h1, h⟩ := Option.bind_eq_some_iff.mp h
  obtain ⟨ky, h2, rfl⟩ := Option.map_eq_some_iff.mp h
  obtain ⟨a', kv, e, rd, rk⟩ := rep_asK S R1 h1
  cases e
  refine ⟨valV kv ky, .inl ⟨kv, ky, rd, rep_key R2 h2, rfl⟩, ?_⟩
  have q := RepK.look (k := ky) rk
  cases u : look kd ky with
  | none => rw [q.2 u]; exact R3
  | some d => obtain ⟨v, z1, z2⟩ := q.1 d u; rw [z1]; exact z2
theorem asK_ref {K : PySem.W.Frag} {mg : Str → Option Value} {G H : Hp} {m : List Addr} {w : List Cell} {x : V} {o : D} (S : Sim K mg G m w H) (R : Rep K G m x o) (h : (asK o w).isSome = true) : ∃ a, x = .ref a ∧ IsD H a := by
  obtain ⟨kd, h1⟩ := Option.isSome_iff_exists.mp h
  obtain ⟨a, kv, rfl, rd, rk⟩ := rep_asK S R h1
  exact ⟨a, rfl, .inl ⟨kv, rd⟩⟩
theorem de_get2 {o e f : Expr} {O A B : Den} {apos cpos : Pos} (hu : X.A.units + 65 < cLine) (ho : DE X W o O) (he : DE X W e A) (hf : DE X W f B) (mm : M2 X o "get" apos e f cpos := by exact ⟨rfl, rfl, rfl, rfl⟩) : DE X W (.Call (.Attribute o "get" apos) [e, f] [] cpos) (eGet2 O A B) := (pe_dget2 (by omega) ho he hf mm).weak <| by
  rintro σ H Q ⟨G, m, w, r, S, E, h⟩
  refine ⟨G, m, w, r, S, E, (okO.bind h).mono ?_⟩
  rintro x H1 ⟨G1, m1, w1, d, e1, S1, R1, h1⟩
  split at h1
  · rename_i hk
    obtain ⟨a, rfl, hd⟩ := asK_ref S1 R1 hk
    refine ⟨a, rfl, hd, G1, m1, w1, r, S1, E.ext e1, (okO.bind h1).mono ?_⟩
    rintro y H2 ⟨G2, m2, w2, d2, e2, S2, R2, h2⟩
    refine ⟨G2, m2, w2, r, S2, (E.ext e1).ext e2, (okO.bind h2).mono ?_⟩
    rintro z H3 ⟨G3, m3, w3, d3, e3, S3, R3, h3⟩
    obtain ⟨t, ht, k⟩ := okD_of h3
    obtain ⟨oo, g1, g2⟩ := get_ok (x := .non) S3 ((R1.ext e2).ext e3) (R2.ext e3) R3 ht
    exact ⟨oo, g1, k G3 m3 H3 _ Ext.refl S3 g2⟩
  · exact h1.elim
theorem de_get1 {o e : Expr} {O A : Den} {apos cpos : Pos} (hu : X.A.units + 65 < cLine) (ho : DE X W o O) (he : DE X W e A) (mm : M1 X o "get" apos e cpos := by exact ⟨rfl, rfl, rfl, rfl⟩) : DE X W (.Call (.Attribute o "get" apos) [e] [] cpos) (eGet1 O A) := (pe_dget1 (by omega) ho he mm).weak <| by
  rintro σ H Q ⟨G, m, w, r, S, E, h⟩
  refine ⟨G, m, w, r, S, E, (okO.bind h).mono ?_⟩
  rintro x H1 ⟨G1, m1, w1, d, e1, S1, R1, h1⟩
  split at h1
  · rename_i hk
    obtain ⟨a, rfl, hd⟩ := asK_ref S1 R1 hk
    refine ⟨a, rfl, hd, G1, m1, w1, r, S1, E.ext e1, (okO.bind h1).mono ?_⟩
    rintro y H2 ⟨G2, m2, w2, d2, e2, S2, R2, h2⟩
    obtain ⟨t, ht, k⟩ := okD_of h2
    obtain ⟨oo, g1, g2⟩ := get_ok (x := .non) (z := .non) S2 (R1.ext e2) R2 .non ht
    exact ⟨oo, g1, k G2 m2 H2 _ Ext.refl S2 g2⟩
  · exact h1.elim
end
end Dn
/-! Dn9: calls with keywords, a def's rule, a law's end. -/
namespace Dn
open PySem PySem.Spec PyProof.Rows L2

/-! ### a def: its context as it is -/
section
variable {P : Program} {w : World} {K : PySem.W.Frag} {mg : Str → Option Value} {base : Heap}
theorem hu_room {k : Nat} {A : Around} (hr : Room k A) : A.units + 65 < cLine := by have := hr.un; omega
theorem fnD_mk {x qual : Str} {st : Stmt} {f : Addr} {fd : FuncData} {N ps : List Str} {k : Nat} {A : DenS} (F : Fun K x qual st f fd) (S : FnScope N ps (defScope st))
    (hb : ∀ (cdv : Value) (Ar : Around) (outer : List Env) (s : Shared) (H : Hp) (E : XK), Room k (cxOf (L2.CX P w) P w K mg base N qual (defScope st) f cdv Ar outer s H E).A →
      Takes (cxOf (L2.CX P w) P w K mg base N qual (defScope st) f cdv Ar outer s H E) (fun c d _ H => E c d H) →
      PassesOwn (model P w) (cxOf (L2.CX P w) P w K mg base N qual (defScope st) f cdv Ar outer s H E).A (cxOf (L2.CX P w) P w K mg base N qual (defScope st) f cdv Ar outer s H E).env (cxOf (L2.CX P w) P w K mg base N qual (defScope st) f cdv Ar outer s H E).xe →
      DSs (cxOf (L2.CX P w) P w K mg base N qual (defScope st) f cdv Ar outer s H E) (fun c d _ H => E c d H) (defBody st) A) : FnD P w K mg base (k + 1) f fd ps (runB N.length A) := by
  refine F.okX S (fun vs H Q E h => h.1) fun cdv Ar outer s H vs Q E hr hsp => ?_
  obtain ⟨hl, G, m, w0, ds, hS, hR, hk⟩ := hsp
  refine ⟨_, hb cdv Ar outer s H E hr (takes_of rfl rfl rfl rfl) (passes_of rfl), ?_⟩
  refine ⟨G, m, w0, _, hS, envR_start hR N, ?_⟩
  unfold runB at hk
  cases q : A (ds.map some ++ List.replicate (N.length - ds.length) none) w0 with
  | go fl r1 w1 =>
    rw [q] at hk
    cases fl with
    | ret d => exact fun G' m' H' v e1 s1 r1 => hk G' m' H' v e1 s1 r1
    | next => exact fun G' m' H' σ' e1 s1 r1 => hk G' m' H' .non e1 s1 .non
    | brk => exact hk.elim
    | cont => exact hk.elim
  | exc y r1 w1 =>
    rw [q] at hk
    exact fun G' m' H' σ' cls dd v e1 s1 r1 => hk G' m' H' cls dd v e1 s1
  | bad => rw [q] at hk; exact hk.elim
theorem calN_of {x qual : Str} {st : Stmt} {f : Addr} {fd : FuncData} {ps : List Str} {k n : Nat} {F : FnS} (Fn : Fun K x qual st f fd) (h : FnD P w K mg base k f fd ps F) (hm : mg x = some (.ref f)) (hn : ps.length = n)
    (hb : ∀ (kV doc pm : Value) (an : Option Addr) (cdv ct : Value) (us : List Value), us.length = ps.length → bindArgs (PySem.W.fnOf x qual (defArgs st) (defBody st) (defScope st) .none kV doc pm an cdv ct) ⟨us, []⟩ = pure (ps.zip us)) : CalN P w K mg base x k n [] F :=
  ⟨f, fd, ps, [], [], h, by simp [hn], hm, Fn.kp, Fn.binds hb, .nil, fun _ _ => .nil⟩
end
/-! ### keywords -/
def permL {α : Type} (ix : List Nat) (xs : List α) : List α := ix.filterMap fun i => xs[i]?
theorem perm_vals {vs : List V} {us : List Value} (r : Vals vs us) : ∀ ix : List Nat, Vals (permL ix vs) (permL ix us)
  | [] => .nil
  | i :: ix => by
    have ih := perm_vals r ix
    unfold permL at ih ⊢
    rw [List.filterMap_cons, List.filterMap_cons]
    cases q : vs[i]? with
    | none => rw [r.none_of q]; exact ih
    | some v =>
      obtain ⟨u, h1, h2⟩ := r.get q
      rw [h1]
      exact .cons h2 ih
theorem perm_rep {K : PySem.W.Frag} {G : Hp} {m : List Addr} {vs : List V} {ds : List D} (r : RepL K G m vs ds) : ∀ ix : List Nat, RepL K G m (permL ix vs) (permL ix ds)
  | [] => .nil
  | i :: ix => by
    have ih := perm_rep r ix
    unfold permL at ih ⊢
    rw [List.filterMap_cons, List.filterMap_cons]
    cases q : ds[i]? with
    | none =>
      have : vs[i]? = none := List.getElem?_eq_none (by rw [r.length]; exact List.getElem?_eq_none_iff.mp q)
      rw [this]; exact ih
    | some d =>
      obtain ⟨v, h1, h2⟩ := r.get q
      rw [h1]
      exact .cons h2 ih
/-- a def called with n positional arguments and the keywords ks; ix: where each parameter's value stands -/
structure CalK (P : Program) (w : World) (K : PySem.W.Frag) (mg : Str → Option Value) (base : Heap) (x : Str) (k n : Nat) (ks : List Str) (ix : List Nat) (F : FnS) : Prop where
  ex : ∃ f fd ps, FnD P w K mg base k f fd ps F ∧ mg x = some (.ref f) ∧ PySem.W.keepIn K (.ref f) = true ∧ ps.length = ix.length ∧ ∀ (s : Shared) (us ws : List Value), us.length = n → ws.length = ks.length → BindsTo s fd ⟨us, ks.zip ws⟩ (ps.zip (permL ix (us ++ ws)))
section
variable {P : Program} {w : World} {K : PySem.W.Frag} {mg : Str → Option Value} {base : Heap}
theorem CalK.mono {x : Str} {j k n : Nat} {ks : List Str} {ix : List Nat} {F : FnS} (C : CalK P w K mg base x j n ks ix F) (h : j ≤ k) : CalK P w K mg base x k n ks ix F := by
  obtain ⟨f, fd, ps, a, b⟩ := C.ex
  exact ⟨f, fd, ps, a.mono h, b⟩
theorem calK_of {x qual : Str} {st : Stmt} {f : Addr} {fd : FuncData} {ps ks : List Str} {k n : Nat} {ix : List Nat} {F : FnS} (Fn : Fun K x qual st f fd) (h : FnD P w K mg base k f fd ps F) (hm : mg x = some (.ref f)) (hn : ps.length = ix.length)
    (hb : ∀ (kV doc pm : Value) (an : Option Addr) (cdv ct : Value) (us ws : List Value), us.length = n → ws.length = ks.length → bindArgs (PySem.W.fnOf x qual (defArgs st) (defBody st) (defScope st) .none kV doc pm an cdv ct) ⟨us, ks.zip ws⟩ = pure (ps.zip (permL ix (us ++ ws)))) : CalK P w K mg base x k n ks ix F := by
  obtain ⟨oc, od, kV, doc, pm, an, cdv, ct, osl, e, lk, hcd⟩ := Fn.ex
  exact ⟨f, fd, ps, h, hm, Fn.kp, hn, fun s us ws h1 h2 => by rw [e]; exact .of_eq (hb kV doc pm an cdv ct us ws h1 h2)⟩
end
def eCallK (n k : Nat) (ix : List Nat) (F : FnS) (B BK : DenA) : Den := fun r w => (B r w).bnd fun ds w1 => (BK r w1).bnd fun es w2 => if ds.length = n ∧ es.length = k ∧ (permL ix (ds ++ es)).length = ix.length then F (permL ix (ds ++ es)) w2 else .bad
abbrev DK (X : Cx) (W : WX) (kws : List Keyword) (B : DenA) : Prop := PK X kws (taD X W B)
theorem _root_.L2.PK.weak {X : Cx} {e : List Keyword} {t t' : TA} (h : PK X e t) (k : ∀ σ H Q, t' σ H Q → t σ H Q) : PK X e t' := ⟨fun pos pins s σ H Q I q => h.run pos pins s σ H Q I (k _ _ _ q)⟩
section
variable {X : Cx} {W : WX}
theorem dk_nil : DK X W [] aNil := pk_nil.weak fun σ H Q ⟨G, m, w, r, S, E, k⟩ => k G m H _ Ext.refl S .nil
theorem dk_cons {e : Expr} {kws : List Keyword} {nm : Option Str} {kpos : Pos} {A : Den} {B : DenA} (ha : DE X W e A) (hr : DK X W kws B) : DK X W (⟨nm, e, kpos⟩ :: kws) (aCons A B) := (pk_cons ha hr).weak <| by
  rintro σ H Q ⟨G, m, w, r, S, E, h⟩
  refine ⟨G, m, w, r, S, E, (okO.bind h).mono ?_⟩
  rintro x H1 ⟨G1, m1, w1, d, e1, S1, R1, h1⟩
  refine ⟨G1, m1, w1, r, S1, E.ext e1, (okO.bind h1).mono ?_⟩
  rintro y H2 ⟨G2, m2, w2, l, e2, S2, R2, h2⟩
  exact h2 G2 m2 H2 _ Ext.refl S2 (.cons (R1.ext e2) R2)
theorem run_K {f : Addr} {fd : FuncData} {ps ks : List Str} {k n : Nat} {ix : List Nat} {F : FnS} {pins : List (Addr × Obj)} {σ : L2.St} {H : Hp} {s : Shared} {Q : VK} {us ws : List Value} {vs zs : List V} {E : L2.St → XK} (hF : FnD X.prog X.w X.K X.mg X.base k f fd ps F) (hr : Room k X.A)
    (hb : ∀ (s : Shared) (us ws : List Value), us.length = n → ws.length = ks.length → BindsTo s fd ⟨us, ks.zip ws⟩ (ps.zip (permL ix (us ++ ws)))) (hx : ∀ σ, PassesAt (L2.CX X.prog X.w) X σ (E σ)) (I : Inv X pins σ H s) (r : Vals vs us) (rz : Vals zs ws) (h1 : vs.length = n) (h2 : zs.length = ks.length)
    (h : spD X.K X.mg ps.length F (permL ix (vs ++ zs)) H Q (E σ)) : wpAny (model X.prog X.w) X.A (call (.ref f) us (ks.zip ws)) (EP X pins σ Q) X.xe s := by
  have r2 := perm_vals (r.append rz) ix
  refine wpAny_call (codeAny_mono (hF.run X.A X.stack s H ⟨us, ks.zip ws⟩ (permL ix (us ++ ws)) (permL ix (vs ++ zs)) Q (E σ) hr I.env0 (hb s us ws (by rw [← r.length]; exact h1) (by rw [← rz.length]; exact h2)) r2 h) fun r s' hq => ?_)
  cases r with
  | error e => exact hx σ pins H s e s' I hq
  | ok fl =>
    cases fl with
    | ret u => exact I.after hq
    | next => exact False.elim hq
    | brk => exact False.elim hq
    | cont => exact False.elim hq
theorem de_callK' {x : Str} {k n : Nat} {ks : List Str} {ix : List Nat} {F F' : FnS} {e : Expr} {es : List Expr} {kws : List Keyword} {B BK : DenA} {p pos : Pos} (C : CalK X.prog X.w X.K X.mg X.base x k n ks ix F) (hr : Room k X.A) (tk : Takes X W)
    (hF : ∀ {G H : Hp} {m : List Addr} {w : List Cell} {vs : List V} {ds : List D} {E : XK} {Q : VK}, Sim X.K X.mg G m w H → RepL X.K G m vs ds → okD X.K X.mg E G m H Q (F' ds w) → ∃ m0 cs es, Sim X.K X.mg G m0 cs H ∧ RepL X.K G m0 vs es ∧ es.length = ds.length ∧ okD X.K X.mg E G m0 H Q (F es cs))
    (ha : DA X W (e :: es) B) (hkw : DK X W kws BK) (hks : (backToKw pos (keywordEach kws X.env)).filterMap (·.1) = ks) (hall : (backToKw pos (keywordEach kws X.env)).all (·.1.isSome) = true)
    (hg : Gl X x) (hdb : (x == ("__debug__" : Str)) = false) (he : starEach (e :: es) X.env = (false, eval e X.env) :: starEach es X.env)
    (hpl : ((backTo pos (starEach (e :: es) X.env)).any (·.1) || (backToKw pos (keywordEach kws X.env)).any (·.1.isNone)) = false) : DE X W (.Call (.Name x p) (e :: es) kws pos) (eCallK n ks.length ix F' B BK) := by
  obtain ⟨f, fd, ps, hFn, hm, hk, hps, hb⟩ := C.ex
  refine ⟨fun pins s σ H Q I hq => ?_⟩
  obtain ⟨G, m, w, r, S, E, h⟩ := hq
  refine wpAny_Call_Name_kw (ld_glob I hg hm ?_ hdb)
  refine PySem.W.callWith_KW (h₀ := X.base) I.ok.mod.kin hk hall (thn (ha.run pos pins s σ H _ I ⟨G, m, w, r, S, E, okO.bind h⟩) fun us s1 ⟨vs, H1, I1, rv, q⟩ => ?_) hpl he
  obtain ⟨G1, m1, w1, ds, e1, S1, R1, h1⟩ := q
  refine thn (hkw.run pos pins s1 σ H1 _ I1 ⟨G1, m1, w1, r, S1, E.ext e1, okO.bind h1⟩) fun ws s2 ⟨zs, H2, I2, rz, q2⟩ => ⟨I2.kIn, ?_⟩
  obtain ⟨G2, m2, w2, es, e2, S2, R2, h2⟩ := q2
  rw [hks]
  split at h2
  · rename_i hl
    obtain ⟨m0, cs, es', S3, R3, l3, h3⟩ := hF S2 (perm_rep ((R1.ext e2).append R2) ix) h2
    exact run_K (E := WE W) hFn hr hb (fun σ => passAt tk σ) I2 rv rz (by rw [R1.length]; exact hl.1) (by rw [R2.length]; exact hl.2.1) ⟨by rw [(perm_rep ((R1.ext e2).append R2) ix).length, hl.2.2, hps], G2, m0, cs, es', S3, R3, h3⟩
  · exact h2.elim
theorem de_callK0' {x : Str} {k : Nat} {ks : List Str} {ix : List Nat} {F F' : FnS} {kws : List Keyword} {BK : DenA} {p pos : Pos} (C : CalK X.prog X.w X.K X.mg X.base x k 0 ks ix F) (hr : Room k X.A) (tk : Takes X W)
    (hF : ∀ {G H : Hp} {m : List Addr} {w : List Cell} {vs : List V} {ds : List D} {E : XK} {Q : VK}, Sim X.K X.mg G m w H → RepL X.K G m vs ds → okD X.K X.mg E G m H Q (F' ds w) → ∃ m0 cs es, Sim X.K X.mg G m0 cs H ∧ RepL X.K G m0 vs es ∧ es.length = ds.length ∧ okD X.K X.mg E G m0 H Q (F es cs))
    (hkw : DK X W kws BK) (hks : (backToKw pos (keywordEach kws X.env)).filterMap (·.1) = ks) (hall : (backToKw pos (keywordEach kws X.env)).all (·.1.isSome) = true)
    (hg : Gl X x) (hdb : (x == ("__debug__" : Str)) = false)
    (hpl : ((backTo pos (starEach [] X.env)).any (·.1) || (backToKw pos (keywordEach kws X.env)).any (·.1.isNone)) = false) : DE X W (.Call (.Name x p) [] kws pos) (eCallK 0 ks.length ix F' aNil BK) := by
  obtain ⟨f, fd, ps, hFn, hm, hk, hps, hb⟩ := C.ex
  refine ⟨fun pins s σ H Q I hq => ?_⟩
  obtain ⟨G, m, w, r, S, E, h⟩ := hq
  refine wpAny_Call_Name_kw (ld_glob I hg hm ?_ hdb)
  have h1 : okD X.K X.mg (fun c d H => W c d σ H) G m H Q ((BK r w).bnd fun es w2 => if ([] : List D).length = 0 ∧ es.length = ks.length ∧ (permL ix ([] ++ es)).length = ix.length then F' (permL ix ([] ++ es)) w2 else .bad) := h
  refine PySem.W.callWith_KW0 (h₀ := X.base) I.ok.mod.kin hk hall (thn (hkw.run pos pins s σ H _ I ⟨G, m, w, r, S, E, okO.bind h1⟩) fun ws s2 ⟨zs, H2, I2, rz, q2⟩ => ⟨I2.kIn, ?_⟩) hpl
  obtain ⟨G2, m2, w2, es, e2, S2, R2, h2⟩ := q2
  rw [hks]
  split at h2
  · rename_i hl
    obtain ⟨m0, cs, es', S3, R3, l3, h3⟩ := hF S2 (perm_rep R2 ix) h2
    exact run_K (E := WE W) (vs := []) hFn hr hb (fun σ => passAt tk σ) I2 .nil rz rfl (by rw [R2.length]; exact hl.2.1) ⟨by rw [List.nil_append, (perm_rep R2 ix).length, hps]; exact hl.2.2, G2, m0, cs, es', S3, R3, h3⟩
  · exact h2.elim
theorem de_callK {x : Str} {k n : Nat} {ks : List Str} {ix : List Nat} {F : FnS} {e : Expr} {es : List Expr} {kws : List Keyword} {B BK : DenA} {p pos : Pos} (C : CalK X.prog X.w X.K X.mg X.base x k n ks ix F) (hr : Room k X.A) (tk : Takes X W)
    (ha : DA X W (e :: es) B) (hkw : DK X W kws BK) (hks : (backToKw pos (keywordEach kws X.env)).filterMap (·.1) = ks := by rfl) (hall : (backToKw pos (keywordEach kws X.env)).all (·.1.isSome) = true := by rfl)
    (hg : Gl X x := by rfl) (hdb : (x == ("__debug__" : Str)) = false := by decide) (he : starEach (e :: es) X.env = (false, eval e X.env) :: starEach es X.env := by rfl)
    (hpl : ((backTo pos (starEach (e :: es) X.env)).any (·.1) || (backToKw pos (keywordEach kws X.env)).any (·.1.isNone)) = false := by rfl) : DE X W (.Call (.Name x p) (e :: es) kws pos) (eCallK n ks.length ix F B BK) :=
  de_callK' C hr tk (fun S r h => ⟨_, _, _, S, r, rfl, h⟩) ha hkw hks hall hg hdb he hpl
theorem de_callKS {x : Str} {k n : Nat} {ks : List Str} {ix : List Nat} {F : FnS} {e : Expr} {es : List Expr} {kws : List Keyword} {B BK : DenA} {p pos : Pos} (C : CalK X.prog X.w X.K X.mg X.base x k n ks ix F) (hr : Room k X.A) (tk : Takes X W)
    (ha : DA X W (e :: es) B) (hkw : DK X W kws BK) (hks : (backToKw pos (keywordEach kws X.env)).filterMap (·.1) = ks := by rfl) (hall : (backToKw pos (keywordEach kws X.env)).all (·.1.isSome) = true := by rfl)
    (hg : Gl X x := by rfl) (hdb : (x == ("__debug__" : Str)) = false := by decide) (he : starEach (e :: es) X.env = (false, eval e X.env) :: starEach es X.env := by rfl)
    (hpl : ((backTo pos (starEach (e :: es) X.env)).any (·.1) || (backToKw pos (keywordEach kws X.env)).any (·.1.isNone)) = false := by rfl) : DE X W (.Call (.Name x p) (e :: es) kws pos) (eCallK n ks.length ix (callS F) B BK) :=
  de_callK' C hr tk (fun S r h => callS_ok S r h) ha hkw hks hall hg hdb he hpl
theorem de_callK0 {x : Str} {k : Nat} {ks : List Str} {ix : List Nat} {F : FnS} {kws : List Keyword} {BK : DenA} {p pos : Pos} (C : CalK X.prog X.w X.K X.mg X.base x k 0 ks ix F) (hr : Room k X.A) (tk : Takes X W)
    (hkw : DK X W kws BK) (hks : (backToKw pos (keywordEach kws X.env)).filterMap (·.1) = ks := by rfl) (hall : (backToKw pos (keywordEach kws X.env)).all (·.1.isSome) = true := by rfl)
    (hg : Gl X x := by rfl) (hdb : (x == ("__debug__" : Str)) = false := by decide)
    (hpl : ((backTo pos (starEach [] X.env)).any (·.1) || (backToKw pos (keywordEach kws X.env)).any (·.1.isNone)) = false := by rfl) : DE X W (.Call (.Name x p) [] kws pos) (eCallK 0 ks.length ix F aNil BK) :=
  de_callK0' C hr tk (fun S r h => ⟨_, _, _, S, r, rfl, h⟩) hkw hks hall hg hdb hpl
theorem de_callKS0 {x : Str} {k : Nat} {ks : List Str} {ix : List Nat} {F : FnS} {kws : List Keyword} {BK : DenA} {p pos : Pos} (C : CalK X.prog X.w X.K X.mg X.base x k 0 ks ix F) (hr : Room k X.A) (tk : Takes X W)
    (hkw : DK X W kws BK) (hks : (backToKw pos (keywordEach kws X.env)).filterMap (·.1) = ks := by rfl) (hall : (backToKw pos (keywordEach kws X.env)).all (·.1.isSome) = true := by rfl)
    (hg : Gl X x := by rfl) (hdb : (x == ("__debug__" : Str)) = false := by decide)
    (hpl : ((backTo pos (starEach [] X.env)).any (·.1) || (backToKw pos (keywordEach kws X.env)).any (·.1.isNone)) = false := by rfl) : DE X W (.Call (.Name x p) [] kws pos) (eCallK 0 ks.length ix (callS F) aNil BK) :=
  de_callK0' C hr tk (fun S r h => callS_ok S r h) hkw hks hall hg hdb hpl
/-- a statement that is not told of -/
def sNo : DenS := fun _ _ => .bad
theorem ds_no {st : Stmt} : DS X W st sNo := PS.weak ps_never fun C σ H ⟨G, m, w, r, S, E, k⟩ => k
theorem dss_no {st : List Stmt} : DSs X W st sNo := PSs.weak pss_never fun C σ H ⟨G, m, w, r, S, E, k⟩ => k
end
/-! ### a law's end -/
def spLaw (K : PySem.W.Frag) : Sp := fun vs H Q _ => ∃ (a : Addr) (ns : List Int), vs = [.ref a] ∧ SqL K H a (ns.map V.int) ∧ ns.length ≤ 63 ∧ ∀ H', Q (.bl true) H'
theorem law_of {P : Program} {w : World} {K : PySem.W.Frag} {mg : Str → Option Value} {base : Heap} {k : Nat} {f : Addr} {fd : FuncData} {ps : List Str} {F : FnS} (h : FnD P w K mg base k f fd ps F) (hp : ps.length = 1)
    (hF : ∀ ns : List Int, ns.length ≤ 63 → ∃ w, F [.scr (ns.map .int)] [] = .ok (.bl true) w) : FnOk P w K mg base (L2.CX P w) k f fd ps (spLaw K) := by
  refine h.imp fun vs H Q E hs => ?_
  obtain ⟨a, ns, rfl, hq, hl, kk⟩ := hs
  obtain ⟨w', hw⟩ := hF ns hl
  refine ⟨by rw [hp]; rfl, fun b => if b = a then H b else none, [], [], [.scr (ns.map .int)], ⟨fun b o h => ?_, rfl, .nil, fun n a c h1 => ?_, fun a h => (nomatch h), fun n a c h1 => ?_⟩, .cons (.scr ?_ (rep_intsL _)) .nil, ?_⟩
  · split at h
    · exact h
    · cases h
  · simp at h1
  · simp at h1
  · rcases hq with (q | ⟨o, q⟩) | q
    · exact .inl (.inl (by show (if a = a then H a else none) = _; rw [if_pos rfl]; exact q))
    · exact .inl (.inr ⟨o, by show (if a = a then H a else none) = _; rw [if_pos rfl]; exact q⟩)
    · exact .inr q
  · rw [hw]
    intro G' m' H' v e1 S1 R1
    cases R1
    exact kk H'
theorem cx_false {P : Program} {w : World} (l : List Env) (H : Hp) (s : Shared) (e : Value) (s' : Shared) (h : L2.CX P w l H s (fun _ _ _ => False) e s') : False := by
  obtain ⟨_, _, _, _, _, _, _, _, _, _, _, _, z⟩ := h
  exact z.elim
end Dn
/-! Dn10: walks over dicts; a module's constants. -/
namespace Dn
open PySem PySem.Spec PyProof.Rows L2

/-- the pairs of a dict that stands still: a frozen one, or a locked cell's -/
def asKF (d : D) (w : List Cell) : Option (List (Key × D)) := match d with
  | .dct kd => some kd
  | .cel n => match w[n]? with
    | some (.dct kd true) => some kd
    | _ => none
  | _ => none
section
variable {K : PySem.W.Frag} {mg : Str → Option Value} {G G1 H H1 : Hp} {m m1 : List Addr} {w w1 : List Cell}
theorem rep_asKF (S : Sim K mg G m w H) {v : V} {d : D} {kd : List (Key × D)} (r : Rep K G m v d) (e : asKF d w = some kd) : ∃ a od kv, v = .ref a ∧ H a = some (.frz od (.dK kv)) ∧ RepK K G m kv kd := by
  cases r with
  | dct h q => cases e; exact ⟨_, _, _, rfl, S.sub _ _ h, q⟩
  | @cel n a h =>
    unfold asKF at e
    cases q : w[n]? with
    | none => simp only [q] at e; cases e
    | some c =>
      cases c with
      | dct xs lk =>
        cases lk with
        | false => simp only [q] at e; cases e
        | true =>
          simp only [q] at e
          cases e
          obtain ⟨kv, h1, h2⟩ := S.cel n a _ h q
          rw [if_pos rfl] at h2
          obtain ⟨od, h2⟩ := h2
          exact ⟨a, od, kv, rfl, h2, h1⟩
      | _ => simp only [q] at e; cases e
  | _ => cases e
theorem RepK.at : ∀ {kv : List (Key × V)} {kd : List (Key × D)} {i : Nat} {k : Key} {v : V}, RepK K G m kv kd → kv[i]? = some (k, v) → ∃ d, kd[i]? = some (k, d) ∧ Rep K G m v d
  | _, _, _, _, _, .nil, h => by simp at h
  | _, _, 0, _, _, .cons r rs, h => by simp at h; obtain ⟨rfl, rfl⟩ := h; exact ⟨_, rfl, r⟩
  | _, _, i + 1, _, _, .cons r rs, h => by rw [List.getElem?_cons_succ] at h ⊢; exact RepK.at rs h
end
def kvTF (f : Key × D → D) (kd : List (Key × D)) : TF := fun i _ => some ((kd[i]?).map f)
def keyF (p : Key × D) : D := keyD p.1
def valF (p : Key × D) : D := p.2
def itemF (p : Key × D) : D := .tup [keyD p.1, p.2]
def iKV (f : Key × D → D) (A : Den) : DenI := fun r w => (A r w).bnd fun d w1 => match asKF d w1 with
  | some kd => .ok (kd.length, kvTF f kd) w1
  | none => .bad
section
variable {X : Cx} {W : WX}
theorem kv_ix {kv : List (Key × V)} {kd : List (Key × D)} (hl : kv.length = kd.length) {i : Nat} (h : i < kd.length) : ∃ k v, kv[i]? = some (k, v) := ⟨kv[i].1, kv[i].2, by rw [List.getElem?_eq_getElem (by omega)]⟩
theorem drives_keys {K : PySem.W.Frag} {mg : Str → Option Value} {G H1 : Hp} {m : List Addr} {a : Addr} {od : Obj} {kv : List (Key × V)} {kd : List (Key × D)} (h0 : H1 a = some (.frz od (.dK kv))) (rk : RepK K G m kv kd) : Drives K mg G m H1 (Itk a od kv) (kvTF keyF kd) := by
  refine ⟨fun i G1 m1 w H eh S ht => ?_, fun i G1 m1 w H d eh S ht => ?_⟩
  · simp only [kvTF, Option.some.injEq, Option.map_eq_none_iff] at ht
    exact ⟨eh.fz _ _ _ h0, by rw [rk.length]; exact List.getElem?_eq_none_iff.mp ht⟩
  · simp only [kvTF, Option.some.injEq, Option.map_eq_some_iff] at ht
    obtain ⟨p, h1, rfl⟩ := ht
    have hi := (List.getElem?_eq_some_iff.mp h1).1
    refine ⟨⟨eh.fz _ _ _ h0, by rw [rk.length]; exact hi⟩, fun x H2 hy => ?_⟩
    obtain ⟨rfl, k, v, h2, rfl⟩ := hy
    obtain ⟨d, h3, h4⟩ := rk.at h2
    rw [h1] at h3; cases h3
    exact ⟨G1, Ext.refl, S, rep_keyD k⟩
theorem drives_vals {K : PySem.W.Frag} {mg : Str → Option Value} {G H1 : Hp} {m : List Addr} {a : Addr} {od : Obj} {kv : List (Key × V)} {kd : List (Key × D)} (h0 : H1 a = some (.frz od (.dK kv))) (rk : RepK K G m kv kd) : Drives K mg G m H1 (Itd a od kv) (kvTF valF kd) := by
  refine ⟨fun i G1 m1 w H eh S ht => ?_, fun i G1 m1 w H d eh S ht => ?_⟩
  · simp only [kvTF, Option.some.injEq, Option.map_eq_none_iff] at ht
    exact ⟨eh.fz _ _ _ h0, by rw [rk.length]; exact List.getElem?_eq_none_iff.mp ht⟩
  · simp only [kvTF, Option.some.injEq, Option.map_eq_some_iff] at ht
    obtain ⟨p, h1, rfl⟩ := ht
    have hi := (List.getElem?_eq_some_iff.mp h1).1
    refine ⟨⟨eh.fz _ _ _ h0, by rw [rk.length]; exact hi⟩, fun x H2 hy => ?_⟩
    obtain ⟨rfl, k, h2⟩ := hy
    obtain ⟨d, h3, h4⟩ := (rk.ext eh).at h2
    rw [h1] at h3; cases h3
    exact ⟨G1, Ext.refl, S, h4⟩
theorem drives_items {K : PySem.W.Frag} {mg : Str → Option Value} {G H1 : Hp} {m : List Addr} {a : Addr} {od : Obj} {kv : List (Key × V)} {kd : List (Key × D)} (h0 : H1 a = some (.frz od (.dK kv))) (rk : RepK K G m kv kd) : Drives K mg G m H1 (Iti a od kv) (kvTF itemF kd) := by
  refine ⟨fun i G1 m1 w H eh S ht => ?_, fun i G1 m1 w H d eh S ht => ?_⟩
  · simp only [kvTF, Option.some.injEq, Option.map_eq_none_iff] at ht
    exact ⟨eh.fz _ _ _ h0, by rw [rk.length]; exact List.getElem?_eq_none_iff.mp ht⟩
  · simp only [kvTF, Option.some.injEq, Option.map_eq_some_iff] at ht
    obtain ⟨p, h1, rfl⟩ := ht
    have hi := (List.getElem?_eq_some_iff.mp h1).1
    refine ⟨⟨eh.fz _ _ _ h0, by rw [rk.length]; exact hi⟩, fun x H2 hy => ?_⟩
    obtain ⟨T, k, v, h2, rfl, hT, rfl⟩ := hy
    obtain ⟨d, h3, h4⟩ := (rk.ext eh).at h2
    rw [h1] at h3; cases h3
    have e := ext_newF S hT (.tup [kV k, v])
    exact ⟨_, e, S.newF hT _, .tup (SqT.of upd_same) (.cons (rep_keyD k) (.cons (h4.ext e) .nil))⟩
theorem di_keys {tg e : Expr} {A : Den} (he : DE X W e A) : DI X W tg e (iKV keyF A) := (pi_keys he).weak <| by
  rintro σ H R ⟨G, m, w, r, S, E, h⟩
  refine ⟨G, m, w, r, S, E, (okO.bind (f := fun d w1 => match asKF d w1 with | some kd => Out.ok (kd.length, kvTF keyF kd) w1 | none => .bad) h).mono ?_⟩
  rintro x H1 ⟨G1, m1, w1, d, e1, S1, R1, h1⟩
  cases q : asKF d w1 with
  | none => simp only [q] at h1; exact h1.elim
  | some kd =>
    simp only [q] at h1
    obtain ⟨a, od, kv, rfl, hf, rk⟩ := rep_asKF S1 R1 q
    exact ⟨a, od, rfl, .inl ⟨kv, hf, h1 G1 m1 H1 _ Ext.refl S1 (drives_keys hf rk)⟩⟩
theorem di_keysM {tg e : Expr} {A : Den} {apos cpos : Pos} (he : DE X W e A) (hbase : attributeBase e "keys" X.env (eval e X.env) = eval e X.env := by rfl) (hline : (apos.endLine == cpos.line) = true := by rfl) : DI X W tg (.Call (.Attribute e "keys" apos) [] [] cpos) (iKV keyF A) := (pi_keysM he hbase hline).weak <| by
  rintro σ H R ⟨G, m, w, r, S, E, h⟩
  refine ⟨G, m, w, r, S, E, (okO.bind (f := fun d w1 => match asKF d w1 with | some kd => Out.ok (kd.length, kvTF keyF kd) w1 | none => .bad) h).mono ?_⟩
  rintro x H1 ⟨G1, m1, w1, d, e1, S1, R1, h1⟩
  cases q : asKF d w1 with
  | none => simp only [q] at h1; exact h1.elim
  | some kd =>
    simp only [q] at h1
    obtain ⟨a, od, kv, rfl, hf, rk⟩ := rep_asKF S1 R1 q
    exact ⟨a, od, kv, rfl, hf, h1 G1 m1 H1 _ Ext.refl S1 (drives_keys hf rk)⟩
theorem di_values {tg e : Expr} {A : Den} {apos cpos : Pos} (he : DE X W e A) (hbase : attributeBase e "values" X.env (eval e X.env) = eval e X.env := by rfl) (hline : (apos.endLine == cpos.line) = true := by rfl) : DI X W tg (.Call (.Attribute e "values" apos) [] [] cpos) (iKV valF A) := (pi_values he hbase hline).weak <| by
  rintro σ H R ⟨G, m, w, r, S, E, h⟩
  refine ⟨G, m, w, r, S, E, (okO.bind (f := fun d w1 => match asKF d w1 with | some kd => Out.ok (kd.length, kvTF valF kd) w1 | none => .bad) h).mono ?_⟩
  rintro x H1 ⟨G1, m1, w1, d, e1, S1, R1, h1⟩
  cases q : asKF d w1 with
  | none => simp only [q] at h1; exact h1.elim
  | some kd =>
    simp only [q] at h1
    obtain ⟨a, od, kv, rfl, hf, rk⟩ := rep_asKF S1 R1 q
    exact ⟨a, od, kv, rfl, hf, h1 G1 m1 H1 _ Ext.refl S1 (drives_vals hf rk)⟩
theorem di_items {elts : List Expr} {kk : Nat} {tpos : Pos} {e : Expr} {A : Den} {apos cpos : Pos} (he : DE X W e A) (hbase : attributeBase e "items" X.env (eval e X.env) = eval e X.env := by rfl) (hline : (apos.endLine == cpos.line) = true := by rfl) : DI X W (.Tuple elts kk tpos) (.Call (.Attribute e "items" apos) [] [] cpos) (iKV itemF A) := (pi_items he hbase hline).weak <| by
  rintro σ H R ⟨G, m, w, r, S, E, h⟩
  refine ⟨G, m, w, r, S, E, (okO.bind (f := fun d w1 => match asKF d w1 with | some kd => Out.ok (kd.length, kvTF itemF kd) w1 | none => .bad) h).mono ?_⟩
  rintro x H1 ⟨G1, m1, w1, d, e1, S1, R1, h1⟩
  cases q : asKF d w1 with
  | none => simp only [q] at h1; exact h1.elim
  | some kd =>
    simp only [q] at h1
    obtain ⟨a, od, kv, rfl, hf, rk⟩ := rep_asKF S1 R1 q
    exact ⟨a, od, kv, rfl, hf, h1 G1 m1 H1 _ Ext.refl S1 (drives_items hf rk)⟩
/-! ### a dict in a cell stands still for a while -/
theorem lock_in {K : PySem.W.Frag} {mg : Str → Option Value} {G H : Hp} {m : List Addr} {w : List Cell} {n : Nat} {a : Addr} {kd : List (Key × D)} {kv : List (Key × V)} (S : Sim K mg G m w H) (hn : m[n]? = some a) (hw : w[n]? = some (.dct kd false)) (hk : RepK K G m kv kd) (hH : H a = some (.dK kv)) (od : Obj) :
    Ext G m H G m (upd H a (.frz od (.dK kv))) ∧ Sim K mg G m (w.set n (.dct kd true)) (upd H a (.frz od (.dK kv))) :=
  ⟨ext_setC (List.mem_of_getElem? hn) (noFz_of hH fun _ _ z => nomatch z) _, S.setC hn hw (fun z => nomatch z) ⟨kv, hk, by rw [if_pos rfl]; exact ⟨od, upd_same⟩⟩⟩
theorem lock_out {K : PySem.W.Frag} {mg : Str → Option Value} {G H G' H' : Hp} {m m' : List Addr} {w' : List Cell} {n : Nat} {a : Addr} {kd' : List (Key × D)} {kv : List (Key × V)} {od : Obj} (hn : m[n]? = some a) (hH : H a = some (.dK kv))
    (e : Ext G m (upd H a (.frz od (.dK kv))) G' m' H') (S : Sim K mg G' m' w' H') (hw : w'[n]? = some (.dct kd' true)) : H' a = some (.frz od (.dK kv)) ∧ Ext G m H G' m' (upd H' a (.dK kv)) ∧ Sim K mg G' m' (w'.set n (.dct kd' false)) (upd H' a (.dK kv)) := by
  have h1 : H' a = some (.frz od (.dK kv)) := e.fz _ _ _ upd_same
  have hn' := e.ix n a hn
  obtain ⟨kv', k1, k2⟩ := S.cel n a _ hn' hw
  rw [if_pos rfl] at k2
  obtain ⟨od', k2⟩ := k2
  rw [h1] at k2
  cases k2
  refine ⟨h1, ⟨e.g, e.mm, fun b o h n => ?_, fun b h n => ?_, fun b o h => ?_, fun b x u h => ?_⟩, S.setC hn' hw (fun z => nomatch z) ⟨kv, k1, by rw [if_neg Bool.false_ne_true]; exact upd_same⟩⟩
  · have z : b ≠ a := fun z => n (by rw [z]; exact List.mem_of_getElem? hn)
    rw [upd_ne z]
    exact e.fr b o (by rw [upd_ne z]; exact h) n
  · have q := e.nm b h n
    have z : b ≠ a := fun z => n (by rw [z]; exact List.mem_of_getElem? hn)
    rwa [upd_ne z] at q
  · rcases e.ng b o h with q | q | q
    · exact .inl q
    · have z : b ≠ a := fun z => by rw [z, upd_same] at q; cases q
      rw [upd_ne z] at q
      exact .inr (.inl q)
    · exact .inr (.inr q)
  · have z : b ≠ a := fun z => by rw [z, hH] at h; cases h
    rw [upd_ne z]
    exact e.fz b x u (by rw [upd_ne z]; exact h)
def unlS (n : Nat) (o : OutS) : OutS := match o with
  | .go f r w => match w[n]? with
    | some (.dct kd true) => .go f r (w.set n (.dct kd false))
    | _ => .bad
  | .exc x r w => .exc x r w
  | .bad => .bad
def unlE (n : Nat) (o : Out D) : Out D := match o with
  | .ok d w => match w[n]? with
    | some (.dct kd true) => .ok d (w.set n (.dct kd false))
    | _ => .bad
  | .exc x w => .exc x w
  | .bad => .bad
/-- the slot i holds a dict that the statement walks -/
def sLock (i : Nat) (B : DenS) : DenS := fun r w => match r[i]? with
  | some (some (.cel n)) => match w[n]? with
    | some (.dct kd false) => unlS n (B r (w.set n (.dct kd true)))
    | _ => .bad
  | _ => B r w
def eLock (i : Nat) (A : Den) : Den := fun r w => match r[i]? with
  | some (some (.cel n)) => match w[n]? with
    | some (.dct kd false) => unlE n (A r (w.set n (.dct kd true)))
    | _ => .bad
  | _ => A r w
theorem _root_.L2.PS.or {st : Stmt} {t t' : TS} (h : PS X st t) (h' : PS X st t') : PS X st (fun C σ H => t C σ H ∨ t' C σ H) := ⟨fun pins s σ H C I q => q.elim (h.run pins s σ H C I) (h'.run pins s σ H C I)⟩
theorem _root_.L2.PE.or {st : Expr} {t t' : TE} (h : PE X st t) (h' : PE X st t') : PE X st (fun σ H C => t σ H C ∨ t' σ H C) := ⟨fun pins s σ H C I q => q.elim (h.run pins s σ H C I) (h'.run pins s σ H C I)⟩
theorem ds_lock (i : Nat) {st : Stmt} {B : DenS} (h : DS X W st B) : DS X W st (sLock i B) := (h.or (ps_lock h)).weak <| by
  rintro C σ H ⟨G, m, w, r, S, E, h⟩
  unfold sLock at h
  split at h
  · rename_i n hr
    split at h
    · rename_i kd hw
      obtain ⟨a, hn⟩ := S.addr hw
      obtain ⟨kv, k1, k2⟩ := S.cel n a _ hn hw
      rw [if_neg Bool.false_ne_true] at k2
      refine .inr ⟨a, .dK kv, k2, trivial, fun od => ?_⟩
      obtain ⟨e1, S1⟩ := lock_in S hn hw k1 k2 od
      refine ⟨G, m, _, r, S1, E, ?_⟩
      cases q : B r (w.set n (.dct kd true)) with
      | bad => rw [q] at h; exact h.elim
      | exc x r' w' => rw [q] at h; exact fun G' m' H' σ' cls dd v e2 => h G' m' H' σ' cls dd v (e1.trans e2)
      | go f r' w' =>
        rw [q] at h
        have h2 : okS X.K X.mg W G m H C (match w'[n]? with | some (.dct kd true) => .go f r' (w'.set n (.dct kd false)) | _ => .bad) := h
        split at h2
        · rename_i kd' hw'
          cases f with
          | next => exact fun G' m' H' σ' e2 S2 E2 => let ⟨p1, p2, p3⟩ := lock_out hn k2 e2 S2 hw'; ⟨p1, h2 G' m' _ σ' p2 p3 E2⟩
          | brk => exact fun G' m' H' σ' e2 S2 E2 => let ⟨p1, p2, p3⟩ := lock_out hn k2 e2 S2 hw'; ⟨p1, h2 G' m' _ σ' p2 p3 E2⟩
          | cont => exact fun G' m' H' σ' e2 S2 E2 => let ⟨p1, p2, p3⟩ := lock_out hn k2 e2 S2 hw'; ⟨p1, h2 G' m' _ σ' p2 p3 E2⟩
          | ret d => exact fun G' m' H' v e2 S2 R2 => let ⟨p1, p2, p3⟩ := lock_out hn k2 e2 S2 hw'; ⟨p1, h2 G' m' _ v p2 p3 R2⟩
        · exact h2.elim
    · exact h.elim
  · exact .inl ⟨G, m, w, r, S, E, h⟩
theorem de_lock (i : Nat) {e : Expr} {A : Den} (h : DE X W e A) : DE X W e (eLock i A) := (h.or (pe_lock h)).weak <| by
  rintro σ H Q ⟨G, m, w, r, S, E, h⟩
  unfold eLock at h
  split at h
  · rename_i n hr
    split at h
    · rename_i kd hw
      obtain ⟨a, hn⟩ := S.addr hw
      obtain ⟨kv, k1, k2⟩ := S.cel n a _ hn hw
      rw [if_neg Bool.false_ne_true] at k2
      refine .inr ⟨a, .dK kv, k2, trivial, fun od => ?_⟩
      obtain ⟨e1, S1⟩ := lock_in S hn hw k1 k2 od
      refine ⟨G, m, _, r, S1, E, ?_⟩
      cases q : A r (w.set n (.dct kd true)) with
      | bad => rw [q] at h; exact h.elim
      | exc x w' => rw [q] at h; exact fun G' m' H' cls dd v e2 => h G' m' H' cls dd v (e1.trans e2)
      | ok d w' =>
        rw [q] at h
        have h2 : okD X.K X.mg (fun c d H => W c d σ H) G m H Q (match w'[n]? with | some (.dct kd true) => .ok d (w'.set n (.dct kd false)) | _ => .bad) := h
        split at h2
        · rename_i kd' hw'
          exact fun G' m' H' v e2 S2 R2 => let ⟨p1, p2, p3⟩ := lock_out hn k2 e2 S2 hw'; ⟨p1, h2 G' m' _ v p2 p3 R2⟩
        · exact h2.elim
    · exact h.elim
  · exact .inl ⟨G, m, w, r, S, E, h⟩
/-! ### a module's constants -/
theorem de_globS {x s : Str} {pos : Pos} (hm : ∃ t, X.mg x = some (.str s t)) (hg : Gl X x := by rfl) (hdb : (x == ("__debug__" : Str)) = false := by decide) : DE X W (.Name x pos) (eC (.str s)) := by
  obtain ⟨t, h⟩ := hm
  exact de_glob (v := .str s) h ⟨t, rfl⟩ (fun _ _ => .str s) hg hdb
theorem de_globI {x : Str} {i : Int} {pos : Pos} (hm : ∃ t, X.mg x = some (.int i t)) (hg : Gl X x := by rfl) (hdb : (x == ("__debug__" : Str)) = false := by decide) : DE X W (.Name x pos) (eC (.int i)) := by
  obtain ⟨t, h⟩ := hm
  exact de_glob (v := .int i) h ⟨t, rfl⟩ (fun _ _ => .int i) hg hdb
end
end Dn
/-! Dn11: small things. -/
namespace Dn
open PySem PySem.Spec PyProof.Rows L2

section
variable {X : Cx} {W : WX}
/-- -i -/
def eNeg (A : Den) : Den := fun r w => (A r w).bnd fun x w1 => match x with
  | .int i => .ok (.int (-i)) w1
  | _ => .bad
theorem de_neg {a : Expr} {A : Den} {pos : Pos} (ha : DE X W a A) : DE X W (.UnaryOp .USub a pos) (eNeg A) := (pe_un un_neg ha).weak <| by
  rintro σ H Q ⟨G, m, w, r, S, E, h⟩
  refine ⟨G, m, w, r, S, E, (okO.bind h).mono ?_⟩
  rintro x H1 ⟨G1, m1, w1, d, e1, S1, R1, h1⟩
  cases d <;> first | exact h1.elim | skip
  cases R1
  exact ⟨_, rfl, h1 G1 m1 H1 _ Ext.refl S1 (.int _)⟩
/-- xs[::-1] -/
def eRev (A : Den) : Den := fun r w => (A r w).bnd fun x w1 => match asL x w1 with
  | some ds => .ok (.lst ds.reverse) w1
  | none => .bad
theorem de_rev {e : Expr} {A : Den} {k : Nat} {p1 p2 p3 pos : Pos} (he : DE X W e A) : DE X W (.Subscript e (.Slice none none (some (.UnaryOp .USub (.Constant (.int 1) k p1) p2)) p3) pos) (eRev A) := (pe_revL he).weak <| by
  rintro σ H Q ⟨G, m, w, r, S, E, h⟩
  refine ⟨G, m, w, r, S, E, (okO.bind (f := fun x w1 => match asL x w1 with | some ds => Out.ok (D.lst ds.reverse) w1 | none => .bad) h).mono ?_⟩
  rintro x H1 ⟨G1, m1, w1, d, e1, S1, R1, h1⟩
  cases q : asL d w1 with
  | none => simp only [q] at h1; exact h1.elim
  | some ds =>
    simp only [q] at h1
    obtain ⟨a, vs, rfl, hl, rl⟩ := rep_asL S1 R1 q
    exact ⟨a, vs, rfl, SqL.of hl, new_lst S1 rl.reverse fun G' H' v => h1 G' m1 H' v⟩
/-- x, y, z = a, b, c -/
def sPar3 (i j l : Nat) (B : DenA) : DenS := fun r w => (B r w).thenS r fun ds w1 => match ds with
  | [d, e, f] => .go .next (((r.set i (some d)).set j (some e)).set l (some f)) w1
  | _ => .bad
theorem ds_par3 {i j l : Nat} {x y z : Str} {a b c : Expr} {B : DenA} {px py pz pt pos : Pos} {kt k2 : Nat} {pt2 : Pos} (hc : X.calm = true) (hN : X.N.Nodup) (ha : DA X W [a, b, c] B) (hi : X.N[i]? = some x := by rfl) (hj : X.N[j]? = some y := by rfl) (hl : X.N[l]? = some z := by rfl) (hij : i ≠ j := by decide) (hil : i ≠ l := by decide) (hjl : j ≠ l := by decide)
    (hx : X.env.scope.names.lookup x = some .local := by rfl) (hy : X.env.scope.names.lookup y = some .local := by rfl) (hz : X.env.scope.names.lookup z = some .local := by rfl)
    (hw : swappedStores [.Tuple [.Name x px, .Name y py, .Name z pz] kt pt] (.Tuple [a, b, c] k2 pt2) X.env = pure (some [x, y, z]) := by rfl)
    (hs : swapsWithSole [.Tuple [.Name x px, .Name y py, .Name z pz] kt pt] (.Tuple [a, b, c] k2 pt2) pos.line X.env = pure false := by rfl) :
    DS X W (.Assign [.Tuple [.Name x px, .Name y py, .Name z pz] kt pt] (.Tuple [a, b, c] k2 pt2) pos) (sPar3 i j l B) := PS.weak (ps_par3 hc hN hi hj hl hij hil hjl hx hy hz ha hw hs) <| by
  rintro C σ H ⟨G, m, w, r, S, E, h⟩
  refine ⟨G, m, w, r, S, E, (okO.bindS h E (envR_up E)).mono ?_⟩
  rintro vs H1 ⟨G1, m1, w1, ds, e1, S1, R1, h1⟩
  cases R1 with
  | nil => exact h1.elim
  | cons r1 rs =>
    cases rs with
    | nil => exact h1.elim
    | cons r2 rs =>
      cases rs with
      | nil => exact h1.elim
      | cons r3 rs =>
        cases rs with
        | nil => exact ⟨_, _, _, rfl, h1 G1 m1 H1 _ Ext.refl S1 ((((E.ext e1).set r1 i).set r2 j).set r3 l)⟩
        | cons _ _ => exact h1.elim
end
end Dn
/-! Dn12: how mirrors are reckoned: what must hold behind them, loops. -/
namespace Dn
open PySem PySem.Spec PyProof.Rows L2

/-! ### what holds behind -/
structure Out.sat {α : Type} (o : Out α) (Q : α → List Cell → Prop) (X : Ex → List Cell → Prop) : Prop where
  run : match o with
    | .ok a w => Q a w
    | .exc x w => X x w
    | .bad => False
abbrev noX : Ex → List Cell → Prop := fun _ _ => False
section
variable {α β : Type} {Q Q' : α → List Cell → Prop} {X X' : Ex → List Cell → Prop} {o : Out α} {w : List Cell}
@[simp] theorem sat_ok {a : α} : (Out.ok a w).sat Q X ↔ Q a w := ⟨fun h => h.run, fun h => ⟨h⟩⟩
@[simp] theorem sat_exc {x : Ex} : (Out.exc x w : Out α).sat Q X ↔ X x w := ⟨fun h => h.run, fun h => ⟨h⟩⟩
@[simp] theorem sat_bad : (Out.bad : Out α).sat Q X ↔ False := ⟨fun h => h.run, fun h => ⟨h⟩⟩
theorem Out.sat.mono (h : o.sat Q X) (k : ∀ a w, Q a w → Q' a w) (k2 : ∀ x w, X x w → X' x w) : o.sat Q' X' := by
  cases o with
  | ok a w => exact ⟨k _ _ h.run⟩
  | exc x w => exact ⟨k2 _ _ h.run⟩
  | bad => exact h.run.elim
theorem Out.sat.imp (h : o.sat Q X) (k : ∀ a w, Q a w → Q' a w) : o.sat Q' X := h.mono k fun _ _ h => h
theorem Out.sat.ok_of (h : o.sat Q noX) : ∃ a w, o = .ok a w ∧ Q a w := by
  cases o with
  | ok a w => exact ⟨a, w, rfl, h.run⟩
  | exc x w => exact h.run.elim
  | bad => exact h.run.elim
@[simp] theorem sat_bnd {f : β → List Cell → Out α} {o : Out β} : (o.bnd f).sat Q X ↔ o.sat (fun a w => (f a w).sat Q X) X := by
  cases o with
  | ok a w => rw [Out.bnd_ok, sat_ok]
  | exc x w => rw [Out.bnd_exc, sat_exc, sat_exc]
  | bad => rw [Out.bnd_bad, sat_bad, sat_bad]
@[simp] theorem sat_of {o : Option α} : (Out.of o w).sat Q X ↔ ∃ a, o = some a ∧ Q a w := by
  cases o with
  | none => simp [Out.of]
  | some a => simp [Out.of]
theorem sat_ite {p : Prop} [Decidable p] {a b : Out α} : (if p then a else b).sat Q X ↔ if p then a.sat Q X else b.sat Q X := by split <;> rfl
end
structure OutS.sat (o : OutS) (Q : Fl → DEnv → List Cell → Prop) (X : Ex → DEnv → List Cell → Prop) : Prop where
  run : match o with
    | .go f r w => Q f r w
    | .exc x r w => X x r w
    | .bad => False
abbrev noXS : Ex → DEnv → List Cell → Prop := fun _ _ _ => False
/-- the next one follows -/
def nxt (N : DEnv → List Cell → Prop) (Q : Fl → DEnv → List Cell → Prop) : Fl → DEnv → List Cell → Prop := fun f r w => match f with
  | .next => N r w
  | f => Q f r w
section
variable {α : Type} {Q Q' : Fl → DEnv → List Cell → Prop} {X X' : Ex → DEnv → List Cell → Prop} {o : OutS} {r : DEnv} {w : List Cell} {N : DEnv → List Cell → Prop}
@[simp] theorem satS_go {f : Fl} : (OutS.go f r w).sat Q X ↔ Q f r w := ⟨fun h => h.run, fun h => ⟨h⟩⟩
@[simp] theorem satS_exc {x : Ex} : (OutS.exc x r w).sat Q X ↔ X x r w := ⟨fun h => h.run, fun h => ⟨h⟩⟩
@[simp] theorem satS_bad : (OutS.bad).sat Q X ↔ False := ⟨fun h => h.run, fun h => ⟨h⟩⟩
@[simp] theorem nxt_next : nxt N Q .next r w ↔ N r w := Iff.rfl
@[simp] theorem nxt_brk : nxt N Q .brk r w ↔ Q .brk r w := Iff.rfl
@[simp] theorem nxt_cont : nxt N Q .cont r w ↔ Q .cont r w := Iff.rfl
@[simp] theorem nxt_ret {d : D} : nxt N Q (.ret d) r w ↔ Q (.ret d) r w := Iff.rfl
theorem OutS.sat.mono (h : o.sat Q X) (k : ∀ f r w, Q f r w → Q' f r w) (k2 : ∀ x r w, X x r w → X' x r w) : o.sat Q' X' := by
  cases o with
  | go f r w => exact ⟨k _ _ _ h.run⟩
  | exc x r w => exact ⟨k2 _ _ _ h.run⟩
  | bad => exact h.run.elim
theorem OutS.sat.imp (h : o.sat Q X) (k : ∀ f r w, Q f r w → Q' f r w) : o.sat Q' X := h.mono k fun _ _ _ h => h
@[simp] theorem sat_thenS {o : Out α} {f : α → List Cell → OutS} : (o.thenS r f).sat Q X ↔ o.sat (fun a w => (f a w).sat Q X) (fun x w => X x r w) := by
  cases o with
  | ok a w => rw [Out.thenS_ok, sat_ok]
  | exc x w => rw [Out.thenS_exc, satS_exc, sat_exc]
  | bad => rw [Out.thenS_bad, satS_bad, sat_bad]
theorem satS_ite {p : Prop} [Decidable p] {a b : OutS} : (if p then a else b).sat Q X ↔ if p then a.sat Q X else b.sat Q X := by split <;> rfl
theorem sat_seq {A B : DenS} : (sSeq A B r w).sat Q X ↔ (A r w).sat (nxt (fun r w => (B r w).sat Q X) Q) X := by
  unfold sSeq
  cases A r w with
  | go f r w =>
    cases f with
    | next => rw [satS_go, nxt_next]
    | brk => rw [satS_go, satS_go, nxt_brk]
    | cont => rw [satS_go, satS_go, nxt_cont]
    | ret d => rw [satS_go, satS_go, nxt_ret]
  | exc x r w => rw [satS_exc, satS_exc]
  | bad => rw [satS_bad, satS_bad]
theorem sat_if {T : DenT} {A B : DenS} : (sIf T A B r w).sat Q X ↔ (T r w).sat (fun b w1 => if b = true then (A r w1).sat Q X else (B r w1).sat Q X) (fun x w => X x r w) := by
  unfold sIf
  rw [sat_thenS]
  simp only [satS_ite]
end
/-- what a def's body tells -/
def retQ (Q : D → List Cell → Prop) : Fl → DEnv → List Cell → Prop := fun f _ w => match f with
  | .ret d => Q d w
  | .next => Q .non w
  | _ => False
@[simp] theorem retQ_ret {Q : D → List Cell → Prop} {d : D} {r : DEnv} {w : List Cell} : retQ Q (.ret d) r w ↔ Q d w := Iff.rfl
@[simp] theorem retQ_next {Q : D → List Cell → Prop} {r : DEnv} {w : List Cell} : retQ Q .next r w ↔ Q .non w := Iff.rfl
@[simp] theorem retQ_brk {Q : D → List Cell → Prop} {r : DEnv} {w : List Cell} : retQ Q .brk r w ↔ False := Iff.rfl
@[simp] theorem retQ_cont {Q : D → List Cell → Prop} {r : DEnv} {w : List Cell} : retQ Q .cont r w ↔ False := Iff.rfl
theorem sat_runB {n : Nat} {A : DenS} {ds : List D} {w : List Cell} {Q : D → List Cell → Prop} {X : Ex → List Cell → Prop} : (runB n A ds w).sat Q X ↔ (A (ds.map some ++ List.replicate (n - ds.length) none) w).sat (retQ Q) (fun x _ w => X x w) := by
  unfold runB
  cases A (ds.map some ++ List.replicate (n - ds.length) none) w with
  | go f r w =>
    cases f with
    | next => rw [satS_go, retQ_next]; exact sat_ok
    | ret d => rw [satS_go, retQ_ret]; exact sat_ok
    | brk => rw [satS_go, retQ_brk]; exact sat_bad
    | cont => rw [satS_go, retQ_cont]; exact sat_bad
  | exc x r w => rw [satS_exc]; exact sat_exc
  | bad => rw [satS_bad]; exact sat_bad
/-! ### loops -/
theorem forD_sat {tf : TF} {bd : Bd} {B : DenS} {xs : List D} {I : Nat → DEnv → List Cell → Prop} {Q : Fl → DEnv → List Cell → Prop} {X : Ex → DEnv → List Cell → Prop}
    (htf : ∀ i r w, i ≤ xs.length → I i r w → tf i w = some (xs[i]?))
    (hstep : ∀ i x r w, xs[i]? = some x → I i r w → ∃ r1, bd x r w = some r1 ∧ (B r1 w).sat (fun f r w => match f with | .next => I (i + 1) r w | .cont => I (i + 1) r w | .brk => Q .next r w | .ret d => Q (.ret d) r w) X)
    (hend : ∀ r w, I xs.length r w → Q .next r w) : ∀ (n i : Nat) (r : DEnv) (w : List Cell), i + n = xs.length → I i r w → (forD tf bd B n i r w).sat Q X
  | 0, i, r, w, e, h => by
    unfold forD
    rw [htf i r w (by omega) h, List.getElem?_eq_none (by omega)]
    have : i = xs.length := by omega
    subst this
    exact satS_go.mpr (hend r w h)
  | n + 1, i, r, w, e, h => by
    unfold forD
    have hi : i < xs.length := by omega
    rw [htf i r w (by omega) h, List.getElem?_eq_getElem hi]
    obtain ⟨r1, h1, h2⟩ := hstep i xs[i] r w (List.getElem?_eq_getElem hi) h
    simp only [h1]
    cases q : B r1 w with
    | bad => rw [q, satS_bad] at h2; exact h2.elim
    | exc x r2 w2 => rw [q, satS_exc] at h2; exact satS_exc.mpr h2
    | go f r2 w2 =>
      rw [q, satS_go] at h2
      cases f with
      | next => exact forD_sat htf hstep hend n (i + 1) r2 w2 (by omega) h2
      | cont => exact forD_sat htf hstep hend n (i + 1) r2 w2 (by omega) h2
      | brk => exact satS_go.mpr h2
      | ret d => exact satS_go.mpr h2
theorem sFor_sat {S : DenI} {bd : Bd} {B : DenS} {xs : List D} {I : Nat → DEnv → List Cell → Prop} {Q : Fl → DEnv → List Cell → Prop} {X : Ex → DEnv → List Cell → Prop} {tf : TF} {r : DEnv} {w w1 : List Cell}
    (hs : S r w = .ok (xs.length, tf) w1) (h0 : I 0 r w1) (htf : ∀ i r w, i ≤ xs.length → I i r w → tf i w = some (xs[i]?))
    (hstep : ∀ i x r w, xs[i]? = some x → I i r w → ∃ r1, bd x r w = some r1 ∧ (B r1 w).sat (fun f r w => match f with | .next => I (i + 1) r w | .cont => I (i + 1) r w | .brk => Q .next r w | .ret d => Q (.ret d) r w) X)
    (hend : ∀ r w, I xs.length r w → Q .next r w) : (sFor S bd B r w).sat Q X := by
  unfold sFor
  rw [hs]
  exact forD_sat htf hstep hend xs.length 0 r w1 (by omega) h0
theorem compD_sat {tf : TF} {bd : Bd} {T : DenT} {E : Den} {r : DEnv} {xs : List D} {I : Nat → List D → List Cell → Prop} {Q : List D → List Cell → Prop} {X : Ex → List Cell → Prop}
    (htf : ∀ i acc w, i ≤ xs.length → I i acc w → tf i w = some (xs[i]?))
    (hstep : ∀ i x acc w, xs[i]? = some x → I i acc w → ∃ r1, bd x r w = some r1 ∧ (T r1 w).sat (fun b w1 => if b = true then (E r1 w1).sat (fun y w2 => acc.length < sizeLine ∧ I (i + 1) (acc ++ [y]) w2) noX else I (i + 1) acc w1) noX)
    (hend : ∀ acc w, I xs.length acc w → Q acc w) : ∀ (n i : Nat) (acc : List D) (w : List Cell), i + n = xs.length → I i acc w → (compD tf bd T E r n i acc w).sat Q X
  | 0, i, acc, w, e, h => by
    unfold compD
    rw [htf i acc w (by omega) h, List.getElem?_eq_none (by omega)]
    have : i = xs.length := by omega
    subst this
    exact sat_ok.mpr (hend acc w h)
  | n + 1, i, acc, w, e, h => by
    unfold compD
    have hi : i < xs.length := by omega
    rw [htf i acc w (by omega) h, List.getElem?_eq_getElem hi]
    obtain ⟨r1, h1, h2⟩ := hstep i xs[i] acc w (List.getElem?_eq_getElem hi) h
    simp only [h1]
    obtain ⟨b, w1, q1, h3⟩ := h2.ok_of
    rw [q1]
    simp only [Out.nox_ok, Out.bnd_ok]
    cases b with
    | false =>
      rw [if_neg Bool.false_ne_true] at h3 ⊢
      exact compD_sat htf hstep hend n (i + 1) acc w1 (by omega) h3
    | true =>
      rw [if_pos rfl] at h3 ⊢
      obtain ⟨y, w2, q2, h4, h5⟩ := h3.ok_of
      rw [q2]
      simp only [Out.nox_ok, Out.bnd_ok]
      rw [if_pos h4]
      exact compD_sat htf hstep hend n (i + 1) (acc ++ [y]) w2 (by omega) h5
/-- all items tested, what is made of those that pass -/
theorem compD_fm {tf : TF} {bd : Bd} {T : DenT} {E : Den} {r : DEnv} {xs : List D} {p : D → Bool} {f : D → D} {w : List Cell} (htf : ∀ i, tf i w = some (xs[i]?))
    (hstep : ∀ x ∈ xs, ∃ r1, bd x r w = some r1 ∧ T r1 w = .ok (p x) w ∧ (p x = true → E r1 w = .ok (f x) w)) : ∀ (n i : Nat) (acc : List D), i + n = xs.length → acc.length + n ≤ sizeLine → compD tf bd T E r n i acc w = .ok (acc ++ ((xs.drop i).filter p).map f) w
  | 0, i, acc, e, hl => by
    unfold compD
    rw [htf i, List.getElem?_eq_none (by omega)]
    simp [List.drop_eq_nil_of_le (show xs.length ≤ i by omega)]
  | n + 1, i, acc, e, hl => by
    unfold compD
    have hi : i < xs.length := by omega
    rw [htf i, List.getElem?_eq_getElem hi]
    obtain ⟨r1, h1, h2, h3⟩ := hstep xs[i] (List.getElem_mem hi)
    simp only [h1, h2, Out.nox_ok, Out.bnd_ok]
    rw [List.drop_eq_getElem_cons hi]
    cases q : p xs[i] with
    | false =>
      rw [if_neg Bool.false_ne_true, compD_fm htf hstep n (i + 1) acc (by omega) (by omega), List.filter_cons_of_neg (by rw [q]; exact Bool.false_ne_true)]
    | true =>
      rw [if_pos rfl, h3 q]
      simp only [Out.nox_ok, Out.bnd_ok]
      rw [if_pos (by omega), compD_fm htf hstep n (i + 1) (acc ++ [f xs[i]]) (by omega) (by simp; omega), List.filter_cons_of_pos q]
      simp
/-- what a walk takes -/
def items (d : D) (w : List Cell) : Option (List D) := match d with
  | .str z => some (z.cps.toList.map fun c => .str ⟨#[c]⟩)
  | d => asQ d w
theorem iSeq_ok {A : Den} {r : DEnv} {w w1 : List Cell} {d : D} {xs : List D} (h : A r w = .ok d w1) (hx : items d w1 = some xs) : iSeq A r w = .ok (xs.length, seqTF d) w1 := by
  unfold iSeq
  rw [h]
  have : seqLen d w1 = some xs.length := by
    cases d <;> simp only [items] at hx <;> first | (cases hx; simp [seqLen]; done) | (simp [seqLen, hx])
  simp only [Out.bnd_ok, this]
theorem seqTF_ok {d : D} {w : List Cell} {xs : List D} (hx : items d w = some xs) (i : Nat) : seqTF d i w = some (xs[i]?) := by
  cases d <;> simp only [items] at hx <;> first | (cases hx; simp [seqTF]; done) | (simp [seqTF, hx])
/-- the items as the walk's list tells them, made to a list -/
theorem comp_fm {S : DenI} {bd : Bd} {T : DenT} {E : Den} {vs : List Nat} {r : DEnv} {w : List Cell} {xs : List D} {tf : TF} {p : D → Bool} {f : D → D} (hs : S r w = .ok (xs.length, tf) w) (htf : ∀ i, tf i w = some (xs[i]?))
    (hstep : ∀ x ∈ xs, ∃ r1, bd x (wipeD r vs) w = some r1 ∧ T r1 w = .ok (p x) w ∧ (p x = true → E r1 w = .ok (f x) w)) (hl : xs.length ≤ sizeLine) : eComp S bd T E vs r w = .ok (.lst ((xs.filter p).map f)) w := by
  unfold eComp compL
  rw [hs]
  simp only [Out.bnd_ok]
  rw [compD_fm htf hstep xs.length 0 [] (by omega) (by simpa using hl)]
  simp
theorem comp_map {S : DenI} {bd : Bd} {E : Den} {vs : List Nat} {r : DEnv} {w : List Cell} {xs : List D} {tf : TF} {f : D → D} (hs : S r w = .ok (xs.length, tf) w) (htf : ∀ i, tf i w = some (xs[i]?))
    (hstep : ∀ x ∈ xs, ∃ r1, bd x (wipeD r vs) w = some r1 ∧ E r1 w = .ok (f x) w) (hl : xs.length ≤ sizeLine) : eComp S bd tYesD E vs r w = .ok (.lst (xs.map f)) w := by
  have h := comp_fm (T := tYesD) (E := E) (p := fun _ => true) (f := f) (bd := bd) (vs := vs) hs htf (fun x hx => let ⟨r1, a, b⟩ := hstep x hx; ⟨r1, a, rfl, fun _ => b⟩) hl
  rw [List.filter_eq_self.mpr fun _ _ => rfl] at h
  exact h
theorem comp_sat {S : DenI} {bd : Bd} {T : DenT} {E : Den} {vs : List Nat} {r : DEnv} {w w1 : List Cell} {xs : List D} {tf : TF} {I : Nat → List D → List Cell → Prop} {Q : D → List Cell → Prop} {X : Ex → List Cell → Prop} (hs : S r w = .ok (xs.length, tf) w1) (h0 : I 0 [] w1)
    (htf : ∀ i acc w, i ≤ xs.length → I i acc w → tf i w = some (xs[i]?))
    (hstep : ∀ i x acc w, xs[i]? = some x → I i acc w → ∃ r1, bd x (wipeD r vs) w = some r1 ∧ (T r1 w).sat (fun b w1 => if b = true then (E r1 w1).sat (fun y w2 => acc.length < sizeLine ∧ I (i + 1) (acc ++ [y]) w2) noX else I (i + 1) acc w1) noX)
    (hend : ∀ acc w, I xs.length acc w → Q (.lst acc) w) : (eComp S bd T E vs r w).sat Q X := by
  unfold eComp compL
  rw [hs]
  simp only [Out.bnd_ok, sat_bnd]
  exact (compD_sat (Q := fun acc w => Q (.lst acc) w) htf hstep hend xs.length 0 [] w1 (by omega) h0).imp fun a w h => sat_ok.mpr h
/-! ### isolated calls -/
theorem callS_ok' {F : FnS} {ds : List D} {w w' : List Cell} {d : D} (h1 : celsOf ds = []) (h2 : ncArgs ds = true) (h : F ds [] = .ok d w') (hn : nc d = true) : callS F ds w = .ok d w := by
  have e : renum 0 ds = ds := by
    have : ∀ (k : Nat) (ds : List D), celsOf ds = [] → renum k ds = ds := by
      intro k ds
      induction ds with
      | nil => intro _; rfl
      | cons d ds ih =>
        intro h
        cases d <;> simp [celsOf] at h <;> simp [renum, ih h]
    exact this 0 ds h1
  unfold callS
  simp [h1, h2, cellsAt, e, h, hn, backAt]
theorem callS_sat {F : FnS} {ds : List D} {w cs : List Cell} {Q : D → List Cell → Prop} {X : Ex → List Cell → Prop} (h1 : (celsOf ds).Nodup) (h2 : ncArgs ds = true) (h3 : cellsAt w (celsOf ds) = some cs) (h4 : cs.all ncC = true)
    (h : (F (renum 0 ds) cs).sat (fun d w' => nc d = true ∧ (w'.take cs.length).all ncC = true ∧ Q d (backAt w (celsOf ds) (w'.take cs.length))) (fun x w' => nc x.vl = true ∧ (w'.take cs.length).all ncC = true ∧ X x (backAt w (celsOf ds) (w'.take cs.length)))) : (callS F ds w).sat Q X := by
  unfold callS
  rw [if_pos ⟨h1, h2⟩, h3]
  simp only [h4, if_true]
  cases q : F (renum 0 ds) cs with
  | ok d w' =>
    rw [q, sat_ok] at h
    simp only [h.1, h.2.1, and_self, if_true]
    exact sat_ok.mpr h.2.2
  | exc x w' =>
    rw [q, sat_exc] at h
    simp only [h.1, h.2.1, and_self, if_true]
    exact sat_exc.mpr h.2.2
  | bad => rw [q, sat_bad] at h; exact h.elim
/-! ### the ways -/
section
variable {r : DEnv} {w : List Cell}
@[simp] theorem x_var {i : Nat} : eVar i r w = match r[i]? with | some (some d) => .ok d w | _ => .bad := rfl
@[simp] theorem x_c {d : D} : eC d r w = .ok d w := rfl
@[simp] theorem x_bin {f : Op2} {A B : Den} : eBin f A B r w = (A r w).bnd fun x w1 => (B r w1).bnd fun y w2 => Out.of (f x y w2) w2 := rfl
@[simp] theorem x_val {A : Den} : tVal A r w = (A r w).bnd fun x w1 => Out.of (asB x) w1 := rfl
@[simp] theorem x_chain {f g : Op2} {A B C : Den} : eChain f g A B C r w = (A r w).bnd fun x w1 => (B r w1).bnd fun y w2 => (Out.of ((f x y w2).bind asB) w2).bnd fun b w3 => if b = true then (C r w3).bnd fun z w4 => Out.of (g y z w4) w4 else .ok (.bl false) w3 := rfl
@[simp] theorem x_tand {A B : DenT} : tAndD A B r w = (A r w).bnd fun b w1 => if b = true then B r w1 else .ok false w1 := rfl
@[simp] theorem x_tor {A B : DenT} : tOrD A B r w = (A r w).bnd fun b w1 => if b = true then .ok true w1 else B r w1 := rfl
@[simp] theorem x_tnot {A : DenT} : tNotD A r w = (A r w).bnd fun b w1 => .ok (!b) w1 := rfl
@[simp] theorem x_and {A B : Den} : eAnd A B r w = (A r w).bnd fun x w1 => (Out.of (asB x) w1).bnd fun b w2 => if b = true then B r w2 else .ok (.bl false) w2 := rfl
@[simp] theorem x_or {A B : Den} : eOr A B r w = (A r w).bnd fun x w1 => (Out.of (asB x) w1).bnd fun b w2 => if b = true then .ok (.bl true) w2 else B r w2 := rfl
@[simp] theorem x_not {A : Den} : eNot A r w = (A r w).bnd fun x w1 => (Out.of (asB x) w1).bnd fun b w2 => .ok (.bl (!b)) w2 := rfl
@[simp] theorem x_ifE {T : DenT} {A B : Den} : eIf T A B r w = (T r w).bnd fun b w1 => if b = true then A r w1 else B r w1 := rfl
@[simp] theorem x_slice {A : Den} {L U : DenO} : eSlice A L U r w = (A r w).bnd fun x w1 => (L r w1).bnd fun lo w2 => (U r w2).bnd fun hi w3 => Out.of (sliceD x lo hi w3) w3 := rfl
@[simp] theorem x_oNone : oNone r w = .ok none w := rfl
@[simp] theorem x_oSome {A : Den} : oSome A r w = (A r w).bnd fun x w1 => Out.of ((asI x).map some) w1 := rfl
@[simp] theorem x_aNil : aNil r w = .ok [] w := rfl
@[simp] theorem x_aCons {A : Den} {B : DenA} : aCons A B r w = (A r w).bnd fun x w1 => (B r w1).bnd fun xs w2 => .ok (x :: xs) w2 := rfl
@[simp] theorem x_aStar {A : Den} {B : DenA} : aStar A B r w = (A r w).bnd fun x w1 => (Out.of (asQ x w1) w1).bnd fun xs w2 => (B r w2).bnd fun ys w3 => .ok (xs ++ ys) w3 := rfl
@[simp] theorem x_tup {B : DenA} : eTup B r w = (B r w).bnd fun xs w1 => if xs.length ≤ sizeLine then .ok (.tup xs) w1 else .bad := rfl
@[simp] theorem x_lst {B : DenA} : eLst B r w = (B r w).bnd fun xs w1 => if xs.length ≤ sizeLine then .ok (.lst xs) w1 else .bad := rfl
@[simp] theorem x_lstC {B : DenA} : eLstC B r w = (B r w).bnd fun xs w1 => if xs.length ≤ sizeLine then .ok (.cel w1.length) (w1 ++ [.lst xs]) else .bad := rfl
@[simp] theorem x_dictC : eDictC r w = .ok (.cel w.length) (w ++ [.dct [] false]) := rfl
@[simp] theorem x_frz {A : Den} : eFrz A r w = (A r w).bnd fun x w1 => frzD x w1 := rfl
@[simp] theorem x_call {n : Nat} {F : FnS} {dd : List D} {B : DenA} : eCall n F dd B r w = (B r w).bnd fun ds w1 => if ds.length = n then F (ds ++ dd) w1 else .bad := rfl
@[simp] theorem x_callS {n : Nat} {F : FnS} {dd : List D} {B : DenA} : eCallS n F dd B r w = (B r w).bnd fun ds w1 => if ds.length = n then callS F (ds ++ dd) w1 else .bad := rfl
@[simp] theorem x_call0 {F : FnS} {dd : List D} : eCall0 F dd r w = F dd w := rfl
@[simp] theorem x_callK {n k : Nat} {ix : List Nat} {F : FnS} {B BK : DenA} : eCallK n k ix F B BK r w = (B r w).bnd fun ds w1 => (BK r w1).bnd fun es w2 => if ds.length = n ∧ es.length = k ∧ (permL ix (ds ++ es)).length = ix.length then F (permL ix (ds ++ es)) w2 else .bad := rfl
@[simp] theorem x_callB {f : OpN} {B : DenA} : eCallB f B r w = (B r w).bnd fun ds w1 => ofN (f ds w1) := rfl
@[simp] theorem x_isi {t : Ty} {A : Den} : eIsi t A r w = (A r w).bnd fun d w1 => Out.of ((tyOf d w1).map fun u => .bl (isTy u t)) w1 := rfl
@[simp] theorem x_isi2 {t t2 : Ty} {A : Den} : eIsi2 t t2 A r w = (A r w).bnd fun d w1 => Out.of ((tyOf d w1).map fun u => .bl (isTy u t || isTy u t2)) w1 := rfl
@[simp] theorem x_meth {T : String} {f : MtN} {A : Den} {B : DenA} : eMeth T f A B r w = (A r w).bnd fun d w1 => if isRecv T d w1 = true then (B r w1).bnd fun ds w2 => ofN (f d ds w2) else .bad := rfl
@[simp] theorem x_get2 {O A B : Den} : eGet2 O A B r w = (O r w).bnd fun o w1 => if (asK o w1).isSome = true then (A r w1).bnd fun a w2 => (B r w2).bnd fun b w3 => Out.of (getD o a b w3) w3 else .bad := rfl
@[simp] theorem x_get1 {O A : Den} : eGet1 O A r w = (O r w).bnd fun o w1 => if (asK o w1).isSome = true then (A r w1).bnd fun a w2 => Out.of (getD o a .non w2) w2 else .bad := rfl
@[simp] theorem x_neg {A : Den} : eNeg A r w = (A r w).bnd fun x w1 => match x with | .int i => .ok (.int (-i)) w1 | _ => .bad := rfl
@[simp] theorem x_rev {A : Den} : eRev A r w = (A r w).bnd fun x w1 => match asL x w1 with | some ds => .ok (.lst ds.reverse) w1 | none => .bad := rfl
@[simp] theorem x_set {i : Nat} {A : Den} : sSet i A r w = (A r w).thenS r fun d w1 => .go .next (r.set i (some d)) w1 := rfl
@[simp] theorem x_expr {A : Den} : sExpr A r w = (A r w).thenS r fun _ w1 => .go .next r w1 := rfl
@[simp] theorem x_ret {A : Den} : sRet A r w = (A r w).thenS r fun d w1 => .go (.ret d) r w1 := rfl
@[simp] theorem x_nil : sNil r w = .go .next r w := rfl
@[simp] theorem x_retN : sRetN r w = .go (.ret .non) r w := rfl
@[simp] theorem x_brk : sBrk r w = .go .brk r w := rfl
@[simp] theorem x_cont : sCont r w = .go .cont r w := rfl
@[simp] theorem x_no : sNo r w = .bad := rfl
@[simp] theorem x_ifS {T : DenT} {A B : DenS} : sIf T A B r w = (T r w).thenS r fun b w1 => if b = true then A r w1 else B r w1 := rfl
@[simp] theorem x_asg {b : Bd} {A : Den} : sAsg b A r w = (A r w).thenS r fun d w1 => match b d r w1 with | some r' => .go .next r' w1 | none => .bad := rfl
@[simp] theorem x_par {i j : Nat} {B : DenA} : sPar i j B r w = (B r w).thenS r fun ds w1 => match ds with | [d, e] => .go .next ((r.set i (some d)).set j (some e)) w1 | _ => .bad := rfl
@[simp] theorem x_par3 {i j l : Nat} {B : DenA} : sPar3 i j l B r w = (B r w).thenS r fun ds w1 => match ds with | [d, e, f] => .go .next (((r.set i (some d)).set j (some e)).set l (some f)) w1 | _ => .bad := rfl
@[simp] theorem x_sub {O I A : Den} : sSub O I A r w = (A r w).thenS r fun d w1 => (O r w1).thenS r fun o w2 => (I r w2).thenS r fun i w3 => match setD o i d w3 with | some w4 => .go .next r w4 | none => .bad := rfl
@[simp] theorem x_bName {i : Nat} {d : D} : bName i d r w = some (r.set i (some d)) := rfl
@[simp] theorem x_bNil : bNil [] r w = some r := rfl
@[simp] theorem x_bCons {b : Bd} {bs : Bds} {d : D} {ds : List D} : bCons b bs (d :: ds) r w = (b d r w).bind fun r' => bs ds r' w := rfl
@[simp] theorem x_bTup {n : Nat} {bs : Bds} {d : D} : bTup n bs d r w = (asQ d w).bind fun ds => if ds.length = n then bs ds r w else none := rfl
@[simp] theorem x_enum {B : DenA} : iEnumD B r w = (B r w).bnd fun ds w1 => match ds with | [d] => (match asLs d w1 with | some xs => .ok (xs.length, enumTF d) w1 | none => .bad) | _ => .bad := rfl
@[simp] theorem x_yes : tYesD r w = .ok true w := rfl
/-- statements in a row -/
def andThen (o : OutS) (B : DenS) : OutS := match o with
  | .go .next r1 w1 => B r1 w1
  | o => o
theorem x_seq {A B : DenS} : sSeq A B r w = andThen (A r w) B := rfl
@[simp] theorem x_then_next {B : DenS} : andThen (.go .next r w) B = B r w := rfl
@[simp] theorem x_then_ret {B : DenS} {d : D} : andThen (.go (.ret d) r w) B = .go (.ret d) r w := rfl
@[simp] theorem x_then_brk {B : DenS} : andThen (.go .brk r w) B = .go .brk r w := rfl
@[simp] theorem x_then_cont {B : DenS} : andThen (.go .cont r w) B = .go .cont r w := rfl
@[simp] theorem x_then_exc {B : DenS} {x : Ex} : andThen (.exc x r w) B = .exc x r w := rfl
@[simp] theorem x_then_bad {B : DenS} : andThen .bad B = .bad := rfl
theorem x_then_ite {p : Prop} [Decidable p] {a b : OutS} {B : DenS} : andThen (if p then a else b) B = if p then andThen a B else andThen b B := by split <;> rfl
/-- a def's body -/
def retO (o : OutS) : Out D := match o with
  | .go (.ret d) _ w' => .ok d w'
  | .go .next _ w' => .ok .non w'
  | .exc x _ w' => .exc x w'
  | _ => .bad
theorem x_runB {n : Nat} {A : DenS} {ds : List D} : runB n A ds w = retO (A (ds.map some ++ List.replicate (n - ds.length) none) w) := rfl
@[simp] theorem x_retO_ret {d : D} : retO (.go (.ret d) r w) = .ok d w := rfl
@[simp] theorem x_retO_next : retO (.go .next r w) = .ok .non w := rfl
@[simp] theorem x_retO_exc {x : Ex} : retO (.exc x r w) = .exc x w := rfl
@[simp] theorem x_retO_bad : retO .bad = .bad := rfl
theorem x_retO_ite {p : Prop} [Decidable p] {a b : OutS} : retO (if p then a else b) = if p then retO a else retO b := by split <;> rfl
theorem bnd_ite {α β : Type} {p : Prop} [Decidable p] {a b : Out α} {f : α → List Cell → Out β} : (if p then a else b).bnd f = if p then a.bnd f else b.bnd f := by split <;> rfl
theorem thenS_ite {α : Type} {p : Prop} [Decidable p] {a b : Out α} {f : α → List Cell → OutS} : (if p then a else b).thenS r f = if p then a.thenS r f else b.thenS r f := by split <;> rfl
end
end Dn
/-! Dn13: what the operations tell of plain values; texts. -/
namespace Dn
open PySem PySem.Spec PyProof.Rows L2

@[simp] theorem sl_1 : 1 ≤ sizeLine := by decide
@[simp] theorem sl_2 : 2 ≤ sizeLine := by decide
@[simp] theorem sl_3 : 3 ≤ sizeLine := by decide
@[simp] theorem sl_4 : 4 ≤ sizeLine := by decide
@[simp] theorem sl_5 : 5 ≤ sizeLine := by decide
@[simp] theorem sl_6 : 6 ≤ sizeLine := by decide
@[simp] theorem sl_7 : 7 ≤ sizeLine := by decide
@[simp] theorem sl_8 : 8 ≤ sizeLine := by decide
@[simp] theorem sl_9 : 9 ≤ sizeLine := by decide
@[simp] theorem sl_10 : 10 ≤ sizeLine := by decide
@[simp] theorem sl_11 : 11 ≤ sizeLine := by decide
@[simp] theorem sl_12 : 12 ≤ sizeLine := by decide
@[simp] theorem sl_13 : 13 ≤ sizeLine := by decide
@[simp] theorem sl_14 : 14 ≤ sizeLine := by decide
@[simp] theorem sl_15 : 15 ≤ sizeLine := by decide
@[simp] theorem sl_16 : 16 ≤ sizeLine := by decide
@[simp] theorem sl_17 : 17 ≤ sizeLine := by decide
@[simp] theorem sl_18 : 18 ≤ sizeLine := by decide
@[simp] theorem sl_19 : 19 ≤ sizeLine := by decide
@[simp] theorem sl_20 : 20 ≤ sizeLine := by decide
@[simp] theorem sl_21 : 21 ≤ sizeLine := by decide
@[simp] theorem sl_22 : 22 ≤ sizeLine := by decide
@[simp] theorem sl_23 : 23 ≤ sizeLine := by decide
@[simp] theorem sl_24 : 24 ≤ sizeLine := by decide
@[simp] theorem sl_25 : 25 ≤ sizeLine := by decide
@[simp] theorem sl_26 : 26 ≤ sizeLine := by decide
@[simp] theorem sl_27 : 27 ≤ sizeLine := by decide
@[simp] theorem sl_28 : 28 ≤ sizeLine := by decide
@[simp] theorem sl_29 : 29 ≤ sizeLine := by decide
@[simp] theorem sl_lt0 : 0 < sizeLine := by decide
theorem eq_of_sat {α : Type} {o : Out α} {d : α} {w : List Cell} (h : o.sat (fun d' w' => d' = d ∧ w' = w) noX) : o = .ok d w := by
  obtain ⟨a, w', h1, h2, h3⟩ := h.ok_of
  rw [h1, h2, h3]
theorem sat_of_eq {α : Type} {o : Out α} {d : α} {w : List Cell} {Q : α → List Cell → Prop} {X : Ex → List Cell → Prop} (h : o = .ok d w) (hq : Q d w) : o.sat Q X := by rw [h]; exact sat_ok.mpr hq
theorem callS_p {F : FnS} {ds : List D} {w : List Cell} {d : D} (h1 : celsOf ds = []) (h2 : ncArgs ds = true) (h : (F ds []).sat (fun d' _ => d' = d) noX) (hn : nc d = true) : callS F ds w = .ok d w := by
  obtain ⟨a, w', h3, rfl⟩ := h.ok_of
  exact callS_ok' h1 h2 h3 hn
section
variable {w : List Cell}
@[simp] theorem v_asB {b : Bool} : asB (.bl b) = some b := rfl
@[simp] theorem v_asI {b : Int} : asI (.int b) = some b := rfl
@[simp] theorem v_ty_non : tyOf .non w = some .non := rfl
@[simp] theorem v_ty_bl {b : Bool} : tyOf (.bl b) w = some .bl := rfl
@[simp] theorem v_ty_int {b : Int} : tyOf (.int b) w = some .int := rfl
@[simp] theorem v_ty_str {b : Str} : tyOf (.str b) w = some .str := rfl
@[simp] theorem v_ty_tup {b : List D} : tyOf (.tup b) w = some .tup := rfl
@[simp] theorem v_ty_lst {b : List D} : tyOf (.lst b) w = some .lst := rfl
@[simp] theorem v_ty_scr {b : List D} : tyOf (.scr b) w = some .lst := rfl
@[simp] theorem v_ty_dct {b : List (Key × D)} : tyOf (.dct b) w = some .dct := rfl
@[simp] theorem v_isTy_same {t : Ty} : isTy t t = true := by simp [isTy]
@[simp] theorem v_isTy_ib : isTy .int .bl = false := rfl
@[simp] theorem v_isTy_bi : isTy .bl .int = true := rfl
@[simp] theorem v_isTy_si : isTy .str .int = false := rfl
@[simp] theorem v_isTy_sb : isTy .str .bl = false := rfl
@[simp] theorem v_isTy_ni : isTy .non .int = false := rfl
@[simp] theorem v_isTy_nb : isTy .non .bl = false := rfl
@[simp] theorem v_isTy_ns : isTy .non .str = false := rfl
@[simp] theorem v_isTy_nl : isTy .non .lst = false := rfl
@[simp] theorem v_isTy_nt : isTy .non .tup = false := rfl
@[simp] theorem v_isTy_is : isTy .int .str = false := rfl
@[simp] theorem v_isTy_il : isTy .int .lst = false := rfl
@[simp] theorem v_isTy_it : isTy .int .tup = false := rfl
@[simp] theorem v_isTy_sl : isTy .str .lst = false := rfl
@[simp] theorem v_isTy_st : isTy .str .tup = false := rfl
@[simp] theorem v_isTy_bs : isTy .bl .str = false := rfl
@[simp] theorem v_isTy_bll : isTy .bl .lst = false := rfl
@[simp] theorem v_isTy_bt : isTy .bl .tup = false := rfl
@[simp] theorem v_isTy_lt : isTy .lst .tup = false := rfl
@[simp] theorem v_isTy_ls : isTy .lst .str = false := rfl
@[simp] theorem v_isTy_li : isTy .lst .int = false := rfl
@[simp] theorem v_isTy_lb : isTy .lst .bl = false := rfl
@[simp] theorem v_isTy_tl : isTy .tup .lst = false := rfl
@[simp] theorem v_isTy_ts : isTy .tup .str = false := rfl
@[simp] theorem v_isTy_ti : isTy .tup .int = false := rfl
@[simp] theorem v_isTy_tb : isTy .tup .bl = false := rfl
@[simp] theorem v_asQ_lst {ds : List D} : asQ (.lst ds) w = some ds := rfl
@[simp] theorem v_asQ_tup {ds : List D} : asQ (.tup ds) w = some ds := rfl
@[simp] theorem v_asQ_scr {ds : List D} : asQ (.scr ds) w = some ds := rfl
@[simp] theorem v_asQ_str {x : Str} : asQ (.str x) w = none := rfl
@[simp] theorem v_asQ_dct {x : List (Key × D)} : asQ (.dct x) w = none := rfl
@[simp] theorem v_asL_lst {ds : List D} : asL (.lst ds) w = some ds := rfl
@[simp] theorem v_asL_tup {ds : List D} : asL (.tup ds) w = none := rfl
@[simp] theorem v_asL_str {ds : Str} : asL (.str ds) w = none := rfl
@[simp] theorem v_asLs_lst {ds : List D} : asLs (.lst ds) w = some ds := rfl
@[simp] theorem v_asLs_scr {ds : List D} : asLs (.scr ds) w = some ds := rfl
@[simp] theorem v_asK_dct {ds : List (Key × D)} : asK (.dct ds) w = some ds := rfl
@[simp] theorem v_asK_lst {ds : List D} : asK (.lst ds) w = none := rfl
@[simp] theorem v_asK_tup {ds : List D} : asK (.tup ds) w = none := rfl
@[simp] theorem v_asK_str {ds : Str} : asK (.str ds) w = none := rfl
theorem cel_lst {n : Nat} {ds : List D} (h : w[n]? = some (.lst ds)) : asQ (.cel n) w = some ds ∧ asL (.cel n) w = some ds ∧ asLs (.cel n) w = some ds ∧ asK (.cel n) w = none ∧ tyOf (.cel n) w = some .lst := by
  simp [asQ, asL, asLs, asK, tyOf, h]
theorem cel_dct {n : Nat} {kd : List (Key × D)} {lk : Bool} (h : w[n]? = some (.dct kd lk)) : asQ (.cel n) w = none ∧ asL (.cel n) w = none ∧ asLs (.cel n) w = none ∧ asK (.cel n) w = some kd ∧ tyOf (.cel n) w = some .dct := by
  simp [asQ, asL, asLs, asK, tyOf, h]
@[simp] theorem v_one {f : D → List Cell → Option D} {d : D} : one f [d] w = (f d w).map fun r => (r, w) := rfl
@[simp] theorem v_two {f : D → D → List Cell → Option D} {d e : D} : two f [d, e] w = (f d e w).map fun r => (r, w) := rfl
@[simp] theorem v_len_str {x : Str} : lenD (.str x) w = if x.length ≤ sizeLine then some (.int (x.length : Nat)) else none := rfl
@[simp] theorem v_len_lst {x : List D} : lenD (.lst x) w = some (.int (x.length : Nat)) := rfl
@[simp] theorem v_len_tup {x : List D} : lenD (.tup x) w = some (.int (x.length : Nat)) := rfl
@[simp] theorem v_len_scr {x : List D} : lenD (.scr x) w = some (.int (x.length : Nat)) := rfl
@[simp] theorem v_len_dct {x : List (Key × D)} : lenD (.dct x) w = some (.int (x.length : Nat)) := rfl
theorem len_cel {n : Nat} {ds : List D} (h : w[n]? = some (.lst ds)) : lenD (.cel n) w = some (.int (ds.length : Nat)) := by simp [lenD, asQ, h]
@[simp] theorem v_le {i j : Int} : leD (.int i) (.int j) w = some (.bl (decide (i ≤ j))) := rfl
@[simp] theorem v_ge {i j : Int} : geD (.int i) (.int j) w = some (.bl (decide (j ≤ i))) := rfl
@[simp] theorem v_gt {i j : Int} : gtD (.int i) (.int j) w = some (.bl (decide (j < i))) := rfl
@[simp] theorem v_lt {i j : Int} : ltD (.int i) (.int j) w = some (.bl (decide (i < j))) := rfl
@[simp] theorem v_add {i j : Int} : addD (.int i) (.int j) w = some (.int (i + j)) := rfl
@[simp] theorem v_add_str {i j : Str} : addD (.str i) (.str j) w = if i.length + j.length ≤ sizeLine then some (.str (i ++ j)) else none := rfl
@[simp] theorem v_add_lst {i j : List D} : addD (.lst i) (.lst j) w = if i.length + j.length ≤ sizeLine then some (.lst (i ++ j)) else none := rfl
@[simp] theorem v_sub {i j : Int} : subD (.int i) (.int j) w = some (.int (i - j)) := rfl
theorem v_mul {i j : Int} : mulD (.int i) (.int j) w = if i.natAbs.log2 + j.natAbs.log2 < 1000000 then some (.int (i * j)) else none := rfl
theorem v_fdiv {i j : Int} : fdivD (.int i) (.int j) w = if 0 < j ∧ j.natAbs.log2 < 9000 then some (.int (i / j)) else none := rfl
theorem v_mod {i j : Int} : modD (.int i) (.int j) w = if 0 < j then some (.int (i % j)) else none := rfl
theorem v_pow {i j : Int} : powD (.int i) (.int j) w = if 0 ≤ j ∧ Builtin.Int.intBits i * j.toNat ≤ 134217728 then some (.int (i ^ j.toNat)) else none := rfl
@[simp] theorem v_is_non : isD .non .non w = some (.bl true) := rfl
@[simp] theorem v_is_int {i : Int} : isD (.int i) .non w = some (.bl false) := rfl
@[simp] theorem v_is_str {i : Str} : isD (.str i) .non w = some (.bl false) := rfl
@[simp] theorem v_is_bl {i : Bool} : isD (.bl i) .non w = some (.bl false) := rfl
@[simp] theorem v_is_tup {i : List D} : isD (.tup i) .non w = some (.bl false) := rfl
@[simp] theorem v_is_lst {i : List D} : isD (.lst i) .non w = some (.bl false) := rfl
@[simp] theorem v_is_cel {i : Nat} : isD (.cel i) .non w = some (.bl false) := rfl
@[simp] theorem v_isnt_non : isNotD .non .non w = some (.bl false) := rfl
@[simp] theorem v_isnt_int {i : Int} : isNotD (.int i) .non w = some (.bl true) := rfl
@[simp] theorem v_isnt_str {i : Str} : isNotD (.str i) .non w = some (.bl true) := rfl
@[simp] theorem v_isnt_tup {i : List D} : isNotD (.tup i) .non w = some (.bl true) := rfl
@[simp] theorem v_isnt_lst {i : List D} : isNotD (.lst i) .non w = some (.bl true) := rfl
@[simp] theorem v_isnt_cel {i : Nat} : isNotD (.cel i) .non w = some (.bl true) := rfl
@[simp] theorem v_eq_int {i j : Int} : eqD (.int i) (.int j) w = some (.bl (decide (i = j))) := rfl
@[simp] theorem v_eq_str {i j : Str} : eqD (.str i) (.str j) w = some (.bl (decide (i = j))) := rfl
@[simp] theorem v_eq_bl {i j : Bool} : eqD (.bl i) (.bl j) w = some (.bl (decide (i = j))) := rfl
@[simp] theorem v_eq_ns {j : Str} : eqD .non (.str j) w = some (.bl false) := rfl
@[simp] theorem v_eq_sn {j : Str} : eqD (.str j) .non w = some (.bl false) := rfl
@[simp] theorem v_eq_nn : eqD .non .non w = some (.bl true) := rfl
@[simp] theorem v_eq_ni {j : Int} : eqD .non (.int j) w = some (.bl false) := rfl
@[simp] theorem v_eq_in {j : Int} : eqD (.int j) .non w = some (.bl false) := rfl
@[simp] theorem v_ne_int {i j : Int} : neD (.int i) (.int j) w = some (.bl (decide (i ≠ j))) := by simp [neD, eqB, scalD]
@[simp] theorem v_ne_str {i j : Str} : neD (.str i) (.str j) w = some (.bl (decide (i ≠ j))) := by simp [neD, eqB, scalD]
@[simp] theorem v_ne_bl {i j : Bool} : neD (.bl i) (.bl j) w = some (.bl (decide (i ≠ j))) := by simp [neD, eqB, scalD]
@[simp] theorem v_ne_ns {j : Str} : neD .non (.str j) w = some (.bl true) := rfl
@[simp] theorem v_ne_sn {j : Str} : neD (.str j) .non w = some (.bl true) := rfl
@[simp] theorem v_ne_nn : neD .non .non w = some (.bl false) := rfl
@[simp] theorem v_in_str {i j : Str} : inD (.str i) (.str j) w = some (.bl (!(Builtin.Str.occurrences j i 0 j.length 1).isEmpty)) := rfl
@[simp] theorem v_ix_lst {ds : List D} {i : Int} : ixD (.lst ds) (.int i) w = atI ds i := rfl
@[simp] theorem v_ix_tup {ds : List D} {i : Int} : ixD (.tup ds) (.int i) w = atI ds i := rfl
@[simp] theorem v_ix_scr {ds : List D} {i : Int} : ixD (.scr ds) (.int i) w = atI ds i := rfl
@[simp] theorem v_ix_str {z : Str} {i : Int} : ixD (.str z) (.int i) w = if z.length ≤ sizeLine then (atI z.cps.toList i).map fun c => .str ⟨#[c]⟩ else none := rfl
theorem ix_cel {n : Nat} {ds : List D} (h : w[n]? = some (.lst ds)) (i : Int) : ixD (.cel n) (.int i) w = atI ds i := by simp [ixD, asQ, h]
theorem atI_nat {α : Type} (xs : List α) (k : Nat) : atI xs (k : Int) = xs[k]? := by
  unfold atI ixN
  rw [if_pos (by omega)]
  by_cases h : (k : Int) < xs.length
  · rw [if_pos h]; simp
  · rw [if_neg h]; simp; omega
@[simp] theorem atI_0 {α : Type} (xs : List α) : atI xs 0 = xs[0]? := atI_nat xs 0
@[simp] theorem atI_1 {α : Type} (xs : List α) : atI xs 1 = xs[1]? := atI_nat xs 1
@[simp] theorem atI_2 {α : Type} (xs : List α) : atI xs 2 = xs[2]? := atI_nat xs 2
@[simp] theorem atI_3 {α : Type} (xs : List α) : atI xs 3 = xs[3]? := atI_nat xs 3
theorem atI_last {α : Type} (xs : List α) : atI xs (-1) = xs.getLast? := by
  unfold atI ixN
  rw [if_neg (by omega)]
  cases xs with
  | nil => simp
  | cons x xs =>
    rw [if_pos (by simp; omega)]
    rw [List.getLast?_eq_getElem?]
    have e : (-1 + ((x :: xs).length : Int)).toNat = (x :: xs).length - 1 := by simp; omega
    simp only [Option.bind_some, e]
@[simp] theorem v_recv_str {x : Str} : isRecv "str" (.str x) w = true := rfl
@[simp] theorem v_recv_lst {x : List D} : isRecv "list" (.lst x) w = true := rfl
theorem recv_cel {n : Nat} {ds : List D} (h : w[n]? = some (.lst ds)) : isRecv "list" (.cel n) w = true := by simp [isRecv, asLs, h]
@[simp] theorem v_str_int {i : Int} : strD (.int i) w = if i.natAbs.log2 < 1920 then some (.str (toString i)) else none := rfl
@[simp] theorem v_str_str {x : Str} : strD (.str x) w = some (.str x) := rfl
@[simp] theorem v_int_int {i : Int} : intD (.int i) w = some (.int i) := rfl
@[simp] theorem v_int_str {a : Str} : intD (.str a) w = if a.length ≤ 640 then (PySem.intText? a).map .int else none := rfl
@[simp] theorem v_abs {i : Int} : absD (.int i) w = some (.int (if i < 0 then -i else i)) := rfl
@[simp] theorem v_max {i j : Int} : maxD (.int i) (.int j) w = some (.int (if j > i then j else i)) := rfl
@[simp] theorem v_min {i j : Int} : minD (.int i) (.int j) w = some (.int (if j < i then j else i)) := rfl
@[simp] theorem v_list_lst {x : List D} : listD (.lst x) w = some (.lst x) := rfl
@[simp] theorem v_split {a b : Str} : splitN (.str a) [.str b] w = if (b.length == 0) = false ∧ a.length + 2 ≤ sizeLine then some (.lst ((Txt.split a b).map .str), w) else none := rfl
theorem join_ok {a : Str} {l : D} {ys : List Str} (h : asQ l w = some (ys.map .str)) (hz : (ys.map (·.length)).sum + ys.length * a.length ≤ 16777216) : joinN (.str a) [l] w = some (.str (Txt.join a ys), w) := by
  have e : ∀ ys : List Str, strsOf (ys.map .str) = some ys := by
    intro ys
    induction ys with
    | nil => rfl
    | cons y ys ih => simp [strsOf, ih]
  simp [joinN, h, e, hz]
theorem append_ok {n : Nat} {xs : List D} {y : D} (h : w[n]? = some (.lst xs)) (hz : xs.length < sizeLine) : appendN (.cel n) [y] w = some (.non, w.set n (.lst (xs ++ [y]))) := by simp [appendN, h, hz]
end
theorem boolsOf_map {α : Type} (f : α → Bool) (xs : List α) : boolsOf (xs.map fun x => .bl (f x)) = some (xs.map f) := by
  induction xs with
  | nil => rfl
  | cons x xs ih => simp [boolsOf, ih]
@[simp] theorem v_all {α : Type} {f : α → Bool} {xs : List α} {w : List Cell} : allD (.lst (xs.map fun x => .bl (f x))) w = some (.bl (xs.all f)) := by
  simp [allD, boolsOf_map]
@[simp] theorem v_any {α : Type} {f : α → Bool} {xs : List α} {w : List Cell} : anyD (.lst (xs.map fun x => .bl (f x))) w = some (.bl (xs.any f)) := by
  simp [anyD, boolsOf_map]
/-! ### texts -/
/-- the signs of a text -/
def cs (x : Str) : List Nat := x.cps.toList
theorem cs_inj {x y : Str} (h : cs x = cs y) : x = y := by
  cases x; cases y; simpa [cs] using h
theorem cs_len (x : Str) : x.length = (cs x).length := rfl
@[simp] theorem cs_append (x y : Str) : cs (x ++ y) = cs x ++ cs y := by
  show (x.cps ++ y.cps).toList = _
  rw [Array.toList_append]; rfl
@[simp] theorem cs_mk (l : List Nat) : cs ⟨l.toArray⟩ = l := rfl
@[simp] theorem cs_one (c : Nat) : cs ⟨#[c]⟩ = [c] := rfl
theorem len_app (x y : Str) : (x ++ y).length = x.length + y.length := by simp [cs_len]
/-- joined signs -/
def glue (s : List Nat) : List (List Nat) → List Nat
  | [] => []
  | [x] => x
  | x :: y :: r => x ++ s ++ glue s (y :: r)
theorem cs_join (s : Str) : ∀ l : List Str, cs (Txt.join s l) = glue (cs s) (l.map cs)
  | [] => by unfold Txt.join; rw [StrLaws.glued_eq_join]; rfl
  | [x] => by unfold Txt.join; rw [StrLaws.glued_eq_join]; rfl
  | x :: y :: r => by
    have ih := cs_join s (y :: r)
    unfold Txt.join at ih ⊢
    rw [StrLaws.glued_eq_join] at ih ⊢
    show cs (x ++ s ++ Str.join s (y :: r)) = _
    rw [cs_append, cs_append, ih]
    rfl
theorem glue_nil_sep : ∀ l : List (List Nat), glue [] l = l.flatten
  | [] => rfl
  | [x] => by simp [glue]
  | x :: y :: r => by rw [glue, glue_nil_sep (y :: r)]; simp
/-- parts without the sign that parts them, glued, are parted again -/
theorem glue_inj {c : Nat} : ∀ {a b : List (List Nat)}, a ≠ [] → b ≠ [] → (∀ x ∈ a, c ∉ x) → (∀ x ∈ b, c ∉ x) → glue [c] a = glue [c] b → a = b
  | [], _, h, _, _, _, _ => absurd rfl h
  | _, [], _, h, _, _, _ => absurd rfl h
  | [x], [y], _, _, _, _, e => by simp [glue] at e; rw [e]
  | [x], y :: z :: r, _, _, ha, _, e => by
    simp only [glue] at e
    exact absurd (by rw [e]; simp) (ha x (by simp))
  | y :: z :: r, [x], _, _, _, hb, e => by
    simp only [glue] at e
    exact absurd (by rw [← e]; simp) (hb x (by simp))
  | x :: y :: r, x' :: y' :: r', _, _, ha, hb, e => by
    simp only [glue] at e
    have key : ∀ {x x' t t' : List Nat}, c ∉ x → c ∉ x' → x ++ [c] ++ t = x' ++ [c] ++ t' → x = x' ∧ t = t' := by
      intro x
      induction x with
      | nil =>
        intro x' t t' _ h2 e
        cases x' with
        | nil => simpa using e
        | cons a x' => simp at e; exact absurd e.1.symm (by simp at h2; exact fun q => h2.1 q.symm)
      | cons a x ih =>
        intro x' t t' h1 h2 e
        cases x' with
        | nil => simp at e; exact absurd e.1 (by simp at h1; exact fun q => h1.1 q.symm)
        | cons b x' =>
          simp at h1 h2 e
          obtain ⟨q1, q2⟩ := ih h1.2 h2.2 (t := t) (t' := t') (by simpa using e.2)
          exact ⟨by rw [e.1, q1], q2⟩
    obtain ⟨e1, e2⟩ := key (ha x (by simp)) (hb x' (by simp)) e
    have ih := glue_inj (a := y :: r) (b := y' :: r') (by simp) (by simp) (fun z hz => ha z (by simp [hz])) (fun z hz => hb z (by simp [hz])) e2
    rw [e1, ih]
theorem split_ne (x : Str) (c : Nat) : (Txt.split x ⟨#[c]⟩).map cs ≠ [] := by
  have := split_pos x ⟨#[c]⟩
  intro h
  have h2 := congrArg List.length h
  simp at h2
  rw [h2] at this
  simp at this
theorem split_glue (x : Str) (c : Nat) : glue [c] ((Txt.split x ⟨#[c]⟩).map cs) = cs x := by
  have h := StrLaws.join_split x ⟨#[c]⟩
  have h2 := cs_join ⟨#[c]⟩ (Txt.split x ⟨#[c]⟩)
  unfold Txt.join at h2
  rw [StrLaws.glued_eq_join, h] at h2
  exact h2.symm
theorem split_no (x : Str) (c : Nat) : ∀ p ∈ (Txt.split x ⟨#[c]⟩).map cs, c ∉ p := by
  intro p hp
  obtain ⟨y, hy, rfl⟩ := List.mem_map.mp hp
  exact StrLaws.split_free x c y hy
/-- what parting tells -/
theorem split_eq {x : Str} {c : Nat} {l : List (List Nat)} (h0 : l ≠ []) (h1 : ∀ p ∈ l, c ∉ p) (h : glue [c] l = cs x) : (Txt.split x ⟨#[c]⟩).map cs = l :=
  glue_inj (split_ne x c) h0 (split_no x c) h1 (by rw [split_glue, h])
end Dn
namespace Dn
open PySem PySem.Spec PyProof.Rows L2
/-- what enumerate tells -/
def enumItems (ds : List D) : List D := ds.mapIdx fun i x => .tup [.int (i : Nat), x]
@[simp] theorem enumItems_len (ds : List D) : (enumItems ds).length = ds.length := by simp [enumItems]
theorem enumItems_get {ds : List D} {i : Nat} {x : D} (h : (enumItems ds)[i]? = some x) : ∃ y, ds[i]? = some y ∧ x = .tup [.int (i : Nat), y] := by
  unfold enumItems at h
  rw [List.getElem?_mapIdx] at h
  obtain ⟨y, h1, rfl⟩ := Option.map_eq_some_iff.mp h
  exact ⟨y, h1, rfl⟩
theorem enumTF_ok {d : D} {w : List Cell} {ds : List D} (h : asLs d w = some ds) (i : Nat) : enumTF d i w = some ((enumItems ds)[i]?) := by
  unfold enumTF enumItems
  rw [h, List.getElem?_mapIdx]
  rfl
theorem enum_ok {B : DenA} {r : DEnv} {w : List Cell} {d : D} {ds : List D} (hb : B r w = .ok [d] w) (h : asLs d w = some ds) : iEnumD B r w = .ok ((enumItems ds).length, enumTF d) w := by
  simp [hb, h]
def rangeItems (n : Nat) : List D := (List.range n).map fun i => .int (i : Nat)
@[simp] theorem rangeItems_len (n : Nat) : (rangeItems n).length = n := by simp [rangeItems]
theorem rangeItems_get {n i : Nat} {x : D} (h : (rangeItems n)[i]? = some x) : i < n ∧ x = .int (i : Nat) := by
  unfold rangeItems at h
  rw [List.getElem?_map] at h
  obtain ⟨y, h1, rfl⟩ := Option.map_eq_some_iff.mp h
  have hi := (List.getElem?_eq_some_iff.mp h1).1
  rw [List.length_range] at hi
  rw [List.getElem?_range hi] at h1
  cases h1
  exact ⟨hi, rfl⟩
theorem rangeTF_ok (n i : Nat) (w : List Cell) : rangeTF 0 n i w = some ((rangeItems n)[i]?) := by
  unfold rangeTF rangeItems
  by_cases h : i < n
  · rw [if_pos h, List.getElem?_map, List.getElem?_range h]; simp
  · rw [if_neg h, List.getElem?_eq_none (by simpa using h)]
theorem range_ok {B : DenA} {r : DEnv} {w w1 : List Cell} {n : Nat} (hb : B r w = .ok [.int (n : Nat)] w1) (h : n ≤ 1000000000) : iRange1 B r w = .ok ((rangeItems n).length, rangeTF 0 n) w1 := by
  rw [rangeItems_len]
  unfold iRange1
  rw [hb, Out.bnd_ok]
  split
  · rename_i j e
    injection e with e1 e2
    injection e1 with e1
    subst e1
    rw [if_pos (by rw [Int.natAbs_natCast]; exact h), Int.toNat_natCast]
  · rename_i hh
    exact absurd rfl (hh n)
def oN : Option Nat → D
  | none => .non
  | some n => .int (n : Nat)
@[simp] theorem oN_none : oN none = .non := rfl
@[simp] theorem oN_some (n : Nat) : oN (some n) = .int (n : Nat) := rfl
theorem findIdx_none {α : Type} {p : α → Bool} {xs : List α} (h : ∀ j (hj : j < xs.length), p xs[j] = false) : xs.findIdx? p = none := by
  rw [List.findIdx?_eq_none_iff]
  intro x hx
  obtain ⟨j, hj, rfl⟩ := List.getElem_of_mem hx
  exact h j hj
theorem findIdx_some {α : Type} {p : α → Bool} {xs : List α} {i : Nat} (hi : i < xs.length) (h1 : p xs[i] = true) (h : ∀ j (hj : j < i), p (xs[j]'(by omega)) = false) : xs.findIdx? p = some i := by
  rw [List.findIdx?_eq_some_iff_getElem]
  exact ⟨hi, h1, fun j hj => by simp [h j hj]⟩
end Dn
namespace Dn
open PySem PySem.Spec PyProof.Rows L2
def m_is_integer : FnS := runB 1 (sRet (eAnd (eIsi .int (eVar 0)) (eNot (eIsi .bl (eVar 0)))))
def m_is_count : FnS := runB 1 (sRet (eAnd (eCallS 1 m_is_integer [] (aCons (eVar 0) aNil)) (eBin geD (eVar 0) (eC (.int 1)))))
def m_is_name : FnS := runB 2 (sRet (eAnd (eIsi .str (eVar 0)) (eAnd (eChain ltD leD (eC (.int 0)) (eCallB (one lenD) (aCons (eVar 0) aNil)) (eC (.int 8))) (eCallB (one allD) (aCons (eComp (iSeq (eVar 0)) (bName 1) tYesD (eBin inD (eVar 1) (eC (.str "abcdefghijklmnopqrstuvwxyz"))) [1]) aNil)))))
def m_is_letter : FnS := runB 4 (sSeq (sIf (tOrD (tNotD (tVal (eIsi .tup (eVar 0)))) (tVal (eBin neD (eCallB (one lenD) (aCons (eVar 0) aNil)) (eC (.int 3))))) (sRet (eC (.bl false))) sNil)
    (sSeq (sAsg (bTup 3 (bCons (bName 1) (bCons (bName 2) (bCons (bName 3) bNil)))) (eVar 0))
    (sRet (eAnd (eCallS 1 m_is_count [] (aCons (eVar 1) aNil)) (eAnd (eCallS 1 m_is_count [] (aCons (eVar 2) aNil)) (eOr (eBin isD (eVar 3) (eC .non)) (eCallS 1 m_is_name [] (aCons (eVar 3) aNil))))))))
def m_wrong_item : FnS := runB 3 (sSeq (sIf (tNotD (tVal (eIsi .lst (eVar 0)))) (sRet (eC (.int 0))) sNil)
    (sSeq (sFor (iEnumD (aCons (eVar 0) aNil)) (bTup 2 (bCons (bName 1) (bCons (bName 2) bNil))) (sIf (tNotD (tVal (eCallS 1 m_is_letter [] (aCons (eVar 2) aNil)))) (sRet (eVar 1)) sNil))
    (sRet (eC .non))))
def m_is_taken : FnS := runB 5 (sSeq (sSet 4 (eGet2 (eVar 1) (eVar 3) (eVar 2)))
    (sRet (eAnd (eBin neD (eVar 4) (eVar 2)) (eBin eqD (eBin ixD (eVar 0) (eVar 4)) (eVar 3)))))
def m_is_next : FnS := runB 7 (sSeq (sAsg (bTup 3 (bCons (bName 4) (bCons (bName 5) (bCons (bName 6) bNil)))) (eVar 2))
    (sSeq (sIf (tOrD (tVal (eBin neD (eVar 5) (eVar 3))) (tAndD (tVal (eBin inD (eVar 4) (eVar 0))) (tVal (eBin isD (eBin ixD (eVar 0) (eVar 4)) (eC .non))))) (sRet (eC (.bl false))) sNil)
    (sRet (eIf (tVal (eBin isD (eVar 6) (eC .non))) (eBin inD (eVar 4) (eVar 0)) (eNot (eCallS 4 m_is_taken [] (aCons (eVar 0) (aCons (eVar 1) (aCons (eVar 4) (aCons (eVar 6) aNil))))))))))
def m_records_behind : FnS := runB 8 (sSeq (sSet 1 eDictC)
    (sSeq (sSet 2 eDictC)
    (sSeq (sFor (iEnumD (aCons (eVar 0) aNil)) (bTup 2 (bCons (bName 3) (bCons (bName 4) bNil))) (sSeq (sIf (tNotD (tVal (eCallS 4 m_is_next [] (aCons (eVar 1) (aCons (eVar 2) (aCons (eVar 4) (aCons (eBin addD (eVar 3) (eC (.int 1))) aNil))))))) (sRet (eTup (aCons (eFrz (eVar 1)) (aCons (eVar 3) aNil)))) sNil)
    (sSeq (sAsg (bTup 3 (bCons (bName 5) (bCons (bName 6) (bCons (bName 7) bNil)))) (eVar 4))
    (sSeq (sIf (tVal (eBin isNotD (eVar 7) (eC .non))) (sSub (eVar 2) (eVar 7) (eVar 5)) sNil)
    (sSub (eVar 1) (eVar 5) (eVar 7))))))
    (sRet (eTup (aCons (eFrz (eVar 1)) (aCons (eC .non) aNil)))))))
def m_wrong_in_log : FnS := runB 4 (sSeq (sSet 1 (eCallS 1 m_wrong_item [] (aCons (eVar 0) aNil)))
    (sSeq (sIf (tAndD (tVal (eBin isNotD (eVar 1) (eC .non))) (tNotD (tVal (eIsi .lst (eVar 0))))) (sRet (eC (.int 0))) sNil)
    (sSeq (sSet 2 (eIf (tVal (eBin isD (eVar 1) (eC .non))) (eCallB (one lenD) (aCons (eVar 0) aNil)) (eVar 1)))
    (sSeq (sSet 3 (eBin ixD (eCallS 1 m_records_behind [] (aCons (eSlice (eVar 0) oNone (oSome (eVar 2))) aNil)) (eC (.int 1))))
    (sRet (eIf (tVal (eBin isD (eVar 3) (eC .non))) (eVar 1) (eVar 3)))))))
def m_or_dash : FnS := runB 1 (sRet (eIf (tVal (eBin isD (eVar 0) (eC .non))) (eC (.str "-")) (eCallB (one strD) (aCons (eVar 0) aNil))))
def m_lines_joined : FnS := runB 3 (sRet (eMeth "str" joinN (eC (.str "")) (aCons (eComp (iSeq (eVar 0)) (bName 2) tYesD (eBin addD (eMeth "str" joinN (eC (.str " ")) (aCons (eComp (iSeq (eVar 2)) (bName 1) tYesD (eCallS 1 m_or_dash [] (aCons (eVar 1) aNil)) [1]) aNil)) (eC (.str "\n"))) [2]) aNil)))
def m_write_play : FnS := runB 3 (sRet (eCallS 1 m_lines_joined [] (aCons (eLst (aStar (eVar 0) (aCons (eTup (aCons (eC (.str "comes")) aNil)) (aStar (eComp (iSeq (eVar 1)) (bName 2) tYesD (eTup (aCons (eBin ixD (eVar 2) (eC (.int 1))) aNil)) [2]) aNil)))) aNil)))
def m_rows_from : FnS := runB 4 (sSeq (sIf (tNotD (tVal (eIsi .str (eVar 0)))) sNo sNil)
    (sSeq (sSet 1 (eMeth "str" splitN (eVar 0) (aCons (eC (.str "\n")) aNil)))
    (sSeq (sSet 2 (eBin eqD (eBin ixD (eVar 1) (eNeg (eC (.int 1)))) (eC (.str ""))))
    (sRet (eTup (aCons (eComp (iSeq (eIf (tVal (eVar 2)) (eSlice (eVar 1) oNone (oSome (eNeg (eC (.int 1))))) (eVar 1))) (bName 3) tYesD (eMeth "str" splitN (eVar 3) (aCons (eC (.str " ")) aNil)) [3]) (aCons (eVar 2) aNil)))))))
def m_count_from : FnS := runB 2 (sSeq (sIf (tOrD (tNotD (tVal (eChain ltD leD (eC (.int 0)) (eCallB (one lenD) (aCons (eVar 0) aNil)) (eC (.int 40))))) (tOrD (tVal (eBin eqD (eBin ixD (eVar 0) (eC (.int 0))) (eC (.str "0")))) (tNotD (tVal (eCallB (one allD) (aCons (eComp (iSeq (eVar 0)) (bName 1) tYesD (eBin inD (eVar 1) (eC (.str "0123456789"))) [1]) aNil)))))) (sRet (eC .non)) sNil)
    (sRet (eCallB (one intD) (aCons (eVar 0) aNil))))
def m_letter_from : FnS := runB 3 (sSeq (sIf (tOrD (tVal (eBin neD (eCallB (one lenD) (aCons (eVar 0) aNil)) (eC (.int 3)))) (tAndD (tVal (eBin neD (eBin ixD (eVar 0) (eC (.int 2))) (eC (.str "-")))) (tNotD (tVal (eCallS 1 m_is_name [] (aCons (eBin ixD (eVar 0) (eC (.int 2))) aNil)))))) (sRet (eC .non)) sNil)
    (sSeq (sPar 1 2 (aCons (eCallS 1 m_count_from [] (aCons (eBin ixD (eVar 0) (eC (.int 0))) aNil)) (aCons (eCallS 1 m_count_from [] (aCons (eBin ixD (eVar 0) (eC (.int 1))) aNil)) aNil)))
    (sSeq (sIf (tOrD (tVal (eBin isD (eVar 1) (eC .non))) (tVal (eBin isD (eVar 2) (eC .non)))) (sRet (eC .non)) sNil)
    (sRet (eTup (aCons (eVar 1) (aCons (eVar 2) (aCons (eIf (tVal (eBin eqD (eBin ixD (eVar 0) (eC (.int 2))) (eC (.str "-")))) (eC .non) (eBin ixD (eVar 0) (eC (.int 2)))) aNil))))))))
def m_read_play : FnS := runB 9 (sSeq (sAsg (bTup 2 (bCons (bName 1) (bCons (bName 2) bNil))) (eCallS 1 m_rows_from [] (aCons (eVar 0) aNil)))
    (sSeq (sPar 3 4 (aCons (eLstC aNil) (aCons (eC .non) aNil)))
    (sSeq (sFor (iEnumD (aCons (eVar 1) aNil)) (bTup 2 (bCons (bName 5) (bCons (bName 6) bNil))) (sIf (tVal (eBin isNotD (eVar 4) (eC .non))) (sSeq (sSet 7 (eIf (tVal (eBin eqD (eCallB (one lenD) (aCons (eVar 6) aNil)) (eC (.int 1)))) (eCallS 1 m_count_from [] (aCons (eBin ixD (eVar 6) (eC (.int 0))) aNil)) (eC .non)))
    (sSeq (sIf (tOrD (tVal (eBin isD (eVar 7) (eC .non))) (tVal (eBin gtD (eVar 7) (eCallB (one lenD) (aCons (eVar 3) aNil))))) sNo sNil)
    (sExpr (eMeth "list" appendN (eVar 4) (aCons (eBin ixD (eVar 3) (eBin subD (eVar 7) (eC (.int 1)))) aNil))))) (sIf (tVal (eBin eqD (eVar 6) (eLst (aCons (eC (.str "comes")) aNil)))) (sSet 4 (eLstC aNil)) (sSeq (sSet 8 (eCallS 1 m_letter_from [] (aCons (eVar 6) aNil)))
    (sSeq (sIf (tOrD (tVal (eBin isD (eVar 8) (eC .non))) (tVal (eBin isNotD (eCallS 1 m_wrong_in_log [] (aCons (eLst (aStar (eVar 3) (aCons (eVar 8) aNil))) aNil)) (eC .non)))) sNo sNil)
    (sExpr (eMeth "list" appendN (eVar 3) (aCons (eVar 8) aNil))))))))
    (sSeq (sIf (tOrD (tVal (eBin isD (eVar 4) (eC .non))) (tNotD (tVal (eVar 2)))) sNo sNil)
    (sRet (eTup (aCons (eVar 3) (aCons (eVar 4) aNil))))))))
def m_law_satchel : FnS := runB 3 (sSeq (sSet 2 (eIf (tVal (eBin ltD (eVar 1) (eCallB (one lenD) (aCons (eVar 0) aNil)))) (eBin ixD (eVar 0) (eVar 1)) (eC (.int 0))))
    (sRet (eLstC (aCons (eCallB (two maxD) (aCons (eC (.int 0)) (aCons (eBin subD (eCallB (one absD) (aCons (eVar 2) aNil)) (eBin powD (eC (.int 10)) (eC (.int 18)))) aNil))) (aCons (eBin addD (eBin addD (eBin mulD (eBin modD (eCallB (one intD) (aCons (eVar 2) aNil)) (eBin addD (eBin powD (eC (.int 10)) (eC (.int 36))) (eC (.int 67)))) (eC (.int 89))) (eBin mulD (eC (.int 47)) (eVar 1))) (eC (.int 41))) (aCons (eC (.int 0)) aNil))))))
def m_law_lift : FnS := runB 4 (sSeq (sIf (tVal (eBin gtD (eBin ixD (eVar 0) (eC (.int 0))) (eC (.int 0)))) (sSeq (sSet 2 (eBin modD (eCallB (one intD) (aCons (eBin ixD (eVar 0) (eC (.int 0))) aNil)) (eVar 1)))
    (sSeq (sSub (eVar 0) (eC (.int 0)) (eBin fdivD (eBin ixD (eVar 0) (eC (.int 0))) (eVar 1)))
    (sRet (eVar 2)))) sNil)
    (sSeq (sSub (eVar 0) (eC (.int 2)) (eBin addD (eBin ixD (eVar 0) (eC (.int 2))) (eC (.int 1))))
    (sSeq (sSet 3 (eBin modD (eBin powD (eCallB (one intD) (aCons (eBin addD (eBin ixD (eVar 0) (eC (.int 1))) (eBin mulD (eC (.int 70001)) (eBin ixD (eVar 0) (eC (.int 2))))) aNil)) (eC (.int 2))) (eBin addD (eBin powD (eC (.int 10)) (eC (.int 37))) (eC (.int 3)))))
    (sSeq (sSet 3 (eBin modD (eBin powD (eCallB (one intD) (aCons (eBin addD (eVar 3) (eBin mulD (eC (.int 900007)) (eBin ixD (eVar 0) (eC (.int 2))))) aNil)) (eC (.int 3))) (eBin addD (eBin powD (eC (.int 10)) (eC (.int 38))) (eC (.int 67)))))
    (sRet (eBin modD (eBin fdivD (eVar 3) (eC (.int 1048576))) (eVar 1)))))))
def m_law_twinned : Nat → FnS
  | 0 => runB 3 sNo
  | n + 1 => runB 3 (sSeq (sIf (tOrD (tVal (eIsi .bl (eVar 0))) (tVal (eIsi .bl (eVar 1)))) (sRet (eAnd (eIsi .bl (eVar 0)) (eAnd (eIsi .bl (eVar 1)) (eBin eqD (eVar 0) (eVar 1))))) sNil)
    (sSeq (sIf (tOrD (tVal (eBin neD (eIsi .lst (eVar 0)) (eIsi .lst (eVar 1)))) (tVal (eBin neD (eIsi .tup (eVar 0)) (eIsi .tup (eVar 1))))) (sRet (eC (.bl false))) sNil)
    (sSeq (sIf (tOrD (tVal (eBin neD (eIsi .str (eVar 0)) (eIsi .str (eVar 1)))) (tVal (eBin neD (eIsi .int (eVar 0)) (eIsi .int (eVar 1))))) (sRet (eC (.bl false))) sNil)
    (sSeq (sIf (tVal (eIsi2 .lst .tup (eVar 1))) (sSeq (sIf (tVal (eBin neD (eCallB (one lenD) (aCons (eVar 0) aNil)) (eCallB (one lenD) (aCons (eVar 1) aNil)))) (sRet (eC (.bl false))) sNil)
    (sRet (eBin eqD (eComp (iRange1 (aCons (eCallB (one lenD) (aCons (eVar 1) aNil)) aNil)) (bName 2) (tNotD (tVal (eCall 2 (m_law_twinned n) [] (aCons (eBin ixD (eVar 0) (eVar 2)) (aCons (eBin ixD (eVar 1) (eVar 2)) aNil))))) (eVar 2) [2]) (eLst aNil)))) sNil)
    (sRet (eAnd (eBin eqD (eBin isD (eVar 0) (eC .non)) (eBin isD (eVar 1) (eC .non))) (eBin eqD (eVar 0) (eVar 1))))))))
def m_law_labels : FnS := runB 12 (sSeq (sAsg (bTup 2 (bCons (bName 2) (bCons (bName 3) bNil))) (eTup (aCons (eC (.str "abcdefghijklmnopqrstuvwxyz")) (aCons (eLstC aNil) aNil))))
    (sSeq (sFor (iRange1 (aCons (eVar 1) aNil)) (bName 4) (sSeq (sPar 5 6 (aCons (eBin ixD (eLst (aCons (eC (.int 0)) (aCons (eC (.int 1)) (aCons (eC (.int 2)) (aCons (eCallS 2 m_law_lift [] (aCons (eVar 0) (aCons (eC (.int 7)) aNil))) aNil))))) (eCallS 2 m_law_lift [] (aCons (eVar 0) (aCons (eC (.int 4)) aNil)))) (aCons (eCallS 2 m_law_lift [] (aCons (eVar 0) (aCons (eC (.int 6)) aNil))) aNil)))
    (sSeq (sSet 7 (eCallS 2 m_law_lift [] (aCons (eVar 0) (aCons (eC (.int 26)) aNil))))
    (sSeq (sSet 8 (eBin addD (eBin ixD (eVar 2) (eVar 7)) (eMeth "str" joinN (eC (.str "")) (aCons (eComp (iRange1 (aCons (eVar 5) aNil)) (bName 10) tYesD (eBin ixD (eVar 2) (eCallS 2 m_law_lift [] (aCons (eVar 0) (aCons (eC (.int 26)) aNil)))) [10]) aNil))))
    (sSeq (sIf (tAndD (tVal (eBin neD (eVar 3) (eLst aNil))) (tVal (eBin ltD (eVar 6) (eC (.int 2))))) (sSet 8 (eBin ixD (eLst (aCons (eBin addD (eSlice (eBin ixD (eVar 3) (eNeg (eC (.int 1)))) oNone (oSome (eC (.int 7)))) (eBin ixD (eVar 2) (eVar 7))) (aCons (eBin addD (eSlice (eBin ixD (eVar 3) (eNeg (eC (.int 1)))) oNone (oSome (eNeg (eC (.int 1))))) (eBin ixD (eVar 2) (eVar 7))) aNil))) (eVar 6))) sNil)
    (sSeq (sSet 9 (eComp (iRange1 (aCons (eC (.int 26)) aNil)) (bName 10) tYesD (eBin addD (eBin ixD (eVar 2) (eBin modD (eBin addD (eVar 7) (eVar 10)) (eC (.int 26)))) (eBin ixD (eVar 2) (eVar 4))) [10]))
    (sExpr (eMeth "list" appendN (eVar 3) (aCons (eIf (tVal (eBin notInD (eVar 8) (eVar 3))) (eVar 8) (eBin ixD (eComp (iSeq (eVar 9)) (bName 11) (tVal (eBin notInD (eVar 11) (eVar 3))) (eVar 11) [11]) (eC (.int 0)))) aNil)))))))))
    (sRet (eFrz (eVar 3)))))
def m_law_numbers : FnS := runB 5 (sSeq (sPar 2 3 (aCons (eLstC aNil) (aCons (eC (.int 0)) aNil)))
    (sSeq (sFor (iRange1 (aCons (eVar 1) aNil)) (bName 4) (sSeq (sSet 3 (eBin addD (eBin addD (eVar 3) (eC (.int 1))) (eBin ixD (eLst (aCons (eC (.int 0)) (aCons (eC (.int 0)) (aCons (eCallS 2 m_law_lift [] (aCons (eVar 0) (aCons (eC (.int 9)) aNil))) (aCons (eBin addD (eBin powD (eC (.int 10)) (eC (.int 20))) (eCallS 2 m_law_lift [] (aCons (eVar 0) (aCons (eC (.int 5)) aNil)))) aNil))))) (eCallS 2 m_law_lift [] (aCons (eVar 0) (aCons (eC (.int 4)) aNil))))))
    (sExpr (eMeth "list" appendN (eVar 2) (aCons (eVar 3) aNil)))))
    (sRet (eIf (tVal (eBin eqD (eCallS 2 m_law_lift [] (aCons (eVar 0) (aCons (eC (.int 2)) aNil))) (eC (.int 0)))) (eRev (eVar 2)) (eFrz (eVar 2))))))
def m_law_less : FnS := runB 4 (sSeq (sSet 2 eDictC)
    (sSeq (sLock 0 (sFor (iKV keyF (eVar 0)) (bName 3) (sIf (tVal (eBin neD (eVar 3) (eVar 1))) (sSub (eVar 2) (eVar 3) (eBin ixD (eVar 0) (eVar 3))) sNil)))
    (sRet (eVar 2))))
def m_law_log : FnS := runB 14 (sSeq (sAsg (bTup 3 (bCons (bName 4) (bCons (bName 5) (bCons (bName 6) bNil)))) (eTup (aCons eDictC (aCons (eCallB (one listD) (aCons (eVar 2) aNil)) (aCons (eLstC aNil) aNil)))))
    (sSeq (sFor (iRange1 (aCons (eVar 1) aNil)) (bName 7) (sSeq (sSet 8 (eCallS 2 m_law_lift [] (aCons (eVar 0) (aCons (eC (.int 6)) aNil))))
    (sSeq (sSet 9 (eComp (iSeq (eVar 3)) (bName 12) (tVal (eBin notInD (eVar 12) (eLock 4 (eComp (iKV keyF (eVar 4)) (bName 13) tYesD (eBin ixD (eVar 4) (eVar 13)) [13])))) (eVar 12) [12]))
    (sSeq (sSet 10 (eCallB (one sortedD) (aCons (eCallB (one listD) (aCons (eVar 4) aNil)) aNil)))
    (sIf (tAndD (tVal (eBin neD (eVar 10) (eLst aNil))) (tOrD (tVal (eBin gtD (eVar 8) (eC (.int 1)))) (tVal (eBin eqD (eVar 5) (eLst aNil))))) (sSeq (sSet 11 (eBin ixD (eVar 10) (eCallS 2 m_law_lift [] (aCons (eVar 0) (aCons (eCallB (one lenD) (aCons (eVar 10) aNil)) aNil)))))
    (sSeq (sSet 12 (eBin ixD (eBin addD (eVar 9) (eLst (aCons (eBin ixD (eVar 4) (eVar 11)) aNil))) (eCallS 2 m_law_lift [] (aCons (eVar 0) (aCons (eBin addD (eCallB (one lenD) (aCons (eVar 9) aNil)) (eC (.int 1))) aNil)))))
    (sSeq (sSet 4 (eCall 2 m_law_less [] (aCons (eVar 4) (aCons (eVar 11) aNil))))
    (sSeq (sIf (tVal (eBin eqD (eVar 8) (eC (.int 5)))) (sSet 12 (eC .non)) (sSub (eVar 4) (eVar 11) (eVar 12)))
    (sExpr (eMeth "list" appendN (eVar 6) (aCons (eTup (aCons (eVar 11) (aCons (eBin addD (eCallB (one lenD) (aCons (eVar 6) aNil)) (eC (.int 1))) (aCons (eVar 12) aNil)))) aNil))))))) (sIf (tAndD (tVal (eBin neD (eVar 5) (eLst aNil))) (tVal (eBin neD (eVar 9) (eLst aNil)))) (sSeq (sSub (eVar 4) (eBin ixD (eVar 5) (eC (.int 0))) (eBin ixD (eVar 9) (eCallS 2 m_law_lift [] (aCons (eVar 0) (aCons (eCallB (one lenD) (aCons (eVar 9) aNil)) aNil)))))
    (sSeq (sExpr (eMeth "list" appendN (eVar 6) (aCons (eTup (aCons (eBin ixD (eVar 5) (eC (.int 0))) (aCons (eBin addD (eCallB (one lenD) (aCons (eVar 6) aNil)) (eC (.int 1))) (aCons (eBin ixD (eVar 4) (eBin ixD (eVar 5) (eC (.int 0)))) aNil)))) aNil)))
    (sSet 5 (eSlice (eVar 5) (oSome (eC (.int 1))) oNone)))) sNil))))))
    (sRet (eFrz (eVar 6)))))
def m_law_coming_list : FnS := runB 4 (sRet (eIf (tVal (eBin neD (eVar 1) (eLst aNil))) (eComp (iRange1 (aCons (eVar 2) aNil)) (bName 3) tYesD (eBin ixD (eVar 1) (eCallS 2 m_law_lift [] (aCons (eVar 0) (aCons (eCallB (one lenD) (aCons (eVar 1) aNil)) aNil)))) [3]) (eLst aNil)))
def m_law_line_of : FnS := runB 2 (sRet (eBin addD (eMeth "str" joinN (eC (.str " ")) (aCons (eComp (iSeq (eVar 0)) (bName 1) tYesD (eIf (tVal (eBin isD (eVar 1) (eC .non))) (eC (.str "-")) (eCallB (one strD) (aCons (eVar 1) aNil))) [1]) aNil)) (eC (.str "\n"))))
def m_law_play_text : FnS := runB 5 (sSeq (sSet 2 (eBin addD (eBin addD (eComp (iSeq (eVar 0)) (bName 3) tYesD (eCallS 1 m_law_line_of [] (aCons (eVar 3) aNil)) [3]) (eLst (aCons (eC (.str "comes\n")) aNil))) (eComp (iSeq (eVar 1)) (bName 4) tYesD (eCallS 1 m_law_line_of [] (aCons (eTup (aCons (eBin ixD (eVar 4) (eC (.int 1))) aNil)) aNil)) [4])))
    (sRet (eMeth "str" joinN (eC (.str "")) (aCons (eVar 2) aNil))))
def m_law_wordly : FnS := runB 6 (sSeq (sSet 2 (eLst (aCons (eC (.str "comes")) (aCons (eC (.str "cell")) (aCons (eC (.str "has")) (aCons (eC (.str "bare")) (aCons (eC (.str "grave")) (aCons (eC (.str "mate")) (aCons (eC (.str "memory")) (aCons (eC (.str "named")) aNil))))))))))
    (sSeq (sSet 3 (eCallB listC (aCons (eVar 1) aNil)))
    (sSeq (sFor (iRange1 (aCons (eCallB (two minD) (aCons (eCallB (one lenD) (aCons (eVar 3) aNil)) (aCons (eBin ixD (eLst (aCons (eC (.int 0)) (aCons (eC (.int 0)) (aCons (eC (.int 1)) (aCons (eC (.int 2)) aNil))))) (eCallS 2 m_law_lift [] (aCons (eVar 0) (aCons (eC (.int 4)) aNil)))) aNil))) aNil)) (bName 4) (sSeq (sSet 5 (eBin ixD (eVar 2) (eCallS 2 m_law_lift [] (aCons (eVar 0) (aCons (eC (.int 8)) aNil)))))
    (sSub (eVar 3) (eVar 4) (eIf (tVal (eBin notInD (eVar 5) (eVar 3))) (eVar 5) (eBin ixD (eVar 3) (eVar 4))))))
    (sRet (eFrz (eVar 3))))))
def m_law_case_right : FnS := runB 6 (sSeq (sSet 1 (eCallS 2 m_law_wordly [] (aCons (eVar 0) (aCons (eCallS 2 m_law_labels [] (aCons (eVar 0) (aCons (eC (.int 4)) aNil))) aNil))))
    (sSeq (sSet 2 (eCallS 4 m_law_log [] (aCons (eVar 0) (aCons (eCallS 2 m_law_lift [] (aCons (eVar 0) (aCons (eC (.int 10)) aNil))) (aCons (eCallS 2 m_law_numbers [] (aCons (eVar 0) (aCons (eC (.int 4)) aNil))) (aCons (eVar 1) aNil))))))
    (sSeq (sSet 3 (eCallS 3 m_law_coming_list [] (aCons (eVar 0) (aCons (eVar 2) (aCons (eCallS 2 m_law_lift [] (aCons (eVar 0) (aCons (eC (.int 12)) aNil))) aNil)))))
    (sSeq (sSet 4 (eCallS 2 m_law_play_text [] (aCons (eVar 2) (aCons (eVar 3) aNil))))
    (sSeq (sIf (tNotD (tVal (eCall 2 (m_law_twinned 4) [] (aCons (eCallS 2 m_write_play [] (aCons (eVar 2) (aCons (eVar 3) aNil))) (aCons (eVar 4) aNil))))) (sRet (eC (.bl false))) sNil)
    (sSeq (sIf (tNotD (tVal (eCall 2 (m_law_twinned 4) [] (aCons (eCallK 0 2 [1, 0] (callS m_write_play) aNil (aCons (eCallB (one listD) (aCons (eVar 3) aNil)) (aCons (eCallB (one listD) (aCons (eVar 2) aNil)) aNil))) (aCons (eVar 4) aNil))))) (sRet (eC (.bl false))) sNil)
    (sSeq (sSet 5 (eCall 1 m_read_play [] (aCons (eVar 4) aNil)))
    (sSeq (sIf (tNotD (tVal (eCall 2 (m_law_twinned 4) [] (aCons (eVar 5) (aCons (eTup (aCons (eVar 2) (aCons (eVar 3) aNil))) aNil))))) (sRet (eC (.bl false))) sNil)
    (sSeq (sExpr (eMeth "list" appendN (eBin ixD (eVar 5) (eC (.int 0))) (aCons (eC .non) aNil)))
    (sSeq (sExpr (eMeth "list" appendN (eBin ixD (eVar 5) (eC (.int 1))) (aCons (eC .non) aNil)))
    (sRet (eAnd (eCall 2 (m_law_twinned 4) [] (aCons (eCallK 0 1 [0] m_read_play aNil (aCons (eVar 4) aNil)) (aCons (eTup (aCons (eVar 2) (aCons (eVar 3) aNil))) aNil))) (eCall 2 (m_law_twinned 4) [] (aCons (eCall 1 m_read_play [] (aCons (eC (.str "comes\n")) aNil)) (aCons (eTup (aCons (eLst aNil) (aCons (eLst aNil) aNil))) aNil)))))))))))))))
def m_law : FnS := runB 4 (sSeq (sFor (iRange1 (aCons (eCallB (two maxD) (aCons (eC (.int 1)) (aCons (eCallB (two minD) (aCons (eC (.int 5)) (aCons (eCallB (one lenD) (aCons (eVar 0) aNil)) aNil))) aNil))) aNil)) (bName 1) (sSeq (sSet 2 (eCall 2 m_law_satchel [] (aCons (eVar 0) (aCons (eVar 1) aNil))))
    (sFor (iRange1 (aCons (eC (.int 3)) aNil)) (bName 3) (sIf (tNotD (tVal (eCallS 1 m_law_case_right [] (aCons (eVar 2) aNil)))) (sRet (eC (.bl false))) sNil))))
    (sRet (eC (.bl true))))
end Dn
/-! L1: letters, logs: what the program's defs tell of them. -/
namespace Dn
open PySem PySem.Spec PyProof.Rows L2
def inAZ (c : Nat) : Bool := decide (97 ≤ c) && decide (c ≤ 122)
def isName (x : Str) : Bool := decide (0 < x.length) && (decide (x.length ≤ 8) && (cs x).all inAZ)
theorem alpha_in (c : Nat) : (!(Builtin.Str.occurrences ("abcdefghijklmnopqrstuvwxyz" : Str) ⟨#[c]⟩ 0 ("abcdefghijklmnopqrstuvwxyz" : Str).length 1).isEmpty) = inAZ c := by
  rw [StrLaws.found_one]
  have : ("abcdefghijklmnopqrstuvwxyz" : Str).cps.toList = [97,98,99,100,101,102,103,104,105,106,107,108,109,110,111,112,113,114,115,116,117,118,119,120,121,122] := by decide +kernel
  rw [this, inAZ, ← Bool.decide_and]
  refine decide_eq_decide.mpr ?_
  simp only [List.mem_cons, List.not_mem_nil, or_false]
  omega
@[simp] theorem c_is_integer (i : Int) (w : List Cell) : callS m_is_integer [.int i] w = .ok (.bl true) w := callS_ok' (w' := []) rfl rfl (by simp [m_is_integer, x_runB]) rfl
@[simp] theorem c_is_count (i : Int) (w : List Cell) : callS m_is_count [.int i] w = .ok (.bl (decide (1 ≤ i))) w := callS_ok' (w' := []) rfl rfl (by simp [m_is_count, x_runB]) rfl
theorem c_is_name (x : Str) (w : List Cell) (h : x.length ≤ sizeLine) : callS m_is_name [.str x] w = .ok (.bl (isName x)) w := callS_ok' (w' := []) rfl rfl (by
  have hc : eComp (iSeq (eVar 0)) (bName 1) tYesD (eBin inD (eVar 1) (eC (.str "abcdefghijklmnopqrstuvwxyz"))) [1] [some (.str x), none] [] = .ok (.lst ((cs x).map fun c => .bl (inAZ c))) [] := by
    have hi : items (.str x) [] = some ((cs x).map fun c => D.str ⟨#[c]⟩) := rfl
    rw [comp_map (f := fun d => match d with | .str y => .bl (!(Builtin.Str.occurrences ("abcdefghijklmnopqrstuvwxyz" : Str) y 0 ("abcdefghijklmnopqrstuvwxyz" : Str).length 1).isEmpty) | _ => .non) (iSeq_ok rfl hi) (seqTF_ok hi) ?_ (by simpa [cs_len] using h), List.map_map]
    · simp only [Function.comp_def, alpha_in]
    · intro d hd
      obtain ⟨c, _, rfl⟩ := List.mem_map.mp hd
      exact ⟨_, rfl, by simp [wipeD]⟩
  unfold m_is_name isName
  by_cases h0 : 0 < x.length <;> by_cases h8 : (x.length : Int) ≤ 8 <;> simp [x_runB, h, hc, h0, h8] <;> omega) rfl
/-! ### letters -/
structure Letter where
  key : Int
  stamp : Int
  name : Option Str
  deriving DecidableEq
def oD : Option Str → D
  | none => .non
  | some x => .str x
@[simp] theorem oD_none : oD none = .non := rfl
@[simp] theorem oD_some (x : Str) : oD (some x) = .str x := rfl
@[simp] theorem nc_oD (o : Option Str) : nc (oD o) = true := by cases o <;> rfl
def Letter.d (l : Letter) : D := .tup [.int l.key, .int l.stamp, oD l.name]
@[simp] theorem nc_letter (l : Letter) : nc l.d = true := by simp [Letter.d, nc, ncs]
@[simp] theorem nc_int (i : Int) : nc (.int i) = true := rfl
@[simp] theorem nc_str (i : Str) : nc (.str i) = true := rfl
@[simp] theorem nc_bl (i : Bool) : nc (.bl i) = true := rfl
@[simp] theorem nc_non : nc .non = true := rfl
@[simp] theorem nc_tup (ds : List D) : nc (.tup ds) = ncs ds := by simp [nc]
@[simp] theorem nc_lst (ds : List D) : nc (.lst ds) = ncs ds := by simp [nc]
@[simp] theorem ncs_nil : ncs [] = true := rfl
@[simp] theorem ncs_cons (d : D) (ds : List D) : ncs (d :: ds) = (nc d && ncs ds) := by simp [ncs]
@[simp] theorem ncs_map {α : Type} (f : α → D) (xs : List α) : ncs (xs.map f) = xs.all fun x => nc (f x) := by
  induction xs with
  | nil => rfl
  | cons x xs ih => simp [ih]
theorem ncs_append (xs ys : List D) : ncs (xs ++ ys) = (ncs xs && ncs ys) := by
  induction xs with
  | nil => simp
  | cons x xs ih => simp [ih, Bool.and_assoc]
def okName (o : Option Str) : Bool := match o with
  | none => true
  | some x => isName x
def isLetter (l : Letter) : Bool := decide (1 ≤ l.key) && (decide (1 ≤ l.stamp) && okName l.name)
def shortN (o : Option Str) : Prop := ∀ x, o = some x → x.length ≤ sizeLine
theorem c_is_letter (l : Letter) (w : List Cell) (h : shortN l.name) : callS m_is_letter [l.d] w = .ok (.bl (isLetter l)) w := callS_ok' (w' := []) (by simp [celsOf, Letter.d]) (by simp [ncArgs, Letter.d]) (by
  obtain ⟨k, s, n⟩ := l
  unfold m_is_letter isLetter Letter.d
  cases n with
  | none => by_cases h1 : 1 ≤ k <;> by_cases h2 : 1 ≤ s <;> simp [x_runB, x_seq, h1, h2, okName]
  | some x =>
    have hn := c_is_name x [] (h x rfl)
    by_cases h1 : 1 ≤ k <;> by_cases h2 : 1 ≤ s <;> simp [x_runB, x_seq, h1, h2, hn, okName]) rfl

theorem ncs_letters (ls : List Letter) : ncs (ls.map Letter.d) = true := by simp
theorem c_wrong_item (ls : List Letter) (w : List Cell) (h : ∀ l ∈ ls, shortN l.name) : callS m_wrong_item [.lst (ls.map Letter.d)] w = .ok (oN (ls.findIdx? fun l => !isLetter l)) w := callS_p (by simp [celsOf]) (by simp [ncArgs]) (by
  unfold m_wrong_item
  rw [sat_runB, sat_seq]
  simp
  rw [sat_seq]
  refine sFor_sat (xs := enumItems (ls.map Letter.d)) (I := fun i r w => w = [] ∧ (∃ a b, r = [some (.lst (ls.map Letter.d)), a, b]) ∧ ∀ j (hj : j < ls.length), j < i → isLetter ls[j] = true) (enum_ok rfl rfl) ⟨rfl, ⟨_, _, rfl⟩, fun j hj z => absurd z (by omega)⟩ (fun i r w _ _ => enumTF_ok rfl i) ?_ ?_
  · rintro i x r w hx ⟨rfl, ⟨a, b, rfl⟩, hI⟩
    obtain ⟨y, hy, rfl⟩ := enumItems_get hx
    rw [List.getElem?_map] at hy
    obtain ⟨l, hl, rfl⟩ := Option.map_eq_some_iff.mp hy
    obtain ⟨hi, rfl⟩ := List.getElem?_eq_some_iff.mp hl
    refine ⟨_, rfl, ?_⟩
    have hc := c_is_letter ls[i] [] (h _ (List.getElem_mem hi))
    by_cases hb : isLetter ls[i] = true
    · simp [hc, hb]
      intro j hj hji
      by_cases e : j = i
      · subst e; exact hb
      · exact hI j hj (by omega)
    · simp [hc, hb]
      rw [findIdx_some hi (by simp [hb]) (fun j hj => by simp [hI j (by omega) hj])]
      rfl
  · rintro r w ⟨rfl, ⟨a, b, rfl⟩, hI⟩
    simp
    rw [findIdx_none (fun j hj => by simp [hI j hj (by simpa using hj)])]
    rfl) (by cases ls.findIdx? _ <;> rfl)
end Dn
/-! L2a: records behind a log. -/
namespace Dn
open PySem PySem.Spec PyProof.Rows L2
theorem backAt_same : ∀ {ns : List Nat} {w cs : List Cell}, cellsAt w ns = some cs → backAt w ns cs = w
  | [], w, cs, h => by cases cs <;> rfl
  | n :: r, w, cs, h => by
    unfold cellsAt at h
    cases q : w[n]? with
    | none => simp only [q] at h; cases h
    | some c =>
      simp only [q] at h
      obtain ⟨cs', h1, rfl⟩ := Option.map_eq_some_iff.mp h
      have e : w.set n c = w := by
        apply List.ext_getElem?
        intro i
        by_cases z : n = i
        · subst z
          rw [List.getElem?_set_self (List.getElem?_eq_some_iff.mp q).1, q]
        · rw [List.getElem?_set_ne z]
      rw [backAt, e, backAt_same h1]
/-- a call that leaves the cells as they are -/
theorem callS_keep {F : FnS} {ds : List D} {w cs : List Cell} {d : D} (h1 : (celsOf ds).Nodup) (h2 : ncArgs ds = true) (h3 : cellsAt w (celsOf ds) = some cs) (h4 : cs.all ncC = true)
    (h : (F (renum 0 ds) cs).sat (fun d' w' => d' = d ∧ w'.take cs.length = cs) noX) (hn : nc d = true) : callS F ds w = .ok d w := by
  refine eq_of_sat (callS_sat h1 h2 h3 h4 (h.mono ?_ fun _ _ z => z.elim))
  rintro d' w' ⟨rfl, e⟩
  rw [e]
  exact ⟨hn, h4, rfl, backAt_same h3⟩
section
variable {κ β : Type} [DecidableEq κ]
def aget (l : List (κ × β)) (k : κ) : Option β := (l.find? fun p => decide (p.1 = k)).map (·.2)
def aput (l : List (κ × β)) (k : κ) (v : β) : List (κ × β) := if (l.any fun p => decide (p.1 = k)) = true then l.map (fun p => if p.1 = k then (p.1, v) else p) else l ++ [(k, v)]
@[simp] theorem aget_nil (k : κ) : aget ([] : List (κ × β)) k = none := rfl
theorem aget_cons (p : κ × β) (l : List (κ × β)) (k : κ) : aget (p :: l) k = if p.1 = k then some p.2 else aget l k := by
  unfold aget
  by_cases h : p.1 = k
  · rw [List.find?_cons_of_pos (by simpa using h), if_pos h]; rfl
  · rw [List.find?_cons_of_neg (by simpa using h), if_neg h]
theorem aget_app_new {l : List (κ × β)} {k k' : κ} {v : β} : aget (l ++ [(k, v)]) k' = (aget l k').or (if k = k' then some v else none) := by
  induction l with
  | nil => rw [List.nil_append, aget_cons]; simp
  | cons p l ih =>
    rw [List.cons_append, aget_cons, aget_cons, ih]
    split <;> simp
theorem aget_none_iff {l : List (κ × β)} {k : κ} : aget l k = none ↔ (l.any fun p => decide (p.1 = k)) = false := by
  induction l with
  | nil => simp
  | cons p l ih =>
    rw [aget_cons]
    by_cases h : p.1 = k <;> simp [h, ih]
theorem aget_map_same {l : List (κ × β)} {k k' : κ} {v : β} : aget (l.map fun p => if p.1 = k then (p.1, v) else p) k' = if k' = k then (aget l k').map (fun _ => v) else aget l k' := by
  induction l with
  | nil => simp
  | cons p l ih =>
    rw [List.map_cons, aget_cons, aget_cons, ih]
    by_cases h : p.1 = k
    · subst h
      by_cases h2 : p.1 = k'
      · subst h2; simp
      · have : ¬ k' = p.1 := fun q => h2 q.symm
        simp [h2, this]
    · by_cases h2 : p.1 = k'
      · subst h2; simp [h]
      · simp [h, h2]
theorem aget_aput (l : List (κ × β)) (k k' : κ) (v : β) : aget (aput l k v) k' = if k' = k then some v else aget l k' := by
  unfold aput
  split
  · rename_i h
    rw [aget_map_same]
    split
    · rename_i e
      subst e
      cases q : aget l k' with
      | some _ => rfl
      | none => rw [aget_none_iff.mp q] at h; cases h
    · rfl
  · rename_i h
    rw [aget_app_new]
    by_cases e : k' = k
    · subst e
      have : aget l k' = none := aget_none_iff.mpr (Bool.eq_false_iff.mpr h)
      simp [this]
    · rw [if_neg e, if_neg (fun q => e q.symm)]; simp
theorem aput_len (l : List (κ × β)) (k : κ) (v : β) : (aput l k v).length ≤ l.length + 1 := by
  unfold aput
  split <;> simp
def enc (f : κ → Key) (g : β → D) (l : List (κ × β)) : List (Key × D) := l.map fun p => (f p.1, g p.2)
@[simp] theorem enc_nil (f : κ → Key) (g : β → D) : enc f g ([] : List (κ × β)) = [] := rfl
theorem enc_len (f : κ → Key) (g : β → D) (l : List (κ × β)) : (enc f g l).length = l.length := by simp [enc]
theorem look_enc {f : κ → Key} {g : β → D} (hf : ∀ a b, f a = f b → a = b) (l : List (κ × β)) (k : κ) : look (enc f g l) (f k) = (aget l k).map g := by
  unfold look aget enc
  rw [List.find?_map]
  have e : (fun p : κ × β => decide (f p.1 = f k)) = fun p => decide (p.1 = k) := by
    funext p
    exact decide_eq_decide.mpr ⟨hf _ _, fun h => by rw [h]⟩
  simp only [Function.comp_def, e]
  cases l.find? (fun p => decide (p.1 = k)) <;> rfl
theorem put_enc {f : κ → Key} {g : β → D} (hf : ∀ a b, f a = f b → a = b) (l : List (κ × β)) (k : κ) (v : β) : putD (enc f g l) (f k) (g v) = enc f g (aput l k v) := by
  unfold putD aput enc
  have e : (fun p : κ × β => decide (f p.1 = f k)) = fun p => decide (p.1 = k) := by
    funext p
    exact decide_eq_decide.mpr ⟨hf _ _, fun h => by rw [h]⟩
  rw [List.any_map]
  simp only [Function.comp_def, e]
  split
  · rw [List.map_map, List.map_map]
    congr 1
    funext p
    simp only [Function.comp_def]
    by_cases h : p.1 = k
    · rw [if_pos h, if_pos (by rw [h])]
    · rw [if_neg h, if_neg (fun z => h (hf _ _ z))]
  · simp
theorem nck_enc {f : κ → Key} {g : β → D} (hg : ∀ b, nc (g b) = true) (l : List (κ × β)) : nck (enc f g l) = true := by
  induction l with
  | nil => rfl
  | cons p l ih => simp [enc, nck, hg] ; exact ih
end
theorem inl_inj (a b : Int) (h : (Sum.inl a : Key) = .inl b) : a = b := Sum.inl.inj h
theorem inr_inj (a b : Str) (h : (Sum.inr a : Key) = .inr b) : a = b := Sum.inr.inj h
section
variable {w : List Cell} {n : Nat} {kd : List (Key × D)} {lk : Bool}
theorem in_dct (h : w[n]? = some (.dct kd lk)) (d : D) : inD d (.cel n) w = (keyOf d).map fun k => .bl (look kd k).isSome := by
  simp [inD, inAny, asK, h]
  cases keyOf d <;> simp
theorem ix_dct (h : w[n]? = some (.dct kd lk)) (d : D) : ixD (.cel n) d w = (keyOf d).bind fun k => look kd k := by
  simp [ixD, asQ, asK, h]
theorem get_dct (h : w[n]? = some (.dct kd lk)) (d x : D) : getD (.cel n) d x w = (keyOf d).map fun k => (look kd k).getD x := by
  simp [getD, asK, h]
theorem set_dct (h : w[n]? = some (.dct kd false)) (hl : kd.length < sizeLine) (d x : D) : setD (.cel n) d x w = (keyOf d).map fun k => w.set n (.dct (putD kd k x) false) := by
  simp [setD, h, hl]
  cases keyOf d <;> rfl
@[simp] theorem keyOf_int (i : Int) : keyOf (.int i) = some (.inl i) := rfl
@[simp] theorem keyOf_str (i : Str) : keyOf (.str i) = some (.inr i) := rfl
end
abbrev Recs := List (Int × Option Str)
abbrev Takn := List (Str × Int)
abbrev recD (l : Recs) : List (Key × D) := enc .inl oD l
abbrev tkD (l : Takn) : List (Key × D) := enc .inr (fun i => D.int i) l
def isTaken (rs : Recs) (tk : Takn) (k : Int) (x : Str) : Bool := let o := (aget tk x).getD k; decide (o ≠ k) && decide (aget rs o = some (some x))
def isNext (rs : Recs) (tk : Takn) (l : Letter) (st : Int) : Bool :=
  if l.stamp ≠ st ∨ aget rs l.key = some none then false else match l.name with
    | none => (aget rs l.key).isSome
    | some x => !isTaken rs tk l.key x
/-- who is taken has a record -/
def TkOk (rs : Recs) (tk : Takn) : Prop := ∀ x k, aget tk x = some k → (aget rs k).isSome = true
theorem e_is_taken (rs : Recs) (tk : Takn) (k : Int) (x : Str) (h : TkOk rs tk) : m_is_taken [.cel 0, .cel 1, .int k, .str x] [.dct (recD rs) false, .dct (tkD tk) false] = .ok (.bl (isTaken rs tk k x)) [.dct (recD rs) false, .dct (tkD tk) false] := by
  unfold m_is_taken isTaken
  have g : getD (.cel 1) (.str x) (.int k) [.dct (recD rs) false, .dct (tkD tk) false] = some (.int ((aget tk x).getD k)) := by
    rw [get_dct (kd := tkD tk) (lk := false) rfl]
    simp only [keyOf_str, Option.map_some, look_enc inr_inj]
    cases aget tk x <;> rfl
  have a : asK (.cel 1) [.dct (recD rs) false, .dct (tkD tk) false] = some (tkD tk) := rfl
  simp [x_runB, x_seq, g, a]
  by_cases e : (aget tk x).getD k = k
  · simp [e]
  · have e2 : ∃ o, aget tk x = some o := by
      cases q : aget tk x with
      | none => rw [q] at e; exact absurd rfl e
      | some o => exact ⟨o, rfl⟩
    obtain ⟨o, e2⟩ := e2
    have hh := h x o e2
    obtain ⟨nm, hn⟩ := Option.isSome_iff_exists.mp hh
    rw [e2] at e ⊢
    have i : ixD (.cel 0) (.int o) [.dct (recD rs) false, .dct (tkD tk) false] = some (oD nm) := by
      rw [ix_dct (kd := recD rs) (lk := false) rfl]
      simp only [keyOf_int, Option.bind_some, look_enc inl_inj, hn]
      rfl
    simp only [Option.getD_some] at e ⊢
    cases nm with
    | none => simp [e, i, hn]
    | some y => simp [e, i, hn]
theorem ncC_rec (rs : Recs) (lk : Bool) : ncC (.dct (recD rs) lk) = true := nck_enc (by simp) rs
theorem ncC_tk (rs : Takn) (lk : Bool) : ncC (.dct (tkD rs) lk) = true := nck_enc (by simp) rs
theorem c_is_taken {w : List Cell} {a b : Nat} {rs : Recs} {tk : Takn} {k : Int} {x : Str} (ha : w[a]? = some (.dct (recD rs) false)) (hb : w[b]? = some (.dct (tkD tk) false)) (ab : a ≠ b) (h : TkOk rs tk) :
    callS m_is_taken [.cel a, .cel b, .int k, .str x] w = .ok (.bl (isTaken rs tk k x)) w :=
  callS_keep (cs := [.dct (recD rs) false, .dct (tkD tk) false]) (by simp [celsOf, ab]) rfl (by simp [celsOf, cellsAt, ha, hb]) (by simp [ncC_rec, ncC_tk]) (sat_of_eq (e_is_taken rs tk k x h) ⟨rfl, rfl⟩) rfl
theorem e_is_next (rs : Recs) (tk : Takn) (l : Letter) (st : Int) (h : TkOk rs tk) : m_is_next [.cel 0, .cel 1, l.d, .int st] [.dct (recD rs) false, .dct (tkD tk) false] = .ok (.bl (isNext rs tk l st)) [.dct (recD rs) false, .dct (tkD tk) false] := by
  obtain ⟨k, s, n⟩ := l
  unfold m_is_next isNext Letter.d
  have i : inD (.int k) (.cel 0) [.dct (recD rs) false, .dct (tkD tk) false] = some (.bl (aget rs k).isSome) := by
    rw [in_dct (kd := recD rs) (lk := false) rfl]
    simp only [keyOf_int, Option.map_some, look_enc inl_inj, Option.isSome_map]
  have i2 : ixD (.cel 0) (.int k) [.dct (recD rs) false, .dct (tkD tk) false] = (aget rs k).map oD := by
    rw [ix_dct (kd := recD rs) (lk := false) rfl]
    simp only [keyOf_int, Option.bind_some, look_enc inl_inj]
  by_cases e : s = st
  · subst e
    cases q : aget rs k with
    | none =>
      cases n with
      | none => simp [x_runB, x_seq, i, i2, q]
      | some x =>
        have t := c_is_taken (w := [.dct (recD rs) false, .dct (tkD tk) false]) (a := 0) (b := 1) (k := k) (x := x) rfl rfl (by decide) h
        simp [x_runB, x_seq, i, i2, q, t]
    | some o =>
      cases o with
      | none => simp [x_runB, x_seq, i, i2, q]
      | some y =>
        cases n with
        | none => simp [x_runB, x_seq, i, i2, q]
        | some x =>
          have t := c_is_taken (w := [.dct (recD rs) false, .dct (tkD tk) false]) (a := 0) (b := 1) (k := k) (x := x) rfl rfl (by decide) h
          simp [x_runB, x_seq, i, i2, q, t]
  · simp [x_runB, x_seq, e]
theorem c_is_next {w : List Cell} {a b : Nat} {rs : Recs} {tk : Takn} {l : Letter} {st : Int} (ha : w[a]? = some (.dct (recD rs) false)) (hb : w[b]? = some (.dct (tkD tk) false)) (ab : a ≠ b) (h : TkOk rs tk) :
    callS m_is_next [.cel a, .cel b, l.d, .int st] w = .ok (.bl (isNext rs tk l st)) w :=
  callS_keep (cs := [.dct (recD rs) false, .dct (tkD tk) false]) (by simp [celsOf, ab, Letter.d]) (by simp [ncArgs, Letter.d]) (by simp [celsOf, cellsAt, ha, hb, Letter.d]) (by simp [ncC_rec, ncC_tk]) (by
    have e : renum 0 [.cel a, .cel b, l.d, .int st] = [.cel 0, .cel 1, l.d, .int st] := by simp [renum, Letter.d]
    rw [e]
    exact sat_of_eq (e_is_next rs tk l st h) ⟨rfl, rfl⟩) rfl
end Dn
namespace Dn
open PySem PySem.Spec PyProof.Rows L2
def tkPut (tk : Takn) (l : Letter) : Takn := match l.name with
  | none => tk
  | some x => aput tk x l.key
def recGo : List Letter → Nat → Recs → Takn → Recs × Option Nat
  | [], _, rs, _ => (rs, none)
  | l :: ls, i, rs, tk => if isNext rs tk l ((i : Int) + 1) = true then recGo ls (i + 1) (aput rs l.key l.name) (tkPut tk l) else (rs, some i)
theorem TkOk.nil : TkOk [] [] := fun x k h => by simp at h
theorem TkOk.step {rs : Recs} {tk : Takn} (h : TkOk rs tk) (l : Letter) : TkOk (aput rs l.key l.name) (tkPut tk l) := by
  intro x k hx
  rw [aget_aput]
  split
  · rfl
  · rename_i hk
    unfold tkPut at hx
    cases q : l.name with
    | none => rw [q] at hx; exact h x k hx
    | some y =>
      rw [q] at hx
      simp only [aget_aput] at hx
      split at hx
      · cases hx; exact absurd rfl hk
      · exact h x k hx
theorem tkPut_len (tk : Takn) (l : Letter) : (tkPut tk l).length ≤ tk.length + 1 := by
  unfold tkPut
  cases l.name with
  | none => simp
  | some x => exact aput_len _ _ _
theorem c_records_behind (ls : List Letter) (w : List Cell) (hz : ls.length < sizeLine) : callS m_records_behind [.lst (ls.map Letter.d)] w = .ok (.tup [.dct (recD (recGo ls 0 [] []).1), oN (recGo ls 0 [] []).2]) w := callS_p (by simp [celsOf]) (by simp [ncArgs]) (by
  unfold m_records_behind
  rw [sat_runB, sat_seq]
  simp
  rw [sat_seq]
  simp
  rw [sat_seq]
  refine sFor_sat (xs := enumItems (ls.map Letter.d)) (I := fun i r w => ∃ rs tk, w = [.dct (recD rs) false, .dct (tkD tk) false] ∧ (∃ a b c d e, r = [some (.lst (ls.map Letter.d)), some (.cel 0), some (.cel 1), a, b, c, d, e]) ∧ TkOk rs tk ∧ rs.length ≤ i ∧ tk.length ≤ i ∧ recGo ls 0 [] [] = recGo (ls.drop i) i rs tk)
    (enum_ok rfl rfl) ⟨[], [], rfl, ⟨_, _, _, _, _, rfl⟩, TkOk.nil, by simp, by simp, rfl⟩ (fun i r w _ _ => enumTF_ok rfl i) ?_ ?_
  · rintro i x r w hx ⟨rs, tk, rfl, ⟨a, b, c, d, e, rfl⟩, hT, h1, h2, hg⟩
    obtain ⟨y, hy, rfl⟩ := enumItems_get hx
    rw [List.getElem?_map] at hy
    obtain ⟨l, hl, rfl⟩ := Option.map_eq_some_iff.mp hy
    obtain ⟨hi, rfl⟩ := List.getElem?_eq_some_iff.mp hl
    refine ⟨_, rfl, ?_⟩
    rw [List.drop_eq_getElem_cons hi, recGo] at hg
    have hc := c_is_next (w := [.dct (recD rs) false, .dct (tkD tk) false]) (a := 0) (b := 1) (l := ls[i]) (st := (i : Int) + 1) rfl rfl (by decide) hT
    by_cases hb : isNext rs tk ls[i] ((i : Int) + 1) = true
    · rw [if_pos hb] at hg
      have s2 : ∀ w2 x, w2 = [Cell.dct (recD rs) false, Cell.dct (tkD tk) false] → setD (.cel 1) (.str x) (.int ls[i].key) w2 = some [.dct (recD rs) false, .dct (tkD (aput tk x ls[i].key)) false] := by
        rintro w2 x rfl
        rw [set_dct (kd := tkD tk) rfl (by rw [enc_len]; omega)]
        simp only [keyOf_str, Option.map_some]
        rw [show (D.int ls[i].key) = (fun i => D.int i) ls[i].key from rfl, put_enc inr_inj]
        rfl
      have s1 : ∀ t2, setD (.cel 0) (.int ls[i].key) (oD ls[i].name) [.dct (recD rs) false, .dct (tkD t2) false] = some [.dct (recD (aput rs ls[i].key ls[i].name)) false, .dct (tkD t2) false] := by
        intro t2
        rw [set_dct (kd := recD rs) rfl (by rw [enc_len]; omega)]
        simp only [keyOf_int, Option.map_some]
        rw [put_enc inl_inj]
        rfl
      have fin : TkOk (aput rs ls[i].key ls[i].name) (tkPut tk ls[i]) ∧ (aput rs ls[i].key ls[i].name).length ≤ i + 1 ∧ (tkPut tk ls[i]).length ≤ i + 1 ∧ recGo ls 0 [] [] = recGo (ls.drop (i + 1)) (i + 1) (aput rs ls[i].key ls[i].name) (tkPut tk ls[i]) :=
        ⟨hT.step _, Nat.le_trans (aput_len _ _ _) (by omega), Nat.le_trans (tkPut_len _ _) (by omega), hg⟩
      rw [sat_seq]
      simp [hc, hb]
      rw [sat_seq]
      simp [Letter.d]
      rw [sat_seq]
      cases q : ls[i].name with
      | none =>
        rw [q] at s1
        simp only [oD_none] at s1
        simp [s1]
        refine ⟨_, _, ⟨rfl, rfl⟩, ?_⟩
        have e : tkPut tk ls[i] = tk := by unfold tkPut; rw [q]
        rw [e, q] at fin
        exact fin
      | some y =>
        rw [q] at s1
        simp only [oD_some] at s1
        simp [s2, s1]
        refine ⟨_, _, ⟨rfl, rfl⟩, ?_⟩
        have e : tkPut tk ls[i] = aput tk y ls[i].key := by unfold tkPut; rw [q]
        rw [e, q] at fin
        exact fin
    · rw [if_neg hb] at hg
      rw [sat_seq]
      simp [hc, hb, frzD, hg]
  · rintro r w ⟨rs, tk, rfl, ⟨a, b, c, d, e, rfl⟩, hT, h1, h2, hg⟩
    rw [List.drop_eq_nil_of_le (by simp), recGo] at hg
    simp [frzD, hg]) (by
  simp [nc, nck_enc]
  cases (recGo ls 0 [] []).2 <;> rfl)
end Dn
/-! L3: logs judged; texts written. -/
namespace Dn
open PySem PySem.Spec PyProof.Rows L2
def wrongLog (ls : List Letter) : Option Nat :=
  let ix := ls.findIdx? fun l => !isLetter l
  match (recGo (ls.take (ix.getD ls.length)) 0 [] []).2 with
  | none => ix
  | some j => some j
theorem cut_to {α : Type} (xs : List α) (n : Nat) : cutL xs none (some (n : Int)) = xs.take n := by
  unfold cutL
  rw [HT.sIx_none, HT.sIx_nat, List.drop_zero, Nat.sub_zero]
  by_cases h : n ≤ xs.length
  · rw [Nat.min_eq_left h]
  · rw [Nat.min_eq_right (by omega), List.take_length, List.take_of_length_le (by omega)]
theorem cut_from {α : Type} (xs : List α) (n : Nat) : cutL xs (some (n : Int)) none = xs.drop n := by
  unfold cutL
  rw [HT.sIx_none, HT.sIx_nat]
  by_cases h : n ≤ xs.length
  · rw [Nat.min_eq_left h, List.take_of_length_le (by simp)]
  · rw [Nat.min_eq_right (by omega), List.drop_length, List.drop_of_length_le (by omega)]; simp
theorem cut_last {α : Type} (xs : List α) : cutL xs none (some (-1)) = xs.dropLast := by
  unfold cutL
  rw [HT.sIx_none, List.drop_zero, Nat.sub_zero, List.dropLast_eq_take]
  congr 1
  show (if (-1 : Int) < 0 then (-1 + (xs.length : Int)).toNat else min (-1 : Int).toNat xs.length) = xs.length - 1
  rw [if_pos (by decide)]
  omega
@[simp] theorem slice_lst {ds : List D} {lo hi : Option Int} {w : List Cell} : sliceD (.lst ds) lo hi w = some (.lst (cutL ds lo hi)) := rfl
@[simp] theorem slice_str {x : Str} {lo hi : Option Int} {w : List Cell} : sliceD (.str x) lo hi w = if x.length ≤ sizeLine then some (.str (cutS x lo hi)) else none := rfl
theorem c_wrong_in_log (ls : List Letter) (w : List Cell) (h : ∀ l ∈ ls, shortN l.name) (hz : ls.length < sizeLine) : callS m_wrong_in_log [.lst (ls.map Letter.d)] w = .ok (oN (wrongLog ls)) w := callS_ok' (w' := []) (by simp [celsOf]) (by simp [ncArgs]) (by
  unfold m_wrong_in_log wrongLog
  have h1 := c_wrong_item ls [] h
  cases q : ls.findIdx? (fun l => !isLetter l) with
  | none =>
    have h2 := c_records_behind (ls.take ls.length) [] (by simpa using hz)
    rw [List.map_take] at h2
    cases q2 : (recGo (ls.take ls.length) 0 [] []).2 with
    | none => simp only [q, q2] at h1 h2; simp [x_runB, x_seq, h1, cut_to, h2] at * ; simp [h2, q2]
    | some j => simp only [q, q2] at h1 h2; simp [x_runB, x_seq, h1, cut_to, h2] at *; simp [h2, q2]
  | some i =>
    have h2 := c_records_behind (ls.take i) [] (by simp; omega)
    rw [List.map_take] at h2
    cases q2 : (recGo (ls.take i) 0 [] []).2 with
    | none => simp only [q, q2] at h1 h2; simp [x_runB, x_seq, h1, cut_to, h2, q2]
    | some j => simp only [q, q2] at h1 h2; simp [x_runB, x_seq, h1, cut_to, h2, q2]) (by cases wrongLog ls <;> rfl)
/-! ### texts written -/
/-- a part of a row as a word -/
def partT : D → Str
  | .int i => toString i
  | .str x => x
  | _ => "-"
def okPart : D → Prop
  | .int i => i.natAbs.log2 < 1920
  | .str _ => True
  | .non => True
  | _ => False
theorem c_or_dash (d : D) (w : List Cell) (h : okPart d) : callS m_or_dash [d] w = .ok (.str (partT d)) w := by
  cases d <;> first | exact h.elim | skip
  · exact callS_ok' (w' := []) rfl rfl (by simp [m_or_dash, x_runB, partT]) rfl
  · exact callS_ok' (w' := []) rfl rfl (by
      have h' : _ < 1920 := h
      simp [m_or_dash, x_runB, partT, h']) rfl
  · exact callS_ok' (w' := []) rfl rfl (by simp [m_or_dash, x_runB, partT]) rfl
/-- a row as a line, without its end -/
def bodyT (row : List D) : Str := Txt.join " " (row.map partT)
def lineT (row : List D) : Str := bodyT row ++ "\n"
structure Fits (row : List D) : Prop where
  ok : ∀ d ∈ row, okPart d
  sz : ((row.map partT).map (·.length)).sum + row.length ≤ 4000
theorem glue_len (s : List Nat) : ∀ l : List (List Nat), (glue s l).length ≤ (l.map (·.length)).sum + l.length * s.length
  | [] => by simp [glue]
  | [x] => by simp [glue]
  | x :: y :: r => by
    have ih := glue_len s (y :: r)
    simp only [glue, List.length_append, List.map_cons, List.sum_cons, List.length_cons] at ih ⊢
    rw [Nat.succ_mul]
    omega
theorem sum_cs (l : List Str) : ((l.map cs).map (·.length)).sum = (l.map (·.length)).sum := by
  rw [List.map_map]; rfl
theorem bodyT_len {row : List D} (h : Fits row) : (bodyT row).length ≤ 4000 := by
  unfold bodyT
  rw [cs_len, cs_join]
  have := glue_len (cs " ") ((row.map partT).map cs)
  rw [sum_cs] at this
  have e : (cs " ").length = 1 := by decide +kernel
  simp only [e, List.length_map, Nat.mul_one] at this
  exact Nat.le_trans this h.sz
theorem len_nl : ("\n" : Str).length = 1 := by decide +kernel
theorem len_sp : (" " : Str).length = 1 := by decide +kernel
theorem len_empty : ("" : Str).length = 0 := by decide +kernel
theorem lineT_len {row : List D} (h : Fits row) : (lineT row).length ≤ 4001 := by
  unfold lineT
  rw [len_app, len_nl]
  have := bodyT_len h
  omega
theorem small_le {n : Nat} (h : n ≤ 16000000) : n ≤ sizeLine := Nat.le_trans h (by decide)
/-- the value of ' '.join([..]) + '\n' as any def reckons it -/
theorem line_val {row : List D} {w : List Cell} (h : Fits row) : (ofN (joinN (.str " ") [.lst (row.map fun d => .str (partT d))] w)).bnd (fun x w1 => Out.of (addD x (.str "\n") w1) w1) = .ok (.str (lineT row)) w := by
  rw [join_ok (ys := row.map partT) (by rw [v_asQ_lst, List.map_map]; rfl) (by rw [len_sp, List.length_map, Nat.mul_one]; exact Nat.le_trans h.sz (by decide))]
  have e : (bodyT row).length + ("\n" : Str).length ≤ sizeLine := by
    rw [len_nl]; have := bodyT_len h; exact small_le (by omega)
  simp only [ofN_some, Out.bnd_ok]
  show Out.of (addD (.str (bodyT row)) (.str "\n") w) w = _
  rw [v_add_str, if_pos e]
  rfl
theorem sum_le {l : List Str} {n : Nat} (h : ∀ x ∈ l, x.length ≤ n) : (l.map (·.length)).sum ≤ l.length * n := by
  induction l with
  | nil => simp
  | cons x l ih =>
    have h1 := h x (by simp)
    have h2 := ih fun y hy => h y (by simp [hy])
    simp only [List.map_cons, List.sum_cons, List.length_cons, Nat.succ_mul]
    omega
def linesT (rows : List (List D)) : Str := Txt.join "" (rows.map lineT)
theorem lines_val {rows : List (List D)} {w : List Cell} (h : ∀ r ∈ rows, Fits r) (hl : rows.length ≤ 1000) : joinN (.str "") [.lst (rows.map fun r => .str (lineT r))] w = some (.str (linesT rows), w) := by
  rw [join_ok (ys := rows.map lineT) (by rw [v_asQ_lst, List.map_map]; rfl) ?_]
  · rfl
  · rw [len_empty, Nat.mul_zero, Nat.add_zero]
    refine Nat.le_trans (sum_le (n := 4001) ?_) ?_
    · intro x hx
      obtain ⟨r, hr, rfl⟩ := List.mem_map.mp hx
      exact lineT_len (h r hr)
    · rw [List.length_map]
      omega
theorem row_short {row : List D} (h : Fits row) : row.length ≤ sizeLine := by
  have := h.sz
  exact small_le (by omega)
theorem c_lines_joined (rows : List (List D)) (w : List Cell) (h : ∀ r ∈ rows, Fits r) (hn : ∀ r ∈ rows, ncs r = true) (hl : rows.length ≤ 1000) : callS m_lines_joined [.lst (rows.map .tup)] w = .ok (.str (linesT rows)) w := callS_ok' (w' := []) (by simp [celsOf]) (by
    simp [ncArgs]; exact hn) (by
  unfold m_lines_joined
  have hs : rows.length ≤ sizeLine := small_le (by omega)
  have hc : eComp (iSeq (eVar 0)) (bName 2) tYesD (eBin addD (eMeth "str" joinN (eC (.str " ")) (aCons (eComp (iSeq (eVar 2)) (bName 1) tYesD (eCallS 1 m_or_dash [] (aCons (eVar 1) aNil)) [1]) aNil)) (eC (.str "\n"))) [2] [some (.lst (rows.map .tup)), none, none] [] = .ok (.lst (rows.map fun r => .str (lineT r))) [] := by
    have hi : items (.lst (rows.map .tup)) [] = some (rows.map D.tup) := rfl
    rw [comp_map (f := fun d => match d with | .tup r => .str (lineT r) | _ => .non) (iSeq_ok rfl hi) (seqTF_ok hi) ?_ (by simpa using hs), List.map_map]
    · rfl
    · intro d hd
      obtain ⟨row, hr, rfl⟩ := List.mem_map.mp hd
      refine ⟨_, rfl, ?_⟩
      have hF := h row hr
      have hi2 : items (.tup row) [] = some row := rfl
      have hin : eComp (iSeq (eVar 2)) (bName 1) tYesD (eCallS 1 m_or_dash [] (aCons (eVar 1) aNil)) [1] [some (.lst (rows.map .tup)), none, some (.tup row)] [] = .ok (.lst (row.map fun d => .str (partT d))) [] :=
        comp_map (iSeq_ok rfl hi2) (seqTF_ok hi2) (fun d hd => ⟨_, rfl, by simp [wipeD, c_or_dash d [] (hF.ok d hd)]⟩) (row_short hF)
      have hv := line_val (w := []) hF
      simp [wipeD, hin]
      exact hv
  simp [x_runB, hc, lines_val h hl]) rfl
end Dn
/-! L4: texts read: rows, numbers, letters. -/
namespace Dn
open PySem PySem.Spec PyProof.Rows L2
theorem nl_eq : ("\n" : Str) = ⟨#[10]⟩ := by decide +kernel
theorem sp_eq : (" " : Str) = ⟨#[32]⟩ := by decide +kernel
theorem zero_eq : ("0" : Str) = ⟨#[48]⟩ := by decide +kernel
theorem empty_eq : ("" : Str) = ⟨#[]⟩ := by decide +kernel
theorem dash_eq : ("-" : Str) = ⟨#[45]⟩ := by decide +kernel
def linesOf (x : Str) : List Str := Txt.split x ⟨#[10]⟩
def wholeOf (x : Str) : Bool := decide ((linesOf x).getLast? = some ("" : Str))
def rowsOf (x : Str) : List (List Str) := (if wholeOf x = true then (linesOf x).dropLast else linesOf x).map fun l => Txt.split l ⟨#[32]⟩
def strsD (ws : List Str) : D := .lst (ws.map .str)
@[simp] theorem nc_strsD (ws : List Str) : nc (strsD ws) = true := by simp [strsD]
theorem split_1 (c : Nat) {x : Str} {w : List Cell} (h : x.length + 2 ≤ sizeLine) : splitN (.str x) [.str ⟨#[c]⟩] w = some (strsD (Txt.split x ⟨#[c]⟩), w) := by
  rw [v_split, if_pos ⟨rfl, h⟩]; rfl
theorem lines_last (x : Str) : ∃ y, (linesOf x).getLast? = some y ∧ wholeOf x = decide (y = "") := by
  have h : linesOf x ≠ [] := fun e => by
    have := split_ne x 10
    rw [show Txt.split x ⟨#[10]⟩ = [] from e] at this
    exact this rfl
  exact ⟨_, List.getLast?_eq_some_getLast h, by unfold wholeOf; rw [List.getLast?_eq_some_getLast h]; simp⟩
theorem c_rows_from (x : Str) (w : List Cell) (h : x.length + 2 ≤ sizeLine) : callS m_rows_from [.str x] w = .ok (.tup [.lst ((rowsOf x).map strsD), .bl (wholeOf x)]) w := callS_ok' (w' := []) rfl rfl (by
  unfold m_rows_from
  have s1 : splitN (.str x) [.str "\n"] [] = some (strsD (linesOf x), ([] : List Cell)) := by rw [nl_eq]; exact split_1 10 h
  obtain ⟨y, hy, hw⟩ := lines_last x
  have hl : atI ((linesOf x).map D.str) (-1) = some (.str y) := by rw [atI_last, List.getLast?_map, hy]; rfl
  have comp : ∀ (ls : List Str) (a : Bool) (A : Den) (r : DEnv), r = [some (.str x), some (strsD (linesOf x)), some (.bl a), none] → A r [] = .ok (strsD ls) [] → (∀ l ∈ ls, l ∈ linesOf x) → ls.length ≤ sizeLine →
      eComp (iSeq A) (bName 3) tYesD (eMeth "str" splitN (eVar 3) (aCons (eC (.str " ")) aNil)) [3] r [] = .ok (.lst ((ls.map fun l => Txt.split l ⟨#[32]⟩).map strsD)) [] := by
    rintro ls a A r rfl hA hs hz
    have hi : items (strsD ls) [] = some (ls.map D.str) := rfl
    rw [comp_map (f := fun d => match d with | .str l => strsD (Txt.split l ⟨#[32]⟩) | _ => .non) (iSeq_ok hA hi) (seqTF_ok hi) ?_ (by simpa using hz), List.map_map, List.map_map]
    · rfl
    · intro d hd
      obtain ⟨l, hl, rfl⟩ := List.mem_map.mp hd
      refine ⟨_, rfl, ?_⟩
      have := part_short (hs l hl)
      have s2 : splitN (.str l) [.str " "] [] = some (strsD (Txt.split l ⟨#[32]⟩), ([] : List Cell)) := by rw [sp_eq]; exact split_1 32 (by omega)
      simp [wipeD, s2]
  have hz : (linesOf x).length ≤ sizeLine := by
    have := split_le x ⟨#[10]⟩
    exact Nat.le_trans this h
  by_cases e : y = ""
  · have hw' : wholeOf x = true := by rw [hw]; simpa using e
    have hc := comp (linesOf x).dropLast true (eIf (tVal (eVar 2)) (eSlice (eVar 1) oNone (oSome (eNeg (eC (.int 1))))) (eVar 1)) _ rfl (by simp [strsD, cut_last, List.map_dropLast]) (fun l hl => List.dropLast_subset _ hl) (by simp; omega)
    have hr : rowsOf x = (linesOf x).dropLast.map fun l => Txt.split l ⟨#[32]⟩ := by unfold rowsOf; rw [if_pos hw']
    rw [hr, hw']
    simp [x_runB, x_seq, s1]
    simp only [strsD, v_ix_lst, hl, Out.of_some, Out.bnd_ok, v_eq_str, e, decide_true] at hc ⊢
    simp
    rw [hc]
    simp
  · have hw' : wholeOf x = false := by rw [hw]; simpa using e
    have hc := comp (linesOf x) false (eIf (tVal (eVar 2)) (eSlice (eVar 1) oNone (oSome (eNeg (eC (.int 1))))) (eVar 1)) _ rfl (by simp [strsD]) (fun l hl => hl) hz
    have hr : rowsOf x = (linesOf x).map fun l => Txt.split l ⟨#[32]⟩ := by unfold rowsOf; rw [if_neg (by rw [hw']; decide)]
    rw [hr, hw']
    simp [x_runB, x_seq, s1]
    simp only [strsD, v_ix_lst, hl, Out.of_some, Out.bnd_ok, v_eq_str] at hc ⊢
    simp [e]
    rw [hc]
    simp) (by simp [List.all_eq_true])
/-! ### numbers -/
def isDig (c : Nat) : Bool := decide (48 ≤ c) && decide (c ≤ 57)
theorem figs_in (c : Nat) : (!(Builtin.Str.occurrences ("0123456789" : Str) ⟨#[c]⟩ 0 ("0123456789" : Str).length 1).isEmpty) = isDig c := by
  rw [StrLaws.found_one]
  have : ("0123456789" : Str).cps.toList = [48,49,50,51,52,53,54,55,56,57] := by decide +kernel
  rw [this, isDig, ← Bool.decide_and]
  refine decide_eq_decide.mpr ?_
  simp only [List.mem_cons, List.not_mem_nil, or_false]
  omega
def countOf (x : Str) : Option Nat := if 0 < x.length ∧ x.length ≤ 40 ∧ (cs x)[0]? ≠ some 48 ∧ (cs x).all isDig = true then some (NumText.digitsVal (cs x)) else none
theorem c_count_from (x : Str) (w : List Cell) (h : x.length ≤ sizeLine) : callS m_count_from [.str x] w = .ok (oN (countOf x)) w := callS_ok' (w' := []) rfl rfl (by
  have hc : eComp (iSeq (eVar 0)) (bName 1) tYesD (eBin inD (eVar 1) (eC (.str "0123456789"))) [1] [some (.str x), none] [] = .ok (.lst ((cs x).map fun c => .bl (isDig c))) [] := by
    have hi : items (.str x) [] = some ((cs x).map fun c => D.str ⟨#[c]⟩) := rfl
    rw [comp_map (f := fun d => match d with | .str y => .bl (!(Builtin.Str.occurrences ("0123456789" : Str) y 0 ("0123456789" : Str).length 1).isEmpty) | _ => .non) (iSeq_ok rfl hi) (seqTF_ok hi) ?_ (by simpa [cs_len] using h), List.map_map]
    · simp only [Function.comp_def, figs_in]
    · intro d hd
      obtain ⟨c, _, rfl⟩ := List.mem_map.mp hd
      exact ⟨_, rfl, by simp [wipeD]⟩
  unfold m_count_from countOf
  by_cases h0 : 0 < x.length
  · by_cases h8 : (x.length : Int) ≤ 40
    · have h8' : x.length ≤ 40 := by omega
      obtain ⟨c, hcs⟩ : ∃ c, (cs x)[0]? = some c := ⟨(cs x)[0]'h0, List.getElem?_eq_getElem h0⟩
      have hix : atI x.cps.toList 0 = some c := by rw [atI_0]; exact hcs
      by_cases hd : c = 48
      · subst hd
        simp [x_runB, x_seq, h, h0, h8, hcs, hc]
        simp [hcs, cs] at hcs ⊢
        simp [hcs, zero_eq]
      · have hne : ¬ ((⟨#[c]⟩ : Str) = "0") := by
          rw [zero_eq]; intro q; injection q with q; simp at q; exact hd q
        by_cases ha : (cs x).all isDig = true
        · have hit : PySem.intText? x = some ((NumText.digitsVal (cs x) : Nat) : Int) := PySem.intText_digits (fun d hdm => by
            have := List.all_eq_true.mp ha d hdm
            simpa [isDig] using this) (fun q => by
              have : (cs x).length = 0 := by rw [show cs x = [] from q]; rfl
              rw [← cs_len] at this; omega) (by omega)
          have h640 : x.length ≤ 640 := by omega
          simp only [hcs, ha]
          simp [x_runB, x_seq, h, h0, h8, h8', hc, hit, h640, hd, ha]
          have e0 : x.cps[0]? = some c := by simpa [cs] using hcs
          simp [e0, hne, hc, ha, hit, h640]
        · have e0 : x.cps[0]? = some c := by simpa [cs] using hcs
          simp only [hcs]
          simp [x_runB, x_seq, h, h0, h8, h8', hc, hd, ha]
          simp [e0, hne, hc, ha]
    · have h8' : ¬ x.length ≤ 40 := by omega
      simp [x_runB, x_seq, h, h0, h8, h8']
  · simp [x_runB, x_seq, h, h0]) (by cases countOf x <;> rfl)
end Dn
/-! L5: letters read. -/
namespace Dn
open PySem PySem.Spec PyProof.Rows L2
def nameOf (c : Str) : Option Str := if c = "-" then none else some c
def letterOf (ws : List Str) : Option Letter := match ws with
  | [a, b, c] => if c ≠ "-" ∧ isName c = false then none else match countOf a, countOf b with
    | some k, some s => some ⟨(k : Nat), (s : Nat), nameOf c⟩
    | _, _ => none
  | _ => none
def oL : Option Letter → D
  | none => .non
  | some l => l.d
@[simp] theorem oL_none : oL none = .non := rfl
@[simp] theorem oL_some (l : Letter) : oL (some l) = l.d := rfl
theorem c_letter_from (ws : List Str) (w : List Cell) (h : ∀ x ∈ ws, x.length ≤ sizeLine) : callS m_letter_from [strsD ws] w = .ok (oL (letterOf ws)) w := callS_ok' (w' := []) (by simp [celsOf, strsD]) (by simp [ncArgs, strsD]) (by
  unfold m_letter_from
  rcases ws with _ | ⟨a, _ | ⟨b, _ | ⟨c, _ | ⟨d, r⟩⟩⟩⟩
  · simp [x_runB, x_seq, strsD, letterOf]
  · simp [x_runB, x_seq, strsD, letterOf]
  · simp [x_runB, x_seq, strsD, letterOf]
  · have h1 := c_count_from a [] (h a (by simp))
    have h2 := c_count_from b [] (h b (by simp))
    have h3 := c_is_name c [] (h c (by simp))
    unfold letterOf
    by_cases e : c = "-"
    · cases q1 : countOf a <;> cases q2 : countOf b <;> rw [q1] at h1 <;> rw [q2] at h2 <;> simp [x_runB, x_seq, strsD, h1, h2, e, q1, q2, nameOf, Letter.d]
    · cases q3 : isName c with
      | false => simp [x_runB, x_seq, strsD, h3, q3, e]
      | true => cases q1 : countOf a <;> cases q2 : countOf b <;> rw [q1] at h1 <;> rw [q2] at h2 <;> simp [x_runB, x_seq, strsD, h1, h2, h3, q1, q2, q3, e, nameOf, Letter.d]
  · simp [x_runB, x_seq, strsD, letterOf]
    have : ¬ ((r.length : Int) + 1 + 1 + 1 + 1 = 3) := by omega
    simp [this]) (by cases letterOf ws <;> simp)
/-! ### a word for each number, and back -/
def numT (n : Nat) : List Nat := (Nat.toDigits 10 n).map Char.toNat
theorem cs_num (n : Nat) : cs (toString ((n : Nat) : Int)) = numT n := PySem.W.KIN.signs_num n
theorem numT_dig (n : Nat) : ∀ c ∈ numT n, isDig c = true := by
  intro c hc
  obtain ⟨ch, hch, rfl⟩ := List.mem_map.mp hc
  have r := PyProof.Rows.digit_range (Nat.isDigit_of_mem_toDigits (by decide) (by decide) hch)
  simp [isDig, r]
theorem numT_val (n : Nat) : NumText.digitsVal (numT n) = n := PySem.W.KIN.val_back n
theorem numT_step (n : Nat) (h : 10 ≤ n) : numT n = numT (n / 10) ++ [48 + n % 10] := by
  unfold numT
  have hm : n % 10 < 10 := Nat.mod_lt n (by decide)
  have t : Nat.toDigits 10 (n / 10) ++ Nat.toDigits 10 (n % 10) = Nat.toDigits 10 (10 * (n / 10) + n % 10) := Nat.toDigits_append_toDigits (by decide) (by omega) hm
  rw [Nat.div_add_mod] at t
  rw [← t, List.map_append, Nat.toDigits_of_lt_base hm]
  congr 1
  have : ∀ d : Nat, d < 10 → [(Nat.digitChar d)].map Char.toNat = [48 + d] := by decide
  exact this _ hm
theorem numT_small (n : Nat) (h : n < 10) : numT n = [48 + n] := by
  unfold numT
  rw [Nat.toDigits_of_lt_base h]
  have : ∀ d : Nat, d < 10 → [(Nat.digitChar d)].map Char.toNat = [48 + d] := by decide
  exact this _ h
theorem numT_head : ∀ (n : Nat), 1 ≤ n → ∃ c, (numT n)[0]? = some c ∧ c ≠ 48 := by
  intro n
  induction n using Nat.strongRecOn with
  | _ n ih =>
    intro h
    by_cases hs : n < 10
    · exact ⟨48 + n, by rw [numT_small n hs]; rfl, by omega⟩
    · obtain ⟨c, h1, h2⟩ := ih (n / 10) (by omega) (by omega)
      refine ⟨c, ?_, h2⟩
      rw [numT_step n (by omega), List.getElem?_append_left (List.getElem?_eq_some_iff.mp h1).1]
      exact h1
theorem numT_len : ∀ (k n : Nat), n < 10 ^ k → 1 ≤ k → (numT n).length ≤ k
  | 0, n, h, h1 => by omega
  | 1, n, h, h1 => by rw [numT_small n (by simpa using h)]; simp
  | k + 2, n, h, h1 => by
    by_cases hs : n < 10
    · rw [numT_small n hs]; simp
    · have ih := numT_len (k + 1) (n / 10) (by rw [Nat.div_lt_iff_lt_mul (by decide)]; rw [Nat.pow_succ] at h; exact h) (by omega)
      rw [numT_step n (by omega), List.length_append]
      simp
      omega
theorem numT_ne (n : Nat) : numT n ≠ [] := by
  by_cases hs : n < 10
  · rw [numT_small n hs]; simp
  · rw [numT_step n (by omega)]; simp
/-- a right number as text is read as it was -/
theorem countOf_num {n : Nat} (h1 : 1 ≤ n) (h2 : n < 10 ^ 40) : countOf (toString ((n : Nat) : Int)) = some n := by
  unfold countOf
  have hl : (toString ((n : Nat) : Int) : Str).length = (numT n).length := by rw [cs_len, cs_num]
  obtain ⟨c, hc, hc2⟩ := numT_head n h1
  rw [if_pos, cs_num, numT_val]
  refine ⟨?_, ?_, ?_, ?_⟩
  · rw [hl]; exact List.length_pos_iff.mpr (numT_ne n)
  · rw [hl]; exact numT_len 40 n h2 (by decide)
  · rw [cs_num, hc]; simpa using hc2
  · rw [cs_num]; exact List.all_eq_true.mpr (numT_dig n)
end Dn
/-! L6: lists of words compared; plays read. -/
namespace Dn
open PySem PySem.Spec PyProof.Rows L2
def okStr (x : Str) : Bool := PyData.strOk x
theorem toPys_strs (ws : List Str) : toPys (ws.map .str) = some (ws.map .str) := by
  induction ws with
  | nil => simp [toPys]
  | cons x ws ih => simp [toPys, toPy, ih]
theorem eqvAll_strs : ∀ a b : List Str, PyData.eqvAll (a.map .str) (b.map .str) = decide (a = b)
  | [], [] => by simp [PyData.eqvAll]
  | [], y :: b => by simp [PyData.eqvAll]
  | x :: a, [] => by simp [PyData.eqvAll]
  | x :: a, y :: b => by
    simp only [List.map_cons, PyData.eqvAll, PyData.eqv, eqvAll_strs a b, List.cons.injEq, Bool.decide_and]
    rfl
theorem lay_strs {ws : List Str} (h : ∀ x ∈ ws, PyData.strOk x = true) : PyData.canLayAll0 (ws.map .str) = true := by
  induction ws with
  | nil => simp [PyData.canLayAll0]
  | cons x ws ih => simp [PyData.canLayAll0, PyData.canLay0, h x (by simp), ih fun y hy => h y (by simp [hy])]
theorem depth_strs (ws : List Str) : PyData.depthAll (ws.map .str) = 0 := by
  induction ws with
  | nil => simp [PyData.depthAll]
  | cons x ws ih => simp [PyData.depthAll, PyData.depth, ih]
theorem shaped_strs {ws : List Str} (h : ∀ x ∈ ws, PyData.strOk x = true) : SeqAt.shaped (.list (ws.map .str)) = true := by
  simp [SeqAt.shaped, PyData.canLay0, lay_strs h, PyData.depth, depth_strs]
theorem eq_strsD {a b : List Str} {w : List Cell} (ha : ∀ x ∈ a, PyData.strOk x = true) (hb : ∀ x ∈ b, PyData.strOk x = true) : eqD (strsD a) (strsD b) w = some (.bl (decide (a = b))) := by
  simp [eqD, eqB, strsD, scalD, toPyW, toPy, toPys_strs, shaped_strs ha, shaped_strs hb, PyData.eqv, eqvAll_strs]
end Dn
/-! L7: lines of right rows, read. -/
namespace Dn
open PySem PySem.Spec PyProof.Rows L2
/-- a part that stands as a word -/
structure Word (d : D) : Prop where
  ok : okPart d
  no10 : 10 ∉ cs (partT d)
  no32 : 32 ∉ cs (partT d)
  str : PyData.strOk (partT d) = true
  len : (partT d).length ≤ 40
theorem glue_snoc (c : Nat) : ∀ l : List (List Nat), glue [c] (l ++ [[]]) = (l.map (· ++ [c])).flatten
  | [] => rfl
  | [x] => by simp [glue]
  | x :: y :: r => by
    have ih := glue_snoc c (y :: r)
    rw [List.cons_append, List.cons_append, glue, ← List.cons_append, ih]
    simp
theorem cs_nl : cs "\n" = [10] := by rw [nl_eq]; rfl
theorem cs_sp : cs " " = [32] := by rw [sp_eq]; rfl
theorem cs_empty : cs "" = [] := by rw [empty_eq]; rfl
theorem cs_lineT (r : List D) : cs (lineT r) = cs (bodyT r) ++ [10] := by unfold lineT; rw [cs_append, cs_nl]
theorem cs_linesT (rows : List (List D)) : cs (linesT rows) = (rows.map fun r => cs (bodyT r) ++ [10]).flatten := by
  unfold linesT
  rw [cs_join, cs_empty, glue_nil_sep, List.map_map]
  congr 1
  exact List.map_congr_left fun r _ => cs_lineT r
theorem glue_no {c s : Nat} (hcs : c ≠ s) : ∀ {l : List (List Nat)}, (∀ x ∈ l, c ∉ x) → c ∉ glue [s] l
  | [], _ => by simp [glue]
  | [x], h => by simpa [glue] using h x (by simp)
  | x :: y :: r, h => by
    have ih := glue_no hcs (l := y :: r) fun z hz => h z (by simp [hz])
    simp only [glue, List.mem_append, List.mem_singleton, not_or]
    exact ⟨⟨h x (by simp), hcs⟩, ih⟩
theorem cs_bodyT (r : List D) : cs (bodyT r) = glue [32] ((r.map partT).map cs) := by unfold bodyT; rw [cs_join, cs_sp]
theorem body_no10 {r : List D} (h : ∀ d ∈ r, Word d) : 10 ∉ cs (bodyT r) := by
  rw [cs_bodyT]
  refine glue_no (by decide) fun x hx => ?_
  obtain ⟨y, hy, rfl⟩ := List.mem_map.mp hx
  obtain ⟨d, hd, rfl⟩ := List.mem_map.mp hy
  exact (h d hd).no10
theorem cs_map_inj {a b : List Str} (h : a.map cs = b.map cs) : a = b := by
  induction a generalizing b with
  | nil => cases b with
    | nil => rfl
    | cons y b => simp at h
  | cons x a ih =>
    cases b with
    | nil => simp at h
    | cons y b =>
      simp only [List.map_cons, List.cons.injEq] at h
      rw [cs_inj h.1, ih h.2]
theorem split_body {r : List D} (h : ∀ d ∈ r, Word d) (h0 : r ≠ []) : Txt.split (bodyT r) ⟨#[32]⟩ = r.map partT := by
  refine cs_map_inj (split_eq (by simpa using h0) (fun p hp => ?_) (cs_bodyT r).symm)
  obtain ⟨y, hy, rfl⟩ := List.mem_map.mp hp
  obtain ⟨d, hd, rfl⟩ := List.mem_map.mp hy
  exact (h d hd).no32
theorem lines_lines {rows : List (List D)} (h : ∀ r ∈ rows, ∀ d ∈ r, Word d) : linesOf (linesT rows) = rows.map bodyT ++ [("" : Str)] := by
  refine cs_map_inj ?_
  unfold linesOf
  refine split_eq (by simp) (fun p hp => ?_) ?_
  · simp only [List.map_append, List.map_map, List.mem_append, List.mem_map, List.map_cons, List.map_nil, List.mem_singleton, cs_empty] at hp
    rcases hp with ⟨r, hr, rfl⟩ | rfl
    · exact body_no10 (h r hr)
    · simp
  · rw [cs_linesT, List.map_append, List.map_cons, List.map_nil, cs_empty, glue_snoc, List.map_map, List.map_map]
    rfl
theorem whole_lines {rows : List (List D)} (h : ∀ r ∈ rows, ∀ d ∈ r, Word d) : wholeOf (linesT rows) = true := by
  unfold wholeOf
  rw [lines_lines h]
  simp
theorem rows_lines {rows : List (List D)} (h : ∀ r ∈ rows, ∀ d ∈ r, Word d) (h0 : ∀ r ∈ rows, r ≠ []) : rowsOf (linesT rows) = rows.map fun r => r.map partT := by
  unfold rowsOf
  rw [if_pos (whole_lines h), lines_lines h, List.dropLast_concat, List.map_map]
  exact List.map_congr_left fun r hr => split_body (h r hr) (h0 r hr)
theorem fits_words {r : List D} (h : ∀ d ∈ r, Word d) (hl : r.length ≤ 90) : Fits r := by
  refine ⟨fun d hd => (h d hd).ok, ?_⟩
  have := sum_le (l := r.map partT) (n := 40) fun x hx => by
    obtain ⟨d, hd, rfl⟩ := List.mem_map.mp hx
    exact (h d hd).len
  rw [List.length_map] at this
  omega
theorem linesT_len {rows : List (List D)} (h : ∀ r ∈ rows, Fits r) (hl : rows.length ≤ 1000) : (linesT rows).length + 2 ≤ sizeLine := by
  have e : (linesT rows).length = (rows.map fun r => (lineT r).length).sum := by
    rw [cs_len, cs_linesT, List.length_flatten, List.map_map]
    congr 1
    refine List.map_congr_left fun r _ => ?_
    rw [cs_len, cs_lineT]; rfl
  have := sum_le (l := rows.map lineT) (n := 4001) fun x hx => by
    obtain ⟨r, hr, rfl⟩ := List.mem_map.mp hx
    exact lineT_len (h r hr)
  rw [List.map_map, List.length_map] at this
  rw [e]
  refine small_le ?_
  have e2 : (rows.map ((fun x : Str => x.length) ∘ lineT)).sum = (rows.map fun r => (lineT r).length).sum := rfl
  omega
/-! ### numbers and names are words -/
theorem strOk_of {x : Str} (h : ∀ c ∈ cs x, c < 200) : PyData.strOk x = true := by
  unfold PyData.strOk
  rw [← Array.all_toList, List.all_eq_true]
  intro c hc
  have := h c hc
  simp; omega
theorem dig_lt {c : Nat} (h : isDig c = true) : 48 ≤ c ∧ c ≤ 57 := by simpa [isDig] using h
theorem az_lt {c : Nat} (h : inAZ c = true) : 97 ≤ c ∧ c ≤ 122 := by simpa [inAZ] using h
theorem log2_lt {n : Nat} (h : n < 10 ^ 40) : n.log2 < 1920 := by
  by_cases h0 : n = 0
  · subst h0; decide
  · refine (Nat.log2_lt h0).mpr (Nat.lt_of_lt_of_le h ?_)
    have : (10 ^ 40 : Nat) ≤ 2 ^ 140 := by decide
    exact Nat.le_trans this (Nat.pow_le_pow_right (by decide) (by decide))
theorem word_num {n : Nat} (h : n < 10 ^ 40) : Word (.int (n : Nat)) := by
  have e : cs (partT (.int (n : Nat))) = numT n := cs_num n
  refine ⟨?_, ?_, ?_, ?_, ?_⟩
  · show ((n : Nat) : Int).natAbs.log2 < 1920
    rw [Int.natAbs_natCast]; exact log2_lt h
  · rw [e]; exact fun q => by have := dig_lt (numT_dig n 10 q); omega
  · rw [e]; exact fun q => by have := dig_lt (numT_dig n 32 q); omega
  · refine strOk_of fun c hc => ?_
    rw [e] at hc
    have := dig_lt (numT_dig n c hc); omega
  · rw [cs_len, e]; exact numT_len 40 n h (by decide)
theorem isName_cs {x : Str} (h : isName x = true) : 0 < x.length ∧ x.length ≤ 8 ∧ ∀ c ∈ cs x, inAZ c = true := by
  unfold isName at h
  simp only [Bool.and_eq_true, decide_eq_true_eq, List.all_eq_true] at h
  exact ⟨h.1, h.2.1, h.2.2⟩
theorem word_name {x : Str} (h : isName x = true) : Word (.str x) := by
  obtain ⟨h1, h2, h3⟩ := isName_cs h
  refine ⟨trivial, ?_, ?_, ?_, ?_⟩
  · exact fun q => by have := az_lt (h3 10 q); omega
  · exact fun q => by have := az_lt (h3 32 q); omega
  · exact strOk_of fun c hc => by have := az_lt (h3 c hc); omega
  · show x.length ≤ 40; omega
theorem word_non : Word .non := by
  have e : cs (partT .non) = [45] := by show cs "-" = _; rw [dash_eq]; rfl
  refine ⟨trivial, by rw [e]; simp, by rw [e]; simp, strOk_of (by rw [e]; simp), by rw [cs_len, e]; simp⟩
theorem comes_name : isName "comes" = true := by decide +kernel
theorem name_no_dash {x : Str} (h : isName x = true) : x ≠ "-" := by
  rintro rfl
  revert h
  decide +kernel
end Dn
/-! L8: plays written and read. -/
namespace Dn
open PySem PySem.Spec PyProof.Rows L2
/-- letters as they stand in a list -/
def Ld (ls : List Letter) : List D := ls.map Letter.d
@[simp] theorem Ld_len (ls : List Letter) : (Ld ls).length = ls.length := by simp [Ld]
@[simp] theorem Ld_nil : Ld [] = [] := rfl
@[simp] theorem ncs_Ld (ls : List Letter) : ncs (Ld ls) = true := by simp [Ld]
def numS (n : Nat) : Str := Str.ofString (toString (n : Int))
theorem partT_num (n : Nat) : partT (.int (n : Nat)) = numS n := rfl
theorem countOf_numS {n : Nat} (h1 : 1 ≤ n) (h2 : n < 10 ^ 40) : countOf (numS n) = some n := countOf_num h1 h2
def rowL (l : Letter) : List D := [.int l.key, .int l.stamp, oD l.name]
theorem letter_d (l : Letter) : l.d = .tup (rowL l) := rfl
def rowC (l : Letter) : List D := [.int l.stamp]
def playRows (log com : List Letter) : List (List D) := log.map rowL ++ [[D.str "comes"]] ++ com.map rowC
def playT (log com : List Letter) : Str := linesT (playRows log com)
structure GoodL (l : Letter) : Prop where
  key : ∃ k : Nat, l.key = (k : Nat) ∧ 1 ≤ k ∧ k < 10 ^ 40
  stamp : ∃ k : Nat, l.stamp = (k : Nat) ∧ 1 ≤ k ∧ k < 10 ^ 40
  name : okName l.name = true
theorem GoodL.words {l : Letter} (h : GoodL l) : ∀ d ∈ rowL l, Word d := by
  obtain ⟨⟨k, hk, k1, k2⟩, ⟨s, hs, s1, s2⟩, hn⟩ := h
  intro d hd
  simp only [rowL, List.mem_cons, List.not_mem_nil, or_false] at hd
  rcases hd with rfl | rfl | rfl
  · rw [hk]; exact word_num k2
  · rw [hs]; exact word_num s2
  · cases q : l.name with
    | none => exact word_non
    | some x => rw [q] at hn; exact word_name hn
theorem GoodL.wordC {l : Letter} (h : GoodL l) : ∀ d ∈ rowC l, Word d := fun d hd => h.words d (by simp only [rowC, rowL, List.mem_cons, List.not_mem_nil, or_false] at hd ⊢; exact .inr (.inl hd))
theorem GoodL.short {l : Letter} (h : GoodL l) : shortN l.name := fun x hx => by
  have hn := h.name
  rw [hx] at hn
  exact small_le (by have := (isName_cs hn).2.1; omega)
theorem GoodL.letter {l : Letter} (h : GoodL l) : isLetter l = true := by
  obtain ⟨⟨k, hk, k1, k2⟩, ⟨s, hs, s1, s2⟩, hn⟩ := h
  unfold isLetter
  rw [hk, hs, hn]
  simp; omega
theorem letterOf_good {l : Letter} (h : GoodL l) : letterOf ((rowL l).map partT) = some l := by
  obtain ⟨⟨k, hk, k1, k2⟩, ⟨s, hs, s1, s2⟩, hn⟩ := h
  obtain ⟨key, stamp, name⟩ := l
  simp only at hk hs hn
  subst hk hs
  have e1 : partT (.int (k : Nat)) = toString ((k : Nat) : Int) := rfl
  have e2 : partT (.int (s : Nat)) = toString ((s : Nat) : Int) := rfl
  simp only [rowL, List.map_cons, List.map_nil, letterOf, e1, e2, countOf_num k1 k2, countOf_num s1 s2]
  cases name with
  | none => simp [partT, nameOf]
  | some x =>
    have e3 : partT (oD (some x)) = x := rfl
    have hn' : isName x = true := hn
    rw [e3, if_neg (by rw [hn']; simp)]
    unfold nameOf
    rw [if_neg (name_no_dash hn')]
structure PlayOk (log com : List Letter) : Prop where
  lets : ∀ l ∈ log, GoodL l
  pre : ∀ i, wrongLog (log.take i) = none
  coms : ∀ l ∈ com, ∃ j, log[j]? = some l ∧ l.stamp = ((j + 1 : Nat) : Int)
  n1 : log.length ≤ 400
  n2 : com.length ≤ 400
section
variable {log com : List Letter}
theorem PlayOk.comG (h : PlayOk log com) : ∀ l ∈ com, GoodL l := fun l hl => by
  obtain ⟨j, hj, _⟩ := h.coms l hl
  exact h.lets l (List.mem_of_getElem? hj)
theorem PlayOk.words (h : PlayOk log com) : ∀ r ∈ playRows log com, ∀ d ∈ r, Word d := by
  intro r hr
  simp only [playRows, List.mem_append, List.mem_map, List.mem_singleton] at hr
  rcases hr with (⟨l, hl, rfl⟩ | rfl) | ⟨l, hl, rfl⟩
  · exact (h.lets l hl).words
  · intro d hd
    simp at hd
    subst hd
    exact word_name comes_name
  · exact (h.comG l hl).wordC
theorem PlayOk.ne (h : PlayOk log com) : ∀ r ∈ playRows log com, r ≠ [] := by
  intro r hr
  simp only [playRows, List.mem_append, List.mem_map, List.mem_singleton] at hr
  rcases hr with (⟨l, hl, rfl⟩ | rfl) | ⟨l, hl, rfl⟩ <;> simp [rowL, rowC]
theorem PlayOk.fits (h : PlayOk log com) : ∀ r ∈ playRows log com, Fits r := fun r hr => fits_words (h.words r hr) (by
  simp only [playRows, List.mem_append, List.mem_map, List.mem_singleton] at hr
  rcases hr with (⟨l, hl, rfl⟩ | rfl) | ⟨l, hl, rfl⟩ <;> simp [rowL, rowC])
theorem PlayOk.len (h : PlayOk log com) : (playRows log com).length ≤ 1000 := by
  have := h.n1; have := h.n2
  simp [playRows]; omega
theorem PlayOk.tlen (h : PlayOk log com) : (playT log com).length + 2 ≤ sizeLine := linesT_len h.fits h.len
end
section
variable {w0 : List Cell} {a b c : Cell}
@[simp] theorem at0 : (w0 ++ [a])[w0.length]? = some a := by simp
@[simp] theorem at1 : (w0 ++ [a, b])[w0.length]? = some a := by simp
@[simp] theorem at2 : (w0 ++ [a, b])[w0.length + 1]? = some b := by simp [List.getElem?_append_right]
@[simp] theorem set0 : (w0 ++ [a]).set w0.length c = w0 ++ [c] := by simp
@[simp] theorem set1 : (w0 ++ [a, b]).set w0.length c = w0 ++ [c, b] := by simp
@[simp] theorem set2 : (w0 ++ [a, b]).set (w0.length + 1) c = w0 ++ [a, c] := by simp [List.set_append_right]
end
theorem row_at {log com : List Letter} {i : Nat} {r : List D} (h : (playRows log com)[i]? = some r) : (∃ l, i < log.length ∧ log[i]? = some l ∧ r = rowL l) ∨ (i = log.length ∧ r = [D.str "comes"]) ∨ (∃ l, log.length < i ∧ com[i - log.length - 1]? = some l ∧ r = rowC l) := by
  unfold playRows at h
  by_cases h1 : i < log.length
  · rw [List.append_assoc, List.getElem?_append_left (by simpa using h1), List.getElem?_map] at h
    obtain ⟨l, hl, rfl⟩ := Option.map_eq_some_iff.mp h
    exact .inl ⟨l, h1, hl, rfl⟩
  · rw [List.append_assoc, List.getElem?_append_right (by simpa using h1), List.length_map] at h
    by_cases h2 : i = log.length
    · subst h2
      simp at h
      exact .inr (.inl ⟨rfl, h.symm⟩)
    · obtain ⟨j, hj⟩ : ∃ j, i - log.length = j + 1 := ⟨i - log.length - 1, by omega⟩
      rw [hj] at h
      simp only [List.singleton_append, List.getElem?_cons_succ, List.getElem?_map] at h
      obtain ⟨l, hl, rfl⟩ := Option.map_eq_some_iff.mp h
      exact .inr (.inr ⟨l, by omega, by rw [show i - log.length - 1 = j by omega]; exact hl, rfl⟩)
theorem c_wrong_in_log' (ls : List Letter) (w : List Cell) (h : ∀ l ∈ ls, shortN l.name) (hz : ls.length < sizeLine) : callS m_wrong_in_log [.lst (Ld ls)] w = .ok (oN (wrongLog ls)) w := c_wrong_in_log ls w h hz
theorem take_snoc {α : Type} {xs : List α} {i : Nat} {x : α} (h : xs[i]? = some x) : xs.take i ++ [x] = xs.take (i + 1) := by
  obtain ⟨hi, rfl⟩ := List.getElem?_eq_some_iff.mp h
  rw [List.take_succ_eq_append_getElem hi]
theorem s_read_play {log com : List Letter} (h : PlayOk log com) (w0 : List Cell) :
    (m_read_play [.str (playT log com)] w0).sat (fun d w => d = .tup [.cel w0.length, .cel (w0.length + 1)] ∧ w = w0 ++ [.lst (Ld log), .lst (Ld com)]) noX := by
  unfold m_read_play
  have h1 := c_rows_from (playT log com) w0 h.tlen
  have hro : rowsOf (playT log com) = (playRows log com).map fun r => r.map partT := rows_lines h.words h.ne
  have hwh : wholeOf (playT log com) = true := whole_lines h.words
  rw [hro, hwh, List.map_map] at h1
  have hn1 := h.n1
  have hn2 := h.n2
  rw [sat_runB, sat_seq]
  simp [h1]
  rw [sat_seq]
  simp
  rw [sat_seq]
  refine sFor_sat (xs := enumItems ((playRows log com).map (strsD ∘ fun r => r.map partT))) (I := fun i r w => ∃ X R a b c d, (i ≤ log.length ∧ w = w0 ++ [.lst (Ld (log.take i))] ∧ r = [X, R, some (.bl true), some (.cel w0.length), some .non, a, b, c, d]) ∨
      (log.length < i ∧ w = w0 ++ [.lst (Ld log), .lst (Ld (com.take (i - log.length - 1)))] ∧ r = [X, R, some (.bl true), some (.cel w0.length), some (.cel (w0.length + 1)), a, b, c, d]))
    (enum_ok (d := .lst ((playRows log com).map (strsD ∘ fun r => r.map partT))) (by simp) rfl) ⟨_, _, _, _, _, _, .inl ⟨by simp, by simp, rfl⟩⟩ (fun i r w _ _ => enumTF_ok rfl i) ?_ ?_
  · rintro i x r w hx ⟨X, R, a, b, c, d, hI⟩
    obtain ⟨y, hy, rfl⟩ := enumItems_get hx
    rw [List.getElem?_map] at hy
    obtain ⟨row, hrow, rfl⟩ := Option.map_eq_some_iff.mp hy
    have hmem := List.mem_of_getElem? hrow
    have hwd := h.words row hmem
    have hok : ∀ x ∈ row.map partT, PyData.strOk x = true := fun x hx => by
      obtain ⟨d, hd, rfl⟩ := List.mem_map.mp hx
      exact (hwd d hd).str
    have hsh : ∀ x ∈ row.map partT, x.length ≤ sizeLine := fun x hx => by
      obtain ⟨d, hd, rfl⟩ := List.mem_map.mp hx
      have := (hwd d hd).len
      exact small_le (by omega)
    have heq : ∀ w, eqD (strsD (row.map partT)) (.lst [.str "comes"]) w = some (.bl (decide (row.map partT = [("comes" : Str)]))) := fun w => eq_strsD (b := [("comes" : Str)]) hok (fun x hx => by simp at hx; subst hx; exact (word_name comes_name).str)
    rcases row_at hrow with ⟨l, hi, hl, rfl⟩ | ⟨hi, rfl⟩ | ⟨l, hi, hl, rfl⟩
    · -- a letter of the log
      obtain ⟨rfl, rfl⟩ : w = w0 ++ [.lst (Ld (log.take i))] ∧ r = [X, R, some (.bl true), some (.cel w0.length), some .non, a, b, c, d] := by
        rcases hI with ⟨_, h2, h3⟩ | ⟨h1, _, _⟩
        · exact ⟨h2, h3⟩
        · omega
      refine ⟨_, rfl, ?_⟩
      have hG := h.lets l (List.mem_of_getElem? hl)
      have hlf := fun w => c_letter_from ((rowL l).map partT) w hsh
      rw [letterOf_good hG] at hlf
      have hne : ¬ ((rowL l).map partT = [("comes" : Str)]) := by simp [rowL]
      have htk : Ld (log.take i) ++ [l.d] = Ld (log.take (i + 1)) := by rw [← take_snoc hl]; simp [Ld]
      have hwl := fun w => c_wrong_in_log' (log.take (i + 1)) w (fun m hm => (h.lets m (List.mem_of_mem_take hm)).short) (small1000 (by simp; omega))
      rw [h.pre] at hwl
      have hsz : i + 1 ≤ sizeLine := small_le (by omega)
      have hsz2 : i < sizeLine := hsz
      have hmin : min (i + 1) log.length = i + 1 := by omega
      have hi' : i + 1 ≤ log.length := hi
      simp only [Function.comp_def] at heq ⊢
      simp [heq, hne]
      rw [sat_seq]
      simp [hlf]
      rw [sat_seq]
      have q1 := (cel_lst (w := w0 ++ [Cell.lst (Ld (log.take i))]) at0).1
      have q2 := recv_cel (w := w0 ++ [Cell.lst (Ld (log.take i))]) at0
      have q3 := append_ok (w := w0 ++ [Cell.lst (Ld (log.take i))]) (y := l.d) at0 (by simp; omega)
      have e1 : isD l.d .non (w0 ++ [Cell.lst (Ld (log.take i))]) = some (.bl false) := rfl
      simp [q1, e1, hmin, hsz, htk, hwl]
      simp [q2, q3, htk, hi']
    · -- the word
      obtain ⟨rfl, rfl⟩ : w = w0 ++ [.lst (Ld (log.take i))] ∧ r = [X, R, some (.bl true), some (.cel w0.length), some .non, a, b, c, d] := by
        rcases hI with ⟨_, h2, h3⟩ | ⟨h1, _, _⟩
        · exact ⟨h2, h3⟩
        · omega
      refine ⟨_, rfl, ?_⟩
      subst hi
      have he : ([D.str "comes"].map partT = [("comes" : Str)]) := rfl
      simp only [Function.comp_def] at heq ⊢
      simp only [he, decide_true] at heq
      simp only [he]
      simp [heq]
    · -- a coming
      obtain ⟨rfl, rfl⟩ : w = w0 ++ [.lst (Ld log), .lst (Ld (com.take (i - log.length - 1)))] ∧ r = [X, R, some (.bl true), some (.cel w0.length), some (.cel (w0.length + 1)), a, b, c, d] := by
        rcases hI with ⟨h1, _, _⟩ | ⟨_, h2, h3⟩
        · omega
        · exact ⟨h2, h3⟩
      refine ⟨_, rfl, ?_⟩
      obtain ⟨j, hj, hst⟩ := h.coms l (List.mem_of_getElem? hl)
      have hj2 := (List.getElem?_eq_some_iff.mp hj).1
      have htk : Ld (com.take (i - log.length - 1)) ++ [l.d] = Ld (com.take (i + 1 - log.length - 1)) := by rw [show i + 1 - log.length - 1 = (i - log.length - 1) + 1 by omega, ← take_snoc hl]; simp [Ld]
      have hw : (rowC l).map partT = [numS (j + 1)] := by simp only [rowC, hst]; rfl
      have hcf := fun w => c_count_from (numS (j + 1)) w (by have := hsh _ (by rw [hw]; exact List.mem_singleton.mpr rfl); exact this)
      rw [countOf_numS (by omega) (Nat.lt_of_le_of_lt (show j + 1 ≤ 400 by omega) (by decide))] at hcf
      simp only [oN_some] at hcf
      have hci := (List.getElem?_eq_some_iff.mp hl).1
      simp only [Function.comp_def, hw] at heq ⊢
      have hp : strsD [numS (j + 1)] = .lst [.str (numS (j + 1))] := rfl
      rw [hp]
      rw [sat_if]
      simp only [x_val, x_bin, x_var, x_c]
      simp
      rw [sat_seq]
      simp [hcf]
      rw [sat_seq]
      have q0 := len_cel (w := w0 ++ [Cell.lst (Ld log), Cell.lst (Ld (com.take (i - log.length - 1)))]) (n := w0.length) at1
      have q1 := ix_cel (w := w0 ++ [Cell.lst (Ld log), Cell.lst (Ld (com.take (i - log.length - 1)))]) (n := w0.length) at1 (j : Int)
      have q2 := recv_cel (w := w0 ++ [Cell.lst (Ld log), Cell.lst (Ld (com.take (i - log.length - 1)))]) (n := w0.length + 1) at2
      have q3 := append_ok (w := w0 ++ [Cell.lst (Ld log), Cell.lst (Ld (com.take (i - log.length - 1)))]) (n := w0.length + 1) (y := l.d) at2 (by simp; exact small1000 (by omega))
      have q4 : (Ld log)[j]? = some l.d := by unfold Ld; rw [List.getElem?_map, hj]; rfl
      rw [atI_nat, q4] at q1
      have hng : ¬ ((log.length : Int) < (j : Int) + 1) := by omega
      have hsub : (j : Int) + 1 - 1 = (j : Int) := by omega
      simp [q0, hng, hsub, q1, q2, q3, htk]
      omega
  · rintro r w ⟨X, R, a, b, c, d, hI⟩
    simp only [enumItems_len, List.length_map] at hI
    have e : (playRows log com).length = log.length + 1 + com.length := by simp [playRows]; omega
    rw [e] at hI
    obtain ⟨rfl, rfl⟩ : w = w0 ++ [.lst (Ld log), .lst (Ld com)] ∧ r = [X, R, some (.bl true), some (.cel w0.length), some (.cel (w0.length + 1)), a, b, c, d] := by
      rcases hI with ⟨h1, _, _⟩ | ⟨_, h2, h3⟩
      · omega
      · rw [show log.length + 1 + com.length - log.length - 1 = com.length by omega, List.take_length] at h2
        exact ⟨h2, h3⟩
    simp
    rw [sat_seq]
    simp
end Dn
/-! L9: plays written, by the program and by the law; twins. -/
namespace Dn
open PySem PySem.Spec PyProof.Rows L2
theorem ncs_play {log com : List Letter} : ∀ r ∈ playRows log com, ncs r = true := by
  intro r hr
  simp only [playRows, List.mem_append, List.mem_map, List.mem_singleton] at hr
  rcases hr with (⟨l, hl, rfl⟩ | rfl) | ⟨l, hl, rfl⟩ <;> simp [rowL, rowC]
theorem c_write_play {log com : List Letter} (h : PlayOk log com) (w : List Cell) : callS m_write_play [.lst (Ld log), .lst (Ld com)] w = .ok (.str (playT log com)) w := callS_ok' (w' := []) rfl (by simp [ncArgs]) (by
  unfold m_write_play
  have hn1 := h.n1
  have hn2 := h.n2
  have hc : eComp (iSeq (eVar 1)) (bName 2) tYesD (eTup (aCons (eBin ixD (eVar 2) (eC (.int 1))) aNil)) [2] [some (.lst (Ld log)), some (.lst (Ld com)), none] [] = .ok (.lst ((com.map rowC).map .tup)) [] := by
    have hi : items (.lst (Ld com)) [] = some (Ld com) := rfl
    rw [comp_map (f := fun d => match d with | .tup [_, s, _] => .tup [s] | _ => .non) (iSeq_ok rfl hi) (seqTF_ok hi) ?_ (by simp; exact small_le (by omega))]
    · unfold Ld; rw [List.map_map, List.map_map]; rfl
    · intro d hd
      obtain ⟨l, _, rfl⟩ := List.mem_map.mp hd
      exact ⟨_, rfl, by simp [wipeD, Letter.d]⟩
  have hl := c_lines_joined (playRows log com) [] h.fits ncs_play h.len
  have e : Ld log ++ (D.tup [.str "comes"] :: (com.map rowC).map .tup) = (playRows log com).map .tup := by
    unfold playRows Ld
    simp only [List.map_append, List.map_map, List.append_assoc, List.map_cons, List.map_nil, List.singleton_append]
    rfl
  have e2 : log.length + (com.length + 1) ≤ sizeLine := small_le (by omega)
  simp [x_runB, hc, e2]
  rw [List.map_map] at e
  rw [e, hl]
  rfl) rfl
/-! ### the law's text -/
theorem c_line_of (row : List D) (w : List Cell) (h : Fits row) (hn : ncs row = true) : callS m_law_line_of [.tup row] w = .ok (.str (lineT row)) w := callS_ok' (w' := []) (by simp [celsOf]) (by simp [ncArgs, hn]) (by
  unfold m_law_line_of
  have hi : items (.tup row) [] = some row := rfl
  have hin : eComp (iSeq (eVar 0)) (bName 1) tYesD (eIf (tVal (eBin isD (eVar 1) (eC .non))) (eC (.str "-")) (eCallB (one strD) (aCons (eVar 1) aNil))) [1] [some (.tup row), none] [] = .ok (.lst (row.map fun d => .str (partT d))) [] :=
    comp_map (iSeq_ok rfl hi) (seqTF_ok hi) (fun d hd => ⟨_, rfl, by
      have hk := h.ok d hd
      cases d <;> first | exact hk.elim | skip
      · simp [wipeD, partT]
      · have hk' : _ < 1920 := hk
        simp [wipeD, partT, hk']
      · simp [wipeD, partT]⟩) (row_short h)
  have hv := line_val (w := []) h
  simp [x_runB, hin]
  rw [hv]
  rfl) rfl
theorem line_comes : lineT [D.str "comes"] = "comes\n" := by
  refine cs_inj ?_
  rw [cs_lineT, cs_bodyT]
  show cs "comes" ++ [10] = cs "comes\n"
  decide +kernel
theorem c_play_text {log com : List Letter} (h : PlayOk log com) (w : List Cell) : callS m_law_play_text [.lst (Ld log), .lst (Ld com)] w = .ok (.str (playT log com)) w := callS_ok' (w' := []) rfl (by simp [ncArgs]) (by
  unfold m_law_play_text
  have hn1 := h.n1
  have hn2 := h.n2
  have hc1 : eComp (iSeq (eVar 0)) (bName 3) tYesD (eCallS 1 m_law_line_of [] (aCons (eVar 3) aNil)) [3] [some (.lst (Ld log)), some (.lst (Ld com)), none, none, none] [] = .ok (.lst ((log.map rowL).map fun r => .str (lineT r))) [] := by
    have hi : items (.lst (Ld log)) [] = some (Ld log) := rfl
    rw [comp_map (f := fun d => match d with | .tup r => .str (lineT r) | _ => .non) (iSeq_ok rfl hi) (seqTF_ok hi) ?_ (by simp; exact small_le (by omega))]
    · unfold Ld; rw [List.map_map, List.map_map]; rfl
    · intro d hd
      obtain ⟨l, hl, rfl⟩ := List.mem_map.mp hd
      have hf := fits_words ((h.lets l hl).words) (by simp [rowL])
      exact ⟨_, rfl, by simp [wipeD, letter_d, c_line_of (rowL l) [] hf (by simp [rowL])]⟩
  have hc2 : ∀ X, eComp (iSeq (eVar 1)) (bName 4) tYesD (eCallS 1 m_law_line_of [] (aCons (eTup (aCons (eBin ixD (eVar 4) (eC (.int 1))) aNil)) aNil)) [4] [some (.lst (Ld log)), some (.lst (Ld com)), X, none, none] [] = .ok (.lst ((com.map rowC).map fun r => .str (lineT r))) [] := by
    intro X
    have hi : items (.lst (Ld com)) [] = some (Ld com) := rfl
    rw [comp_map (f := fun d => match d with | .tup [_, s, _] => .str (lineT [s]) | _ => .non) (iSeq_ok rfl hi) (seqTF_ok hi) ?_ (by simp; exact small_le (by omega))]
    · unfold Ld; rw [List.map_map, List.map_map]; rfl
    · intro d hd
      obtain ⟨l, hl, rfl⟩ := List.mem_map.mp hd
      have hf := fits_words ((h.comG l hl).wordC) (by simp [rowC])
      exact ⟨_, rfl, by simp [wipeD, Letter.d, c_line_of [.int l.stamp] [] hf (by simp)]⟩
  have e : (log.map rowL).map (fun r => D.str (lineT r)) ++ (D.str "comes\n" :: (com.map rowC).map (fun r => D.str (lineT r))) = (playRows log com).map fun r => .str (lineT r) := by
    unfold playRows
    rw [List.map_append, List.map_append, List.append_assoc, List.map_cons, line_comes]
    rfl
  have hj := lines_val (w := []) h.fits h.len
  have z1 : log.length + 1 ≤ sizeLine := small_le (by omega)
  have z2 : log.length + 1 + com.length ≤ sizeLine := small_le (by omega)
  simp [x_runB, x_seq, hc1, hc2, z1, z2]
  simp only [List.map_map] at e hj
  rw [e, hj]
  rfl) rfl
/-! ### twins -/
theorem ix_asQ {d : D} {w : List Cell} {xs : List D} (h : asQ d w = some xs) (i : Int) : ixD d (.int i) w = atI xs i := by simp [ixD, h]
theorem len_asQ {d : D} {w : List Cell} {xs : List D} (h : asQ d w = some xs) : lenD d w = some (.int (xs.length : Nat)) := by
  cases d <;> first | (simp [asQ] at h; done) | (simp [lenD, h])
theorem twin_str (n : Nat) (x : Str) (w : List Cell) : m_law_twinned (n + 1) [.str x, .str x] w = .ok (.bl true) w := by
  unfold m_law_twinned
  have hi : isTy .str .bl = false := rfl
  simp [x_runB, x_seq]
theorem twin_int (n : Nat) (x : Int) (w : List Cell) : m_law_twinned (n + 1) [.int x, .int x] w = .ok (.bl true) w := by
  unfold m_law_twinned
  simp [x_runB, x_seq]
theorem twin_non (n : Nat) (w : List Cell) : m_law_twinned (n + 1) [.non, .non] w = .ok (.bl true) w := by
  unfold m_law_twinned
  simp [x_runB, x_seq]
theorem twin_seq {n : Nat} {d e : D} {w : List Cell} {xs ys : List D} {t : Ty} (ht : t = .lst ∨ t = .tup) (hd : asQ d w = some xs) (he : asQ e w = some ys) (td : tyOf d w = some t) (te : tyOf e w = some t) (hl : xs.length = ys.length) (hz : xs.length ≤ 1000000)
    (h : ∀ (i : Nat) x y, xs[i]? = some x → ys[i]? = some y → m_law_twinned n [x, y] w = .ok (.bl true) w) : m_law_twinned (n + 1) [d, e] w = .ok (.bl true) w := by
  unfold m_law_twinned
  have hc : eComp (iRange1 (aCons (eCallB (one lenD) (aCons (eVar 1) aNil)) aNil)) (bName 2) (tNotD (tVal (eCall 2 (m_law_twinned n) [] (aCons (eBin ixD (eVar 0) (eVar 2)) (aCons (eBin ixD (eVar 1) (eVar 2)) aNil))))) (eVar 2) [2] [some d, some e, none] w = .ok (.lst []) w := by
    have hr := range_ok (n := ys.length) (B := aCons (eCallB (one lenD) (aCons (eVar 1) aNil)) aNil) (r := [some d, some e, none]) (w := w) (w1 := w) (by simp [len_asQ he]) (by omega)
    rw [comp_fm (p := fun _ => false) (f := id) hr (rangeTF_ok _ · w) ?_ (by simp; exact small_le (by omega))]
    · simp
    · intro k hk
      obtain ⟨i, hi⟩ := List.getElem?_of_mem hk
      obtain ⟨h1, rfl⟩ := rangeItems_get hi
      refine ⟨_, rfl, ?_, by simp⟩
      have e1 : ixD d (.int (i : Nat)) w = some (xs[i]'(by omega)) := by rw [ix_asQ hd, atI_nat]; simp
      have e2 : ixD e (.int (i : Nat)) w = some (ys[i]'(by omega)) := by rw [ix_asQ he, atI_nat]; simp
      simp [wipeD, e1, e2]
      rw [h i _ _ (List.getElem?_eq_getElem (by omega)) (List.getElem?_eq_getElem (by omega))]
      simp
  have hn : eqD (.lst []) (.lst []) w = some (.bl true) := by simpa [strsD] using eq_strsD (a := []) (b := []) (w := w) (by simp) (by simp)
  rcases ht with rfl | rfl <;> simp [x_runB, x_seq, td, te, len_asQ hd, len_asQ he, hl, hc, hn]
end Dn
/-! L10: twins of plays; draws. -/
namespace Dn
open PySem PySem.Spec PyProof.Rows L2
theorem twin_oD (n : Nat) (o : Option Str) (w : List Cell) : m_law_twinned (n + 1) [oD o, oD o] w = .ok (.bl true) w := by
  cases o with
  | none => exact twin_non n w
  | some x => exact twin_str n x w
theorem twin_letter (n : Nat) (l : Letter) (w : List Cell) : m_law_twinned (n + 2) [l.d, l.d] w = .ok (.bl true) w := by
  refine twin_seq (xs := rowL l) (ys := rowL l) (.inr rfl) rfl rfl rfl rfl rfl (by simp [rowL]) fun i x y hx hy => ?_
  rw [hx] at hy
  cases hy
  have := List.mem_of_getElem? hx
  simp only [rowL, List.mem_cons, List.not_mem_nil, or_false] at this
  rcases this with rfl | rfl | rfl
  · exact twin_int n _ w
  · exact twin_int n _ w
  · exact twin_oD n _ w
theorem twin_letters (n : Nat) {d e : D} {w : List Cell} {ls : List Letter} (hd : asQ d w = some (Ld ls)) (he : asQ e w = some (Ld ls)) (td : tyOf d w = some .lst) (te : tyOf e w = some .lst) (hz : ls.length ≤ 1000000) : m_law_twinned (n + 3) [d, e] w = .ok (.bl true) w := by
  refine twin_seq (.inl rfl) hd he td te rfl (by simpa using hz) fun i x y hx hy => ?_
  rw [hx] at hy
  cases hy
  obtain ⟨l, hl, rfl⟩ := List.mem_map.mp (List.mem_of_getElem? hx)
  exact twin_letter n l w
theorem twin_two (n : Nat) {a b c d : D} {w : List Cell} (h1 : m_law_twinned n [a, c] w = .ok (.bl true) w) (h2 : m_law_twinned n [b, d] w = .ok (.bl true) w) : m_law_twinned (n + 1) [.tup [a, b], .tup [c, d]] w = .ok (.bl true) w := by
  refine twin_seq (xs := [a, b]) (ys := [c, d]) (.inr rfl) rfl rfl rfl rfl rfl (by simp) fun i x y hx hy => ?_
  match i, hx, hy with
  | 0, hx, hy => simp at hx hy; subst hx; subst hy; exact h1
  | 1, hx, hy => simp at hx hy; subst hx; subst hy; exact h2
  | i + 2, hx, hy => simp at hx
/-! ### draws -/
/-- a satchel from which k draws may be made -/
def Sat (k : Nat) (c : Cell) : Prop := ∃ a b t : Int, c = .lst [.int a, .int b, .int t] ∧ 0 ≤ b ∧ b < 1000000000000000000000000000000000000000 ∧ 0 ≤ t ∧ t + k ≤ 1000000000
theorem Sat.mono {j k : Nat} {c : Cell} (h : Sat k c) (jk : j ≤ k) : Sat j c := by
  obtain ⟨a, b, t, e, h1, h2, h3, h4⟩ := h
  exact ⟨a, b, t, e, h1, h2, h3, by omega⟩
theorem Sat.nc {k : Nat} {c : Cell} (h : Sat k c) : ncC c = true := by
  obtain ⟨a, b, t, rfl, _⟩ := h
  simp [ncC]
theorem bits_le {z : Int} (h0 : 0 ≤ z) (h : z < 10000000000000000000000000000000000000000) : Builtin.Int.intBits z ≤ 200 := by
  unfold Builtin.Int.intBits
  split
  · decide
  · rename_i hz
    have hz' : z.natAbs ≠ 0 := by
      intro q; apply hz; rw [Int.natAbs_eq_zero.mp q]; rfl
    have : z.natAbs.log2 < 199 := (Nat.log2_lt hz').mpr (Nat.lt_of_lt_of_le (show z.natAbs < 10000000000000000000000000000000000000000 by omega) (by decide +kernel))
    omega
theorem pow_small {x : Int} {n : Nat} {w : List Cell} (h0 : 0 ≤ x) (h : x < 10000000000000000000000000000000000000000) (hn : n ≤ 3) : powD (.int x) (.int (n : Nat)) w = some (.int (x ^ n)) := by
  have hb := bits_le h0 h
  have hm : Builtin.Int.intBits x * n ≤ 200 * 3 := Nat.mul_le_mul hb hn
  rw [v_pow, Int.toNat_natCast, if_pos ⟨by omega, by omega⟩]
theorem pow_2 {x : Int} {w : List Cell} (h0 : 0 ≤ x) (h : x < 10000000000000000000000000000000000000000) : powD (.int x) (.int 2) w = some (.int (x ^ 2)) := pow_small h0 h (n := 2) (by decide)
theorem pow_3 {x : Int} {w : List Cell} (h0 : 0 ≤ x) (h : x < 10000000000000000000000000000000000000000) : powD (.int x) (.int 3) w = some (.int (x ^ 3)) := pow_small h0 h (n := 3) (by decide)
theorem p18 {w : List Cell} : powD (.int 10) (.int 18) w = some (.int 1000000000000000000) := by rw [v_pow, if_pos (by decide +kernel)]; rfl
theorem p36 {w : List Cell} : powD (.int 10) (.int 36) w = some (.int 1000000000000000000000000000000000000) := by rw [v_pow, if_pos (by decide +kernel)]; rfl
theorem p37 {w : List Cell} : powD (.int 10) (.int 37) w = some (.int 10000000000000000000000000000000000000) := by rw [v_pow, if_pos (by decide +kernel)]; rfl
theorem p38 {w : List Cell} : powD (.int 10) (.int 38) w = some (.int 100000000000000000000000000000000000000) := by rw [v_pow, if_pos (by decide +kernel)]; rfl
theorem p20 {w : List Cell} : powD (.int 10) (.int 20) w = some (.int 100000000000000000000) := by rw [v_pow, if_pos (by decide +kernel)]; rfl
theorem log2_small {x : Int} (h0 : 0 ≤ x) (h : x < 10000000000000000000000000000000000000000) : x.natAbs.log2 < 199 := by
  by_cases hz : x.natAbs = 0
  · rw [hz]; decide
  · exact (Nat.log2_lt hz).mpr (Nat.lt_of_lt_of_le (show x.natAbs < 10000000000000000000000000000000000000000 by omega) (by decide +kernel))
theorem mul_small {x y : Int} {w : List Cell} (h0 : 0 ≤ x) (h : x < 10000000000000000000000000000000000000000) (h1 : 0 ≤ y) (h2 : y < 10000000000000000000000000000000000000000) : mulD (.int x) (.int y) w = some (.int (x * y)) := by
  have a := log2_small h0 h
  have b := log2_small h1 h2
  rw [v_mul, if_pos (by omega)]
theorem fdiv_small {x y : Int} {w : List Cell} (h1 : 0 < y) (h2 : y < 10000000000000000000000000000000000000000) : fdivD (.int x) (.int y) w = some (.int (x / y)) := by
  have b := log2_small (Int.le_of_lt h1) h2
  rw [v_fdiv, if_pos ⟨h1, by omega⟩]
theorem mod_pos {x y : Int} {w : List Cell} (h1 : 0 < y) : modD (.int x) (.int y) w = some (.int (x % y)) := by rw [v_mod, if_pos h1]
theorem s_lift {k : Nat} {c : Cell} {b : Int} (h : Sat (k + 1) c) (hb : 0 < b) (hb2 : b ≤ 1000000) :
    (m_law_lift [.cel 0, .int b] [c]).sat (fun d w' => ∃ i : Nat, d = .int (i : Nat) ∧ (i : Int) < b ∧ ∃ c', w' = [c'] ∧ Sat k c') noX := by
  obtain ⟨a, s, t, rfl, h1, h2, h3, h4⟩ := h
  have ix0 : ∀ a s t : Int, ixD (.cel 0) (.int 0) [.lst [.int a, .int s, .int t]] = some (.int a) := fun a s t => by rw [ix_cel (ds := [.int a, .int s, .int t]) rfl]; rfl
  have ix1 : ∀ a s t : Int, ixD (.cel 0) (.int 1) [.lst [.int a, .int s, .int t]] = some (.int s) := fun a s t => by rw [ix_cel (ds := [.int a, .int s, .int t]) rfl]; rfl
  have ix2 : ∀ a s t : Int, ixD (.cel 0) (.int 2) [.lst [.int a, .int s, .int t]] = some (.int t) := fun a s t => by rw [ix_cel (ds := [.int a, .int s, .int t]) rfl]; rfl
  have st0 : ∀ a s t v : Int, setD (.cel 0) (.int 0) (.int v) [.lst [.int a, .int s, .int t]] = some [.lst [.int v, .int s, .int t]] := fun a s t v => rfl
  have st2 : ∀ a s t v : Int, setD (.cel 0) (.int 2) (.int v) [.lst [.int a, .int s, .int t]] = some [.lst [.int a, .int s, .int v]] := fun a s t v => rfl
  have digit : ∀ z : Int, ∃ i : Nat, z % b = (i : Nat) ∧ (i : Int) < b := fun z =>
    ⟨(z % b).toNat, by rw [Int.toNat_of_nonneg (Int.emod_nonneg _ (by omega))], by rw [Int.toNat_of_nonneg (Int.emod_nonneg _ (by omega))]; exact Int.emod_lt_of_pos _ hb⟩
  unfold m_law_lift
  rw [sat_runB, sat_seq]
  by_cases ha : 0 < a
  · obtain ⟨i, hi, hi2⟩ := digit a
    simp [x_seq, ix0, ha, mod_pos hb, fdiv_small (x := a) hb (by omega), st0, hi]
    exact ⟨i, rfl, hi2, _, _, _, rfl, h1, h2, h3, by omega⟩
  · have hs0 : 0 ≤ s + 70001 * (t + 1) := by omega
    have hs1 : s + 70001 * (t + 1) < 10000000000000000000000000000000000000000 := by omega
    have e1 := fun w => pow_2 (w := w) hs0 hs1
    obtain ⟨u, hu⟩ : ∃ u, u = (s + 70001 * (t + 1)) ^ 2 % 10000000000000000000000000000000000003 := ⟨_, rfl⟩
    have hu0 : 0 ≤ u := by rw [hu]; exact Int.emod_nonneg _ (by decide)
    have hu1 : u < 10000000000000000000000000000000000003 := by rw [hu]; exact Int.emod_lt_of_pos _ (by decide)
    have hv0 : 0 ≤ u + 900007 * (t + 1) := by omega
    have hv1 : u + 900007 * (t + 1) < 10000000000000000000000000000000000000000 := by omega
    have e2 := fun w => pow_3 (w := w) hv0 hv1
    obtain ⟨i, hi, hi2⟩ := digit ((u + 900007 * (t + 1)) ^ 3 % 100000000000000000000000000000000000067 / 1048576)
    have m1 := fun w => mul_small (w := w) (x := 70001) (y := t + 1) (by decide) (by decide) (by omega) (by omega)
    have m2 := fun w => mul_small (w := w) (x := 900007) (y := t + 1) (by decide) (by decide) (by omega) (by omega)
    have d1 := fun w x => fdiv_small (w := w) (x := x) (y := 1048576) (by decide) (by decide)
    have o1 := fun w x => mod_pos (w := w) (x := x) (y := 10000000000000000000000000000000000003) (by decide)
    have o2 := fun w x => mod_pos (w := w) (x := x) (y := 100000000000000000000000000000000000067) (by decide)
    simp [x_seq, ix0, ha, ix2, st2, ix1, m1, e1, p37, o1, ← hu, m2, e2, p38, o2, d1, mod_pos hb, hi]
    exact ⟨i, rfl, hi2, _, _, _, rfl, h1, h2, by omega, by omega⟩
end Dn
/-! L11: names drawn. -/
namespace Dn
open PySem PySem.Spec PyProof.Rows L2
theorem lift_c {k : Nat} {c : Cell} {rest : List Cell} {b : Int} (h : Sat (k + 1) c) (hb : 0 < b) (hb2 : b ≤ 1000000) :
    (callS m_law_lift [.cel 0, .int b] (c :: rest)).sat (fun d w' => ∃ i : Nat, d = .int (i : Nat) ∧ (i : Int) < b ∧ ∃ c', w' = c' :: rest ∧ Sat k c') noX := by
  refine callS_sat (cs := [c]) (by simp [celsOf]) rfl rfl (by simp [h.nc]) ((s_lift h hb hb2).mono ?_ fun _ _ z => z.elim)
  rintro d w' ⟨i, rfl, hi, c', rfl, hc⟩
  exact ⟨rfl, by simp [hc.nc], i, rfl, hi, c', rfl, hc⟩
theorem alpha_len : ("abcdefghijklmnopqrstuvwxyz" : Str).length = 26 := by decide +kernel
theorem al_at {i : Nat} (h : i < 26) (w : List Cell) : ixD (.str "abcdefghijklmnopqrstuvwxyz") (.int (i : Nat)) w = some (.str ⟨#[97 + i]⟩) := by
  rw [v_ix_str, alpha_len, if_pos (by decide), atI_nat]
  have : ∀ i : Fin 26, ("abcdefghijklmnopqrstuvwxyz" : Str).cps.toList[i.val]? = some (97 + i.val) := by decide +kernel
  rw [this ⟨i, h⟩]
  rfl
theorem nodup_sub {α : Type} [DecidableEq α] : ∀ {l m : List α}, l.Nodup → (∀ x ∈ l, x ∈ m) → l.length ≤ m.length
  | [], m, _, _ => by simp
  | x :: l, m, h, hs => by
    have hx := hs x (by simp)
    have ih := nodup_sub (l := l) (m := m.erase x) (List.nodup_cons.mp h).2 fun y hy => by
      have hne : y ≠ x := fun e => (List.nodup_cons.mp h).1 (e ▸ hy)
      exact (List.mem_erase_of_ne hne).mpr (hs y (by simp [hy]))
    rw [List.length_erase_of_mem hx] at ih
    have : 0 < m.length := List.length_pos_of_mem hx
    simp only [List.length_cons]
    omega
/-! ### lists of words in a cell -/
section
variable {w : List Cell} {n : Nat} {ws : List Str}
theorem toPy_cel (h : w[n]? = some (.lst (ws.map .str))) : toPyW (.cel n) w = some (.list (ws.map .str)) := by simp [toPyW, h, toPys_strs]
theorem ne_nil_cel (h : w[n]? = some (.lst (ws.map .str))) (hs : ∀ x ∈ ws, PyData.strOk x = true) : neD (.cel n) (.lst []) w = some (.bl (decide (ws ≠ []))) := by
  have e : toPyW (.lst []) w = some (.list []) := rfl
  have s2 : SeqAt.shaped (.list []) = true := by simpa using shaped_strs (ws := []) (by simp)
  have e2 : PyData.eqv (.list (ws.map .str)) (.list []) = decide (ws = []) := by
    have := eqvAll_strs ws []
    simpa [PyData.eqv] using this
  unfold neD eqB
  rw [show scalD (.cel n) (.lst []) = none from rfl, toPy_cel h, e]
  simp [shaped_strs hs, s2, e2]
theorem any_strs (ws : List Str) (x : Str) : ((ws.map PyData.str).any fun z => PyData.eqv z (.str x)) = decide (x ∈ ws) := by
  induction ws with
  | nil => simp
  | cons y ws ih =>
    rw [List.map_cons, List.any_cons, ih]
    by_cases e : y = x
    · subst e; simp [PyData.eqv]
    · have : ¬ x = y := fun q => e q.symm
      simp [PyData.eqv, e, this]
theorem in_cel (h : w[n]? = some (.lst (ws.map .str))) (hs : ∀ x ∈ ws, PyData.strOk x = true) {x : Str} (hx : PyData.strOk x = true) : inAny (.str x) (.cel n) w = some (decide (x ∈ ws)) := by
  have a : asK (.cel n) w = none := by simp [asK, h]
  have sx : SeqAt.shaped (.str x) = true := by simp [SeqAt.shaped, PyData.canLay0, hx, PyData.depth]
  have e : toPyW (.str x) w = some (.str x) := rfl
  unfold inAny
  simp only [a]
  unfold inB
  rw [toPy_cel h, e]
  simp only [Option.bind_some, sx, shaped_strs hs, and_self, if_true, any_strs]
theorem notIn_cel (h : w[n]? = some (.lst (ws.map .str))) (hs : ∀ x ∈ ws, PyData.strOk x = true) {x : Str} (hx : PyData.strOk x = true) : notInD (.str x) (.cel n) w = some (.bl (decide (x ∉ ws))) := by
  unfold notInD
  rw [in_cel h hs hx]
  simp
theorem in_lst (hs : ∀ x ∈ ws, PyData.strOk x = true) {x : Str} (hx : PyData.strOk x = true) : inAny (.str x) (.lst (ws.map .str)) w = some (decide (x ∈ ws)) := by
  have sx : SeqAt.shaped (.str x) = true := by simp [SeqAt.shaped, PyData.canLay0, hx, PyData.depth]
  have e : toPyW (.str x) w = some (.str x) := rfl
  have e2 : toPyW (.lst (ws.map .str)) w = some (.list (ws.map .str)) := by simp [toPyW, toPy, toPys_strs]
  unfold inAny
  simp only [v_asK_lst]
  unfold inB
  rw [e2, e]
  simp only [Option.bind_some, sx, shaped_strs hs, and_self, if_true, any_strs]
theorem notIn_lst (hs : ∀ x ∈ ws, PyData.strOk x = true) {x : Str} (hx : PyData.strOk x = true) : notInD (.str x) (.lst (ws.map .str)) w = some (.bl (decide (x ∉ ws))) := by
  unfold notInD
  rw [in_lst hs hx]
  simp
end
/-! ### names -/
structure Names (ws : List Str) : Prop where
  ok : ∀ x ∈ ws, isName x = true
  nd : ws.Nodup
theorem name_str {x : Str} (h : isName x = true) : PyData.strOk x = true := (word_name h).str
theorem Names.str {ws : List Str} (h : Names ws) : ∀ x ∈ ws, PyData.strOk x = true := fun x hx => name_str (h.ok x hx)
theorem isName_of {x : Str} (h0 : 0 < x.length) (h8 : x.length ≤ 8) (h : ∀ c ∈ cs x, inAZ c = true) : isName x = true := by
  unfold isName
  rw [decide_eq_true h0, decide_eq_true h8, List.all_eq_true.mpr h]
  rfl
theorem az_of {i : Nat} (h : i < 26) : inAZ (97 + i) = true := by simp [inAZ]; omega
/-- the words to fall back upon -/
def spare (s k : Nat) : List Str := (List.range 26).map fun t => ⟨#[97 + (s + t) % 26, 97 + k]⟩
theorem spare_nd (s k : Nat) : (spare s k).Nodup := by
  unfold spare List.Nodup
  rw [List.pairwise_map]
  refine List.Pairwise.imp_of_mem ?_ List.nodup_range
  intro x y hx hy hxy h
  simp only [List.mem_range] at hx hy
  simp at h
  omega
theorem spare_ok {s k : Nat} (hk : k < 26) : ∀ x ∈ spare s k, isName x = true := by
  intro x hx
  obtain ⟨t, ht, rfl⟩ := List.mem_map.mp hx
  refine isName_of (by show 0 < 2; decide) (by show 2 ≤ 8; decide) fun c hc => ?_
  have hc' : c ∈ [97 + (s + t) % 26, 97 + k] := hc
  simp only [List.mem_cons, List.not_mem_nil, or_false] at hc'
  rcases hc' with rfl | rfl
  · exact az_of (Nat.mod_lt _ (by decide))
  · exact az_of hk
theorem spare_has {s k : Nat} {ws : List Str} (h : ws.length < 26) : ∃ x r, (spare s k).filter (fun y => decide (y ∉ ws)) = x :: r := by
  cases q : (spare s k).filter (fun y => decide (y ∉ ws)) with
  | cons x r => exact ⟨x, r, rfl⟩
  | nil =>
    rw [List.filter_eq_nil_iff] at q
    have := nodup_sub (spare_nd s k) (m := ws) fun x hx => by simpa using q x hx
    simp [spare] at this
    omega
end Dn
/-! L12: names drawn, the def itself. -/
namespace Dn
open PySem PySem.Spec PyProof.Rows L2
abbrev alphaS : Str := "abcdefghijklmnopqrstuvwxyz"
def ones (l : List Nat) : List Str := l.map fun c => ⟨#[c]⟩
theorem join_ones (l : List Nat) (a : Str) (ha : a = "") : cs (Txt.join a (ones l)) = l := by
  subst ha
  rw [cs_join, cs_empty, glue_nil_sep]
  unfold ones
  rw [List.map_map]
  induction l with
  | nil => rfl
  | cons x l ih => simp [ih]
theorem ones_len (l : List Nat) : ((ones l).map (·.length)).sum = l.length := by
  induction l with
  | nil => rfl
  | cons x l ih =>
    show 1 + ((ones l).map (·.length)).sum = _
    rw [ih, List.length_cons]; omega
/-- some letters drawn -/
theorem s_letters {k s : Nat} {c : Cell} {rest : List Cell} {x1 x3 x4 x6 x7 x8 x9 x10 x11 : Option D} (h : Sat (k + s) c) (hs : s ≤ 100) :
    (eComp (iRange1 (aCons (eVar 5) aNil)) (bName 10) tYesD (eBin ixD (eVar 2) (eCallS 2 m_law_lift [] (aCons (eVar 0) (aCons (eC (.int 26)) aNil)))) [10] [some (.cel 0), x1, some (.str alphaS), x3, x4, some (.int (s : Nat)), x6, x7, x8, x9, x10, x11] (c :: rest)).sat
      (fun d w' => ∃ l : List Nat, d = .lst ((ones l).map .str) ∧ l.length = s ∧ (∀ c ∈ l, inAZ c = true) ∧ ∃ c', w' = c' :: rest ∧ Sat k c') noX := by
  have hr : iRange1 (aCons (eVar 5) aNil) [some (.cel 0), x1, some (.str alphaS), x3, x4, some (.int (s : Nat)), x6, x7, x8, x9, x10, x11] (c :: rest) = .ok ((rangeItems s).length, rangeTF 0 s) (c :: rest) := range_ok rfl (by omega)
  refine comp_sat (xs := rangeItems s) (I := fun i acc w => ∃ l : List Nat, acc = (ones l).map .str ∧ l.length = i ∧ (∀ c ∈ l, inAZ c = true) ∧ ∃ c', w = c' :: rest ∧ Sat (k + (s - i)) c') hr ?_ ?_ ?_ ?_
  · exact ⟨[], rfl, rfl, by simp, c, rfl, h⟩
  · exact fun i acc w _ _ => rangeTF_ok s i w
  · rintro i x acc w hx ⟨l, rfl, hl, haz, c', rfl, hc⟩
    obtain ⟨hi, rfl⟩ := rangeItems_get hx
    refine ⟨_, rfl, ?_⟩
    simp [wipeD]
    refine (lift_c (k := k + (s - (i + 1))) (hc.mono (by omega)) (by decide) (by decide)).imp ?_
    rintro _ _ ⟨j, rfl, hj, c2, rfl, h2⟩
    simp [al_at (show j < 26 by omega)]
    refine ⟨by simp [ones, hl]; exact small1000 (by omega), l ++ [97 + j], by simp [ones], by simp [hl], ?_, h2⟩
    intro z hz
    simp only [List.mem_append, List.mem_singleton] at hz
    rcases hz with hz | rfl
    · exact haz z hz
    · exact az_of (by omega)
  · rintro acc w ⟨l, rfl, hl, haz, c', rfl, hc⟩
    rw [rangeItems_len] at hl hc
    exact ⟨l, rfl, hl, haz, c', rfl, hc.mono (by omega)⟩
theorem join_letters {l : List Nat} {w : List Cell} (hl : l.length ≤ 1000) : joinN (.str "") [.lst ((ones l).map .str)] w = some (.str (Txt.join "" (ones l)), w) := join_ok rfl (by
  rw [ones_len, len_empty]; omega)
theorem spare_val {sg k : Nat} (hk : k < 26) {x0 x1 x3 x5 x6 x8 x9 x10 x11 : Option D} {w : List Cell} : eComp (iRange1 (aCons (eC (.int 26)) aNil)) (bName 10) tYesD (eBin addD (eBin ixD (eVar 2) (eBin modD (eBin addD (eVar 7) (eVar 10)) (eC (.int 26)))) (eBin ixD (eVar 2) (eVar 4))) [10]
    [x0, x1, some (.str alphaS), x3, some (.int (k : Nat)), x5, x6, some (.int (sg : Nat)), x8, x9, x10, x11] w = .ok (.lst ((spare sg k).map .str)) w := by
  rw [comp_map (f := fun d => match d with | .int t => .str ⟨#[97 + (sg + t.toNat) % 26, 97 + k]⟩ | _ => .non) (range_ok (n := 26) (w1 := w) rfl (by decide)) (rangeTF_ok 26 · w) ?_ (by decide)]
  · unfold rangeItems spare
    rw [List.map_map, List.map_map]
    rfl
  · intro d hd
    obtain ⟨i, hi⟩ := List.getElem?_of_mem hd
    obtain ⟨h1, rfl⟩ := rangeItems_get hi
    refine ⟨_, rfl, ?_⟩
    obtain ⟨q, hq⟩ : ∃ q, q = (sg + i) % 26 := ⟨_, rfl⟩
    have e : ((sg : Int) + (i : Int)) % 26 = (q : Int) := by omega
    have m1 : modD (.int ((sg : Int) + (i : Int))) (.int 26) w = some (.int (q : Int)) := by rw [mod_pos (by decide), e]
    have a1 := al_at (i := q) (by omega) w
    have a2 := al_at hk w
    have a3 : addD (.str ⟨#[97 + q]⟩) (.str ⟨#[97 + k]⟩) w = some (.str ⟨#[97 + q, 97 + k]⟩) := by rw [v_add_str]; exact if_pos (show 1 + 1 ≤ sizeLine by decide)
    simp only [x_bin, x_var, x_c, wipeD, List.set, List.getElem?_cons_succ, List.getElem?_cons_zero, Out.bnd_ok, v_add, Out.of_some, m1, a1, a2, a3]
    show _ = Out.ok (D.str ⟨#[97 + (sg + i) % 26, 97 + k]⟩) w
    rw [← hq]
end Dn
/-! L13: the names drawn are names. -/
namespace Dn
open PySem PySem.Spec PyProof.Rows L2
theorem pick4 {a b c d : D} {i : Nat} (h : (i : Int) < 4) : ∃ x, atI [a, b, c, d] (i : Int) = some x ∧ (x = a ∨ x = b ∨ x = c ∨ x = d) := by
  rw [atI_nat]
  match i, h with
  | 0, _ => exact ⟨a, rfl, .inl rfl⟩
  | 1, _ => exact ⟨b, rfl, .inr (.inl rfl)⟩
  | 2, _ => exact ⟨c, rfl, .inr (.inr (.inl rfl))⟩
  | 3, _ => exact ⟨d, rfl, .inr (.inr (.inr rfl))⟩
  | n + 4, h => omega
/-- a name made of letters -/
theorem name_letters {l : List Nat} {x : Str} (h : cs x = l) (h0 : 0 < l.length) (h8 : l.length ≤ 8) (ha : ∀ c ∈ l, inAZ c = true) : isName x = true :=
  isName_of (by rw [cs_len, h]; exact h0) (by rw [cs_len, h]; exact h8) (by rw [h]; exact ha)
theorem cutS_to {x : Str} {n : Nat} : cs (cutS x none (some (n : Int))) = (cs x).take n := by
  have := cut_to (cs x) n
  exact this
theorem cutS_last {x : Str} : cs (cutS x none (some (-1))) = (cs x).dropLast := by
  have := cut_last (cs x)
  exact this
def labelsI (K m : Nat) (i : Nat) (r : DEnv) (w : List Cell) : Prop := ∃ c ws, Sat (K + 20 * (m - i)) c ∧ w = [c, .lst (ws.map .str)] ∧ ws.length = i ∧ Names ws ∧
  ∃ x4 x5 x6 x7 x8 x9 x10 x11, r = [some (.cel 0), some (.int (m : Nat)), some (.str alphaS), some (.cel 1), x4, x5, x6, x7, x8, x9, x10, x11]
theorem s_labels {K m : Nat} {c : Cell} (h : Sat (K + 20 * m) c) (hm : m ≤ 20) : (m_law_labels [.cel 0, .int (m : Nat)] [c]).sat (fun d w' => ∃ ws, d = .lst (ws.map .str) ∧ ws.length = m ∧ Names ws ∧ ∃ c' x, w' = [c', x] ∧ Sat K c') noX := by
  unfold m_law_labels
  rw [sat_runB, sat_seq]
  simp
  rw [sat_seq]
  refine sFor_sat (xs := rangeItems m) (I := labelsI K m) (range_ok rfl (by omega)) ?_ (fun i r w _ _ => rangeTF_ok m i w) ?_ ?_
  · exact ⟨c, [], by simpa using h, rfl, rfl, ⟨by simp, by simp⟩, _, _, _, _, _, _, _, _, rfl⟩
  · rintro i x r w hx ⟨c, ws, hc, rfl, hl, hN, x4, x5, x6, x7, x8, x9, x10, x11, rfl⟩
    obtain ⟨hi, rfl⟩ := rangeItems_get hx
    refine ⟨_, rfl, ?_⟩
    rw [sat_seq]
    simp
    refine (lift_c (k := K + 20 * (m - (i + 1)) + 19) (hc.mono (by omega)) (by decide) (by decide)).imp ?_
    rintro _ _ ⟨i7, rfl, hi7, c1, rfl, h1⟩
    try simp
    refine (lift_c (k := K + 20 * (m - (i + 1)) + 18) (h1.mono (by omega)) (by decide) (by decide)).imp ?_
    rintro _ _ ⟨i4, rfl, hi4, c2, rfl, h2⟩
    obtain ⟨sz, hsz, hs6⟩ : ∃ sz : Nat, atI [D.int 0, D.int 1, D.int 2, D.int (i7 : Nat)] (i4 : Int) = some (.int (sz : Nat)) ∧ sz ≤ 6 := by
      obtain ⟨x, hx, hh⟩ := pick4 (a := D.int 0) (b := D.int 1) (c := D.int 2) (d := D.int (i7 : Nat)) hi4
      rcases hh with rfl | rfl | rfl | rfl
      · exact ⟨0, hx, by omega⟩
      · exact ⟨1, hx, by omega⟩
      · exact ⟨2, hx, by omega⟩
      · exact ⟨i7, hx, by omega⟩
    simp [hsz]
    refine (lift_c (k := K + 20 * (m - (i + 1)) + 17) (h2.mono (by omega)) (by decide) (by decide)).imp ?_
    rintro _ _ ⟨way, rfl, hway, c3, rfl, h3⟩
    try simp
    rw [sat_seq]
    try simp
    refine (lift_c (k := K + 20 * (m - (i + 1)) + 16) (h3.mono (by omega)) (by decide) (by decide)).imp ?_
    rintro _ _ ⟨sg, rfl, hsg, c4, rfl, h4⟩
    try simp
    rw [sat_seq]
    simp [al_at (show sg < 26 by omega)]
    refine (s_letters (k := K + 20 * (m - (i + 1)) + 10) (s := sz) (h4.mono (by omega)) (by omega)).imp ?_
    rintro _ _ ⟨l, rfl, hll, haz, c5, rfl, h5⟩
    have hjl := join_letters (l := l) (w := [c5, .lst (ws.map .str)]) (by omega)
    obtain ⟨jt, hjt⟩ : ∃ jt, jt = Txt.join "" (ones l) := ⟨_, rfl⟩
    rw [← hjt] at hjl
    have hcj : cs jt = l := by rw [hjt]; exact join_ones l "" rfl
    have hln : jt.length = l.length := by rw [cs_len, hcj]
    have had : addD (.str ⟨#[97 + sg]⟩) (.str jt) [c5, .lst (ws.map .str)] = some (.str (⟨#[97 + sg]⟩ ++ jt)) := by
      rw [v_add_str]
      exact if_pos (by show 1 + jt.length ≤ sizeLine; rw [hln]; exact small_le (by omega))
    obtain ⟨lab, hlab⟩ : ∃ x : Str, x = ⟨#[97 + sg]⟩ ++ jt := ⟨_, rfl⟩
    have hlabN : isName lab = true := by
      refine name_letters (l := (97 + sg) :: l) (by rw [hlab, cs_append, hcj]; rfl) (by simp) (by simp; omega) ?_
      intro c hc
      rcases List.mem_cons.mp hc with rfl | hc
      · exact az_of (by omega)
      · exact haz c hc
    rw [← hlab] at had
    simp only [hjl, ofN_some, sat_ok, had]
    simp
    rw [sat_seq]
    have hne := ne_nil_cel (w := [c5, .lst (ws.map .str)]) (n := 1) (ws := ws) rfl hN.str
    have fin : ∀ (lab2 : Str) (x : Option D), isName lab2 = true → ((sSeq (sSet 9 (eComp (iRange1 (aCons (eC (D.int 26)) aNil)) (bName 10) tYesD (eBin addD (eBin ixD (eVar 2) (eBin modD (eBin addD (eVar 7) (eVar 10)) (eC (D.int 26)))) (eBin ixD (eVar 2) (eVar 4))) [10]))
        (sExpr (eMeth "list" appendN (eVar 3) (aCons (eIf (tVal (eBin notInD (eVar 8) (eVar 3))) (eVar 8) (eBin ixD (eComp (iSeq (eVar 9)) (bName 11) (tVal (eBin notInD (eVar 11) (eVar 3))) (eVar 11) [11]) (eC (D.int 0)))) aNil))))
        [some (.cel 0), some (.int (m : Nat)), some (.str alphaS), some (.cel 1), some (.int (i : Nat)), some (.int (sz : Nat)), some (.int (way : Nat)), some (.int (sg : Nat)), some (.str lab2), x9, x10, x11] [c5, .lst (ws.map .str)]).sat
        (fun f r w => f = .next ∧ labelsI K m (i + 1) r w) noXS := by
      intro lab2 x hl2
      rw [sat_seq]
      have hsp := spare_val (sg := sg) (k := i) (by omega) (x0 := some (.cel 0)) (x1 := some (.int (m : Nat))) (x3 := some (.cel 1)) (x5 := some (.int (sz : Nat))) (x6 := some (.int (way : Nat))) (x8 := some (.str lab2)) (x9 := x9) (x10 := x10) (x11 := x11) (w := [c5, .lst (ws.map .str)])
      simp [hsp]
      have hrc := recv_cel (w := [c5, .lst (ws.map .str)]) (n := 1) (ds := ws.map .str) rfl
      have hnot := fun (x : Str) (hx : isName x = true) => notIn_cel (w := [c5, .lst (ws.map .str)]) (n := 1) (ws := ws) rfl hN.str (name_str hx)
      have happ := fun (y : D) => append_ok (w := [c5, .lst (ws.map .str)]) (n := 1) (xs := ws.map .str) (y := y) rfl (by simp [hl]; exact small1000 (by omega))
      have done : ∀ y, isName y = true → y ∉ ws → labelsI K m (i + 1) [some (.cel 0), some (.int (m : Nat)), some (.str alphaS), some (.cel 1), some (.int (i : Nat)), some (.int (sz : Nat)), some (.int (way : Nat)), some (.int (sg : Nat)), some (.str lab2), some (.lst ((spare sg i).map .str)), x10, x11] [c5, .lst (ws.map .str ++ [.str y])] := by
        intro y hy hyn
        refine ⟨c5, ws ++ [y], h5.mono (by omega), by simp, by simp [hl], ⟨?_, ?_⟩, _, _, _, _, _, _, _, _, rfl⟩
        · intro z hz
          rcases List.mem_append.mp hz with hz | hz
          · exact hN.ok z hz
          · rw [List.mem_singleton.mp hz]; exact hy
        · rw [List.nodup_append]
          exact ⟨hN.nd, by simp, fun a ha b hb e => by rw [List.mem_singleton.mp hb] at e; rw [e] at ha; exact hyn ha⟩
      by_cases hin : lab2 ∈ ws
      · obtain ⟨y, rest, hy⟩ := spare_has (s := sg) (k := i) (ws := ws) (by omega)
        have hym : y ∈ (spare sg i).filter (fun y => decide (y ∉ ws)) := by rw [hy]; simp
        obtain ⟨hy1, hy2⟩ := List.mem_filter.mp hym
        have hcm : eComp (iSeq (eVar 9)) (bName 11) (tVal (eBin notInD (eVar 11) (eVar 3))) (eVar 11) [11] [some (.cel 0), some (.int (m : Nat)), some (.str alphaS), some (.cel 1), some (.int (i : Nat)), some (.int (sz : Nat)), some (.int (way : Nat)), some (.int (sg : Nat)), some (.str lab2), some (.lst ((spare sg i).map .str)), x10, x11] [c5, .lst (ws.map .str)] = .ok (.lst (D.str y :: rest.map .str)) [c5, .lst (ws.map .str)] := by
          have hi : items (.lst ((spare sg i).map .str)) [c5, .lst (ws.map .str)] = some ((spare sg i).map D.str) := rfl
          rw [comp_fm (p := fun d => match d with | .str z => decide (z ∉ ws) | _ => false) (f := id) (iSeq_ok rfl hi) (seqTF_ok hi) ?_ (by simp [spare])]
          · rw [List.filter_map]
            have : ((fun d => match d with | D.str z => decide (z ∉ ws) | _ => false) ∘ D.str) = fun y => decide (y ∉ ws) := rfl
            rw [this, hy]
            simp
          · intro d hd
            obtain ⟨z, hz, rfl⟩ := List.mem_map.mp hd
            refine ⟨_, rfl, ?_, fun _ => rfl⟩
            simp [wipeD, hnot z (spare_ok (by omega) z hz)]
        simp [hrc, hnot lab2 hl2, hin, hcm, happ]
        exact done y (spare_ok (by omega) y hy1) (by simpa using hy2)
      · simp [hrc, hnot lab2 hl2, hin, happ]
        exact done lab2 hl2 hin
    have back : ∀ {o : OutS}, o.sat (fun f r w => f = .next ∧ labelsI K m (i + 1) r w) noXS → ∀ {Q : Fl → DEnv → List Cell → Prop} {X : Ex → DEnv → List Cell → Prop}, (∀ r w, labelsI K m (i + 1) r w → Q .next r w) → o.sat Q X := fun h _ _ k => h.mono (fun f r w hh => by rw [hh.1]; exact k r w hh.2) fun _ _ _ z => z.elim
    by_cases hw2 : ws ≠ [] ∧ (way : Int) < 2
    · obtain ⟨hw1, hw3⟩ := hw2
      have hal := al_at (show sg < 26 by omega) [c5, .lst (ws.map .str)]
      obtain ⟨la, hla⟩ : ∃ la, ws.getLast? = some la := ⟨ws.getLast hw1, List.getLast?_eq_some_getLast hw1⟩
      have hlaN := hN.ok la (List.mem_of_getLast? hla)
      obtain ⟨ll0, ll8, llaz⟩ := isName_cs hlaN
      rw [cs_len] at ll0 ll8
      have hix : ixD (.cel 1) (.int (-1)) [c5, .lst (ws.map .str)] = some (.str la) := by rw [ix_cel (ds := ws.map .str) rfl, atI_last, List.getLast?_map, hla]; rfl
      have hlz : la.length ≤ sizeLine := by rw [cs_len]; exact small_le (by omega)
      have hs7 : sliceD (.str la) none (some 7) [c5, .lst (ws.map .str)] = some (.str (cutS la none (some 7))) := by rw [slice_str, if_pos hlz]
      have hs1 : sliceD (.str la) none (some (-1)) [c5, .lst (ws.map .str)] = some (.str (cutS la none (some (-1)))) := by rw [slice_str, if_pos hlz]
      have c7 : cs (cutS la none (some 7)) = (cs la).take 7 := cutS_to (n := 7)
      have c1' : cs (cutS la none (some (-1))) = (cs la).dropLast := cutS_last
      have ha7 : addD (.str (cutS la none (some 7))) (.str ⟨#[97 + sg]⟩) [c5, .lst (ws.map .str)] = some (.str (cutS la none (some 7) ++ ⟨#[97 + sg]⟩)) := by
        rw [v_add_str]
        exact if_pos (by rw [cs_len, c7, cs_len, cs_one]; simp; exact small_le (by omega))
      have ha1 : addD (.str (cutS la none (some (-1)))) (.str ⟨#[97 + sg]⟩) [c5, .lst (ws.map .str)] = some (.str (cutS la none (some (-1)) ++ ⟨#[97 + sg]⟩)) := by
        rw [v_add_str]
        exact if_pos (by rw [cs_len, c1', cs_len, cs_one]; simp; exact small_le (by omega))
      have hpick : ∃ lab2, atI [D.str (cutS la none (some 7) ++ ⟨#[97 + sg]⟩), D.str (cutS la none (some (-1)) ++ ⟨#[97 + sg]⟩)] (way : Int) = some (.str lab2) ∧ isName lab2 = true := by
        have : way = 0 ∨ way = 1 := by omega
        rcases this with rfl | rfl
        · refine ⟨_, rfl, name_letters (l := (cs la).take 7 ++ [97 + sg]) (by rw [cs_append, c7, cs_one]) (by simp) (by simp; omega) ?_⟩
          intro c hc
          rcases List.mem_append.mp hc with hc | hc
          · exact llaz c (List.mem_of_mem_take hc)
          · rw [List.mem_singleton.mp hc]; exact az_of (by omega)
        · refine ⟨_, rfl, name_letters (l := (cs la).dropLast ++ [97 + sg]) (by rw [cs_append, c1', cs_one]) (by simp) (by simp; omega) ?_⟩
          intro c hc
          rcases List.mem_append.mp hc with hc | hc
          · exact llaz c (List.dropLast_subset _ hc)
          · rw [List.mem_singleton.mp hc]; exact az_of (by omega)
      obtain ⟨lab2, hp1, hp2⟩ := hpick
      simp [hne, hw1, hw3, hal, hix, hs7, hs1, ha7, ha1, hp1, -v_ix_str, -slice_str, -v_add_str]
      exact back (fin lab2 none hp2) fun r w hh => hh
    · have hcond : (tAndD (tVal (eBin neD (eVar 3) (eLst aNil))) (tVal (eBin ltD (eVar 6) (eC (D.int 2))))) [some (.cel 0), some (.int (m : Nat)), some (.str alphaS), some (.cel 1), some (.int (i : Nat)), some (.int (sz : Nat)), some (.int (way : Nat)), some (.int (sg : Nat)), some (.str lab), x9, x10, x11] [c5, .lst (ws.map .str)] = .ok false [c5, .lst (ws.map .str)] := by
        by_cases hw1 : ws = []
        · have hf : neD (.cel 1) (.lst []) [c5, .lst (ws.map .str)] = some (.bl false) := by rw [hne]; simp [hw1]
          simp [hf]
        · have : ¬ ((way : Int) < 2) := fun z => hw2 ⟨hw1, z⟩
          simp [hne, hw1, this]
      rw [x_ifS, hcond]
      simp
      exact back (fin lab none hlabN) fun r w hh => hh
  · rintro r w ⟨c, ws, hc, rfl, hl, hN, x4, x5, x6, x7, x8, x9, x10, x11, rfl⟩
    rw [rangeItems_len] at hl hc
    simp [frzD]
    exact ⟨ws, rfl, hl, hN, hc.mono (by omega)⟩
end Dn
/-! L14: numbers drawn. -/
namespace Dn
open PySem PySem.Spec PyProof.Rows L2
/-- numbers in a list -/
def Nd (ns : List Nat) : List D := ns.map fun n => D.int (n : Nat)
@[simp] theorem Nd_len (ns : List Nat) : (Nd ns).length = ns.length := by simp [Nd]
@[simp] theorem ncs_Nd (ns : List Nat) : ncs (Nd ns) = true := by simp [Nd]
structure Nums (ns : List Nat) : Prop where
  lo : ∀ n ∈ ns, 1 ≤ n
  hi : ∀ n ∈ ns, n < 10 ^ 40
  nd : ns.Nodup
def numsI (K m : Nat) (i : Nat) (r : DEnv) (w : List Cell) : Prop := ∃ (c : Cell) (ns : List Nat) (low : Nat), Sat (K + 1 + 10 * (m - i)) c ∧ w = [c, .lst (Nd ns)] ∧ ns.length = i ∧ ns.Pairwise (· < ·) ∧ (∀ n ∈ ns, 1 ≤ n ∧ n ≤ low) ∧ low ≤ i * 200000000000000000000 ∧
    ∃ x4, r = [some (.cel 0), some (.int (m : Nat)), some (.cel 1), some (.int (low : Nat)), x4]
theorem s_numbers {K m : Nat} {c : Cell} (h : Sat (K + 10 * m + 1) c) (hm : m ≤ 20) : (m_law_numbers [.cel 0, .int (m : Nat)] [c]).sat (fun d w' => ∃ ns, d = .lst (Nd ns) ∧ ns.length = m ∧ Nums ns ∧ ∃ c' x, w' = [c', x] ∧ Sat K c') noX := by
  unfold m_law_numbers
  rw [sat_runB, sat_seq]
  simp
  rw [sat_seq]
  refine sFor_sat (xs := rangeItems m) (I := numsI K m) (range_ok rfl (by omega)) ?_ (fun i r w _ _ => rangeTF_ok m i w) ?_ ?_
  · exact ⟨c, [], 0, h.mono (by omega), rfl, rfl, by simp, by simp, by simp, _, rfl⟩
  · rintro i x r w hx ⟨c, ns, low, hc, rfl, hl, hp, hb, hlow, x4, rfl⟩
    obtain ⟨hi, rfl⟩ := rangeItems_get hx
    refine ⟨_, rfl, ?_⟩
    rw [sat_seq]
    simp
    refine (lift_c (k := K + 1 + 10 * (m - (i + 1)) + 9) (hc.mono (by omega)) (by decide) (by decide)).imp ?_
    rintro _ _ ⟨i9, rfl, hi9, c1, rfl, h1⟩
    simp [p20]
    refine (lift_c (k := K + 1 + 10 * (m - (i + 1)) + 8) (h1.mono (by omega)) (by decide) (by decide)).imp ?_
    rintro _ _ ⟨i5, rfl, hi5, c2, rfl, h2⟩
    simp
    refine (lift_c (k := K + 1 + 10 * (m - (i + 1)) + 7) (h2.mono (by omega)) (by decide) (by decide)).imp ?_
    rintro _ _ ⟨i4, rfl, hi4, c3, rfl, h3⟩
    obtain ⟨st, hst, hs6⟩ : ∃ st : Nat, atI [D.int 0, D.int 0, D.int (i9 : Nat), D.int (100000000000000000000 + (i5 : Nat))] (i4 : Int) = some (.int (st : Nat)) ∧ st ≤ 100000000000000000005 := by
      obtain ⟨x, hx, hh⟩ := pick4 (a := D.int 0) (b := D.int 0) (c := D.int (i9 : Nat)) (d := D.int (100000000000000000000 + (i5 : Nat))) hi4
      rcases hh with rfl | rfl | rfl | rfl
      · exact ⟨0, hx, by omega⟩
      · exact ⟨0, hx, by omega⟩
      · exact ⟨i9, hx, by omega⟩
      · exact ⟨100000000000000000000 + i5, by rw [hx]; rfl, by omega⟩
    have hrc := recv_cel (w := [c3, .lst (Nd ns)]) (n := 1) (ds := Nd ns) rfl
    have happ := fun (y : D) => append_ok (w := [c3, .lst (Nd ns)]) (n := 1) (xs := Nd ns) (y := y) rfl (by simp [hl]; exact small1000 (by omega))
    have e : (low : Int) + 1 + (st : Int) = ((low + 1 + st : Nat) : Int) := by omega
    simp [hst]
    rw [e]
    generalize hnw : low + 1 + st = nw
    simp [hrc, happ]
    refine ⟨c3, ns ++ [nw], nw, h3.mono (by omega), by simp [Nd], by simp [hl], ?_, ?_, ?_, _, rfl⟩
    · rw [List.pairwise_append]
      refine ⟨hp, by simp, fun a ha b hb2 => ?_⟩
      rw [List.mem_singleton.mp hb2]
      have := hb a ha
      omega
    · intro n hn
      rcases List.mem_append.mp hn with hn | hn
      · have := hb n hn; omega
      · rw [List.mem_singleton.mp hn]; omega
    · rw [Nat.succ_mul]; omega
  · rintro r w ⟨c, ns, low, hc, rfl, hl, hp, hb, hlow, x4, rfl⟩
    rw [rangeItems_len] at hl hc hlow
    have hlow2 : low ≤ 20 * 200000000000000000000 := Nat.le_trans hlow (Nat.mul_le_mul_right _ hm)
    have hN : Nums ns := ⟨fun n hn => (hb n hn).1, fun n hn => by have := (hb n hn).2; omega, hp.imp fun h => by omega⟩
    have hR : Nums ns.reverse := ⟨fun n hn => hN.lo n (List.mem_reverse.mp hn), fun n hn => hN.hi n (List.mem_reverse.mp hn), by have := hN.nd; unfold List.Nodup at this ⊢; rw [List.pairwise_reverse]; exact this.imp fun h => Ne.symm h⟩
    simp
    refine (lift_c (k := K) (hc.mono (by omega)) (by decide) (by decide)).imp ?_
    rintro _ _ ⟨i2, rfl, hi2, c1, rfl, h1⟩
    have ha := (cel_lst (w := [c1, .lst (Nd ns)]) (n := 1) (ds := Nd ns) rfl).2.1
    by_cases e : (i2 : Int) = 0
    · simp [e, ha]
      exact ⟨ns.reverse, by simp [Nd], by simpa using hl, hR, h1⟩
    · have e' : ¬ (i2 = 0) := by omega
      simp [e', frzD]
      exact ⟨ns, rfl, hl, hN, h1⟩
end Dn
/-! L15: logs that grow. -/
namespace Dn
open PySem PySem.Spec PyProof.Rows L2
def recSt (ls : List Letter) : Recs × Takn := ls.foldl (fun s l => (aput s.1 l.key l.name, tkPut s.2 l)) ([], [])
theorem recSt_snoc (ls : List Letter) (l : Letter) : recSt (ls ++ [l]) = (aput (recSt ls).1 l.key l.name, tkPut (recSt ls).2 l) := by simp [recSt]
def Valid (ls : List Letter) : Prop := ∀ i l, ls[i]? = some l → isNext (recSt (ls.take i)).1 (recSt (ls.take i)).2 l ((i : Int) + 1) = true
theorem Valid.nil : Valid [] := fun i l h => by simp at h
theorem Valid.snoc {ls : List Letter} {l : Letter} (h : Valid ls) (hn : isNext (recSt ls).1 (recSt ls).2 l ((ls.length : Int) + 1) = true) : Valid (ls ++ [l]) := by
  intro i m hm
  by_cases hi : i < ls.length
  · rw [List.getElem?_append_left hi] at hm
    rw [List.take_append_of_le_length (by omega)]
    exact h i m hm
  · rw [List.getElem?_append_right (by omega)] at hm
    have e : i = ls.length := by
      by_cases q : i - ls.length = 0
      · omega
      · obtain ⟨j, hj⟩ : ∃ j, i - ls.length = j + 1 := ⟨i - ls.length - 1, by omega⟩
        rw [hj] at hm; simp at hm
    subst e
    simp at hm
    subst hm
    rw [List.take_left]
    exact hn
theorem Valid.take {ls : List Letter} (h : Valid ls) (n : Nat) : Valid (ls.take n) := by
  intro i l hl
  have hi : i < (ls.take n).length := (List.getElem?_eq_some_iff.mp hl).1
  rw [List.length_take] at hi
  rw [List.getElem?_take_of_lt (by omega)] at hl
  have e : (ls.take n).take i = ls.take i := by rw [List.take_take]; congr 1; omega
  rw [e]
  exact h i l hl
theorem recGo_valid {ls : List Letter} (h : Valid ls) : ∀ (n i : Nat), i + n = ls.length → recGo (ls.drop i) i (recSt (ls.take i)).1 (recSt (ls.take i)).2 = ((recSt ls).1, none)
  | 0, i, e => by
    rw [List.drop_eq_nil_of_le (by omega), List.take_of_length_le (by omega)]
    rfl
  | n + 1, i, e => by
    have hi : i < ls.length := by omega
    rw [List.drop_eq_getElem_cons hi, recGo, if_pos (h i _ (List.getElem?_eq_getElem hi))]
    have ih := recGo_valid h n (i + 1) (by omega)
    rw [List.take_succ_eq_append_getElem hi, recSt_snoc] at ih
    exact ih
theorem wrongLog_valid {ls : List Letter} (h : Valid ls) (hl : ∀ l ∈ ls, isLetter l = true) : wrongLog ls = none := by
  unfold wrongLog
  have e : ls.findIdx? (fun l => !isLetter l) = none := findIdx_none fun j hj => by rw [hl _ (List.getElem_mem hj)]; rfl
  have g := recGo_valid h ls.length 0 (by omega)
  rw [List.drop_zero, List.take_zero] at g
  simp only [e, Option.getD_none, List.take_length]
  rw [show recGo ls 0 [] [] = _ from g]
abbrev Live := List (Int × Str)
structure LogI (found : List Letter) (live : Live) (rest : List Nat) : Prop where
  valid : Valid found
  good : ∀ l ∈ found, GoodL l
  stamps : ∀ j l, found[j]? = some l → l.stamp = ((j + 1 : Nat) : Int)
  rs : ∀ k x, aget live k = some x ↔ aget (recSt found).1 k = some (some x)
  dist : ∀ k k' x, aget live k = some x → aget live k' = some x → k = k'
  names : ∀ k x, aget live k = some x → isName x = true
  keys : ∀ k x, aget live k = some x → ∃ n : Nat, k = (n : Int) ∧ 1 ≤ n ∧ n < 10 ^ 40
  kd : (live.map (·.1)).Nodup
  new : ∀ n ∈ rest, aget (recSt found).1 ((n : Nat) : Int) = none
  rn : Nums rest
theorem LogI.start {rest : List Nat} (h : Nums rest) : LogI [] [] rest := ⟨Valid.nil, by simp, by simp, by simp [recSt], by simp, by simp, by simp, by simp, by simp [recSt], h⟩
theorem LogI.step {found : List Letter} {live live' : Live} {rest rest' : List Nat} {k : Nat} {o : Option Str} (h : LogI found live rest) (k1 : 1 ≤ k) (k2 : k < 10 ^ 40) (hl : found.length ≤ 1000)
    (hk : aget (recSt found).1 (k : Int) ≠ some none) (ho : o = none → (aget (recSt found).1 (k : Int)).isSome = true) (hx : ∀ x, o = some x → isName x = true ∧ ∀ k', aget live k' = some x → k' = (k : Int))
    (hv : ∀ k', aget live' k' = if k' = (k : Int) then o else aget live k') (hd : (live'.map (·.1)).Nodup) (hr : ∀ n ∈ rest', n ∈ rest ∧ n ≠ k) (hrn : Nums rest') :
    LogI (found ++ [⟨(k : Nat), ((found.length + 1 : Nat) : Int), o⟩]) live' rest' := by
  have hn : isNext (recSt found).1 (recSt found).2 ⟨(k : Nat), ((found.length + 1 : Nat) : Int), o⟩ ((found.length : Int) + 1) = true := by
    unfold isNext
    simp only
    rw [if_neg (by rintro (q | q); · exact q (by omega)
                   · exact hk q)]
    cases o with
    | none => exact ho rfl
    | some x =>
      simp only [Bool.not_eq_true']
      unfold isTaken
      simp only [Bool.and_eq_false_iff, decide_eq_false_iff_not]
      by_cases q : aget (recSt found).1 ((aget (recSt found).2 x).getD (k : Int)) = some (some x)
      · exact .inl fun z => z ((hx x rfl).2 _ ((h.rs _ _).mpr q))
      · exact .inr q
  refine ⟨h.valid.snoc hn, ?_, ?_, ?_, ?_, ?_, ?_, hd, ?_, hrn⟩
  · intro l hl'
    rcases List.mem_append.mp hl' with hm | hm
    · exact h.good l hm
    · rw [List.mem_singleton.mp hm]
      refine ⟨⟨k, rfl, k1, k2⟩, ⟨found.length + 1, rfl, by omega, Nat.lt_of_le_of_lt (show found.length + 1 ≤ 1001 by omega) (by decide)⟩, ?_⟩
      cases o with
      | none => rfl
      | some x => exact (hx x rfl).1
  · intro j l hj
    by_cases hjl : j < found.length
    · rw [List.getElem?_append_left hjl] at hj
      exact h.stamps j l hj
    · rw [List.getElem?_append_right (by omega)] at hj
      have e : j = found.length := by
        by_cases q : j - found.length = 0
        · omega
        · obtain ⟨i, hi⟩ : ∃ i, j - found.length = i + 1 := ⟨j - found.length - 1, by omega⟩
          rw [hi] at hj; simp at hj
      subst e
      simp at hj
      subst hj
      rfl
  · intro k' x
    rw [hv, recSt_snoc]
    simp only [aget_aput]
    by_cases e : k' = (k : Int)
    · rw [if_pos e, if_pos e]; simp
    · rw [if_neg e, if_neg e]; exact h.rs k' x
  · intro a b x ha hb
    rw [hv] at ha hb
    by_cases ea : a = (k : Int)
    · rw [if_pos ea] at ha
      by_cases eb : b = (k : Int)
      · rw [ea, eb]
      · rw [if_neg eb] at hb
        rw [ea, (hx x ha).2 b hb]
    · rw [if_neg ea] at ha
      by_cases eb : b = (k : Int)
      · rw [if_pos eb] at hb
        rw [eb, (hx x hb).2 a ha]
      · rw [if_neg eb] at hb
        exact h.dist a b x ha hb
  · intro k' x hq
    rw [hv] at hq
    by_cases e : k' = (k : Int)
    · rw [if_pos e] at hq; exact (hx x hq).1
    · rw [if_neg e] at hq; exact h.names k' x hq
  · intro k' x hq
    rw [hv] at hq
    by_cases e : k' = (k : Int)
    · exact ⟨k, e, k1, k2⟩
    · rw [if_neg e] at hq; exact h.keys k' x hq
  · intro n hn'
    obtain ⟨h1, h2⟩ := hr n hn'
    rw [recSt_snoc]
    simp only [aget_aput]
    rw [if_neg (by omega)]
    exact h.new n h1
theorem LogI.play {found : List Letter} {live : Live} {rest : List Nat} (h : LogI found live rest) (hl : found.length ≤ 400) {com : List Letter} (hc : ∀ l ∈ com, l ∈ found) (hn : com.length ≤ 400) : PlayOk found com :=
  ⟨h.good, fun i => wrongLog_valid (h.valid.take i) fun l hl => (h.good l (List.mem_of_mem_take hl)).letter, fun l hl => by
    obtain ⟨j, hj⟩ := List.getElem?_of_mem (hc l hl)
    exact ⟨j, hj, h.stamps j l hj⟩, hl, hn⟩
/-! ### the dict of the live ones -/
def less (live : Live) (k : Int) : Live := live.filter fun p => decide (p.1 ≠ k)
theorem aget_less (live : Live) (k k' : Int) : aget (less live k) k' = if k' = k then none else aget live k' := by
  unfold less
  induction live with
  | nil => simp
  | cons p l ih =>
    by_cases h : p.1 = k
    · rw [List.filter_cons_of_neg (by simpa using h), ih, aget_cons]
      by_cases e : k' = k
      · rw [if_pos e, if_pos e]
      · rw [if_neg e, if_neg e, if_neg (fun q => e (q.symm.trans h))]
    · rw [List.filter_cons_of_pos (by simpa using h), aget_cons, aget_cons, ih]
      by_cases e : k' = k
      · subst e; rw [if_neg h]; simp
      · rw [if_neg e, if_neg e]
theorem less_nd {live : Live} (h : (live.map (·.1)).Nodup) (k : Int) : ((less live k).map (·.1)).Nodup := by
  have : ((less live k).map (·.1)).Sublist (live.map (·.1)) := (List.filter_sublist).map _
  exact h.sublist this
theorem aput_nd {κ β : Type} [DecidableEq κ] {l : List (κ × β)} (h : (l.map (·.1)).Nodup) (k : κ) (v : β) : ((aput l k v).map (·.1)).Nodup := by
  unfold aput
  split
  · have : (l.map fun p => if p.1 = k then (p.1, v) else p).map (·.1) = l.map (·.1) := by
      rw [List.map_map]
      refine List.map_congr_left fun p _ => ?_
      simp only [Function.comp_def]
      split <;> rfl
    rw [this]; exact h
  · rename_i hn
    rw [List.map_append, List.nodup_append]
    refine ⟨h, by simp, fun a ha b hb e => ?_⟩
    simp at hb
    subst hb; subst e
    obtain ⟨p, hp, rfl⟩ := List.mem_map.mp ha
    exact hn (List.any_eq_true.mpr ⟨p, hp, by simp⟩)
theorem aget_mem {κ β : Type} [DecidableEq κ] : ∀ {l : List (κ × β)}, (l.map (·.1)).Nodup → ∀ {p : κ × β}, p ∈ l → aget l p.1 = some p.2
  | [], _, p, h => by cases h
  | q :: l, hn, p, h => by
    rw [aget_cons]
    rcases List.mem_cons.mp h with rfl | h
    · rw [if_pos rfl]
    · have hne : q.1 ≠ p.1 := fun e => (List.nodup_cons.mp hn).1 (List.mem_map.mpr ⟨p, h, e.symm⟩)
      rw [if_neg hne]
      exact aget_mem (List.nodup_cons.mp hn).2 h
theorem aget_in {κ β : Type} [DecidableEq κ] : ∀ {l : List (κ × β)} {k : κ} {v : β}, aget l k = some v → (k, v) ∈ l
  | [], k, v, h => by simp at h
  | q :: l, k, v, h => by
    rw [aget_cons] at h
    split at h
    · rename_i e
      cases h; cases e
      exact List.mem_cons_self
    · exact List.mem_cons_of_mem _ (aget_in h)
end Dn
/-! L16: dicts walked; the law's dict without one. -/
namespace Dn
open PySem PySem.Spec PyProof.Rows L2
abbrev lvD (l : Live) : List (Key × D) := enc .inl (fun x => D.str x) l
theorem ncC_lv (l : Live) (lk : Bool) : ncC (.dct (lvD l) lk) = true := nck_enc (by simp) l
theorem sat_lock {i n : Nat} {B : DenS} {r : DEnv} {w : List Cell} {kd : List (Key × D)} {Q : Fl → DEnv → List Cell → Prop} {X : Ex → DEnv → List Cell → Prop} (hr : r[i]? = some (some (.cel n))) (hw : w[n]? = some (.dct kd false))
    (h : (B r (w.set n (.dct kd true))).sat (fun f r' w' => ∃ kd', w'[n]? = some (.dct kd' true) ∧ Q f r' (w'.set n (.dct kd' false))) X) : (sLock i B r w).sat Q X := by
  unfold sLock
  simp only [hr, hw]
  cases q : B r (w.set n (.dct kd true)) with
  | go f r' w' =>
    rw [q, satS_go] at h
    obtain ⟨kd', h1, h2⟩ := h
    unfold unlS
    simp only [h1]
    exact satS_go.mpr h2
  | exc x r' w' => rw [q, satS_exc] at h; exact satS_exc.mpr h
  | bad => rw [q, satS_bad] at h; exact h.elim
theorem lock_back {w : List Cell} {n : Nat} {kd : List (Key × D)} (hw : w[n]? = some (.dct kd false)) : (w.set n (.dct kd true))[n]? = some (.dct kd true) ∧ (w.set n (.dct kd true)).set n (.dct kd false) = w := by
  have hn := (List.getElem?_eq_some_iff.mp hw).1
  refine ⟨by rw [List.getElem?_set_self hn], ?_⟩
  rw [List.set_set]
  apply List.ext_getElem?
  intro i
  by_cases e : n = i
  · subst e; rw [List.getElem?_set_self hn, hw]
  · rw [List.getElem?_set_ne e]
theorem eLock_ok {i n : Nat} {A : Den} {r : DEnv} {w : List Cell} {kd : List (Key × D)} {d : D} (hr : r[i]? = some (some (.cel n))) (hw : w[n]? = some (.dct kd false)) (h : A r (w.set n (.dct kd true)) = .ok d (w.set n (.dct kd true))) : eLock i A r w = .ok d w := by
  unfold eLock
  simp only [hr, hw, h, unlE, (lock_back hw).1, (lock_back hw).2]
theorem iKV_ok {f : Key × D → D} {A : Den} {r : DEnv} {w : List Cell} {d : D} {kd : List (Key × D)} (h : A r w = .ok d w) (hk : asKF d w = some kd) : iKV f A r w = .ok ((kd.map f).length, kvTF f kd) w := by
  unfold iKV
  rw [h]
  simp [hk]
theorem kvTF_ok {f : Key × D → D} (kd : List (Key × D)) (i : Nat) (w : List Cell) : kvTF f kd i w = some ((kd.map f)[i]?) := by
  unfold kvTF
  rw [List.getElem?_map]
theorem asKF_cel {w : List Cell} {n : Nat} {kd : List (Key × D)} (h : w[n]? = some (.dct kd true)) : asKF (.cel n) w = some kd := by simp [asKF, h]
theorem lv_keys (l : Live) : (lvD l).map keyF = l.map fun p => D.int p.1 := by
  unfold lvD enc
  rw [List.map_map]
  rfl
/-- the values of the live ones -/
theorem live_vals {live : Live} (hn : (live.map (·.1)).Nodup) (hl : live.length ≤ 1000) {r : DEnv} {w : List Cell} {n : Nat} {x0 x1 x2 x3 x5 x6 x7 x8 x9 x10 x11 x12 x13 : Option D} (hr : r = [x0, x1, x2, x3, some (.cel n), x5, x6, x7, x8, x9, x10, x11, x12, x13]) (hw : w[n]? = some (.dct (lvD live) false)) :
    eLock 4 (eComp (iKV keyF (eVar 4)) (bName 13) tYesD (eBin ixD (eVar 4) (eVar 13)) [13]) r w = .ok (.lst ((live.map (·.2)).map .str)) w := by
  subst hr
  refine eLock_ok rfl hw ?_
  have hw1 := (lock_back hw).1
  rw [comp_map (f := fun d => match d with | .int k => oD (aget live k) | _ => .non) (iKV_ok (by simp) (asKF_cel hw1)) (kvTF_ok (lvD live) · _) ?_ (by rw [lv_keys]; simp; exact small_le (by omega))]
  · rw [lv_keys, List.map_map, List.map_map]
    congr 2
    refine List.map_congr_left fun p hp => ?_
    simp only [Function.comp_def]
    rw [aget_mem hn hp]
    rfl
  · intro d hd
    rw [lv_keys] at hd
    obtain ⟨p, hp, rfl⟩ := List.mem_map.mp hd
    refine ⟨_, rfl, ?_⟩
    have hx := ix_dct hw1 (D.int p.1)
    simp only [keyOf_int, Option.bind_some, look_enc inl_inj, aget_mem hn hp] at hx
    simp [wipeD, hx, aget_mem hn hp]
theorem aput_new {κ β : Type} [DecidableEq κ] {l : List (κ × β)} {k : κ} {v : β} (h : aget l k = none) : aput l k v = l ++ [(k, v)] := by
  unfold aput
  rw [if_neg (by rw [aget_none_iff.mp h]; decide)]
theorem less_len (l : Live) (k : Int) : (less l k).length ≤ l.length := List.length_filter_le _ _
def lessI (w0 : List Cell) (n : Nat) (live : Live) (k : Int) (i : Nat) (r : DEnv) (w : List Cell) : Prop := ∃ x3, r = [some (.cel n), some (.int k), some (.cel w0.length), x3] ∧ w = (w0.set n (.dct (lvD live) true)) ++ [.dct (lvD (less (live.take i) k)) false]
theorem s_less {live : Live} {w0 : List Cell} {n : Nat} {k : Int} (hn : (live.map (·.1)).Nodup) (hl : live.length ≤ 1000) (hw : w0[n]? = some (.dct (lvD live) false)) :
    (m_law_less [.cel n, .int k] w0).sat (fun d w => d = .cel w0.length ∧ w = w0 ++ [.dct (lvD (less live k)) false]) noX := by
  unfold m_law_less
  have hnl := (List.getElem?_eq_some_iff.mp hw).1
  rw [sat_runB, sat_seq]
  simp
  rw [sat_seq]
  have hw2 : (w0 ++ [Cell.dct [] false])[n]? = some (.dct (lvD live) false) := by rw [List.getElem?_append_left hnl]; exact hw
  refine sat_lock (n := n) rfl hw2 ?_
  have hset : (w0 ++ [Cell.dct [] false]).set n (.dct (lvD live) true) = w0.set n (.dct (lvD live) true) ++ [.dct [] false] := by rw [List.set_append_left _ _ hnl]
  rw [hset]
  have lk : ∀ t, (w0.set n (.dct (lvD live) true) ++ [t])[n]? = some (.dct (lvD live) true) := fun t => by
    rw [List.getElem?_append_left (by simpa using hnl), List.getElem?_set_self hnl]
  refine sFor_sat (xs := (lvD live).map keyF) (tf := kvTF keyF (lvD live)) (w1 := w0.set n (.dct (lvD live) true) ++ [.dct [] false]) (I := lessI w0 n live k) (iKV_ok (d := .cel n) (by simp) (asKF_cel (lk _))) ?_ (fun i r w _ _ => kvTF_ok _ i w) ?_ ?_
  · exact ⟨_, rfl, rfl⟩
  · rintro i x r w hx ⟨x3, rfl, rfl⟩
    rw [lv_keys, List.getElem?_map] at hx
    obtain ⟨p, hp, rfl⟩ := Option.map_eq_some_iff.mp hx
    have hpm := List.mem_of_getElem? hp
    have hi := (List.getElem?_eq_some_iff.mp hp).1
    refine ⟨_, rfl, ?_⟩
    have htk : less (live.take (i + 1)) k = less (live.take i) k ++ if p.1 = k then [] else [p] := by
      rw [← take_snoc hp]
      unfold less
      rw [List.filter_append]
      congr 1
      by_cases e : p.1 = k <;> simp [e]
    by_cases e : p.1 = k
    · rw [if_pos e, List.append_nil] at htk
      simp [e]
      exact ⟨_, rfl, by rw [htk]⟩
    · rw [if_neg e] at htk
      have hix := ix_dct (lk (.dct (lvD (less (live.take i) k)) false)) (D.int p.1)
      simp only [keyOf_int, Option.bind_some, look_enc inl_inj, aget_mem hn hpm] at hix
      have hnew : aget (less (live.take i) k) p.1 = none := by
        rw [aget_less, if_neg e]
        cases q : aget (live.take i) p.1 with
        | none => rfl
        | some v =>
          exfalso
          obtain ⟨j, hj⟩ := List.getElem?_of_mem (aget_in q)
          have hji : j < i := by
            have := (List.getElem?_eq_some_iff.mp hj).1
            rw [List.length_take] at this; omega
          rw [List.getElem?_take_of_lt hji] at hj
          have h1 : (live.map (·.1))[j]? = some p.1 := by rw [List.getElem?_map, hj]; rfl
          have h2 : (live.map (·.1))[i]? = some p.1 := by rw [List.getElem?_map, hp]; rfl
          obtain ⟨a1, a2⟩ := List.getElem?_eq_some_iff.mp h1
          obtain ⟨b1, b2⟩ := List.getElem?_eq_some_iff.mp h2
          have := (List.getElem_inj hn).mp (a2.trans b2.symm)
          omega
      have hat : (w0.set n (.dct (lvD live) true) ++ [Cell.dct (lvD (less (live.take i) k)) false])[w0.length]? = some (.dct (lvD (less (live.take i) k)) false) := by
        rw [List.getElem?_append_right (by simp)]; simp
      have hset2 := set_dct hat (by rw [enc_len]; exact small1000 (Nat.le_trans (less_len _ _) (by simp; omega))) (D.int p.1) (.str p.2)
      simp only [keyOf_int, Option.map_some] at hset2
      rw [show (D.str p.2) = (fun x => D.str x) p.2 from rfl, put_enc inl_inj, aput_new hnew, ← htk] at hset2
      have hfin : (w0.set n (.dct (lvD live) true) ++ [Cell.dct (lvD (less (live.take i) k)) false]).set w0.length (.dct (enc .inl (fun x => D.str x) (less (live.take (i + 1)) k)) false) = w0.set n (.dct (lvD live) true) ++ [.dct (lvD (less (live.take (i + 1)) k)) false] := by
        rw [List.set_append_right _ _ (by simp)]; simp
      rw [hfin] at hset2
      simp [e, hix, hset2]
      exact ⟨_, rfl, rfl⟩
  · rintro r w ⟨x3, rfl, rfl⟩
    refine ⟨lvD live, lk _, ?_⟩
    rw [List.length_map, enc_len, List.take_length]
    have : (w0.set n (.dct (lvD live) true) ++ [Cell.dct (lvD (less live k)) false]).set n (.dct (lvD live) false) = w0 ++ [.dct (lvD (less live k)) false] := by
      rw [List.set_append_left _ _ (by simpa using hnl), (lock_back hw).2]
    rw [this]
    simp
end Dn
/-! L17: logs drawn. -/
namespace Dn
open PySem PySem.Spec PyProof.Rows L2
/-! ### lists of ints, against the empty one -/
theorem toPys_ints (ns : List Int) : toPys (ns.map .int) = some (ns.map .int) := by
  induction ns with
  | nil => simp [toPys]
  | cons x ws ih => simp [toPys, toPy, ih]
theorem lay_ints (ns : List Int) : PyData.canLayAll0 (ns.map .int) = true := by
  induction ns with
  | nil => simp [PyData.canLayAll0]
  | cons x ws ih => simp [PyData.canLayAll0, PyData.canLay0, ih]
theorem depth_ints (ns : List Int) : PyData.depthAll (ns.map .int) = 0 := by
  induction ns with
  | nil => simp [PyData.depthAll]
  | cons x ws ih => simp [PyData.depthAll, PyData.depth, ih]
theorem shaped_ints (ns : List Int) : SeqAt.shaped (.list (ns.map .int)) = true := by
  simp [SeqAt.shaped, PyData.canLay0, lay_ints, PyData.depth, depth_ints]
theorem toPyW_ints (ns : List Int) (w : List Cell) : toPyW (.lst (ns.map .int)) w = some (.list (ns.map .int)) := by simp [toPyW, toPy, toPys_ints]
theorem eqv_nil (xs : List PyData) : PyData.eqv (.list xs) (.list []) = xs.isEmpty := by
  cases xs <;> simp [PyData.eqv, PyData.eqvAll]
theorem shaped_nil : SeqAt.shaped (.list []) = true := shaped_ints []
theorem eqB_nil {d : D} {w : List Cell} {xs : List PyData} (h : toPyW d w = some (.list xs)) (hs : SeqAt.shaped (.list xs) = true) (hd : scalD d (.lst []) = none) : eqB d (.lst []) w = some xs.isEmpty := by
  unfold eqB
  have e : toPyW (.lst []) w = some (.list []) := rfl
  rw [hd, h, e]
  simp [hs, shaped_nil, eqv_nil]
theorem ne_ints {ns : List Int} {w : List Cell} : neD (.lst (ns.map .int)) (.lst []) w = some (.bl (!ns.isEmpty)) := by
  unfold neD
  rw [eqB_nil (xs := ns.map .int) (toPyW_ints ns w) (shaped_ints ns) rfl]
  cases ns <;> simp
theorem Nd_ints (ns : List Nat) : Nd ns = (ns.map fun n : Nat => (n : Int)).map .int := by unfold Nd; rw [List.map_map]; rfl
theorem ne_Nd {ns : List Nat} {w : List Cell} : neD (.lst (Nd ns)) (.lst []) w = some (.bl (!ns.isEmpty)) := by
  rw [Nd_ints, ne_ints]; cases ns <;> simp
theorem eq_Nd {ns : List Nat} {w : List Cell} : eqD (.lst (Nd ns)) (.lst []) w = some (.bl ns.isEmpty) := by
  unfold eqD
  rw [Nd_ints, eqB_nil (xs := (ns.map fun n : Nat => (n : Int)).map .int) (toPyW_ints _ w) (shaped_ints _) rfl]
  cases ns <;> simp
theorem ne_strsL {ws : List Str} {w : List Cell} (h : ∀ x ∈ ws, PyData.strOk x = true) : neD (.lst (ws.map .str)) (.lst []) w = some (.bl (!ws.isEmpty)) := by
  unfold neD
  rw [eqB_nil (xs := ws.map .str) (by simp [toPyW, toPy, toPys_strs]) (shaped_strs h) rfl]
  cases ws <;> simp
theorem intsOf_ints (ns : List Int) : intsOf (ns.map .int) = some ns := by
  induction ns with
  | nil => rfl
  | cons x ws ih => simp [intsOf, ih]
theorem sorted_ints {ns : List Int} {w : List Cell} : sortedD (.lst (ns.map .int)) w = some (.lst ((sortI ns).map .int)) := by
  unfold sortedD
  simp [intsOf_ints]
def keysL (l : Live) : List Int := l.map (·.1)
theorem list_live {w : List Cell} {n : Nat} {l : Live} {lk : Bool} (h : w[n]? = some (.dct (lvD l) lk)) : listD (.cel n) w = some (.lst ((keysL l).map .int)) := by
  unfold listD itemsD
  obtain ⟨h1, h2, h3, h4, h5⟩ := cel_dct h
  rw [h1, h4]
  simp only [Option.map_some, keysL]
  unfold lvD enc
  rw [List.map_map, List.map_map]
  rfl
/-- the labels that nobody has -/
def freeL (labels : List Str) (live : Live) : List Str := labels.filter fun x => decide (x ∉ live.map (·.2))
theorem free_val {labels : List Str} {live : Live} (hL : ∀ x ∈ labels, isName x = true) (hN : ∀ k x, aget live k = some x → isName x = true) (hn : (live.map (·.1)).Nodup) (hl : live.length ≤ 1000) (hz : labels.length ≤ 1000) {w : List Cell} {n : Nat} {x0 x1 x2 x5 x6 x7 x8 x9 x10 x11 x12 x13 : Option D} (hw : w[n]? = some (.dct (lvD live) false)) :
    eComp (iSeq (eVar 3)) (bName 12) (tVal (eBin notInD (eVar 12) (eLock 4 (eComp (iKV keyF (eVar 4)) (bName 13) tYesD (eBin ixD (eVar 4) (eVar 13)) [13])))) (eVar 12) [12] [x0, x1, x2, some (.lst (labels.map .str)), some (.cel n), x5, x6, x7, x8, x9, x10, x11, x12, x13] w = .ok (.lst ((freeL labels live).map .str)) w := by
  have hi : items (.lst (labels.map .str)) w = some (labels.map D.str) := rfl
  have hvs : ∀ x ∈ live.map (·.2), isName x = true := fun x hx => by
    obtain ⟨p, hp, rfl⟩ := List.mem_map.mp hx
    exact hN p.1 p.2 (aget_mem hn hp)
  rw [comp_fm (p := fun d => match d with | .str z => decide (z ∉ live.map (·.2)) | _ => false) (f := id) (iSeq_ok (by simp) hi) (seqTF_ok hi) ?_ (by simp; exact small_le (by omega))]
  · rw [List.filter_map]
    have : ((fun d => match d with | D.str z => decide (z ∉ live.map (·.2)) | _ => false) ∘ D.str) = fun y => decide (y ∉ live.map (·.2)) := rfl
    rw [this, List.map_id]
    rfl
  · intro d hd
    obtain ⟨z, hz, rfl⟩ := List.mem_map.mp hd
    refine ⟨_, rfl, ?_, fun _ => rfl⟩
    have hv := live_vals (x0 := x0) (x1 := x1) (x2 := x2) (x3 := some (.lst (labels.map .str))) (x5 := x5) (x6 := x6) (x7 := x7) (x8 := x8) (x9 := x9) (x10 := x10) (x11 := x11) (x12 := some (.str z)) (x13 := x13) hn hl rfl hw
    have hni := notIn_lst (w := w) (ws := live.map (·.2)) (x := z) (fun x hx => name_str (hvs x hx)) (name_str (hL z hz))
    simp only [wipeD, List.set, x_val, x_bin, x_var, List.getElem?_cons_succ, List.getElem?_cons_zero, Out.bnd_ok, hv, hni, Out.of_some, v_asB]
def logI (K m : Nat) (labels : List Str) (N : Option D) (i : Nat) (r : DEnv) (w : List Cell) : Prop := ∃ (c : Cell) (t : List Cell) (found : List Letter) (live : Live) (rest : List Nat) (p : Nat), Sat (K + 10 * (m - i)) c ∧ w = c :: t ∧ LogI found live rest ∧ found.length ≤ i ∧ live.length ≤ i ∧
  t[1]? = some (.lst (Ld found)) ∧ t[p]? = some (.dct (lvD live) false) ∧ p ≠ 1 ∧ ∃ x7 x8 x9 x10 x11 x12 x13, r = [some (.cel 0), some (.int (m : Nat)), N, some (.lst (labels.map .str)), some (.cel (p + 1)), some (.lst (Nd rest)), some (.cel 2), x7, x8, x9, x10, x11, x12, x13]
def logQ (K m : Nat) (d : D) (w' : List Cell) : Prop := ∃ found live rest, d = .lst (Ld found) ∧ LogI found live rest ∧ found.length ≤ m ∧ ∃ c' x, w' = c' :: x ∧ Sat K c'
abbrev blockA : DenS := sSeq (sSet 11 (eBin ixD (eVar 10) (eCallS 2 m_law_lift [] (aCons (eVar 0) (aCons (eCallB (one lenD) (aCons (eVar 10) aNil)) aNil)))))
    (sSeq (sSet 12 (eBin ixD (eBin addD (eVar 9) (eLst (aCons (eBin ixD (eVar 4) (eVar 11)) aNil))) (eCallS 2 m_law_lift [] (aCons (eVar 0) (aCons (eBin addD (eCallB (one lenD) (aCons (eVar 9) aNil)) (eC (.int 1))) aNil)))))
    (sSeq (sSet 4 (eCall 2 m_law_less [] (aCons (eVar 4) (aCons (eVar 11) aNil))))
    (sSeq (sIf (tVal (eBin eqD (eVar 8) (eC (.int 5)))) (sSet 12 (eC .non)) (sSub (eVar 4) (eVar 11) (eVar 12)))
    (sExpr (eMeth "list" appendN (eVar 6) (aCons (eTup (aCons (eVar 11) (aCons (eBin addD (eCallB (one lenD) (aCons (eVar 6) aNil)) (eC (.int 1))) (aCons (eVar 12) aNil)))) aNil))))))
theorem freeL_ok {labels : List Str} {live : Live} {x : Str} (h : x ∈ freeL labels live) : x ∈ labels ∧ ∀ k', aget live k' ≠ some x := by
  obtain ⟨h1, h2⟩ := List.mem_filter.mp h
  refine ⟨h1, fun k' q => ?_⟩
  have := of_decide_eq_true h2
  exact this (List.mem_map.mpr ⟨_, aget_in q, rfl⟩)
theorem freeL_len (labels : List Str) (live : Live) : (freeL labels live).length ≤ labels.length := List.length_filter_le _ _
/-- what follows a further letter -/
theorem log_next {K' K m i : Nat} {labels : List Str} {N : Option D} {c : Cell} {t : List Cell} {found : List Letter} {live' : Live} {rest' : List Nat} {p : Nat} {l : Letter} {x7 x8 x9 x10 x11 x12 x13 : Option D} (hK : K + 10 * (m - (i + 1)) ≤ K') (hc : Sat K' c) (hI : LogI (found ++ [l]) live' rest') (hfl : found.length ≤ i) (hll : live'.length ≤ i + 1)
    (ht1 : t[1]? = some (.lst (Ld found))) (htp : t[p]? = some (.dct (lvD live') false)) (hp : p ≠ 1) :
    logI K m labels N (i + 1) [some (.cel 0), some (.int (m : Nat)), N, some (.lst (labels.map .str)), some (.cel (p + 1)), some (.lst (Nd rest')), some (.cel 2), x7, x8, x9, x10, x11, x12, x13] (c :: t.set 1 (.lst (Ld found ++ [l.d]))) := by
  refine ⟨c, _, found ++ [l], live', rest', p, hc.mono hK, rfl, hI, by simp; omega, hll, ?_, ?_, hp, _, _, _, _, _, _, _, rfl⟩
  · rw [List.getElem?_set_self (List.getElem?_eq_some_iff.mp ht1).1]; simp [Ld]
  · rw [List.getElem?_set_ne (fun e => hp e.symm)]; exact htp
theorem s_blockA {K m i way : Nat} {labels : List Str} {N : Option D} {c : Cell} {t : List Cell} {found : List Letter} {live : Live} {rest : List Nat} {p : Nat} {x11 x12 x13 : Option D} (hm : m ≤ 60) (hi : i < m) (hL : Names labels) (hz : labels.length ≤ 100)
    (hc : Sat (K + 10 * (m - (i + 1)) + 9) c) (hI : LogI found live rest) (hfl : found.length ≤ i) (hll : live.length ≤ i) (ht1 : t[1]? = some (.lst (Ld found))) (htp : t[p]? = some (.dct (lvD live) false)) (hp1 : p ≠ 1) (hne : live ≠ []) :
    (blockA [some (.cel 0), some (.int (m : Nat)), N, some (.lst (labels.map .str)), some (.cel (p + 1)), some (.lst (Nd rest)), some (.cel 2), some (.int (i : Nat)), some (.int (way : Nat)), some (.lst ((freeL labels live).map .str)), some (.lst ((sortI (keysL live)).map .int)), x11, x12, x13] (c :: t)).sat
      (fun f r w => f = .next ∧ logI K m labels N (i + 1) r w) noXS := by
  have hperm := sortI_perm (keysL live)
  have hkl : (sortI (keysL live)).length = live.length := by rw [hperm.length_eq]; simp [keysL]
  have hl0 : 0 < live.length := List.length_pos_iff.mpr hne
  have hwp : ∀ c : Cell, (c :: t)[p + 1]? = some (.dct (lvD live) false) := fun c => by simpa using htp
  have ht1l := (List.getElem?_eq_some_iff.mp ht1).1
  rw [sat_seq]
  simp [hkl]
  refine (lift_c (k := K + 10 * (m - (i + 1)) + 8) (hc.mono (by omega)) (by omega) (by omega)).imp ?_
  rintro _ _ ⟨j, rfl, hj, c1, rfl, h1⟩
  have hjl : j < (sortI (keysL live)).length := by rw [hkl]; omega
  obtain ⟨kI, hkI⟩ : ∃ kI, (sortI (keysL live))[j]? = some kI := ⟨_, List.getElem?_eq_getElem hjl⟩
  have hkm : kI ∈ keysL live := hperm.mem_iff.mp (List.mem_of_getElem? hkI)
  obtain ⟨pr, hpr, rfl⟩ := List.mem_map.mp hkm
  have hag := aget_mem hI.kd hpr
  obtain ⟨k, hk, k1, k2⟩ := hI.keys _ _ hag
  have hat : atI ((sortI (keysL live)).map D.int) (j : Int) = some (.int (k : Nat)) := by rw [atI_nat, List.getElem?_map, hkI, ← hk]; rfl
  rw [hk] at hag
  simp [hat]
  rw [sat_seq]
  have hix := fun c => ix_dct (hwp c) (D.int (k : Nat))
  simp only [keyOf_int, Option.bind_some, look_enc inl_inj, hag, Option.map_some] at hix
  have hfs : (freeL labels live).length + 1 ≤ sizeLine := small_le (by have := freeL_len labels live; omega)
  simp [hix, hfs]
  refine (lift_c (k := K + 10 * (m - (i + 1)) + 7) (h1.mono (by omega)) (by omega) (by have := freeL_len labels live; omega)).imp ?_
  rintro _ _ ⟨j2, rfl, hj2, c2, rfl, h2⟩
  obtain ⟨y, hy⟩ : ∃ y, (freeL labels live ++ [pr.2])[j2]? = some y := ⟨_, List.getElem?_eq_getElem (by simp; omega)⟩
  have hyat : atI ((freeL labels live).map D.str ++ [D.str pr.2]) (j2 : Int) = some (.str y) := by
    rw [atI_nat, show (freeL labels live).map D.str ++ [D.str pr.2] = (freeL labels live ++ [pr.2]).map D.str by simp, List.getElem?_map, hy]; rfl
  have hyok : isName y = true ∧ ∀ k', aget live k' = some y → k' = (k : Int) := by
    rcases List.mem_append.mp (List.mem_of_getElem? hy) with hm2 | hm2
    · obtain ⟨q1, q2⟩ := freeL_ok hm2
      exact ⟨hL.ok y q1, fun k' q => absurd q (q2 k')⟩
    · rw [List.mem_singleton.mp hm2]
      exact ⟨hI.names _ _ hag, fun k' q => hI.dist _ _ _ q hag⟩
  simp [hyat]
  rw [sat_seq]
  simp
  refine ((s_less hI.kd (by omega) (hwp c2)).mono ?_ fun _ _ z => z.elim)
  rintro _ _ ⟨rfl, rfl⟩
  have hlen : (c2 :: t).length = t.length + 1 := rfl
  simp only [List.cons_append, hlen]
  have htl : (c2 :: (t ++ [Cell.dct (lvD (less live (k : Int))) false]))[t.length + 1]? = some (.dct (lvD (less live (k : Int))) false) := by simp
  have hf2 : ∀ x, (c2 :: (t ++ [x]))[2]? = some (.lst (Ld found)) := fun x => by
    rw [List.getElem?_cons_succ, List.getElem?_append_left ht1l]; exact ht1
  have hrs : aget (recSt found).1 (k : Int) = some (some pr.2) := (hI.rs _ _).mp hag
  have hfin : ∀ (o : Option Str) (live' : Live), (∀ x, o = some x → isName x = true ∧ ∀ k', aget live k' = some x → k' = (k : Int)) → (∀ k', aget live' k' = if k' = (k : Int) then o else aget live k') → (live'.map (·.1)).Nodup → live'.length ≤ i + 1 → ∀ y7 y8 y9 y10 y11 y12 y13,
      logI K m labels N (i + 1) [some (.cel 0), some (.int (m : Nat)), N, some (.lst (labels.map .str)), some (.cel (t.length + 1)), some (.lst (Nd rest)), some (.cel 2), y7, y8, y9, y10, y11, y12, y13] (c2 :: (t ++ [Cell.dct (lvD live') false]).set 1 (.lst (Ld found ++ [Letter.d ⟨(k : Nat), ((found.length + 1 : Nat) : Int), o⟩]))) := by
    intro o live' ho hv hd hl y7 y8 y9 y10 y11 y12 y13
    refine log_next (by omega) h2 (hI.step k1 k2 (by omega) (by rw [hrs]; simp) (fun _ => by rw [hrs]; rfl) ho hv hd (fun n hn => ⟨hn, fun e => ?_⟩) hI.rn) hfl hl (by rw [List.getElem?_append_left ht1l]; exact ht1) (by simp) (by omega)
    have := hI.new n hn
    rw [e, hrs] at this
    cases this
  have happ := fun (x : Cell) (y : D) => append_ok (w := c2 :: (t ++ [x])) (n := 2) (xs := Ld found) (y := y) (hf2 x) (by simp; exact small1000 (by omega))
  have hlf := fun (x : Cell) => len_cel (w := c2 :: (t ++ [x])) (n := 2) (hf2 x)
  have hrc := fun (x : Cell) => recv_cel (w := c2 :: (t ++ [x])) (n := 2) (hf2 x)
  rw [sat_seq]
  by_cases hw5 : (way : Int) = 5
  · simp [hw5, hlf, hrc, happ]
    have := hfin none (less live (k : Int)) (fun x h => nomatch h) (aget_less live k) (less_nd hI.kd _) (Nat.le_trans (less_len _ _) (by omega))
    exact this _ _ _ _ _ _ _
  · have hset := set_dct htl (by rw [enc_len]; exact small1000 (Nat.le_trans (less_len _ _) (by omega))) (D.int (k : Nat)) (.str y)
    simp only [keyOf_int, Option.map_some] at hset
    rw [show (D.str y) = (fun x => D.str x) y from rfl, put_enc inl_inj] at hset
    have hset2 : (c2 :: (t ++ [Cell.dct (lvD (less live (k : Int))) false])).set (t.length + 1) (.dct (enc .inl (fun x => D.str x) (aput (less live (k : Int)) (k : Int) y)) false) = c2 :: (t ++ [Cell.dct (lvD (aput (less live (k : Int)) (k : Int) y)) false]) := by simp
    rw [hset2] at hset
    simp [hw5, hset, hlf, hrc, happ]
    have := hfin (some y) (aput (less live (k : Int)) (k : Int) y) (fun x h => by cases h; exact hyok) (fun k' => by rw [aget_aput, aget_less]; split <;> rfl) (aput_nd (less_nd hI.kd _) _ _) (Nat.le_trans (aput_len _ _ _) (by have := less_len live (k : Int); omega))
    exact this _ _ _ _ _ _ _
abbrev blockB : DenS := sSeq (sSub (eVar 4) (eBin ixD (eVar 5) (eC (.int 0))) (eBin ixD (eVar 9) (eCallS 2 m_law_lift [] (aCons (eVar 0) (aCons (eCallB (one lenD) (aCons (eVar 9) aNil)) aNil)))))
    (sSeq (sExpr (eMeth "list" appendN (eVar 6) (aCons (eTup (aCons (eBin ixD (eVar 5) (eC (.int 0))) (aCons (eBin addD (eCallB (one lenD) (aCons (eVar 6) aNil)) (eC (.int 1))) (aCons (eBin ixD (eVar 4) (eBin ixD (eVar 5) (eC (.int 0)))) aNil)))) aNil)))
    (sSet 5 (eSlice (eVar 5) (oSome (eC (.int 1))) oNone)))
theorem s_blockB {K m i way : Nat} {labels : List Str} {N : Option D} {c : Cell} {t : List Cell} {found : List Letter} {live : Live} {n0 : Nat} {rest : List Nat} {p : Nat} {x10 x11 x12 x13 : Option D} (hm : m ≤ 60) (hi : i < m) (hL : Names labels) (hz : labels.length ≤ 100)
    (hc : Sat (K + 10 * (m - (i + 1)) + 9) c) (hI : LogI found live (n0 :: rest)) (hfl : found.length ≤ i) (hll : live.length ≤ i) (ht1 : t[1]? = some (.lst (Ld found))) (htp : t[p]? = some (.dct (lvD live) false)) (hp1 : p ≠ 1) (hne : freeL labels live ≠ []) :
    (blockB [some (.cel 0), some (.int (m : Nat)), N, some (.lst (labels.map .str)), some (.cel (p + 1)), some (.lst (Nd (n0 :: rest))), some (.cel 2), some (.int (i : Nat)), some (.int (way : Nat)), some (.lst ((freeL labels live).map .str)), x10, x11, x12, x13] (c :: t)).sat
      (fun f r w => f = .next ∧ logI K m labels N (i + 1) r w) noXS := by
  have hl0 : 0 < (freeL labels live).length := List.length_pos_iff.mpr hne
  have hfl2 := freeL_len labels live
  have ht1l := (List.getElem?_eq_some_iff.mp ht1).1
  have htpl := (List.getElem?_eq_some_iff.mp htp).1
  have hix0 : ∀ w, ixD (.lst (Nd (n0 :: rest))) (.int 0) w = some (.int (n0 : Nat)) := fun w => by rw [v_ix_lst, atI_0]; rfl
  have hn0 := hI.new n0 (by simp)
  have hlv0 : aget live (n0 : Int) = none := by
    cases q : aget live (n0 : Int) with
    | none => rfl
    | some x => rw [(hI.rs _ _).mp q] at hn0; cases hn0
  rw [sat_seq]
  simp [hix0, -v_ix_lst]
  refine (lift_c (k := K + 10 * (m - (i + 1)) + 8) (hc.mono (by omega)) (by omega) (by omega)).imp ?_
  rintro _ _ ⟨j, rfl, hj, c1, rfl, h1⟩
  obtain ⟨y, hy⟩ : ∃ y, (freeL labels live)[j]? = some y := ⟨_, List.getElem?_eq_getElem (by omega)⟩
  have hyat : atI ((freeL labels live).map D.str) (j : Int) = some (.str y) := by rw [atI_nat, List.getElem?_map, hy]; rfl
  obtain ⟨y1, y2⟩ := freeL_ok (List.mem_of_getElem? hy)
  have hw : (c1 :: t)[p + 1]? = some (.dct (lvD live) false) := by simpa using htp
  have hset := set_dct hw (by rw [enc_len]; exact small1000 (by omega)) (D.int (n0 : Nat)) (.str y)
  simp only [keyOf_int, Option.map_some] at hset
  rw [show (D.str y) = (fun x => D.str x) y from rfl, put_enc inl_inj] at hset
  simp only [List.set_cons_succ] at hset
  obtain ⟨t2, ht2⟩ : ∃ t2, t2 = t.set p (.dct (lvD (aput live (n0 : Int) y)) false) := ⟨_, rfl⟩
  rw [← ht2] at hset
  have q1 : t2[1]? = some (.lst (Ld found)) := by rw [ht2, List.getElem?_set_ne hp1]; exact ht1
  have qp : t2[p]? = some (.dct (lvD (aput live (n0 : Int) y)) false) := by rw [ht2, List.getElem?_set_self htpl]
  have hf2 : (c1 :: t2)[2]? = some (.lst (Ld found)) := by simpa using q1
  have hw2 : (c1 :: t2)[p + 1]? = some (.dct (lvD (aput live (n0 : Int) y)) false) := by simpa using qp
  have hix := ix_dct hw2 (D.int (n0 : Nat))
  simp only [keyOf_int, Option.bind_some, look_enc inl_inj, aget_aput, if_true, Option.map_some] at hix
  have happ := fun (y : D) => append_ok (w := c1 :: t2) (n := 2) (xs := Ld found) (y := y) hf2 (by simp; exact small1000 (by omega))
  have hlf := len_cel (w := c1 :: t2) (n := 2) hf2
  have hrc := recv_cel (w := c1 :: t2) (n := 2) hf2
  have hcut : cutL (Nd (n0 :: rest)) (some 1) none = Nd rest := by rw [show (some (1 : Int)) = some ((1 : Nat) : Int) from rfl, cut_from]; rfl
  have hyx : ∀ w, ixD (.lst ((freeL labels live).map D.str)) (.int (j : Nat)) w = some (.str y) := fun w => hyat
  simp [hyx, hix0, hset, -v_ix_lst]
  rw [sat_seq]
  simp [hix0, hset, hlf, hrc, happ, hix, hcut, -v_ix_lst]
  have hst := hI.step (k := n0) (o := some y) (live' := aput live (n0 : Int) y) (rest' := rest) (hI.rn.lo n0 (by simp)) (hI.rn.hi n0 (by simp)) (by omega) (by rw [hn0]; simp) (fun h => nomatch h) (fun x h => by cases h; exact ⟨hL.ok y y1, fun k' q => absurd q (y2 k')⟩) (fun k' => aget_aput _ _ _ _) (aput_nd hI.kd _ _)
    (fun n hn => ⟨by simp [hn], fun e => by subst e; exact (List.nodup_cons.mp hI.rn.nd).1 hn⟩) ⟨fun n hn => hI.rn.lo n (by simp [hn]), fun n hn => hI.rn.hi n (by simp [hn]), (List.nodup_cons.mp hI.rn.nd).2⟩
  exact log_next (by omega) h1 hst hfl (Nat.le_trans (aput_len _ _ _) (by omega)) q1 qp hp1
theorem s_log {K m : Nat} {c : Cell} {nums : List Nat} {labels : List Str} (h : Sat (K + 10 * m) c) (hm : m ≤ 60) (hN : Nums nums) (hL : Names labels) (hz : labels.length ≤ 100) (hz2 : nums.length ≤ 100) :
    (m_law_log [.cel 0, .int (m : Nat), .lst (Nd nums), .lst (labels.map .str)] [c]).sat (logQ K m) noX := by
  unfold m_law_log
  rw [sat_runB, sat_seq]
  simp
  rw [sat_seq]
  refine sFor_sat (xs := rangeItems m) (I := logI K m labels (some (.lst (Nd nums)))) (range_ok rfl (by omega)) ?_ (fun i r w _ _ => rangeTF_ok m i w) ?_ ?_
  · exact ⟨c, [.dct [] false, .lst []], [], [], nums, 0, h.mono (by omega), rfl, LogI.start hN, by simp, by simp, rfl, rfl, by decide, _, _, _, _, _, _, _, rfl⟩
  · rintro i x r w hx ⟨c, t, found, live, rest, p, hc, rfl, hI, hfl, hll, ht1, htp, hp1, x7, x8, x9, x10, x11, x12, x13, rfl⟩
    obtain ⟨hi, rfl⟩ := rangeItems_get hx
    refine ⟨_, rfl, ?_⟩
    rw [sat_seq]
    simp
    refine (lift_c (k := K + 10 * (m - (i + 1)) + 9) (hc.mono (by omega)) (by decide) (by decide)).imp ?_
    rintro _ _ ⟨way, rfl, hway, c1, rfl, h1⟩
    rw [sat_seq]
    have hwp : (c1 :: t)[p + 1]? = some (.dct (lvD live) false) := by simpa using htp
    have hw2 : (c1 :: t)[2]? = some (.lst (Ld found)) := by simpa using ht1
    have hfv := free_val (x0 := some (.cel 0)) (x1 := some (.int (m : Nat))) (x2 := some (.lst (Nd nums))) (x5 := some (.lst (Nd rest))) (x6 := some (.cel 2)) (x7 := some (.int (i : Nat))) (x8 := some (.int (way : Nat))) (x9 := x9) (x10 := x10) (x11 := x11) (x12 := x12) (x13 := x13) hL.ok hI.names hI.kd (by omega) (by omega) hwp
    simp [hfv]
    rw [sat_seq]
    simp only [x_set, satS_go, Out.thenS_ok, x_callB, x_aCons, x_var, x_aNil, List.getElem?_cons_succ, List.getElem?_cons_zero, Out.bnd_ok, v_one, list_live hwp, sorted_ints, Option.map_some, ofN_some, sat_ok, List.set, nxt_next]
    have back : ∀ {o : OutS}, o.sat (fun f r w => f = .next ∧ logI K m labels (some (.lst (Nd nums))) (i + 1) r w) noXS → ∀ {Q : Fl → DEnv → List Cell → Prop} {X : Ex → DEnv → List Cell → Prop}, (∀ r w, logI K m labels (some (.lst (Nd nums))) (i + 1) r w → Q .next r w) → o.sat Q X := fun h _ _ k => h.mono (fun f r w hh => by rw [hh.1]; exact k r w hh.2) fun _ _ _ z => z.elim
    have hke : (sortI (keysL live)).isEmpty = live.isEmpty := by
      have := (sortI_perm (keysL live)).length_eq
      have e2 : (keysL live).length = live.length := by simp [keysL]
      rw [e2] at this
      cases live <;> cases hq : sortI (keysL _) <;> simp_all
    rw [x_ifS]
    by_cases hA : live ≠ [] ∧ ((1 : Int) < (way : Int) ∨ rest = [])
    · have ht : (tAndD (tVal (eBin neD (eVar 10) (eLst aNil))) (tOrD (tVal (eBin gtD (eVar 8) (eC (D.int 1)))) (tVal (eBin eqD (eVar 5) (eLst aNil))))) [some (.cel 0), some (.int (m : Nat)), some (.lst (Nd nums)), some (.lst (labels.map .str)), some (.cel (p + 1)), some (.lst (Nd rest)), some (.cel 2), some (.int (i : Nat)), some (.int (way : Nat)), some (.lst ((freeL labels live).map .str)), some (.lst ((sortI (keysL live)).map .int)), x11, x12, x13] (c1 :: t) = .ok true (c1 :: t) := by
        have e1 : live.isEmpty = false := by cases live <;> simp_all
        rcases hA.2 with hw | rfl
        · simp [ne_ints, hke, e1, hw]
        · by_cases hw : (1 : Int) < (way : Int)
          · simp [ne_ints, hke, e1, hw]
          · simp [ne_ints, hke, e1, hw, eq_Nd]
      rw [ht]
      simp only [Out.thenS_ok, if_true]
      exact back (s_blockA hm hi hL hz h1 hI hfl hll ht1 htp hp1 hA.1) fun r w hh => hh
    · have ht : (tAndD (tVal (eBin neD (eVar 10) (eLst aNil))) (tOrD (tVal (eBin gtD (eVar 8) (eC (D.int 1)))) (tVal (eBin eqD (eVar 5) (eLst aNil))))) [some (.cel 0), some (.int (m : Nat)), some (.lst (Nd nums)), some (.lst (labels.map .str)), some (.cel (p + 1)), some (.lst (Nd rest)), some (.cel 2), some (.int (i : Nat)), some (.int (way : Nat)), some (.lst ((freeL labels live).map .str)), some (.lst ((sortI (keysL live)).map .int)), x11, x12, x13] (c1 :: t) = .ok false (c1 :: t) := by
        by_cases e : live = []
        · have e1 : live.isEmpty = true := by rw [e]; rfl
          simp [ne_ints, hke, e1]
        · have e1 : live.isEmpty = false := by cases live <;> simp_all
          have hw : ¬ ((1 : Int) < (way : Int)) := fun z => hA ⟨e, .inl z⟩
          have hr : rest.isEmpty = false := by
            cases rest with
            | nil => exact absurd ⟨e, .inr rfl⟩ hA
            | cons _ _ => rfl
          simp [ne_ints, hke, e1, hw, eq_Nd, hr]
      rw [ht]
      simp only [Out.thenS_ok, Bool.false_eq_true, if_false]
      rw [x_ifS]
      have hfs : ∀ x ∈ freeL labels live, PyData.strOk x = true := fun x hx => name_str (hL.ok x (freeL_ok hx).1)
      have stay : logI K m labels (some (.lst (Nd nums))) (i + 1) [some (.cel 0), some (.int (m : Nat)), some (.lst (Nd nums)), some (.lst (labels.map .str)), some (.cel (p + 1)), some (.lst (Nd rest)), some (.cel 2), some (.int (i : Nat)), some (.int (way : Nat)), some (.lst ((freeL labels live).map .str)), some (.lst ((sortI (keysL live)).map .int)), x11, x12, x13] (c1 :: t) :=
        ⟨c1, t, found, live, rest, p, h1.mono (by omega), rfl, hI, by omega, by omega, ht1, htp, hp1, _, _, _, _, _, _, _, rfl⟩
      cases rest with
      | nil =>
        simp [ne_Nd]
        exact stay
      | cons n0 rest =>
        by_cases hf : freeL labels live = []
        · simp [ne_Nd, ne_strsL hfs]
          rw [hf]
          simp
          rw [hf] at stay
          exact stay
        · have e1 : (freeL labels live).isEmpty = false := by cases q : freeL labels live <;> simp_all
          have ht2 : (tAndD (tVal (eBin neD (eVar 5) (eLst aNil))) (tVal (eBin neD (eVar 9) (eLst aNil)))) [some (.cel 0), some (.int (m : Nat)), some (.lst (Nd nums)), some (.lst (labels.map .str)), some (.cel (p + 1)), some (.lst (Nd (n0 :: rest))), some (.cel 2), some (.int (i : Nat)), some (.int (way : Nat)), some (.lst ((freeL labels live).map .str)), some (.lst ((sortI (keysL live)).map .int)), x11, x12, x13] (c1 :: t) = .ok true (c1 :: t) := by
            simp [ne_Nd, ne_strsL hfs, e1]
          rw [ht2]
          simp only [Out.thenS_ok, if_true]
          exact back (s_blockB hm hi hL hz h1 hI hfl hll ht1 htp hp1 hf) fun r w hh => hh
  · rintro r w ⟨c, t, found, live, rest, p, hc, rfl, hI, hfl, hll, ht1, htp, hp1, x7, x8, x9, x10, x11, x12, x13, rfl⟩
    rw [rangeItems_len] at hfl hc
    have hw2 : (c :: t)[2]? = some (.lst (Ld found)) := by simpa using ht1
    simp [frzD, ht1]
    exact ⟨found, live, rest, rfl, hI, hfl, _, _, rfl, hc.mono (by omega)⟩
end Dn
/-! L18: comings drawn, words among names. -/
namespace Dn
open PySem PySem.Spec PyProof.Rows L2
def pyO : Option Str → PyData
  | none => .none
  | some x => .str x
def pyL (l : Letter) : PyData := .tuple [.int l.key, .int l.stamp, pyO l.name]
theorem toPy_oD (o : Option Str) : toPy (oD o) = some (pyO o) := by cases o <;> simp [toPy, pyO]
theorem toPy_L (l : Letter) : toPy l.d = some (pyL l) := by simp [Letter.d, toPy, toPys, toPy_oD, pyL]
theorem toPys_L (ls : List Letter) : toPys (Ld ls) = some (ls.map pyL) := by
  induction ls with
  | nil => simp [Ld, toPys]
  | cons l ls ih =>
    have : Ld (l :: ls) = l.d :: Ld ls := rfl
    rw [this]
    simp [toPys, toPy_L, ih]
theorem lay_L {l : Letter} (h : okName l.name = true) : PyData.canLay0 (pyL l) = true := by
  unfold pyL
  cases q : l.name with
  | none => simp [PyData.canLay0, PyData.canLayAll0, pyO]
  | some x => rw [q] at h; simp [PyData.canLay0, PyData.canLayAll0, pyO, name_str (show isName x = true from h)]
theorem depth_L (l : Letter) : PyData.depth (pyL l) = 1 := by
  unfold pyL
  cases l.name <;> simp [PyData.depth, PyData.depthAll, pyO]
theorem lays_L {ls : List Letter} (h : ∀ l ∈ ls, okName l.name = true) : PyData.canLayAll0 (ls.map pyL) = true := by
  induction ls with
  | nil => simp [PyData.canLayAll0]
  | cons l ls ih => simp [PyData.canLayAll0, lay_L (h l (by simp)), ih fun m hm => h m (by simp [hm])]
theorem depths_L (ls : List Letter) : PyData.depthAll (ls.map pyL) ≤ 1 := by
  induction ls with
  | nil => simp [PyData.depthAll]
  | cons l ls ih => simp only [List.map_cons, PyData.depthAll, depth_L]; omega
theorem shaped_L {ls : List Letter} (h : ∀ l ∈ ls, okName l.name = true) : SeqAt.shaped (.list (ls.map pyL)) = true := by
  have := depths_L ls
  simp [SeqAt.shaped, PyData.canLay0, lays_L h, PyData.depth]
  omega
theorem ne_Ld {ls : List Letter} {w : List Cell} (h : ∀ l ∈ ls, okName l.name = true) : neD (.lst (Ld ls)) (.lst []) w = some (.bl (!ls.isEmpty)) := by
  unfold neD
  rw [eqB_nil (xs := ls.map pyL) (by simp [toPyW, toPy, toPys_L]) (shaped_L h) rfl]
  cases ls <;> simp
def comI (K m : Nat) (found : List Letter) (i : Nat) (acc : List D) (w : List Cell) : Prop := ∃ (c : Cell) (com : List Letter), Sat (K + (m - i)) c ∧ w = [c] ∧ acc = Ld com ∧ com.length = i ∧ ∀ l ∈ com, l ∈ found
def comQ (K m : Nat) (found : List Letter) (d : D) (w : List Cell) : Prop := ∃ (c : Cell) (com : List Letter), Sat K c ∧ w = [c] ∧ d = .lst (Ld com) ∧ com.length ≤ m ∧ ∀ l ∈ com, l ∈ found
theorem s_coming {K m : Nat} {c : Cell} {found : List Letter} (h : Sat (K + m) c) (hm : m ≤ 100) (hf : ∀ l ∈ found, okName l.name = true) (hl : found.length ≤ 1000) :
    (m_law_coming_list [.cel 0, .lst (Ld found), .int (m : Nat)] [c]).sat (comQ K m found) noX := by
  unfold m_law_coming_list
  rw [sat_runB]
  cases q : found with
  | nil =>
    simp
    have e := ne_Ld (ls := []) (w := [c]) (by simp)
    simp [Ld] at e
    simp [e]
    exact ⟨c, [], h.mono (by omega), rfl, rfl, by simp, by simp⟩
  | cons f0 fr =>
    rw [← q]
    have e : neD (.lst (Ld found)) (.lst []) [c] = some (.bl true) := by rw [ne_Ld hf, q]; rfl
    have hpos : 0 < found.length := by rw [q]; simp
    simp [e]
    refine comp_sat (xs := rangeItems m) (I := comI K m found) (range_ok rfl (by omega)) ?_ (fun i acc w _ _ => rangeTF_ok m i w) ?_ ?_
    · exact ⟨c, [], by simpa using h, rfl, rfl, rfl, by simp⟩
    · rintro i x acc w hx ⟨c, com, hc, rfl, rfl, hcl, hcm⟩
      obtain ⟨hi, rfl⟩ := rangeItems_get hx
      refine ⟨_, rfl, ?_⟩
      simp [wipeD]
      refine (lift_c (k := K + (m - (i + 1))) (hc.mono (by omega)) (by omega) (by omega)).imp ?_
      rintro _ _ ⟨j, rfl, hj, c1, rfl, h1⟩
      have hjl : j < found.length := by omega
      have hat : ixD (.lst (Ld found)) (.int (j : Nat)) [c1] = some (found[j].d) := by
        rw [v_ix_lst, atI_nat]; unfold Ld; rw [List.getElem?_map, List.getElem?_eq_getElem hjl]; rfl
      simp [hat, -v_ix_lst]
      refine ⟨by rw [hcl]; exact small1000 (by omega), c1, com ++ [found[j]], h1, rfl, by simp [Ld], by simp [hcl], ?_⟩
      intro l hl2
      rcases List.mem_append.mp hl2 with hl2 | hl2
      · exact hcm l hl2
      · rw [List.mem_singleton.mp hl2]; exact List.getElem_mem hjl
    · rintro acc w ⟨c, com, hc, rfl, rfl, hcl, hcm⟩
      rw [rangeItems_len] at hcl hc
      exact ⟨c, com, hc.mono (by omega), rfl, rfl, by omega, hcm⟩
/-! ### words among names -/
def wordI (K m : Nat) (n : Nat) (W : Option D) (i : Nat) (r : DEnv) (w : List Cell) : Prop := ∃ (c : Cell) (ws : List Str), Sat (K + (m - i)) c ∧ w = [c, .lst (ws.map .str)] ∧ ws.length = n ∧ Names ws ∧ ∃ x1 x4 x5, r = [some (.cel 0), x1, W, some (.cel 1), x4, x5]
def wordQ (K n : Nat) (d : D) (w : List Cell) : Prop := ∃ (c : Cell) (x : Cell) (ws : List Str), Sat K c ∧ w = [c, x] ∧ d = .lst (ws.map .str) ∧ ws.length = n ∧ Names ws
def wordL : List Str := ["comes", "cell", "has", "bare", "grave", "mate", "memory", "named"]
theorem wordL_ok : ∀ x ∈ wordL, isName x = true := by decide +kernel
theorem names_set {ws : List Str} (h : Names ws) {x : Str} (hx : isName x = true) (hn : x ∉ ws) (i : Nat) : Names (ws.set i x) := by
  refine ⟨fun y hy => ?_, ?_⟩
  · rcases List.mem_or_eq_of_mem_set hy with q | rfl
    · exact h.ok y q
    · exact hx
  · have hnd := h.nd
    unfold List.Nodup at hnd ⊢
    rw [List.pairwise_iff_getElem] at hnd ⊢
    intro a b ha hb hab
    rw [List.length_set] at ha hb
    rw [List.getElem_set, List.getElem_set]
    by_cases e1 : i = a
    · rw [if_pos e1, if_neg (by omega)]
      exact fun q => hn (q ▸ List.getElem_mem hb)
    · rw [if_neg e1]
      by_cases e2 : i = b
      · rw [if_pos e2]
        exact fun q => hn (q ▸ List.getElem_mem ha)
      · rw [if_neg e2]; exact hnd a b ha hb hab
theorem s_wordly {K : Nat} {c : Cell} {ws : List Str} (h : Sat (K + 5) c) (hN : Names ws) (hl : ws.length ≤ 100) : (m_law_wordly [.cel 0, .lst (ws.map .str)] [c]).sat (wordQ K ws.length) noX := by
  unfold m_law_wordly
  rw [sat_runB, sat_seq]
  simp
  rw [sat_seq]
  have hlc : listC [.lst (ws.map .str)] [c] = some (.cel 1, [c, .lst (ws.map .str)]) := rfl
  simp [hlc]
  rw [sat_seq]
  obtain ⟨_, _, he, i4, rfl, hi4, c1, rfl, h1⟩ := (lift_c (k := K + 4) (rest := [Cell.lst (ws.map .str)]) (b := 4) (h.mono (by omega)) (by decide) (by decide)).ok_of
  obtain ⟨q, hq, hq2⟩ : ∃ q : Nat, atI [D.int 0, D.int 0, D.int 1, D.int 2] (i4 : Int) = some (.int (q : Nat)) ∧ q ≤ 2 := by
    obtain ⟨x, hx, hh⟩ := pick4 (a := D.int 0) (b := D.int 0) (c := D.int 1) (d := D.int 2) hi4
    rcases hh with rfl | rfl | rfl | rfl
    · exact ⟨0, hx, by omega⟩
    · exact ⟨0, hx, by omega⟩
    · exact ⟨1, hx, by omega⟩
    · exact ⟨2, hx, by omega⟩
  obtain ⟨m, hm⟩ : ∃ m : Nat, m = min ws.length q := ⟨_, rfl⟩
  have hml : (if (q : Int) < (ws.length : Int) then (q : Int) else (ws.length : Int)) = (m : Int) := by rw [hm]; split <;> omega
  have hle := len_cel (w := [c, Cell.lst (ws.map D.str)]) (n := 1) (ds := ws.map D.str) rfl
  have hr : iRange1 (aCons (eCallB (two minD) (aCons (eCallB (one lenD) (aCons (eVar 3) aNil)) (aCons (eBin ixD (eLst (aCons (eC (.int 0)) (aCons (eC (.int 0)) (aCons (eC (.int 1)) (aCons (eC (.int 2)) aNil))))) (eCallS 2 m_law_lift [] (aCons (eVar 0) (aCons (eC (.int 4)) aNil)))) aNil))) aNil)
      [some (.cel 0), some (.lst (ws.map .str)), some (.lst (wordL.map .str)), some (.cel 1), none, none] [c, .lst (ws.map .str)] = .ok ((rangeItems m).length, rangeTF 0 m) [c1, .lst (ws.map .str)] := by
    refine range_ok ?_ (by omega)
    simp [hle, he, hq]
    rw [hm]; split <;> omega
  refine sFor_sat (xs := rangeItems m) (I := wordI K m ws.length (some (.lst (wordL.map .str)))) hr ?_ (fun i r w _ _ => rangeTF_ok m i w) ?_ ?_
  · exact ⟨c1, ws, h1.mono (by omega), rfl, rfl, hN, _, _, _, rfl⟩
  · rintro i x r w hx ⟨c, us, hc, rfl, hul, hU, x1, x4, x5, rfl⟩
    obtain ⟨hi, rfl⟩ := rangeItems_get hx
    refine ⟨_, rfl, ?_⟩
    rw [sat_seq]
    simp
    refine (lift_c (k := K + (m - (i + 1))) (hc.mono (by omega)) (by omega) (by omega)).imp ?_
    rintro _ _ ⟨j, rfl, hj, c2, rfl, h2⟩
    obtain ⟨y, hy⟩ : ∃ y, wordL[j]? = some y := ⟨_, List.getElem?_eq_getElem (by show j < 8; omega)⟩
    have hyN := wordL_ok y (List.mem_of_getElem? hy)
    have hyx : ixD (.lst (wordL.map D.str)) (.int (j : Nat)) [c2, .lst (us.map .str)] = some (.str y) := by rw [v_ix_lst, atI_nat, List.getElem?_map, hy]; rfl
    have hni := notIn_cel (w := [c2, Cell.lst (us.map .str)]) (n := 1) (ws := us) (x := y) rfl hU.str (name_str hyN)
    have hil : i < us.length := by omega
    have hix : ixD (.cel 1) (.int (i : Nat)) [c2, Cell.lst (us.map .str)] = some (.str us[i]) := by rw [ix_cel (ds := us.map .str) rfl, atI_nat, List.getElem?_map, List.getElem?_eq_getElem hil]; rfl
    have hset : ∀ z : Str, setD (.cel 1) (.int (i : Nat)) (.str z) [c2, Cell.lst (us.map .str)] = some [c2, .lst ((us.set i z).map .str)] := by
      intro z
      have hx2 : ixN (us.map D.str).length (i : Int) = some i := by
        unfold ixN
        rw [if_pos (by omega), if_pos (by rw [List.length_map]; omega)]
        simp
      simp only [setD, List.getElem?_cons_succ, List.getElem?_cons_zero, v_asI, Option.bind_some, hx2, Option.map_some, List.set_cons_succ, List.set_cons_zero]
      rw [List.map_set]
    simp [hyx, -v_ix_lst]
    by_cases hin : y ∈ us
    · simp [hni, hin, hix, hset]
      exact ⟨c2, us, h2, rfl, hul, hU, _, _, _, rfl⟩
    · simp [hni, hin, hset]
      exact ⟨c2, us.set i y, h2, by simp, by simpa using hul, names_set hU hyN hin i, _, _, _, rfl⟩
  · rintro r w ⟨c, us, hc, rfl, hul, hU, x1, x4, x5, rfl⟩
    simp [frzD]
    exact ⟨c, _, us, hc.mono (by omega), rfl, rfl, hul, hU⟩
end Dn
/-! L19: one case, the law. -/
namespace Dn
open PySem PySem.Spec PyProof.Rows L2
theorem s_satchel {ns : List Int} {at_ : Nat} {w : List Cell} (ha : at_ ≤ 100) (hl : ns.length ≤ 1000) : (m_law_satchel [.scr (ns.map .int), .int (at_ : Nat)] w).sat (fun d w' => d = .cel w.length ∧ ∃ cc, w' = w ++ [cc] ∧ Sat 1000000 cc) noX := by
  unfold m_law_satchel
  obtain ⟨z, hz⟩ : ∃ z : Int, (eIf (tVal (eBin ltD (eVar 1) (eCallB (one lenD) (aCons (eVar 0) aNil)))) (eBin ixD (eVar 0) (eVar 1)) (eC (.int 0))) [some (.scr (ns.map .int)), some (.int (at_ : Nat)), none] w = .ok (.int z) w := by
    by_cases h : at_ < ns.length
    · have hx : ixD (.scr (ns.map .int)) (.int (at_ : Nat)) w = some (.int ns[at_]) := by rw [v_ix_scr, atI_nat, List.getElem?_map, List.getElem?_eq_getElem h]; rfl
      exact ⟨ns[at_], by simp [h, hx, -v_ix_scr]⟩
    · exact ⟨0, by simp [h]⟩
  have o1 := mod_pos (w := w) (x := z) (y := 1000000000000000000000000000000000067) (by decide)
  obtain ⟨u, hu⟩ : ∃ u, u = z % 1000000000000000000000000000000000067 := ⟨_, rfl⟩
  have hu0 : 0 ≤ u := by rw [hu]; exact Int.emod_nonneg _ (by decide)
  have hu1 : u < 1000000000000000000000000000000000067 := by rw [hu]; exact Int.emod_lt_of_pos _ (by decide)
  have m1 := mul_small (w := w) (x := u) (y := 89) hu0 (by omega) (by decide) (by decide)
  have m2 := mul_small (w := w) (x := 47) (y := (at_ : Int)) (by decide) (by decide) (by omega) (by omega)
  rw [sat_runB, sat_seq]
  simp only [List.map_cons, List.map_nil, List.length_cons, List.length_nil, x_set]
  have hz' := hz
  simp at hz'
  simp [hz']
  simp [p18, p36, o1, ← hu, m1, m2]
  exact ⟨_, _, _, rfl, by omega, by omega, by omega, by omega⟩
/-- a coming back list, as it stands -/
theorem twin_play {log com : List Letter} {a b : D} {w : List Cell} (ha : asQ a w = some (Ld log)) (hb : asQ b w = some (Ld com)) (ta : tyOf a w = some .lst) (tb : tyOf b w = some .lst) (h1 : log.length ≤ 400) (h2 : com.length ≤ 400) : m_law_twinned 4 [.tup [a, b], .tup [.lst (Ld log), .lst (Ld com)]] w = .ok (.bl true) w :=
  twin_two 3 (twin_letters 0 ha rfl ta rfl (by omega)) (twin_letters 0 hb rfl tb rfl (by omega))
theorem play_empty : playT [] [] = "comes\n" := by
  refine cs_inj ?_
  show cs (linesT [[D.str "comes"]]) = _
  rw [cs_linesT]
  have := cs_lineT [D.str "comes"]
  rw [line_comes] at this
  simp [← this]
theorem playOk_nil : PlayOk [] [] := ⟨by simp, fun i => by simp; exact wrongLog_valid Valid.nil (by simp), by simp, by simp, by simp⟩
theorem callS_1 {F : FnS} {ds : List D} {c : Cell} {Q : D → List Cell → Prop} (h1 : celsOf ds = [0]) (h2 : ncArgs ds = true) (h3 : renum 0 ds = ds) (h4 : ncC c = true) (h : (F ds [c]).sat (fun d w' => nc d = true ∧ ∃ c' t, w' = c' :: t ∧ ncC c' = true ∧ Q d [c']) noX) : (callS F ds [c]).sat Q noX := by
  refine callS_sat (cs := [c]) (by rw [h1]; simp) h2 (by rw [h1]; rfl) (by simp [h4]) ?_
  rw [h3, h1]
  refine h.mono ?_ fun _ _ z => z.elim
  rintro d _ ⟨hd, c', t, rfl, hc', hq⟩
  exact ⟨hd, by simp [hc'], hq⟩
theorem c_labels {K : Nat} {c : Cell} (h : Sat (K + 80) c) : (callS m_law_labels [.cel 0, .int 4] [c]).sat (fun d w => ∃ ws c', d = .lst (ws.map .str) ∧ ws.length = 4 ∧ Names ws ∧ w = [c'] ∧ Sat K c') noX :=
  callS_1 rfl rfl rfl h.nc ((s_labels (K := K) (m := 4) h (by decide)).imp (by
    rintro d w ⟨ws, rfl, hl, hN, c', x, rfl, hc⟩
    exact ⟨by simp, c', [x], rfl, hc.nc, ws, c', rfl, hl, hN, rfl, hc⟩))
theorem c_wordly {K : Nat} {c : Cell} {ws : List Str} (h : Sat (K + 5) c) (hN : Names ws) (hl : ws.length ≤ 100) : (callS m_law_wordly [.cel 0, .lst (ws.map .str)] [c]).sat (fun d w => ∃ us c', d = .lst (us.map .str) ∧ us.length = ws.length ∧ Names us ∧ w = [c'] ∧ Sat K c') noX :=
  callS_1 rfl (by simp [ncArgs]) rfl h.nc ((s_wordly h hN hl).imp (by
    rintro d w ⟨c', x, us, hc, rfl, rfl, hul, hU⟩
    exact ⟨by simp, c', [x], rfl, hc.nc, us, c', rfl, hul, hU, rfl, hc⟩))
theorem c_numbers {K : Nat} {c : Cell} (h : Sat (K + 41) c) : (callS m_law_numbers [.cel 0, .int 4] [c]).sat (fun d w => ∃ ns c', d = .lst (Nd ns) ∧ ns.length = 4 ∧ Nums ns ∧ w = [c'] ∧ Sat K c') noX :=
  callS_1 rfl rfl rfl h.nc ((s_numbers (K := K) (m := 4) h (by decide)).imp (by
    rintro d w ⟨ns, rfl, hl, hN, c', x, rfl, hc⟩
    exact ⟨by simp, c', [x], rfl, hc.nc, ns, c', rfl, hl, hN, rfl, hc⟩))
theorem c_log {K m : Nat} {c : Cell} {nums : List Nat} {labels : List Str} (h : Sat (K + 10 * m) c) (hm : m ≤ 60) (hN : Nums nums) (hL : Names labels) (hz : labels.length ≤ 100) (hz2 : nums.length ≤ 100) :
    (callS m_law_log [.cel 0, .int (m : Nat), .lst (Nd nums), .lst (labels.map .str)] [c]).sat (fun d w => ∃ found live rest c', d = .lst (Ld found) ∧ LogI found live rest ∧ found.length ≤ m ∧ w = [c'] ∧ Sat K c') noX :=
  callS_1 rfl (by simp [ncArgs]) rfl h.nc ((s_log h hm hN hL hz hz2).imp (by
    rintro d w ⟨found, live, rest, rfl, hI, hl, c', x, rfl, hc⟩
    exact ⟨by simp, c', x, rfl, hc.nc, found, live, rest, c', rfl, hI, hl, rfl, hc⟩))
theorem c_coming {K m : Nat} {c : Cell} {found : List Letter} (h : Sat (K + m) c) (hm : m ≤ 100) (hf : ∀ l ∈ found, okName l.name = true) (hl : found.length ≤ 1000) :
    (callS m_law_coming_list [.cel 0, .lst (Ld found), .int (m : Nat)] [c]).sat (fun d w => ∃ com c', d = .lst (Ld com) ∧ com.length ≤ m ∧ (∀ l ∈ com, l ∈ found) ∧ w = [c'] ∧ Sat K c') noX :=
  callS_1 rfl (by simp [ncArgs]) rfl h.nc ((s_coming h hm hf hl).imp (by
    rintro d w ⟨c', com, hc, rfl, rfl, hcl, hcm⟩
    exact ⟨by simp, c', [], rfl, hc.nc, com, c', rfl, hcl, hcm, rfl, hc⟩))
theorem s_case {K : Nat} {c : Cell} (h : Sat (K + 1000) c) : (m_law_case_right [.cel 0] [c]).sat (fun d w => d = .bl true ∧ ∃ c' t, w = c' :: t ∧ Sat K c') noX := by
  unfold m_law_case_right
  rw [sat_runB, sat_seq]
  try simp
  refine (c_labels (K := K + 900) (h.mono (by omega))).imp ?_
  rintro _ _ ⟨ws, c1, rfl, hwl, hW, rfl, h1⟩
  try simp
  refine (c_wordly (K := K + 800) (h1.mono (by omega)) hW (by omega)).imp ?_
  rintro _ _ ⟨us, c2, rfl, hul, hU, rfl, h2⟩
  rw [sat_seq]
  try simp
  refine (lift_c (k := K + 700) (h2.mono (by omega)) (by decide) (by decide)).imp ?_
  rintro _ _ ⟨m, rfl, hm, c3, rfl, h3⟩
  try simp
  refine (c_numbers (K := K + 600) (h3.mono (by omega))).imp ?_
  rintro _ _ ⟨ns, c4, rfl, hnl, hNs, rfl, h4⟩
  try simp
  refine (c_log (K := K + 400) (m := m) (h4.mono (by omega)) (by omega) hNs hU (by omega) (by omega)).imp ?_
  rintro _ _ ⟨log, live, rest, c5, rfl, hI, hll, rfl, h5⟩
  rw [sat_seq]
  try simp
  refine (lift_c (k := K + 300) (h5.mono (by omega)) (by decide) (by decide)).imp ?_
  rintro _ _ ⟨m2, rfl, hm2, c6, rfl, h6⟩
  try simp
  refine (c_coming (K := K) (m := m2) (h6.mono (by omega)) (by omega) (fun l hl => (hI.good l hl).name) (by omega)).imp ?_
  rintro _ _ ⟨com, c7, rfl, hcl, hcm, rfl, h7⟩
  have hP : PlayOk log com := hI.play (by omega) hcm (by omega)
  have t1 := twin_str 3 (playT log com) [c7]
  rw [sat_seq]
  simp [c_play_text hP]
  rw [sat_seq]
  simp [c_write_play hP, t1]
  rw [sat_seq]
  simp [permL, c_write_play hP, t1]
  rw [sat_seq]
  try simp
  refine (s_read_play hP [c7]).imp ?_
  rintro _ _ ⟨rfl, rfl⟩
  show ((_ : DenS) _ [c7, Cell.lst (Ld log), Cell.lst (Ld com)]).sat _ _
  have z1 : log.length ≤ 400 := by omega
  have z2 : com.length ≤ 400 := by omega
  have t2 : m_law_twinned 4 [.tup [.cel 1, .cel 2], .tup [.lst (Ld log), .lst (Ld com)]] [c7, Cell.lst (Ld log), Cell.lst (Ld com)] = .ok (.bl true) [c7, Cell.lst (Ld log), Cell.lst (Ld com)] := twin_play rfl rfl rfl rfl z1 z2
  have a1 := append_ok (w := [c7, Cell.lst (Ld log), Cell.lst (Ld com)]) (n := 1) (xs := Ld log) (y := .non) rfl (by simp; exact small1000 (by omega))
  have r1 : isRecv "list" (.cel 1) [c7, Cell.lst (Ld log), Cell.lst (Ld com)] = true := rfl
  have a2 := append_ok (w := [c7, Cell.lst (Ld log ++ [.non]), Cell.lst (Ld com)]) (n := 2) (xs := Ld com) (y := .non) rfl (by simp; exact small1000 (by omega))
  have r2 : isRecv "list" (.cel 2) [c7, Cell.lst (Ld log ++ [.non]), Cell.lst (Ld com)] = true := rfl
  rw [sat_seq]
  simp [t2]
  rw [sat_seq]
  simp [r1, a1]
  rw [sat_seq]
  simp [r2, a2]
  simp [permL]
  refine (s_read_play hP [c7, Cell.lst (Ld log ++ [.non]), Cell.lst (Ld com ++ [.non])]).imp ?_
  rintro _ _ ⟨rfl, rfl⟩
  have t3 : m_law_twinned 4 [.tup [.cel 3, .cel 4], .tup [.lst (Ld log), .lst (Ld com)]] [c7, Cell.lst (Ld log ++ [.non]), Cell.lst (Ld com ++ [.non]), Cell.lst (Ld log), Cell.lst (Ld com)] = .ok (.bl true) [c7, Cell.lst (Ld log ++ [.non]), Cell.lst (Ld com ++ [.non]), Cell.lst (Ld log), Cell.lst (Ld com)] := twin_play rfl rfl rfl rfl z1 z2
  simp [t3]
  have hr := s_read_play playOk_nil [c7, Cell.lst (Ld log ++ [.non]), Cell.lst (Ld com ++ [.non]), Cell.lst (Ld log), Cell.lst (Ld com)]
  rw [play_empty] at hr
  refine hr.imp ?_
  rintro _ _ ⟨rfl, rfl⟩
  have t4 : m_law_twinned 4 [.tup [.cel 5, .cel 6], .tup [.lst [], .lst []]] [c7, Cell.lst (Ld log ++ [.non]), Cell.lst (Ld com ++ [.non]), Cell.lst (Ld log), Cell.lst (Ld com), Cell.lst [], Cell.lst []] = .ok (.bl true) [c7, Cell.lst (Ld log ++ [.non]), Cell.lst (Ld com ++ [.non]), Cell.lst (Ld log), Cell.lst (Ld com), Cell.lst [], Cell.lst []] := twin_play (log := []) (com := []) rfl rfl rfl rfl (by simp) (by simp)
  simp [t4]
  exact h7
theorem c_case {K : Nat} {c : Cell} {w : List Cell} {n : Nat} (h : Sat (K + 1000) c) (hn : w[n]? = some c) : (callS m_law_case_right [.cel n] w).sat (fun d w' => d = .bl true ∧ ∃ c', w' = w.set n c' ∧ Sat K c') noX := by
  refine callS_sat (cs := [c]) (by simp [celsOf]) rfl (by simp [celsOf, cellsAt, hn]) (by simp [h.nc]) ?_
  refine (s_case h).mono ?_ fun _ _ z => z.elim
  rintro _ _ ⟨rfl, c', t, rfl, hc⟩
  exact ⟨rfl, by simp [hc.nc], rfl, c', rfl, hc⟩
def lawI (ns : List Int) (i : Nat) (r : DEnv) (w : List Cell) : Prop := ∃ x1 x2 x3, r = [some (.scr (ns.map .int)), x1, x2, x3]
def lapI (ns : List Int) (n : Nat) (i : Nat) (r : DEnv) (w : List Cell) : Prop := ∃ x1 x3 c, r = [some (.scr (ns.map .int)), x1, some (.cel n), x3] ∧ w[n]? = some c ∧ Sat (1000 * (3 - i)) c
theorem law_true : ∀ ns : List Int, ns.length ≤ 63 → ∃ w, m_law [.scr (ns.map .int)] [] = .ok (.bl true) w := by
  intro ns hl
  have key : (m_law [.scr (ns.map .int)] []).sat (fun d _ => d = .bl true) noX := by
    unfold m_law
    rw [sat_runB, sat_seq]
    obtain ⟨m, hm, hm5⟩ : ∃ m : Nat, (if (if (ns.length : Int) < 5 then (ns.length : Int) else 5) > 1 then (if (ns.length : Int) < 5 then (ns.length : Int) else 5) else 1) = (m : Int) ∧ m ≤ 5 := by
      by_cases a : (ns.length : Int) < 5
      · by_cases b : (ns.length : Int) > 1
        · exact ⟨ns.length, by simp only [if_pos a, if_pos b], by omega⟩
        · exact ⟨1, by simp only [if_pos a, if_neg b]; rfl, by omega⟩
      · exact ⟨5, by simp only [if_neg a]; rfl, by omega⟩
    refine sFor_sat (xs := rangeItems m) (w1 := []) (I := lawI ns) (range_ok (n := m) (by simp [← hm]) (by omega)) ⟨_, _, _, rfl⟩ (fun i r w _ _ => rangeTF_ok m i w) ?_ ?_
    · rintro i x r w hx ⟨x1, x2, x3, rfl⟩
      obtain ⟨hi, rfl⟩ := rangeItems_get hx
      refine ⟨_, rfl, ?_⟩
      rw [sat_seq]
      simp
      refine (s_satchel (at_ := i) (by omega) (by omega)).imp ?_
      rintro _ _ ⟨rfl, cc, rfl, hc⟩
      refine sFor_sat (xs := rangeItems 3) (I := lapI ns w.length) (range_ok (n := 3) rfl (by omega)) ?_ (fun i r w _ _ => rangeTF_ok 3 i w) ?_ ?_
      · exact ⟨_, _, cc, rfl, by simp, hc.mono (by omega)⟩
      · rintro j x r w2 hx2 ⟨y1, y3, c, rfl, hwn, hcs⟩
        obtain ⟨hj, rfl⟩ := rangeItems_get hx2
        refine ⟨_, rfl, ?_⟩
        obtain ⟨_, _, he, rfl, c', rfl, hc'⟩ := (c_case (K := 1000 * (3 - (j + 1))) (hcs.mono (by omega)) hwn).ok_of
        simp [he]
        exact ⟨_, _, c', rfl, by rw [List.getElem?_set_self (List.getElem?_eq_some_iff.mp hwn).1], hc'⟩
      · rintro r w2 ⟨y1, y3, c, rfl, _, _⟩
        exact ⟨_, _, _, rfl⟩
    · rintro r w ⟨x1, x2, x3, rfl⟩
      simp
  obtain ⟨d, w, h1, rfl⟩ := key.ok_of
  exact ⟨w, h1⟩
end Dn
namespace Dn
open PySem PySem.Spec PyProof.Rows L2
def top (i : Nat) : Stmt := PySem.Challenge.pw_carriedkeys_k62_plays_as_text.main.body.getD i (.Pass ⟨0, 0, 0, 0⟩)
structure Txt (mg : Str → Option Value) : Prop where
  b_abs : mg "abs" = none
  b_all : mg "all" = none
  b_bool : mg "bool" = none
  b_enumerate : mg "enumerate" = none
  b_int : mg "int" = none
  b_isinstance : mg "isinstance" = none
  b_len : mg "len" = none
  b_list : mg "list" = none
  b_max : mg "max" = none
  b_min : mg "min" = none
  b_range : mg "range" = none
  b_sorted : mg "sorted" = none
  b_str : mg "str" = none
  b_tuple : mg "tuple" = none
  g_ALPHABET : ∃ t, mg "ALPHABET" = some (.str "abcdefghijklmnopqrstuvwxyz" t)
  g_COMES_WORD : ∃ t, mg "COMES_WORD" = some (.str "comes" t)
  g_FIGURES : ∃ t, mg "FIGURES" = some (.str "0123456789" t)
  g_LONGEST : ∃ t, mg "LONGEST" = some (.int 8 t)
  g_MOST_FIGURES : ∃ t, mg "MOST_FIGURES" = some (.int 40 t)
  g_NOBODY : ∃ t, mg "NOBODY" = some (.str "-" t)
section
variable {P : Program} {w : World} {K : PySem.W.Frag} {mg : Str → Option Value} {base : Heap}
abbrev st_is_integer : Stmt := top 6
theorem sc_is_integer : FnScope ["value"] ["value"] (defScope st_is_integer) := ⟨rfl, rfl, rfl, by decide +kernel, rfl, by decide +kernel, by decide +kernel⟩
theorem d_is_integer {f : Addr} {fd : FuncData} (T : Txt mg) (F : Fun K "is_integer" "is_integer" st_is_integer f fd) : FnD P w K mg base 1 f fd ["value"] m_is_integer := fnD_mk F sc_is_integer fun cdv Ar outer s H E hr tk hp => by have hu := hu_room hr; have nd := sc_is_integer.nd; exact
    (dss_one (ds_ret (de_and (de_isi .int T.b_isinstance T.b_int (de_var 0)) (de_one (de_not (de_isi .bl T.b_isinstance T.b_bool (de_var 0)))))))
abbrev st_is_count : Stmt := top 7
theorem sc_is_count : FnScope ["value"] ["value"] (defScope st_is_count) := ⟨rfl, rfl, rfl, by decide +kernel, rfl, by decide +kernel, by decide +kernel⟩
theorem d_is_count {f : Addr} {fd : FuncData} (T : Txt mg) (c_is_integer : CalN P w K mg base "is_integer" 1 1 [] m_is_integer) (F : Fun K "is_count" "is_count" st_is_count f fd) : FnD P w K mg base 2 f fd ["value"] m_is_count := fnD_mk F sc_is_count fun cdv Ar outer s H E hr tk hp => by have hu := hu_room hr; have nd := sc_is_count.nd; exact
    (dss_one (ds_ret (de_and (de_callS (c_is_integer.mono (by decide)) hr tk (da_cons (de_var 0) da_nil)) (de_one (de_cmp op_geA (de_var 0) de_int)))))
abbrev st_is_name : Stmt := top 8
theorem sc_is_name : FnScope ["value", "sign"] ["value"] (defScope st_is_name) := ⟨rfl, rfl, rfl, by decide +kernel, rfl, by decide +kernel, by decide +kernel⟩
theorem d_is_name {f : Addr} {fd : FuncData} (T : Txt mg) (F : Fun K "is_name" "is_name" st_is_name f fd) : FnD P w K mg base 1 f fd ["value"] m_is_name := fnD_mk F sc_is_name fun cdv Ar outer s H E hr tk hp => by have hu := hu_room hr; have nd := sc_is_name.nd; exact
    (dss_one (ds_ret (de_and (de_isi .str T.b_isinstance T.b_str (de_var 0)) (de_and (de_chain op_ltA op_leA de_int (de_callB call_lenA T.b_len (da_cons (de_var 0) da_nil)) (de_globI T.g_LONGEST)) (de_one (de_callB (call_allA rfl) T.b_all (da_cons (de_comp (own := [("sign", 1)]) rfl nd (di_seq (de_var 0)) (blkOk_by (by kernel_rfl)) (fun _ _ _ _ _ => (dg_name 1 nd)) (fun _ _ _ _ _ => dts_nil) (fun _ _ _ _ _ => (de_cmp (op_inA hu) (de_var 1) (de_globS T.g_ALPHABET)))) da_nil)))))))
abbrev st_is_letter : Stmt := top 9
theorem sc_is_letter : FnScope ["value", "key", "stamp", "name"] ["value"] (defScope st_is_letter) := ⟨rfl, rfl, rfl, by decide +kernel, rfl, by decide +kernel, by decide +kernel⟩
theorem d_is_letter {f : Addr} {fd : FuncData} (T : Txt mg) (c_is_count : CalN P w K mg base "is_count" 2 1 [] m_is_count) (c_is_name : CalN P w K mg base "is_name" 1 1 [] m_is_name) (F : Fun K "is_letter" "is_letter" st_is_letter f fd) : FnD P w K mg base 3 f fd ["value"] m_is_letter := fnD_mk F sc_is_letter fun cdv Ar outer s H E hr tk hp => by have hu := hu_room hr; have nd := sc_is_letter.nd; exact
    (dss_cons (ds_if (dt_w (dw_or (dt_not (dt_val (de_isi .tup T.b_isinstance T.b_tuple (de_var 0)))) (dw_or1 (dt_cmp (op_neA hu) (de_callB call_lenA T.b_len (da_cons (de_var 0) da_nil)) de_int)))) (dss_one (ds_ret de_bl)) dss_nil)
    (dss_cons (ds_asg (de_var 0) (dg_tup rfl (dgs_cons (dg_name 1 nd) (dgs_cons (dg_name 2 nd) (dgs_cons (dg_name 3 nd) dgs_nil)))))
    (dss_one (ds_ret (de_and (de_callS (c_is_count.mono (by decide)) hr tk (da_cons (de_var 1) da_nil)) (de_and (de_callS (c_is_count.mono (by decide)) hr tk (da_cons (de_var 2) da_nil)) (de_one (de_or (de_cmp op_isA (de_var 3) de_non) (de_one (de_callS (c_is_name.mono (by decide)) hr tk (da_cons (de_var 3) da_nil)))))))))))
abbrev st_wrong_item : Stmt := top 10
theorem sc_wrong_item : FnScope ["value", "index", "letter"] ["value"] (defScope st_wrong_item) := ⟨rfl, rfl, rfl, by decide +kernel, rfl, by decide +kernel, by decide +kernel⟩
theorem d_wrong_item {f : Addr} {fd : FuncData} (T : Txt mg) (c_is_letter : CalN P w K mg base "is_letter" 3 1 [] m_is_letter) (F : Fun K "wrong_item" "wrong_item" st_wrong_item f fd) : FnD P w K mg base 4 f fd ["value"] m_wrong_item := fnD_mk F sc_wrong_item fun cdv Ar outer s H E hr tk hp => by have hu := hu_room hr; have nd := sc_wrong_item.nd; exact
    (dss_cons (ds_if (dt_not (dt_val (de_isi .lst T.b_isinstance T.b_list (de_var 0)))) (dss_one (ds_ret de_int)) dss_nil)
    (dss_cons (ds_for hp rfl (di_enum T.b_enumerate (da_cons (de_var 0) da_nil)) (dg_tup rfl (dgs_cons (dg_name 1 nd) (dgs_cons (dg_name 2 nd) dgs_nil))) (dss_one (ds_if (dt_not (dt_val (de_callS (c_is_letter.mono (by decide)) hr tk (da_cons (de_var 2) da_nil)))) (dss_one (ds_ret (de_var 1))) dss_nil)))
    (dss_one (ds_ret de_non))))
abbrev st_is_taken : Stmt := top 11
theorem sc_is_taken : FnScope ["records", "taken", "key", "name", "other"] ["records", "taken", "key", "name"] (defScope st_is_taken) := ⟨rfl, rfl, rfl, by decide +kernel, rfl, by decide +kernel, by decide +kernel⟩
theorem d_is_taken {f : Addr} {fd : FuncData} (T : Txt mg) (F : Fun K "is_taken" "is_taken" st_is_taken f fd) : FnD P w K mg base 1 f fd ["records", "taken", "key", "name"] m_is_taken := fnD_mk F sc_is_taken fun cdv Ar outer s H E hr tk hp => by have hu := hu_room hr; have nd := sc_is_taken.nd; exact
    (dss_cons (ds_set nd (de_get2 hu (de_var 1) (de_var 3) (de_var 2)))
    (dss_one (ds_ret (de_and (de_cmp (op_neA hu) (de_var 4) (de_var 2)) (de_one (de_cmp (op_eqA hu) (de_ix (ix_any hu) (de_var 0) (de_var 4)) (de_var 3)))))))
abbrev st_is_next : Stmt := top 12
theorem sc_is_next : FnScope ["records", "taken", "letter", "stamp", "key", "own_stamp", "name"] ["records", "taken", "letter", "stamp"] (defScope st_is_next) := ⟨rfl, rfl, rfl, by decide +kernel, rfl, by decide +kernel, by decide +kernel⟩
theorem d_is_next {f : Addr} {fd : FuncData} (T : Txt mg) (c_is_taken : CalN P w K mg base "is_taken" 1 4 [] m_is_taken) (F : Fun K "is_next" "is_next" st_is_next f fd) : FnD P w K mg base 2 f fd ["records", "taken", "letter", "stamp"] m_is_next := fnD_mk F sc_is_next fun cdv Ar outer s H E hr tk hp => by have hu := hu_room hr; have nd := sc_is_next.nd; exact
    (dss_cons (ds_asg (de_var 2) (dg_tup rfl (dgs_cons (dg_name 4 nd) (dgs_cons (dg_name 5 nd) (dgs_cons (dg_name 6 nd) dgs_nil)))))
    (dss_cons (ds_if (dt_w (dw_or (dt_cmp (op_neA hu) (de_var 5) (de_var 3)) (dw_or1 (dt_w (dw_and (dt_cmp (op_inA hu) (de_var 4) (de_var 0)) (dw_and1 (dt_cmp op_isA (de_ix (ix_any hu) (de_var 0) (de_var 4)) de_non))))))) (dss_one (ds_ret de_bl)) dss_nil)
    (dss_one (ds_ret (de_ifExp (dt_cmp op_isA (de_var 6) de_non) (de_cmp (op_inA hu) (de_var 4) (de_var 0)) (de_not (de_callS (c_is_taken.mono (by decide)) hr tk (da_cons (de_var 0) (da_cons (de_var 1) (da_cons (de_var 4) (da_cons (de_var 6) da_nil)))))))))))
abbrev st_records_behind : Stmt := top 13
theorem sc_records_behind : FnScope ["log", "records", "taken", "index", "letter", "key", "stamp", "name"] ["log"] (defScope st_records_behind) := ⟨rfl, rfl, rfl, by decide +kernel, rfl, by decide +kernel, by decide +kernel⟩
theorem d_records_behind {f : Addr} {fd : FuncData} (T : Txt mg) (c_is_next : CalN P w K mg base "is_next" 2 4 [] m_is_next) (F : Fun K "records_behind" "records_behind" st_records_behind f fd) : FnD P w K mg base 3 f fd ["log"] m_records_behind := fnD_mk F sc_records_behind fun cdv Ar outer s H E hr tk hp => by have hu := hu_room hr; have nd := sc_records_behind.nd; exact
    (dss_cons (ds_set nd de_dictC)
    (dss_cons (ds_set nd de_dictC)
    (dss_cons (ds_for hp rfl (di_enum T.b_enumerate (da_cons (de_var 0) da_nil)) (dg_tup rfl (dgs_cons (dg_name 3 nd) (dgs_cons (dg_name 4 nd) dgs_nil))) (dss_cons (ds_if (dt_not (dt_val (de_callS (c_is_next.mono (by decide)) hr tk (da_cons (de_var 1) (da_cons (de_var 2) (da_cons (de_var 4) (da_cons (de_bin op_addA (de_var 3) de_int) da_nil))))))) (dss_one (ds_ret (de_tup (da_cons (de_frz (de_var 1)) (da_cons (de_var 3) da_nil))))) dss_nil)
    (dss_cons (ds_asg (de_var 4) (dg_tup rfl (dgs_cons (dg_name 5 nd) (dgs_cons (dg_name 6 nd) (dgs_cons (dg_name 7 nd) dgs_nil)))))
    (dss_cons (ds_if (dt_cmp op_isNotA (de_var 7) de_non) (dss_one (ds_sub hu (de_var 5) (de_var 2) (de_var 7))) dss_nil)
    (dss_one (ds_sub hu (de_var 7) (de_var 1) (de_var 5)))))))
    (dss_one (ds_ret (de_tup (da_cons (de_frz (de_var 1)) (da_cons de_non da_nil))))))))
abbrev st_wrong_in_log : Stmt := top 14
theorem sc_wrong_in_log : FnScope ["value", "index", "end", "wrong"] ["value"] (defScope st_wrong_in_log) := ⟨rfl, rfl, rfl, by decide +kernel, rfl, by decide +kernel, by decide +kernel⟩
theorem d_wrong_in_log {f : Addr} {fd : FuncData} (T : Txt mg) (c_wrong_item : CalN P w K mg base "wrong_item" 4 1 [] m_wrong_item) (c_records_behind : CalN P w K mg base "records_behind" 3 1 [] m_records_behind) (F : Fun K "wrong_in_log" "wrong_in_log" st_wrong_in_log f fd) : FnD P w K mg base 5 f fd ["value"] m_wrong_in_log := fnD_mk F sc_wrong_in_log fun cdv Ar outer s H E hr tk hp => by have hu := hu_room hr; have nd := sc_wrong_in_log.nd; exact
    (dss_cons (ds_set nd (de_callS (c_wrong_item.mono (by decide)) hr tk (da_cons (de_var 0) da_nil)))
    (dss_cons (ds_if (dt_w (dw_and (dt_cmp op_isNotA (de_var 1) de_non) (dw_and1 (dt_not (dt_val (de_isi .lst T.b_isinstance T.b_list (de_var 0))))))) (dss_one (ds_ret de_int)) dss_nil)
    (dss_cons (ds_set nd (de_ifExp (dt_cmp op_isA (de_var 1) de_non) (de_callB call_lenA T.b_len (da_cons (de_var 0) da_nil)) (de_var 1)))
    (dss_cons (ds_set nd (de_ix (ix_any hu) (de_callS (c_records_behind.mono (by decide)) hr tk (da_cons (de_slice (de_var 0) do_none (do_some (de_var 2))) da_nil)) de_int))
    (dss_one (ds_ret (de_ifExp (dt_cmp op_isA (de_var 3) de_non) (de_var 1) (de_var 3))))))))
abbrev st_or_dash : Stmt := top 20
theorem sc_or_dash : FnScope ["value"] ["value"] (defScope st_or_dash) := ⟨rfl, rfl, rfl, by decide +kernel, rfl, by decide +kernel, by decide +kernel⟩
theorem d_or_dash {f : Addr} {fd : FuncData} (T : Txt mg) (F : Fun K "or_dash" "or_dash" st_or_dash f fd) : FnD P w K mg base 1 f fd ["value"] m_or_dash := fnD_mk F sc_or_dash fun cdv Ar outer s H E hr tk hp => by have hu := hu_room hr; have nd := sc_or_dash.nd; exact
    (dss_one (ds_ret (de_ifExp (dt_cmp op_isA (de_var 0) de_non) (de_globS T.g_NOBODY) (de_callTy call_strA T.b_str (da_cons (de_var 0) da_nil)))))
abbrev st_lines_joined : Stmt := top 21
theorem sc_lines_joined : FnScope ["rows", "value", "row"] ["rows"] (defScope st_lines_joined) := ⟨rfl, rfl, rfl, by decide +kernel, rfl, by decide +kernel, by decide +kernel⟩
theorem d_lines_joined {f : Addr} {fd : FuncData} (T : Txt mg) (c_or_dash : CalN P w K mg base "or_dash" 1 1 [] m_or_dash) (F : Fun K "lines_joined" "lines_joined" st_lines_joined f fd) : FnD P w K mg base 2 f fd ["rows"] m_lines_joined := fnD_mk F sc_lines_joined fun cdv Ar outer s H E hr tk hp => by have hu := hu_room hr; have nd := sc_lines_joined.nd; exact
    (dss_one (ds_ret (de_bm PySem.F.plainAttrs_str PySem.F.slot_str_join PySem.F.type_str_join mt_joinA de_str (da_cons (de_comp (own := [("row", 2)]) rfl nd (di_seq (de_var 0)) (blkOk_by (by kernel_rfl)) (fun _ _ _ _ _ => (dg_name 2 nd)) (fun _ _ _ _ _ => dts_nil) (fun _ _ _ _ _ => (de_bin op_addA (de_bm PySem.F.plainAttrs_str PySem.F.slot_str_join PySem.F.type_str_join mt_joinA de_str (da_cons (de_comp (own := [("value", 1)]) rfl nd (di_seq (de_var 2)) (blkOk_by (by kernel_rfl)) (fun _ _ _ _ _ => (dg_name 1 nd)) (fun _ _ _ _ _ => dts_nil) (fun _ _ _ _ _ => (de_callS (c_or_dash.mono (by decide)) hr takes0 (da_cons (de_var 1) da_nil)))) da_nil)) de_str))) da_nil))))
abbrev st_write_play : Stmt := top 22
theorem sc_write_play : FnScope ["log", "comings", "letter"] ["log", "comings"] (defScope st_write_play) := ⟨rfl, rfl, rfl, by decide +kernel, rfl, by decide +kernel, by decide +kernel⟩
theorem d_write_play {f : Addr} {fd : FuncData} (T : Txt mg) (c_lines_joined : CalN P w K mg base "lines_joined" 2 1 [] m_lines_joined) (F : Fun K "write_play" "write_play" st_write_play f fd) : FnD P w K mg base 3 f fd ["log", "comings"] m_write_play := fnD_mk F sc_write_play fun cdv Ar outer s H E hr tk hp => by have hu := hu_room hr; have nd := sc_write_play.nd; exact
    (dss_one (ds_ret (de_callS (c_lines_joined.mono (by decide)) hr tk (da_cons (de_lst (da_star (de_var 0) (da_cons (de_tup (da_cons (de_globS T.g_COMES_WORD) da_nil)) (da_star (de_comp (own := [("letter", 2)]) rfl nd (di_seq (de_var 1)) (blkOk_by (by kernel_rfl)) (fun _ _ _ _ _ => (dg_name 2 nd)) (fun _ _ _ _ _ => dts_nil) (fun _ _ _ _ _ => (de_tup (da_cons (de_ix (ix_any hu) (de_var 2) de_int) da_nil)))) da_nil)))) da_nil))))
abbrev st_rows_from : Stmt := top 23
theorem sc_rows_from : FnScope ["text", "lines", "whole", "line"] ["text"] (defScope st_rows_from) := ⟨rfl, rfl, rfl, by decide +kernel, rfl, by decide +kernel, by decide +kernel⟩
theorem d_rows_from {f : Addr} {fd : FuncData} (T : Txt mg) (F : Fun K "rows_from" "rows_from" st_rows_from f fd) : FnD P w K mg base 1 f fd ["text"] m_rows_from := fnD_mk F sc_rows_from fun cdv Ar outer s H E hr tk hp => by have hu := hu_room hr; have nd := sc_rows_from.nd; exact
    (dss_cons (ds_if (dt_not (dt_val (de_isi .str T.b_isinstance T.b_str (de_var 0)))) (dss_one ds_no) dss_nil)
    (dss_cons (ds_set nd (de_bm PySem.F.plainAttrs_str PySem.F.slot_str_split PySem.F.type_str_split mt_splitA (de_var 0) (da_cons de_str da_nil)))
    (dss_cons (ds_set nd (de_cmp (op_eqA hu) (de_ix (ix_any hu) (de_var 1) (de_neg de_int)) de_str))
    (dss_one (ds_ret (de_tup (da_cons (de_comp (own := [("line", 3)]) rfl nd (di_seq (de_ifExp (dt_val (de_var 2)) (de_slice (de_var 1) do_none (do_some (de_neg de_int))) (de_var 1))) (blkOk_by (by kernel_rfl)) (fun _ _ _ _ _ => (dg_name 3 nd)) (fun _ _ _ _ _ => dts_nil) (fun _ _ _ _ _ => (de_bm PySem.F.plainAttrs_str PySem.F.slot_str_split PySem.F.type_str_split mt_splitA (de_var 3) (da_cons de_str da_nil)))) (da_cons (de_var 2) da_nil))))))))
abbrev st_count_from : Stmt := top 24
theorem sc_count_from : FnScope ["word", "sign"] ["word"] (defScope st_count_from) := ⟨rfl, rfl, rfl, by decide +kernel, rfl, by decide +kernel, by decide +kernel⟩
theorem d_count_from {f : Addr} {fd : FuncData} (T : Txt mg) (F : Fun K "count_from" "count_from" st_count_from f fd) : FnD P w K mg base 1 f fd ["word"] m_count_from := fnD_mk F sc_count_from fun cdv Ar outer s H E hr tk hp => by have hu := hu_room hr; have nd := sc_count_from.nd; exact
    (dss_cons (ds_if (dt_w (dw_or (dt_not (dt_chain op_ltA op_leA de_int (de_callB call_lenA T.b_len (da_cons (de_var 0) da_nil)) (de_globI T.g_MOST_FIGURES))) (dw_or (dt_cmp (op_eqA hu) (de_ix (ix_any hu) (de_var 0) de_int) de_str) (dw_or1 (dt_not (dt_val (de_callB (call_allA rfl) T.b_all (da_cons (de_comp (own := [("sign", 1)]) rfl nd (di_seq (de_var 0)) (blkOk_by (by kernel_rfl)) (fun _ _ _ _ _ => (dg_name 1 nd)) (fun _ _ _ _ _ => dts_nil) (fun _ _ _ _ _ => (de_cmp (op_inA hu) (de_var 1) (de_globS T.g_FIGURES)))) da_nil)))))))) (dss_one (ds_ret de_non)) dss_nil)
    (dss_one (ds_ret (de_callTy call_intA T.b_int (da_cons (de_var 0) da_nil)))))
abbrev st_letter_from : Stmt := top 25
theorem sc_letter_from : FnScope ["words", "key", "stamp"] ["words"] (defScope st_letter_from) := ⟨rfl, rfl, rfl, by decide +kernel, rfl, by decide +kernel, by decide +kernel⟩
theorem d_letter_from {f : Addr} {fd : FuncData} (T : Txt mg) (c_is_name : CalN P w K mg base "is_name" 1 1 [] m_is_name) (c_count_from : CalN P w K mg base "count_from" 1 1 [] m_count_from) (F : Fun K "letter_from" "letter_from" st_letter_from f fd) : FnD P w K mg base 2 f fd ["words"] m_letter_from := fnD_mk F sc_letter_from fun cdv Ar outer s H E hr tk hp => by have hu := hu_room hr; have nd := sc_letter_from.nd; exact
    (dss_cons (ds_if (dt_w (dw_or (dt_cmp (op_neA hu) (de_callB call_lenA T.b_len (da_cons (de_var 0) da_nil)) de_int) (dw_or1 (dt_w (dw_and (dt_cmp (op_neA hu) (de_ix (ix_any hu) (de_var 0) de_int) (de_globS T.g_NOBODY)) (dw_and1 (dt_not (dt_val (de_callS (c_is_name.mono (by decide)) hr tk (da_cons (de_ix (ix_any hu) (de_var 0) de_int) da_nil)))))))))) (dss_one (ds_ret de_non)) dss_nil)
    (dss_cons (ds_par rfl nd (da_cons (de_callS (c_count_from.mono (by decide)) hr tk (da_cons (de_ix (ix_any hu) (de_var 0) de_int) da_nil)) (da_cons (de_callS (c_count_from.mono (by decide)) hr tk (da_cons (de_ix (ix_any hu) (de_var 0) de_int) da_nil)) da_nil)))
    (dss_cons (ds_if (dt_w (dw_or (dt_cmp op_isA (de_var 1) de_non) (dw_or1 (dt_cmp op_isA (de_var 2) de_non)))) (dss_one (ds_ret de_non)) dss_nil)
    (dss_one (ds_ret (de_tup (da_cons (de_var 1) (da_cons (de_var 2) (da_cons (de_ifExp (dt_cmp (op_eqA hu) (de_ix (ix_any hu) (de_var 0) de_int) (de_globS T.g_NOBODY)) de_non (de_ix (ix_any hu) (de_var 0) de_int)) da_nil)))))))))
abbrev st_read_play : Stmt := top 26
theorem sc_read_play : FnScope ["text", "rows", "whole", "log", "comings", "index", "words", "stamp", "letter"] ["text"] (defScope st_read_play) := ⟨rfl, rfl, rfl, by decide +kernel, rfl, by decide +kernel, by decide +kernel⟩
theorem d_read_play {f : Addr} {fd : FuncData} (T : Txt mg) (c_rows_from : CalN P w K mg base "rows_from" 1 1 [] m_rows_from) (c_count_from : CalN P w K mg base "count_from" 1 1 [] m_count_from) (c_letter_from : CalN P w K mg base "letter_from" 2 1 [] m_letter_from) (c_wrong_in_log : CalN P w K mg base "wrong_in_log" 5 1 [] m_wrong_in_log) (F : Fun K "read_play" "read_play" st_read_play f fd) : FnD P w K mg base 6 f fd ["text"] m_read_play := fnD_mk F sc_read_play fun cdv Ar outer s H E hr tk hp => by have hu := hu_room hr; have nd := sc_read_play.nd; exact
    (dss_cons (ds_asg (de_callS (c_rows_from.mono (by decide)) hr tk (da_cons (de_var 0) da_nil)) (dg_tup rfl (dgs_cons (dg_name 1 nd) (dgs_cons (dg_name 2 nd) dgs_nil))))
    (dss_cons (ds_par rfl nd (da_cons (de_lstC da_nil) (da_cons de_non da_nil)))
    (dss_cons (ds_for hp rfl (di_enum T.b_enumerate (da_cons (de_var 1) da_nil)) (dg_tup rfl (dgs_cons (dg_name 5 nd) (dgs_cons (dg_name 6 nd) dgs_nil))) (dss_one (ds_if (dt_cmp op_isNotA (de_var 4) de_non) (dss_cons (ds_set nd (de_ifExp (dt_cmp (op_eqA hu) (de_callB call_lenA T.b_len (da_cons (de_var 6) da_nil)) de_int) (de_callS (c_count_from.mono (by decide)) hr tk (da_cons (de_ix (ix_any hu) (de_var 6) de_int) da_nil)) de_non))
    (dss_cons (ds_if (dt_w (dw_or (dt_cmp op_isA (de_var 7) de_non) (dw_or1 (dt_cmp op_gtA (de_var 7) (de_callB call_lenA T.b_len (da_cons (de_var 3) da_nil)))))) (dss_one ds_no) dss_nil)
    (dss_one (ds_expr (de_bm PySem.F.plainAttrs_list PySem.F.slot_list_append PySem.F.type_list_append mt_appendA (de_var 4) (da_cons (de_ix (ix_any hu) (de_var 3) (de_bin op_subA (de_var 7) de_int)) da_nil)))))) (dss_one (ds_if (dt_cmp (op_eqA hu) (de_var 6) (de_lst (da_cons (de_globS T.g_COMES_WORD) da_nil))) (dss_one (ds_set nd (de_lstC da_nil))) (dss_cons (ds_set nd (de_callS (c_letter_from.mono (by decide)) hr tk (da_cons (de_var 6) da_nil)))
    (dss_cons (ds_if (dt_w (dw_or (dt_cmp op_isA (de_var 8) de_non) (dw_or1 (dt_cmp op_isNotA (de_callS (c_wrong_in_log.mono (by decide)) hr tk (da_cons (de_lst (da_star (de_var 3) (da_cons (de_var 8) da_nil))) da_nil)) de_non)))) (dss_one ds_no) dss_nil)
    (dss_one (ds_expr (de_bm PySem.F.plainAttrs_list PySem.F.slot_list_append PySem.F.type_list_append mt_appendA (de_var 3) (da_cons (de_var 8) da_nil)))))))))))
    (dss_cons (ds_if (dt_w (dw_or (dt_cmp op_isA (de_var 4) de_non) (dw_or1 (dt_not (dt_val (de_var 2)))))) (dss_one ds_no) dss_nil)
    (dss_one (ds_ret (de_tup (da_cons (de_var 3) (da_cons (de_var 4) da_nil)))))))))
abbrev st_law_satchel : Stmt := top 28
theorem sc_law_satchel : FnScope ["script", "at", "cell"] ["script", "at"] (defScope st_law_satchel) := ⟨rfl, rfl, rfl, by decide +kernel, rfl, by decide +kernel, by decide +kernel⟩
theorem d_law_satchel {f : Addr} {fd : FuncData} (T : Txt mg) (F : Fun K "_law_satchel" "_law_satchel" st_law_satchel f fd) : FnD P w K mg base 1 f fd ["script", "at"] m_law_satchel := fnD_mk F sc_law_satchel fun cdv Ar outer s H E hr tk hp => by have hu := hu_room hr; have nd := sc_law_satchel.nd; exact
    (dss_cons (ds_set nd (de_ifExp (dt_cmp op_ltA (de_var 1) (de_callB call_lenA T.b_len (da_cons (de_var 0) da_nil))) (de_ix (ix_any hu) (de_var 0) (de_var 1)) de_int))
    (dss_one (ds_ret (de_lstC (da_cons (de_callB (call_maxA rfl) T.b_max (da_cons de_int (da_cons (de_bin op_subA (de_callB call_absA T.b_abs (da_cons (de_var 2) da_nil)) (de_bin op_powA de_int de_int)) da_nil))) (da_cons (de_bin op_addA (de_bin op_addA (de_bin op_mulA (de_bin op_modA (de_callTy call_intA T.b_int (da_cons (de_var 2) da_nil)) (de_bin op_addA (de_bin op_powA de_int de_int) de_int)) de_int) (de_bin op_mulA de_int (de_var 1))) de_int) (da_cons de_int da_nil)))))))
abbrev st_law_lift : Stmt := top 29
theorem sc_law_lift : FnScope ["satchel", "below", "digit", "stir"] ["satchel", "below"] (defScope st_law_lift) := ⟨rfl, rfl, rfl, by decide +kernel, rfl, by decide +kernel, by decide +kernel⟩
theorem d_law_lift {f : Addr} {fd : FuncData} (T : Txt mg) (F : Fun K "_law_lift" "_law_lift" st_law_lift f fd) : FnD P w K mg base 1 f fd ["satchel", "below"] m_law_lift := fnD_mk F sc_law_lift fun cdv Ar outer s H E hr tk hp => by have hu := hu_room hr; have nd := sc_law_lift.nd; exact
    (dss_cons (ds_if (dt_cmp op_gtA (de_ix (ix_any hu) (de_var 0) de_int) de_int) (dss_cons (ds_set nd (de_bin op_modA (de_callTy call_intA T.b_int (da_cons (de_ix (ix_any hu) (de_var 0) de_int) da_nil)) (de_var 1)))
    (dss_cons (ds_sub hu (de_bin op_fdivA (de_ix (ix_any hu) (de_var 0) de_int) (de_var 1)) (de_var 0) de_int)
    (dss_one (ds_ret (de_var 2))))) dss_nil)
    (dss_cons (ds_sub hu (de_bin op_addA (de_ix (ix_any hu) (de_var 0) de_int) de_int) (de_var 0) de_int)
    (dss_cons (ds_set nd (de_bin op_modA (de_bin op_powA (de_callTy call_intA T.b_int (da_cons (de_bin op_addA (de_ix (ix_any hu) (de_var 0) de_int) (de_bin op_mulA de_int (de_ix (ix_any hu) (de_var 0) de_int))) da_nil)) de_int) (de_bin op_addA (de_bin op_powA de_int de_int) de_int)))
    (dss_cons (ds_set nd (de_bin op_modA (de_bin op_powA (de_callTy call_intA T.b_int (da_cons (de_bin op_addA (de_var 3) (de_bin op_mulA de_int (de_ix (ix_any hu) (de_var 0) de_int))) da_nil)) de_int) (de_bin op_addA (de_bin op_powA de_int de_int) de_int)))
    (dss_one (ds_ret (de_bin op_modA (de_bin op_fdivA (de_var 3) de_int) (de_var 1))))))))
abbrev st_law_twinned : Stmt := top 30
theorem sc_law_twinned : FnScope ["found", "due", "k"] ["found", "due"] (defScope st_law_twinned) := ⟨rfl, rfl, rfl, by decide +kernel, rfl, by decide +kernel, by decide +kernel⟩
theorem d_law_twinned {f : Addr} {fd : FuncData} (T : Txt mg) (F : Fun K "_law_twinned" "_law_twinned" st_law_twinned f fd) (hmg : mg "_law_twinned" = some (.ref f)) (hb : Binds K fd ["found", "due"] []) : ∀ n, FnD P w K mg base (1 + n) f fd ["found", "due"] (m_law_twinned n)
  | 0 => fnD_mk F sc_law_twinned fun cdv Ar outer s H E hr tk hp => dss_no
  | n + 1 => by
    have ih : CalN P w K mg base "_law_twinned" (1 + n) 2 [] (m_law_twinned n) := ⟨f, fd, _, [], [], d_law_twinned T F hmg hb n, rfl, hmg, F.kp, hb, .nil, fun _ _ => .nil⟩
    exact fnD_mk (k := 1 + n) F sc_law_twinned fun cdv Ar outer s H E hr tk hp => by have hu := hu_room hr; have nd := sc_law_twinned.nd; exact
    (dss_cons (ds_if (dt_w (dw_or (dt_val (de_isi .bl T.b_isinstance T.b_bool (de_var 0))) (dw_or1 (dt_val (de_isi .bl T.b_isinstance T.b_bool (de_var 1)))))) (dss_one (ds_ret (de_and (de_isi .bl T.b_isinstance T.b_bool (de_var 0)) (de_and (de_isi .bl T.b_isinstance T.b_bool (de_var 1)) (de_one (de_cmp (op_eqA hu) (de_var 0) (de_var 1))))))) dss_nil)
    (dss_cons (ds_if (dt_w (dw_or (dt_cmp (op_neA hu) (de_isi .lst T.b_isinstance T.b_list (de_var 0)) (de_isi .lst T.b_isinstance T.b_list (de_var 1))) (dw_or1 (dt_cmp (op_neA hu) (de_isi .tup T.b_isinstance T.b_tuple (de_var 0)) (de_isi .tup T.b_isinstance T.b_tuple (de_var 1)))))) (dss_one (ds_ret de_bl)) dss_nil)
    (dss_cons (ds_if (dt_w (dw_or (dt_cmp (op_neA hu) (de_isi .str T.b_isinstance T.b_str (de_var 0)) (de_isi .str T.b_isinstance T.b_str (de_var 1))) (dw_or1 (dt_cmp (op_neA hu) (de_isi .int T.b_isinstance T.b_int (de_var 0)) (de_isi .int T.b_isinstance T.b_int (de_var 1)))))) (dss_one (ds_ret de_bl)) dss_nil)
    (dss_cons (ds_if (dt_val (de_isi2 .lst .tup T.b_isinstance T.b_list T.b_tuple (de_var 1))) (dss_cons (ds_if (dt_cmp (op_neA hu) (de_callB call_lenA T.b_len (da_cons (de_var 0) da_nil)) (de_callB call_lenA T.b_len (da_cons (de_var 1) da_nil))) (dss_one (ds_ret de_bl)) dss_nil)
    (dss_one (ds_ret (de_cmp (op_eqA hu) (de_comp (own := [("k", 2)]) rfl nd (di_range1 T.b_range (da_cons (de_callB call_lenA T.b_len (da_cons (de_var 1) da_nil)) da_nil)) (blkOk_by (by kernel_rfl)) (fun _ _ _ _ _ => (dg_name 2 nd)) (fun _ _ _ _ _ => (dts_one (dt_not (dt_val (de_call ih hr takes0 (da_cons (de_ix (ix_any hu) (de_var 0) (de_var 2)) (da_cons (de_ix (ix_any hu) (de_var 1) (de_var 2)) da_nil))))))) (fun _ _ _ _ _ => (de_var 2))) (de_lst da_nil))))) dss_nil)
    (dss_one (ds_ret (de_and (de_cmp (op_eqA hu) (de_cmp op_isA (de_var 0) de_non) (de_cmp op_isA (de_var 1) de_non)) (de_one (de_cmp (op_eqA hu) (de_var 0) (de_var 1))))))))))
abbrev st_law_labels : Stmt := top 31
theorem sc_law_labels : FnScope ["satchel", "many", "signs", "found", "k", "size", "way", "sign", "label", "spare", "turn", "word"] ["satchel", "many"] (defScope st_law_labels) := ⟨rfl, rfl, rfl, by decide +kernel, rfl, by decide +kernel, by decide +kernel⟩
theorem d_law_labels {f : Addr} {fd : FuncData} (T : Txt mg) (c_law_lift : CalN P w K mg base "_law_lift" 1 2 [] m_law_lift) (F : Fun K "_law_labels" "_law_labels" st_law_labels f fd) : FnD P w K mg base 2 f fd ["satchel", "many"] m_law_labels := fnD_mk F sc_law_labels fun cdv Ar outer s H E hr tk hp => by have hu := hu_room hr; have nd := sc_law_labels.nd; exact
    (dss_cons (ds_asg (de_tup (da_cons de_str (da_cons (de_lstC da_nil) da_nil))) (dg_tup rfl (dgs_cons (dg_name 2 nd) (dgs_cons (dg_name 3 nd) dgs_nil))))
    (dss_cons (ds_for hp rfl (di_range1 T.b_range (da_cons (de_var 1) da_nil)) (dg_name 4 nd) (dss_cons (ds_par rfl nd (da_cons (de_ix (ix_any hu) (de_lst (da_cons de_int (da_cons de_int (da_cons de_int (da_cons (de_callS (c_law_lift.mono (by decide)) hr tk (da_cons (de_var 0) (da_cons de_int da_nil))) da_nil))))) (de_callS (c_law_lift.mono (by decide)) hr tk (da_cons (de_var 0) (da_cons de_int da_nil)))) (da_cons (de_callS (c_law_lift.mono (by decide)) hr tk (da_cons (de_var 0) (da_cons de_int da_nil))) da_nil)))
    (dss_cons (ds_set nd (de_callS (c_law_lift.mono (by decide)) hr tk (da_cons (de_var 0) (da_cons de_int da_nil))))
    (dss_cons (ds_set nd (de_bin op_addA (de_ix (ix_any hu) (de_var 2) (de_var 7)) (de_bm PySem.F.plainAttrs_str PySem.F.slot_str_join PySem.F.type_str_join mt_joinA de_str (da_cons (de_comp (own := [("turn", 10)]) rfl nd (di_range1 T.b_range (da_cons (de_var 5) da_nil)) (blkOk_by (by kernel_rfl)) (fun _ _ _ _ _ => (dg_name 10 nd)) (fun _ _ _ _ _ => dts_nil) (fun _ _ _ _ _ => (de_ix (ix_any hu) (de_var 2) (de_callS (c_law_lift.mono (by decide)) hr takes0 (da_cons (de_var 0) (da_cons de_int da_nil)))))) da_nil))))
    (dss_cons (ds_if (dt_w (dw_and (dt_cmp (op_neA hu) (de_var 3) (de_lst da_nil)) (dw_and1 (dt_cmp op_ltA (de_var 6) de_int)))) (dss_one (ds_set nd (de_ix (ix_any hu) (de_lst (da_cons (de_bin op_addA (de_slice (de_ix (ix_any hu) (de_var 3) (de_neg de_int)) do_none (do_some de_int)) (de_ix (ix_any hu) (de_var 2) (de_var 7))) (da_cons (de_bin op_addA (de_slice (de_ix (ix_any hu) (de_var 3) (de_neg de_int)) do_none (do_some (de_neg de_int))) (de_ix (ix_any hu) (de_var 2) (de_var 7))) da_nil))) (de_var 6)))) dss_nil)
    (dss_cons (ds_setLc (i := 9) (own := [("turn", 10)]) rfl nd (di_range1 T.b_range (da_cons de_int da_nil)) (blkOk_by (by kernel_rfl)) (fun _ _ _ _ _ => (dg_name 10 nd)) (fun _ _ _ _ _ => dts_nil) (fun _ _ _ _ _ => (de_bin op_addA (de_ix (ix_any hu) (de_var 2) (de_bin op_modA (de_bin op_addA (de_var 7) (de_var 10)) de_int)) (de_ix (ix_any hu) (de_var 2) (de_var 4)))) (sw_true rfl rfl rfl (by kernel_rfl)))
    (dss_one (ds_expr (de_bm PySem.F.plainAttrs_list PySem.F.slot_list_append PySem.F.type_list_append mt_appendA (de_var 3) (da_cons (de_ifExp (dt_cmp (op_notInA hu) (de_var 8) (de_var 3)) (de_var 8) (de_ix (ix_any hu) (de_comp (own := [("word", 11)]) rfl nd (di_seq (de_var 9)) (blkOk_by (by kernel_rfl)) (fun _ _ _ _ _ => (dg_name 11 nd)) (fun _ _ _ _ _ => (dts_one (dt_cmp (op_notInA hu) (de_var 11) (de_var 3)))) (fun _ _ _ _ _ => (de_var 11))) de_int)) da_nil))))))))))
    (dss_one (ds_ret (de_frz (de_var 3))))))
abbrev st_law_numbers : Stmt := top 32
theorem sc_law_numbers : FnScope ["satchel", "many", "found", "low", "k"] ["satchel", "many"] (defScope st_law_numbers) := ⟨rfl, rfl, rfl, by decide +kernel, rfl, by decide +kernel, by decide +kernel⟩
theorem d_law_numbers {f : Addr} {fd : FuncData} (T : Txt mg) (c_law_lift : CalN P w K mg base "_law_lift" 1 2 [] m_law_lift) (F : Fun K "_law_numbers" "_law_numbers" st_law_numbers f fd) : FnD P w K mg base 2 f fd ["satchel", "many"] m_law_numbers := fnD_mk F sc_law_numbers fun cdv Ar outer s H E hr tk hp => by have hu := hu_room hr; have nd := sc_law_numbers.nd; exact
    (dss_cons (ds_par rfl nd (da_cons (de_lstC da_nil) (da_cons de_int da_nil)))
    (dss_cons (ds_for hp rfl (di_range1 T.b_range (da_cons (de_var 1) da_nil)) (dg_name 4 nd) (dss_cons (ds_set nd (de_bin op_addA (de_bin op_addA (de_var 3) de_int) (de_ix (ix_any hu) (de_lst (da_cons de_int (da_cons de_int (da_cons (de_callS (c_law_lift.mono (by decide)) hr tk (da_cons (de_var 0) (da_cons de_int da_nil))) (da_cons (de_bin op_addA (de_bin op_powA de_int de_int) (de_callS (c_law_lift.mono (by decide)) hr tk (da_cons (de_var 0) (da_cons de_int da_nil)))) da_nil))))) (de_callS (c_law_lift.mono (by decide)) hr tk (da_cons (de_var 0) (da_cons de_int da_nil))))))
    (dss_one (ds_expr (de_bm PySem.F.plainAttrs_list PySem.F.slot_list_append PySem.F.type_list_append mt_appendA (de_var 2) (da_cons (de_var 3) da_nil))))))
    (dss_one (ds_ret (de_ifExp (dt_cmp (op_eqA hu) (de_callS (c_law_lift.mono (by decide)) hr tk (da_cons (de_var 0) (da_cons de_int da_nil))) de_int) (de_rev (de_var 2)) (de_frz (de_var 2)))))))
abbrev st_law_less : Stmt := top 33
theorem sc_law_less : FnScope ["things", "thing", "found", "key_here"] ["things", "thing"] (defScope st_law_less) := ⟨rfl, rfl, rfl, by decide +kernel, rfl, by decide +kernel, by decide +kernel⟩
theorem d_law_less {f : Addr} {fd : FuncData} (T : Txt mg) (F : Fun K "_law_less" "_law_less" st_law_less f fd) : FnD P w K mg base 1 f fd ["things", "thing"] m_law_less := fnD_mk F sc_law_less fun cdv Ar outer s H E hr tk hp => by have hu := hu_room hr; have nd := sc_law_less.nd; exact
    (dss_cons (ds_set nd de_dictC)
    (dss_cons (ds_lock 0 (ds_for hp rfl (di_keys (de_var 0)) (dg_name 3 nd) (dss_one (ds_if (dt_cmp (op_neA hu) (de_var 3) (de_var 1)) (dss_one (ds_sub hu (de_ix (ix_any hu) (de_var 0) (de_var 3)) (de_var 2) (de_var 3))) dss_nil))))
    (dss_one (ds_ret (de_var 2)))))
abbrev st_law_log : Stmt := top 34
theorem sc_law_log : FnScope ["satchel", "many", "number_list", "label_list", "live", "rest", "found", "k", "way", "free", "olds", "number", "label", "one"] ["satchel", "many", "number_list", "label_list"] (defScope st_law_log) := ⟨rfl, rfl, rfl, by decide +kernel, rfl, by decide +kernel, by decide +kernel⟩
theorem d_law_log {f : Addr} {fd : FuncData} (T : Txt mg) (c_law_lift : CalN P w K mg base "_law_lift" 1 2 [] m_law_lift) (c_law_less : CalN P w K mg base "_law_less" 1 2 [] m_law_less) (F : Fun K "_law_log" "_law_log" st_law_log f fd) : FnD P w K mg base 2 f fd ["satchel", "many", "number_list", "label_list"] m_law_log := fnD_mk F sc_law_log fun cdv Ar outer s H E hr tk hp => by have hu := hu_room hr; have nd := sc_law_log.nd; exact
    (dss_cons (ds_asg (de_tup (da_cons de_dictC (da_cons (de_callTy (call_listA rfl) T.b_list (da_cons (de_var 2) da_nil)) (da_cons (de_lstC da_nil) da_nil)))) (dg_tup rfl (dgs_cons (dg_name 4 nd) (dgs_cons (dg_name 5 nd) (dgs_cons (dg_name 6 nd) dgs_nil)))))
    (dss_cons (ds_for hp rfl (di_range1 T.b_range (da_cons (de_var 1) da_nil)) (dg_name 7 nd) (dss_cons (ds_set nd (de_callS (c_law_lift.mono (by decide)) hr tk (da_cons (de_var 0) (da_cons de_int da_nil))))
    (dss_cons (ds_setLc (i := 9) (own := [("label", 12)]) rfl nd (di_seq (de_var 3)) (blkOk_by (by kernel_rfl)) (fun _ _ _ _ _ => (dg_name 12 nd)) (fun _ _ _ _ _ => (dts_one (dt_cmp (op_notInA hu) (de_var 12) (de_lock 4 (de_comp (own := [("one", 13)]) rfl nd (di_keys (de_var 4)) (blkOk_by (by kernel_rfl)) (fun _ _ _ _ _ => (dg_name 13 nd)) (fun _ _ _ _ _ => dts_nil) (fun _ _ _ _ _ => (de_ix (ix_any hu) (de_var 4) (de_var 13)))))))) (fun _ _ _ _ _ => (de_var 12)) (sw_true rfl rfl rfl (by kernel_rfl)))
    (dss_cons (ds_set nd (de_callB (call_sortedA rfl) T.b_sorted (da_cons (de_callTy (call_listA rfl) T.b_list (da_cons (de_var 4) da_nil)) da_nil)))
    (dss_one (ds_if (dt_w (dw_and (dt_cmp (op_neA hu) (de_var 10) (de_lst da_nil)) (dw_and1 (dt_w (dw_or (dt_cmp op_gtA (de_var 8) de_int) (dw_or1 (dt_cmp (op_eqA hu) (de_var 5) (de_lst da_nil)))))))) (dss_cons (ds_set nd (de_ix (ix_any hu) (de_var 10) (de_callS (c_law_lift.mono (by decide)) hr tk (da_cons (de_var 0) (da_cons (de_callB call_lenA T.b_len (da_cons (de_var 10) da_nil)) da_nil)))))
    (dss_cons (ds_set nd (de_ix (ix_any hu) (de_bin op_addA (de_var 9) (de_lst (da_cons (de_ix (ix_any hu) (de_var 4) (de_var 11)) da_nil))) (de_callS (c_law_lift.mono (by decide)) hr tk (da_cons (de_var 0) (da_cons (de_bin op_addA (de_callB call_lenA T.b_len (da_cons (de_var 9) da_nil)) de_int) da_nil)))))
    (dss_cons (ds_set nd (de_call (c_law_less.mono (by decide)) hr tk (da_cons (de_var 4) (da_cons (de_var 11) da_nil))))
    (dss_cons (ds_if (dt_cmp (op_eqA hu) (de_var 8) de_int) (dss_one (ds_set nd de_non)) (dss_one (ds_sub hu (de_var 12) (de_var 4) (de_var 11))))
    (dss_one (ds_expr (de_bm PySem.F.plainAttrs_list PySem.F.slot_list_append PySem.F.type_list_append mt_appendA (de_var 6) (da_cons (de_tup (da_cons (de_var 11) (da_cons (de_bin op_addA (de_callB call_lenA T.b_len (da_cons (de_var 6) da_nil)) de_int) (da_cons (de_var 12) da_nil)))) da_nil)))))))) (dss_one (ds_if (dt_w (dw_and (dt_cmp (op_neA hu) (de_var 5) (de_lst da_nil)) (dw_and1 (dt_cmp (op_neA hu) (de_var 9) (de_lst da_nil))))) (dss_cons (ds_sub hu (de_ix (ix_any hu) (de_var 9) (de_callS (c_law_lift.mono (by decide)) hr tk (da_cons (de_var 0) (da_cons (de_callB call_lenA T.b_len (da_cons (de_var 9) da_nil)) da_nil)))) (de_var 4) (de_ix (ix_any hu) (de_var 5) de_int))
    (dss_cons (ds_expr (de_bm PySem.F.plainAttrs_list PySem.F.slot_list_append PySem.F.type_list_append mt_appendA (de_var 6) (da_cons (de_tup (da_cons (de_ix (ix_any hu) (de_var 5) de_int) (da_cons (de_bin op_addA (de_callB call_lenA T.b_len (da_cons (de_var 6) da_nil)) de_int) (da_cons (de_ix (ix_any hu) (de_var 4) (de_ix (ix_any hu) (de_var 5) de_int)) da_nil)))) da_nil)))
    (dss_one (ds_set nd (de_slice (de_var 5) (do_some de_int) do_none))))) dss_nil))))))))
    (dss_one (ds_ret (de_frz (de_var 6))))))
abbrev st_law_coming_list : Stmt := top 35
theorem sc_law_coming_list : FnScope ["satchel", "some", "many", "k"] ["satchel", "some", "many"] (defScope st_law_coming_list) := ⟨rfl, rfl, rfl, by decide +kernel, rfl, by decide +kernel, by decide +kernel⟩
theorem d_law_coming_list {f : Addr} {fd : FuncData} (T : Txt mg) (c_law_lift : CalN P w K mg base "_law_lift" 1 2 [] m_law_lift) (F : Fun K "_law_coming_list" "_law_coming_list" st_law_coming_list f fd) : FnD P w K mg base 2 f fd ["satchel", "some", "many"] m_law_coming_list := fnD_mk F sc_law_coming_list fun cdv Ar outer s H E hr tk hp => by have hu := hu_room hr; have nd := sc_law_coming_list.nd; exact
    (dss_one (ds_ret (de_ifExp (dt_cmp (op_neA hu) (de_var 1) (de_lst da_nil)) (de_comp (own := [("k", 3)]) rfl nd (di_range1 T.b_range (da_cons (de_var 2) da_nil)) (blkOk_by (by kernel_rfl)) (fun _ _ _ _ _ => (dg_name 3 nd)) (fun _ _ _ _ _ => dts_nil) (fun _ _ _ _ _ => (de_ix (ix_any hu) (de_var 1) (de_callS (c_law_lift.mono (by decide)) hr takes0 (da_cons (de_var 0) (da_cons (de_callB call_lenA T.b_len (da_cons (de_var 1) da_nil)) da_nil)))))) (de_lst da_nil))))
abbrev st_law_line_of : Stmt := top 36
theorem sc_law_line_of : FnScope ["row", "part"] ["row"] (defScope st_law_line_of) := ⟨rfl, rfl, rfl, by decide +kernel, rfl, by decide +kernel, by decide +kernel⟩
theorem d_law_line_of {f : Addr} {fd : FuncData} (T : Txt mg) (F : Fun K "_law_line_of" "_law_line_of" st_law_line_of f fd) : FnD P w K mg base 1 f fd ["row"] m_law_line_of := fnD_mk F sc_law_line_of fun cdv Ar outer s H E hr tk hp => by have hu := hu_room hr; have nd := sc_law_line_of.nd; exact
    (dss_one (ds_ret (de_bin op_addA (de_bm PySem.F.plainAttrs_str PySem.F.slot_str_join PySem.F.type_str_join mt_joinA de_str (da_cons (de_comp (own := [("part", 1)]) rfl nd (di_seq (de_var 0)) (blkOk_by (by kernel_rfl)) (fun _ _ _ _ _ => (dg_name 1 nd)) (fun _ _ _ _ _ => dts_nil) (fun _ _ _ _ _ => (de_ifExp (dt_cmp op_isA (de_var 1) de_non) de_str (de_callTy call_strA T.b_str (da_cons (de_var 1) da_nil))))) da_nil)) de_str)))
abbrev st_law_play_text : Stmt := top 37
theorem sc_law_play_text : FnScope ["some", "sent", "lines", "row", "one"] ["some", "sent"] (defScope st_law_play_text) := ⟨rfl, rfl, rfl, by decide +kernel, rfl, by decide +kernel, by decide +kernel⟩
theorem d_law_play_text {f : Addr} {fd : FuncData} (T : Txt mg) (c_law_line_of : CalN P w K mg base "_law_line_of" 1 1 [] m_law_line_of) (F : Fun K "_law_play_text" "_law_play_text" st_law_play_text f fd) : FnD P w K mg base 2 f fd ["some", "sent"] m_law_play_text := fnD_mk F sc_law_play_text fun cdv Ar outer s H E hr tk hp => by have hu := hu_room hr; have nd := sc_law_play_text.nd; exact
    (dss_cons (ds_set nd (de_bin op_addA (de_bin op_addA (de_comp (own := [("row", 3)]) rfl nd (di_seq (de_var 0)) (blkOk_by (by kernel_rfl)) (fun _ _ _ _ _ => (dg_name 3 nd)) (fun _ _ _ _ _ => dts_nil) (fun _ _ _ _ _ => (de_callS (c_law_line_of.mono (by decide)) hr takes0 (da_cons (de_var 3) da_nil)))) (de_lst (da_cons de_str da_nil))) (de_comp (own := [("one", 4)]) rfl nd (di_seq (de_var 1)) (blkOk_by (by kernel_rfl)) (fun _ _ _ _ _ => (dg_name 4 nd)) (fun _ _ _ _ _ => dts_nil) (fun _ _ _ _ _ => (de_callS (c_law_line_of.mono (by decide)) hr takes0 (da_cons (de_tup (da_cons (de_ix (ix_any hu) (de_var 4) de_int) da_nil)) da_nil))))))
    (dss_one (ds_ret (de_bm PySem.F.plainAttrs_str PySem.F.slot_str_join PySem.F.type_str_join mt_joinA de_str (da_cons (de_var 2) da_nil)))))
abbrev st_law_wordly : Stmt := top 38
theorem sc_law_wordly : FnScope ["satchel", "label_list", "words", "found", "k", "word"] ["satchel", "label_list"] (defScope st_law_wordly) := ⟨rfl, rfl, rfl, by decide +kernel, rfl, by decide +kernel, by decide +kernel⟩
theorem d_law_wordly {f : Addr} {fd : FuncData} (T : Txt mg) (c_law_lift : CalN P w K mg base "_law_lift" 1 2 [] m_law_lift) (F : Fun K "_law_wordly" "_law_wordly" st_law_wordly f fd) : FnD P w K mg base 2 f fd ["satchel", "label_list"] m_law_wordly := fnD_mk F sc_law_wordly fun cdv Ar outer s H E hr tk hp => by have hu := hu_room hr; have nd := sc_law_wordly.nd; exact
    (dss_cons (ds_set nd (de_lst (da_cons de_str (da_cons de_str (da_cons de_str (da_cons de_str (da_cons de_str (da_cons de_str (da_cons de_str (da_cons de_str da_nil))))))))))
    (dss_cons (ds_set nd (de_callTy (call_listCA rfl) T.b_list (da_cons (de_var 1) da_nil)))
    (dss_cons (ds_for hp rfl (di_range1 T.b_range (da_cons (de_callB (call_minA rfl) T.b_min (da_cons (de_callB call_lenA T.b_len (da_cons (de_var 3) da_nil)) (da_cons (de_ix (ix_any hu) (de_lst (da_cons de_int (da_cons de_int (da_cons de_int (da_cons de_int da_nil))))) (de_callS (c_law_lift.mono (by decide)) hr tk (da_cons (de_var 0) (da_cons de_int da_nil)))) da_nil))) da_nil)) (dg_name 4 nd) (dss_cons (ds_set nd (de_ix (ix_any hu) (de_var 2) (de_callS (c_law_lift.mono (by decide)) hr tk (da_cons (de_var 0) (da_cons de_int da_nil)))))
    (dss_one (ds_sub hu (de_ifExp (dt_cmp (op_notInA hu) (de_var 5) (de_var 3)) (de_var 5) (de_ix (ix_any hu) (de_var 3) (de_var 4))) (de_var 3) (de_var 4)))))
    (dss_one (ds_ret (de_frz (de_var 3)))))))
abbrev st_law_case_right : Stmt := top 39
theorem sc_law_case_right : FnScope ["satchel", "labels", "some", "sent", "due", "told"] ["satchel"] (defScope st_law_case_right) := ⟨rfl, rfl, rfl, by decide +kernel, rfl, by decide +kernel, by decide +kernel⟩
theorem d_law_case_right {f : Addr} {fd : FuncData} (T : Txt mg) (c_law_wordly : CalN P w K mg base "_law_wordly" 2 2 [] m_law_wordly) (c_law_labels : CalN P w K mg base "_law_labels" 2 2 [] m_law_labels) (c_law_log : CalN P w K mg base "_law_log" 2 4 [] m_law_log) (c_law_lift : CalN P w K mg base "_law_lift" 1 2 [] m_law_lift) (c_law_numbers : CalN P w K mg base "_law_numbers" 2 2 [] m_law_numbers) (c_law_coming_list : CalN P w K mg base "_law_coming_list" 2 3 [] m_law_coming_list) (c_law_play_text : CalN P w K mg base "_law_play_text" 2 2 [] m_law_play_text) (c_law_twinned : CalN P w K mg base "_law_twinned" 5 2 [] (m_law_twinned 4)) (c_write_play : CalN P w K mg base "write_play" 3 2 [] m_write_play) (c_read_play : CalN P w K mg base "read_play" 6 1 [] m_read_play) (k_write_play_0_comings_log : CalK P w K mg base "write_play" 3 0 ["comings", "log"] [1, 0] m_write_play) (k_read_play_0_text : CalK P w K mg base "read_play" 6 0 ["text"] [0] m_read_play) (F : Fun K "_law_case_right" "_law_case_right" st_law_case_right f fd) : FnD P w K mg base 7 f fd ["satchel"] m_law_case_right := fnD_mk F sc_law_case_right fun cdv Ar outer s H E hr tk hp => by have hu := hu_room hr; have nd := sc_law_case_right.nd; exact
    (dss_cons (ds_set nd (de_callS (c_law_wordly.mono (by decide)) hr tk (da_cons (de_var 0) (da_cons (de_callS (c_law_labels.mono (by decide)) hr tk (da_cons (de_var 0) (da_cons de_int da_nil))) da_nil))))
    (dss_cons (ds_set nd (de_callS (c_law_log.mono (by decide)) hr tk (da_cons (de_var 0) (da_cons (de_callS (c_law_lift.mono (by decide)) hr tk (da_cons (de_var 0) (da_cons de_int da_nil))) (da_cons (de_callS (c_law_numbers.mono (by decide)) hr tk (da_cons (de_var 0) (da_cons de_int da_nil))) (da_cons (de_var 1) da_nil))))))
    (dss_cons (ds_set nd (de_callS (c_law_coming_list.mono (by decide)) hr tk (da_cons (de_var 0) (da_cons (de_var 2) (da_cons (de_callS (c_law_lift.mono (by decide)) hr tk (da_cons (de_var 0) (da_cons de_int da_nil))) da_nil)))))
    (dss_cons (ds_set nd (de_callS (c_law_play_text.mono (by decide)) hr tk (da_cons (de_var 2) (da_cons (de_var 3) da_nil))))
    (dss_cons (ds_if (dt_not (dt_val (de_call (c_law_twinned.mono (by decide)) hr tk (da_cons (de_callS (c_write_play.mono (by decide)) hr tk (da_cons (de_var 2) (da_cons (de_var 3) da_nil))) (da_cons (de_var 4) da_nil))))) (dss_one (ds_ret de_bl)) dss_nil)
    (dss_cons (ds_if (dt_not (dt_val (de_call (c_law_twinned.mono (by decide)) hr tk (da_cons (de_callKS0 (k_write_play_0_comings_log.mono (by decide)) hr tk (dk_cons (de_callTy (call_listA rfl) T.b_list (da_cons (de_var 3) da_nil)) (dk_cons (de_callTy (call_listA rfl) T.b_list (da_cons (de_var 2) da_nil)) dk_nil))) (da_cons (de_var 4) da_nil))))) (dss_one (ds_ret de_bl)) dss_nil)
    (dss_cons (ds_set nd (de_call (c_read_play.mono (by decide)) hr tk (da_cons (de_var 4) da_nil)))
    (dss_cons (ds_if (dt_not (dt_val (de_call (c_law_twinned.mono (by decide)) hr tk (da_cons (de_var 5) (da_cons (de_tup (da_cons (de_var 2) (da_cons (de_var 3) da_nil))) da_nil))))) (dss_one (ds_ret de_bl)) dss_nil)
    (dss_cons (ds_expr (de_bm PySem.F.plainAttrs_list PySem.F.slot_list_append PySem.F.type_list_append mt_appendA (de_ix (ix_any hu) (de_var 5) de_int) (da_cons de_non da_nil)))
    (dss_cons (ds_expr (de_bm PySem.F.plainAttrs_list PySem.F.slot_list_append PySem.F.type_list_append mt_appendA (de_ix (ix_any hu) (de_var 5) de_int) (da_cons de_non da_nil)))
    (dss_one (ds_ret (de_and (de_call (c_law_twinned.mono (by decide)) hr tk (da_cons (de_callK0 (k_read_play_0_text.mono (by decide)) hr tk (dk_cons (de_var 4) dk_nil)) (da_cons (de_tup (da_cons (de_var 2) (da_cons (de_var 3) da_nil))) da_nil))) (de_one (de_call (c_law_twinned.mono (by decide)) hr tk (da_cons (de_call (c_read_play.mono (by decide)) hr tk (da_cons de_str da_nil)) (da_cons (de_tup (da_cons (de_lst da_nil) (da_cons (de_lst da_nil) da_nil))) da_nil)))))))))))))))))
abbrev st_law : Stmt := top 40
theorem sc_law : FnScope ["script", "at", "satchel", "lap"] ["script"] (defScope st_law) := ⟨rfl, rfl, rfl, by decide +kernel, rfl, by decide +kernel, by decide +kernel⟩
theorem d_law {f : Addr} {fd : FuncData} (T : Txt mg) (c_law_satchel : CalN P w K mg base "_law_satchel" 1 2 [] m_law_satchel) (c_law_case_right : CalN P w K mg base "_law_case_right" 7 1 [] m_law_case_right) (F : Fun K "law" "law" st_law f fd) : FnD P w K mg base 8 f fd ["script"] m_law := fnD_mk F sc_law fun cdv Ar outer s H E hr tk hp => by have hu := hu_room hr; have nd := sc_law.nd; exact
    (dss_cons (ds_for hp rfl (di_range1 T.b_range (da_cons (de_callB (call_maxA rfl) T.b_max (da_cons de_int (da_cons (de_callB (call_minA rfl) T.b_min (da_cons de_int (da_cons (de_callB call_lenA T.b_len (da_cons (de_var 0) da_nil)) da_nil))) da_nil))) da_nil)) (dg_name 1 nd) (dss_cons (ds_set nd (de_call (c_law_satchel.mono (by decide)) hr tk (da_cons (de_var 0) (da_cons (de_var 1) da_nil))))
    (dss_one (ds_for hp rfl (di_range1 T.b_range (da_cons de_int da_nil)) (dg_name 3 nd) (dss_one (ds_if (dt_not (dt_val (de_callS (c_law_case_right.mono (by decide)) hr tk (da_cons (de_var 2) da_nil)))) (dss_one (ds_ret de_bl)) dss_nil))))))
    (dss_one (ds_ret de_bl)))
end
end Dn
namespace Dn
open PySem PySem.Spec PyProof.Rows L2
theorem all_mk {l : PySem.W.OpenLaw} {w : World} {K : PySem.W.Frag} {h : Heap} {mg : Str → Option Value} {fa : Addr} (X : K.In h) (G : h.Ns mainGlobals mg) (hfa : mg "law" = some (.ref fa))
    {f_is_integer : Addr} {od_is_integer an_is_integer : Option Addr} {sl_is_integer : Array (Option Value)} {oc_is_integer kV_is_integer dc_is_integer pm_is_integer cd_is_integer ct_is_integer : Value}
    {f_is_count : Addr} {od_is_count an_is_count : Option Addr} {sl_is_count : Array (Option Value)} {oc_is_count kV_is_count dc_is_count pm_is_count cd_is_count ct_is_count : Value}
    {f_is_name : Addr} {od_is_name an_is_name : Option Addr} {sl_is_name : Array (Option Value)} {oc_is_name kV_is_name dc_is_name pm_is_name cd_is_name ct_is_name : Value}
    {f_is_letter : Addr} {od_is_letter an_is_letter : Option Addr} {sl_is_letter : Array (Option Value)} {oc_is_letter kV_is_letter dc_is_letter pm_is_letter cd_is_letter ct_is_letter : Value}
    {f_wrong_item : Addr} {od_wrong_item an_wrong_item : Option Addr} {sl_wrong_item : Array (Option Value)} {oc_wrong_item kV_wrong_item dc_wrong_item pm_wrong_item cd_wrong_item ct_wrong_item : Value}
    {f_is_taken : Addr} {od_is_taken an_is_taken : Option Addr} {sl_is_taken : Array (Option Value)} {oc_is_taken kV_is_taken dc_is_taken pm_is_taken cd_is_taken ct_is_taken : Value}
    {f_is_next : Addr} {od_is_next an_is_next : Option Addr} {sl_is_next : Array (Option Value)} {oc_is_next kV_is_next dc_is_next pm_is_next cd_is_next ct_is_next : Value}
    {f_records_behind : Addr} {od_records_behind an_records_behind : Option Addr} {sl_records_behind : Array (Option Value)} {oc_records_behind kV_records_behind dc_records_behind pm_records_behind cd_records_behind ct_records_behind : Value}
    {f_wrong_in_log : Addr} {od_wrong_in_log an_wrong_in_log : Option Addr} {sl_wrong_in_log : Array (Option Value)} {oc_wrong_in_log kV_wrong_in_log dc_wrong_in_log pm_wrong_in_log cd_wrong_in_log ct_wrong_in_log : Value}
    {f_or_dash : Addr} {od_or_dash an_or_dash : Option Addr} {sl_or_dash : Array (Option Value)} {oc_or_dash kV_or_dash dc_or_dash pm_or_dash cd_or_dash ct_or_dash : Value}
    {f_lines_joined : Addr} {od_lines_joined an_lines_joined : Option Addr} {sl_lines_joined : Array (Option Value)} {oc_lines_joined kV_lines_joined dc_lines_joined pm_lines_joined cd_lines_joined ct_lines_joined : Value}
    {f_write_play : Addr} {od_write_play an_write_play : Option Addr} {sl_write_play : Array (Option Value)} {oc_write_play kV_write_play dc_write_play pm_write_play cd_write_play ct_write_play : Value}
    {f_rows_from : Addr} {od_rows_from an_rows_from : Option Addr} {sl_rows_from : Array (Option Value)} {oc_rows_from kV_rows_from dc_rows_from pm_rows_from cd_rows_from ct_rows_from : Value}
    {f_count_from : Addr} {od_count_from an_count_from : Option Addr} {sl_count_from : Array (Option Value)} {oc_count_from kV_count_from dc_count_from pm_count_from cd_count_from ct_count_from : Value}
    {f_letter_from : Addr} {od_letter_from an_letter_from : Option Addr} {sl_letter_from : Array (Option Value)} {oc_letter_from kV_letter_from dc_letter_from pm_letter_from cd_letter_from ct_letter_from : Value}
    {f_read_play : Addr} {od_read_play an_read_play : Option Addr} {sl_read_play : Array (Option Value)} {oc_read_play kV_read_play dc_read_play pm_read_play cd_read_play ct_read_play : Value}
    {f_law_satchel : Addr} {od_law_satchel an_law_satchel : Option Addr} {sl_law_satchel : Array (Option Value)} {oc_law_satchel kV_law_satchel dc_law_satchel pm_law_satchel cd_law_satchel ct_law_satchel : Value}
    {f_law_lift : Addr} {od_law_lift an_law_lift : Option Addr} {sl_law_lift : Array (Option Value)} {oc_law_lift kV_law_lift dc_law_lift pm_law_lift cd_law_lift ct_law_lift : Value}
    {f_law_twinned : Addr} {od_law_twinned an_law_twinned : Option Addr} {sl_law_twinned : Array (Option Value)} {oc_law_twinned kV_law_twinned dc_law_twinned pm_law_twinned cd_law_twinned ct_law_twinned : Value}
    {f_law_labels : Addr} {od_law_labels an_law_labels : Option Addr} {sl_law_labels : Array (Option Value)} {oc_law_labels kV_law_labels dc_law_labels pm_law_labels cd_law_labels ct_law_labels : Value}
    {f_law_numbers : Addr} {od_law_numbers an_law_numbers : Option Addr} {sl_law_numbers : Array (Option Value)} {oc_law_numbers kV_law_numbers dc_law_numbers pm_law_numbers cd_law_numbers ct_law_numbers : Value}
    {f_law_less : Addr} {od_law_less an_law_less : Option Addr} {sl_law_less : Array (Option Value)} {oc_law_less kV_law_less dc_law_less pm_law_less cd_law_less ct_law_less : Value}
    {f_law_log : Addr} {od_law_log an_law_log : Option Addr} {sl_law_log : Array (Option Value)} {oc_law_log kV_law_log dc_law_log pm_law_log cd_law_log ct_law_log : Value}
    {f_law_coming_list : Addr} {od_law_coming_list an_law_coming_list : Option Addr} {sl_law_coming_list : Array (Option Value)} {oc_law_coming_list kV_law_coming_list dc_law_coming_list pm_law_coming_list cd_law_coming_list ct_law_coming_list : Value}
    {f_law_line_of : Addr} {od_law_line_of an_law_line_of : Option Addr} {sl_law_line_of : Array (Option Value)} {oc_law_line_of kV_law_line_of dc_law_line_of pm_law_line_of cd_law_line_of ct_law_line_of : Value}
    {f_law_play_text : Addr} {od_law_play_text an_law_play_text : Option Addr} {sl_law_play_text : Array (Option Value)} {oc_law_play_text kV_law_play_text dc_law_play_text pm_law_play_text cd_law_play_text ct_law_play_text : Value}
    {f_law_wordly : Addr} {od_law_wordly an_law_wordly : Option Addr} {sl_law_wordly : Array (Option Value)} {oc_law_wordly kV_law_wordly dc_law_wordly pm_law_wordly cd_law_wordly ct_law_wordly : Value}
    {f_law_case_right : Addr} {od_law_case_right an_law_case_right : Option Addr} {sl_law_case_right : Array (Option Value)} {oc_law_case_right kV_law_case_right dc_law_case_right pm_law_case_right cd_law_case_right ct_law_case_right : Value}
    {f_law : Addr} {od_law an_law : Option Addr} {sl_law : Array (Option Value)} {oc_law kV_law dc_law pm_law cd_law ct_law : Value}
    {t_ALPHABET : Tok}
    {t_COMES_WORD : Tok}
    {t_FIGURES : Tok}
    {t_LONGEST : Tok}
    {t_MOST_FIGURES : Tok}
    {t_NOBODY : Tok}
    (a_is_integer : PySem.W.nsIn K mainGlobals "is_integer" = some (some (.ref f_is_integer))) (l_is_integer : K.lookup f_is_integer = some ⟨oc_is_integer, od_is_integer, .func (PySem.W.fnOf "is_integer" "is_integer" (defArgs st_is_integer) (defBody st_is_integer) (defScope st_is_integer) .none kV_is_integer dc_is_integer pm_is_integer an_is_integer cd_is_integer ct_is_integer), sl_is_integer⟩) (c_is_integer : PySem.W.codeIn K cd_is_integer "is_integer" = true) (k_is_integer : PySem.W.keepIn K (.ref f_is_integer) = true)
    (a_is_count : PySem.W.nsIn K mainGlobals "is_count" = some (some (.ref f_is_count))) (l_is_count : K.lookup f_is_count = some ⟨oc_is_count, od_is_count, .func (PySem.W.fnOf "is_count" "is_count" (defArgs st_is_count) (defBody st_is_count) (defScope st_is_count) .none kV_is_count dc_is_count pm_is_count an_is_count cd_is_count ct_is_count), sl_is_count⟩) (c_is_count : PySem.W.codeIn K cd_is_count "is_count" = true) (k_is_count : PySem.W.keepIn K (.ref f_is_count) = true)
    (a_is_name : PySem.W.nsIn K mainGlobals "is_name" = some (some (.ref f_is_name))) (l_is_name : K.lookup f_is_name = some ⟨oc_is_name, od_is_name, .func (PySem.W.fnOf "is_name" "is_name" (defArgs st_is_name) (defBody st_is_name) (defScope st_is_name) .none kV_is_name dc_is_name pm_is_name an_is_name cd_is_name ct_is_name), sl_is_name⟩) (c_is_name : PySem.W.codeIn K cd_is_name "is_name" = true) (k_is_name : PySem.W.keepIn K (.ref f_is_name) = true)
    (a_is_letter : PySem.W.nsIn K mainGlobals "is_letter" = some (some (.ref f_is_letter))) (l_is_letter : K.lookup f_is_letter = some ⟨oc_is_letter, od_is_letter, .func (PySem.W.fnOf "is_letter" "is_letter" (defArgs st_is_letter) (defBody st_is_letter) (defScope st_is_letter) .none kV_is_letter dc_is_letter pm_is_letter an_is_letter cd_is_letter ct_is_letter), sl_is_letter⟩) (c_is_letter : PySem.W.codeIn K cd_is_letter "is_letter" = true) (k_is_letter : PySem.W.keepIn K (.ref f_is_letter) = true)
    (a_wrong_item : PySem.W.nsIn K mainGlobals "wrong_item" = some (some (.ref f_wrong_item))) (l_wrong_item : K.lookup f_wrong_item = some ⟨oc_wrong_item, od_wrong_item, .func (PySem.W.fnOf "wrong_item" "wrong_item" (defArgs st_wrong_item) (defBody st_wrong_item) (defScope st_wrong_item) .none kV_wrong_item dc_wrong_item pm_wrong_item an_wrong_item cd_wrong_item ct_wrong_item), sl_wrong_item⟩) (c_wrong_item : PySem.W.codeIn K cd_wrong_item "wrong_item" = true) (k_wrong_item : PySem.W.keepIn K (.ref f_wrong_item) = true)
    (a_is_taken : PySem.W.nsIn K mainGlobals "is_taken" = some (some (.ref f_is_taken))) (l_is_taken : K.lookup f_is_taken = some ⟨oc_is_taken, od_is_taken, .func (PySem.W.fnOf "is_taken" "is_taken" (defArgs st_is_taken) (defBody st_is_taken) (defScope st_is_taken) .none kV_is_taken dc_is_taken pm_is_taken an_is_taken cd_is_taken ct_is_taken), sl_is_taken⟩) (c_is_taken : PySem.W.codeIn K cd_is_taken "is_taken" = true) (k_is_taken : PySem.W.keepIn K (.ref f_is_taken) = true)
    (a_is_next : PySem.W.nsIn K mainGlobals "is_next" = some (some (.ref f_is_next))) (l_is_next : K.lookup f_is_next = some ⟨oc_is_next, od_is_next, .func (PySem.W.fnOf "is_next" "is_next" (defArgs st_is_next) (defBody st_is_next) (defScope st_is_next) .none kV_is_next dc_is_next pm_is_next an_is_next cd_is_next ct_is_next), sl_is_next⟩) (c_is_next : PySem.W.codeIn K cd_is_next "is_next" = true) (k_is_next : PySem.W.keepIn K (.ref f_is_next) = true)
    (a_records_behind : PySem.W.nsIn K mainGlobals "records_behind" = some (some (.ref f_records_behind))) (l_records_behind : K.lookup f_records_behind = some ⟨oc_records_behind, od_records_behind, .func (PySem.W.fnOf "records_behind" "records_behind" (defArgs st_records_behind) (defBody st_records_behind) (defScope st_records_behind) .none kV_records_behind dc_records_behind pm_records_behind an_records_behind cd_records_behind ct_records_behind), sl_records_behind⟩) (c_records_behind : PySem.W.codeIn K cd_records_behind "records_behind" = true) (k_records_behind : PySem.W.keepIn K (.ref f_records_behind) = true)
    (a_wrong_in_log : PySem.W.nsIn K mainGlobals "wrong_in_log" = some (some (.ref f_wrong_in_log))) (l_wrong_in_log : K.lookup f_wrong_in_log = some ⟨oc_wrong_in_log, od_wrong_in_log, .func (PySem.W.fnOf "wrong_in_log" "wrong_in_log" (defArgs st_wrong_in_log) (defBody st_wrong_in_log) (defScope st_wrong_in_log) .none kV_wrong_in_log dc_wrong_in_log pm_wrong_in_log an_wrong_in_log cd_wrong_in_log ct_wrong_in_log), sl_wrong_in_log⟩) (c_wrong_in_log : PySem.W.codeIn K cd_wrong_in_log "wrong_in_log" = true) (k_wrong_in_log : PySem.W.keepIn K (.ref f_wrong_in_log) = true)
    (a_or_dash : PySem.W.nsIn K mainGlobals "or_dash" = some (some (.ref f_or_dash))) (l_or_dash : K.lookup f_or_dash = some ⟨oc_or_dash, od_or_dash, .func (PySem.W.fnOf "or_dash" "or_dash" (defArgs st_or_dash) (defBody st_or_dash) (defScope st_or_dash) .none kV_or_dash dc_or_dash pm_or_dash an_or_dash cd_or_dash ct_or_dash), sl_or_dash⟩) (c_or_dash : PySem.W.codeIn K cd_or_dash "or_dash" = true) (k_or_dash : PySem.W.keepIn K (.ref f_or_dash) = true)
    (a_lines_joined : PySem.W.nsIn K mainGlobals "lines_joined" = some (some (.ref f_lines_joined))) (l_lines_joined : K.lookup f_lines_joined = some ⟨oc_lines_joined, od_lines_joined, .func (PySem.W.fnOf "lines_joined" "lines_joined" (defArgs st_lines_joined) (defBody st_lines_joined) (defScope st_lines_joined) .none kV_lines_joined dc_lines_joined pm_lines_joined an_lines_joined cd_lines_joined ct_lines_joined), sl_lines_joined⟩) (c_lines_joined : PySem.W.codeIn K cd_lines_joined "lines_joined" = true) (k_lines_joined : PySem.W.keepIn K (.ref f_lines_joined) = true)
    (a_write_play : PySem.W.nsIn K mainGlobals "write_play" = some (some (.ref f_write_play))) (l_write_play : K.lookup f_write_play = some ⟨oc_write_play, od_write_play, .func (PySem.W.fnOf "write_play" "write_play" (defArgs st_write_play) (defBody st_write_play) (defScope st_write_play) .none kV_write_play dc_write_play pm_write_play an_write_play cd_write_play ct_write_play), sl_write_play⟩) (c_write_play : PySem.W.codeIn K cd_write_play "write_play" = true) (k_write_play : PySem.W.keepIn K (.ref f_write_play) = true)
    (a_rows_from : PySem.W.nsIn K mainGlobals "rows_from" = some (some (.ref f_rows_from))) (l_rows_from : K.lookup f_rows_from = some ⟨oc_rows_from, od_rows_from, .func (PySem.W.fnOf "rows_from" "rows_from" (defArgs st_rows_from) (defBody st_rows_from) (defScope st_rows_from) .none kV_rows_from dc_rows_from pm_rows_from an_rows_from cd_rows_from ct_rows_from), sl_rows_from⟩) (c_rows_from : PySem.W.codeIn K cd_rows_from "rows_from" = true) (k_rows_from : PySem.W.keepIn K (.ref f_rows_from) = true)
    (a_count_from : PySem.W.nsIn K mainGlobals "count_from" = some (some (.ref f_count_from))) (l_count_from : K.lookup f_count_from = some ⟨oc_count_from, od_count_from, .func (PySem.W.fnOf "count_from" "count_from" (defArgs st_count_from) (defBody st_count_from) (defScope st_count_from) .none kV_count_from dc_count_from pm_count_from an_count_from cd_count_from ct_count_from), sl_count_from⟩) (c_count_from : PySem.W.codeIn K cd_count_from "count_from" = true) (k_count_from : PySem.W.keepIn K (.ref f_count_from) = true)
    (a_letter_from : PySem.W.nsIn K mainGlobals "letter_from" = some (some (.ref f_letter_from))) (l_letter_from : K.lookup f_letter_from = some ⟨oc_letter_from, od_letter_from, .func (PySem.W.fnOf "letter_from" "letter_from" (defArgs st_letter_from) (defBody st_letter_from) (defScope st_letter_from) .none kV_letter_from dc_letter_from pm_letter_from an_letter_from cd_letter_from ct_letter_from), sl_letter_from⟩) (c_letter_from : PySem.W.codeIn K cd_letter_from "letter_from" = true) (k_letter_from : PySem.W.keepIn K (.ref f_letter_from) = true)
    (a_read_play : PySem.W.nsIn K mainGlobals "read_play" = some (some (.ref f_read_play))) (l_read_play : K.lookup f_read_play = some ⟨oc_read_play, od_read_play, .func (PySem.W.fnOf "read_play" "read_play" (defArgs st_read_play) (defBody st_read_play) (defScope st_read_play) .none kV_read_play dc_read_play pm_read_play an_read_play cd_read_play ct_read_play), sl_read_play⟩) (c_read_play : PySem.W.codeIn K cd_read_play "read_play" = true) (k_read_play : PySem.W.keepIn K (.ref f_read_play) = true)
    (a_law_satchel : PySem.W.nsIn K mainGlobals "_law_satchel" = some (some (.ref f_law_satchel))) (l_law_satchel : K.lookup f_law_satchel = some ⟨oc_law_satchel, od_law_satchel, .func (PySem.W.fnOf "_law_satchel" "_law_satchel" (defArgs st_law_satchel) (defBody st_law_satchel) (defScope st_law_satchel) .none kV_law_satchel dc_law_satchel pm_law_satchel an_law_satchel cd_law_satchel ct_law_satchel), sl_law_satchel⟩) (c_law_satchel : PySem.W.codeIn K cd_law_satchel "_law_satchel" = true) (k_law_satchel : PySem.W.keepIn K (.ref f_law_satchel) = true)
    (a_law_lift : PySem.W.nsIn K mainGlobals "_law_lift" = some (some (.ref f_law_lift))) (l_law_lift : K.lookup f_law_lift = some ⟨oc_law_lift, od_law_lift, .func (PySem.W.fnOf "_law_lift" "_law_lift" (defArgs st_law_lift) (defBody st_law_lift) (defScope st_law_lift) .none kV_law_lift dc_law_lift pm_law_lift an_law_lift cd_law_lift ct_law_lift), sl_law_lift⟩) (c_law_lift : PySem.W.codeIn K cd_law_lift "_law_lift" = true) (k_law_lift : PySem.W.keepIn K (.ref f_law_lift) = true)
    (a_law_twinned : PySem.W.nsIn K mainGlobals "_law_twinned" = some (some (.ref f_law_twinned))) (l_law_twinned : K.lookup f_law_twinned = some ⟨oc_law_twinned, od_law_twinned, .func (PySem.W.fnOf "_law_twinned" "_law_twinned" (defArgs st_law_twinned) (defBody st_law_twinned) (defScope st_law_twinned) .none kV_law_twinned dc_law_twinned pm_law_twinned an_law_twinned cd_law_twinned ct_law_twinned), sl_law_twinned⟩) (c_law_twinned : PySem.W.codeIn K cd_law_twinned "_law_twinned" = true) (k_law_twinned : PySem.W.keepIn K (.ref f_law_twinned) = true)
    (a_law_labels : PySem.W.nsIn K mainGlobals "_law_labels" = some (some (.ref f_law_labels))) (l_law_labels : K.lookup f_law_labels = some ⟨oc_law_labels, od_law_labels, .func (PySem.W.fnOf "_law_labels" "_law_labels" (defArgs st_law_labels) (defBody st_law_labels) (defScope st_law_labels) .none kV_law_labels dc_law_labels pm_law_labels an_law_labels cd_law_labels ct_law_labels), sl_law_labels⟩) (c_law_labels : PySem.W.codeIn K cd_law_labels "_law_labels" = true) (k_law_labels : PySem.W.keepIn K (.ref f_law_labels) = true)
    (a_law_numbers : PySem.W.nsIn K mainGlobals "_law_numbers" = some (some (.ref f_law_numbers))) (l_law_numbers : K.lookup f_law_numbers = some ⟨oc_law_numbers, od_law_numbers, .func (PySem.W.fnOf "_law_numbers" "_law_numbers" (defArgs st_law_numbers) (defBody st_law_numbers) (defScope st_law_numbers) .none kV_law_numbers dc_law_numbers pm_law_numbers an_law_numbers cd_law_numbers ct_law_numbers), sl_law_numbers⟩) (c_law_numbers : PySem.W.codeIn K cd_law_numbers "_law_numbers" = true) (k_law_numbers : PySem.W.keepIn K (.ref f_law_numbers) = true)
    (a_law_less : PySem.W.nsIn K mainGlobals "_law_less" = some (some (.ref f_law_less))) (l_law_less : K.lookup f_law_less = some ⟨oc_law_less, od_law_less, .func (PySem.W.fnOf "_law_less" "_law_less" (defArgs st_law_less) (defBody st_law_less) (defScope st_law_less) .none kV_law_less dc_law_less pm_law_less an_law_less cd_law_less ct_law_less), sl_law_less⟩) (c_law_less : PySem.W.codeIn K cd_law_less "_law_less" = true) (k_law_less : PySem.W.keepIn K (.ref f_law_less) = true)
    (a_law_log : PySem.W.nsIn K mainGlobals "_law_log" = some (some (.ref f_law_log))) (l_law_log : K.lookup f_law_log = some ⟨oc_law_log, od_law_log, .func (PySem.W.fnOf "_law_log" "_law_log" (defArgs st_law_log) (defBody st_law_log) (defScope st_law_log) .none kV_law_log dc_law_log pm_law_log an_law_log cd_law_log ct_law_log), sl_law_log⟩) (c_law_log : PySem.W.codeIn K cd_law_log "_law_log" = true) (k_law_log : PySem.W.keepIn K (.ref f_law_log) = true)
    (a_law_coming_list : PySem.W.nsIn K mainGlobals "_law_coming_list" = some (some (.ref f_law_coming_list))) (l_law_coming_list : K.lookup f_law_coming_list = some ⟨oc_law_coming_list, od_law_coming_list, .func (PySem.W.fnOf "_law_coming_list" "_law_coming_list" (defArgs st_law_coming_list) (defBody st_law_coming_list) (defScope st_law_coming_list) .none kV_law_coming_list dc_law_coming_list pm_law_coming_list an_law_coming_list cd_law_coming_list ct_law_coming_list), sl_law_coming_list⟩) (c_law_coming_list : PySem.W.codeIn K cd_law_coming_list "_law_coming_list" = true) (k_law_coming_list : PySem.W.keepIn K (.ref f_law_coming_list) = true)
    (a_law_line_of : PySem.W.nsIn K mainGlobals "_law_line_of" = some (some (.ref f_law_line_of))) (l_law_line_of : K.lookup f_law_line_of = some ⟨oc_law_line_of, od_law_line_of, .func (PySem.W.fnOf "_law_line_of" "_law_line_of" (defArgs st_law_line_of) (defBody st_law_line_of) (defScope st_law_line_of) .none kV_law_line_of dc_law_line_of pm_law_line_of an_law_line_of cd_law_line_of ct_law_line_of), sl_law_line_of⟩) (c_law_line_of : PySem.W.codeIn K cd_law_line_of "_law_line_of" = true) (k_law_line_of : PySem.W.keepIn K (.ref f_law_line_of) = true)
    (a_law_play_text : PySem.W.nsIn K mainGlobals "_law_play_text" = some (some (.ref f_law_play_text))) (l_law_play_text : K.lookup f_law_play_text = some ⟨oc_law_play_text, od_law_play_text, .func (PySem.W.fnOf "_law_play_text" "_law_play_text" (defArgs st_law_play_text) (defBody st_law_play_text) (defScope st_law_play_text) .none kV_law_play_text dc_law_play_text pm_law_play_text an_law_play_text cd_law_play_text ct_law_play_text), sl_law_play_text⟩) (c_law_play_text : PySem.W.codeIn K cd_law_play_text "_law_play_text" = true) (k_law_play_text : PySem.W.keepIn K (.ref f_law_play_text) = true)
    (a_law_wordly : PySem.W.nsIn K mainGlobals "_law_wordly" = some (some (.ref f_law_wordly))) (l_law_wordly : K.lookup f_law_wordly = some ⟨oc_law_wordly, od_law_wordly, .func (PySem.W.fnOf "_law_wordly" "_law_wordly" (defArgs st_law_wordly) (defBody st_law_wordly) (defScope st_law_wordly) .none kV_law_wordly dc_law_wordly pm_law_wordly an_law_wordly cd_law_wordly ct_law_wordly), sl_law_wordly⟩) (c_law_wordly : PySem.W.codeIn K cd_law_wordly "_law_wordly" = true) (k_law_wordly : PySem.W.keepIn K (.ref f_law_wordly) = true)
    (a_law_case_right : PySem.W.nsIn K mainGlobals "_law_case_right" = some (some (.ref f_law_case_right))) (l_law_case_right : K.lookup f_law_case_right = some ⟨oc_law_case_right, od_law_case_right, .func (PySem.W.fnOf "_law_case_right" "_law_case_right" (defArgs st_law_case_right) (defBody st_law_case_right) (defScope st_law_case_right) .none kV_law_case_right dc_law_case_right pm_law_case_right an_law_case_right cd_law_case_right ct_law_case_right), sl_law_case_right⟩) (c_law_case_right : PySem.W.codeIn K cd_law_case_right "_law_case_right" = true) (k_law_case_right : PySem.W.keepIn K (.ref f_law_case_right) = true)
    (a_law : PySem.W.nsIn K mainGlobals "law" = some (some (.ref f_law))) (l_law : K.lookup f_law = some ⟨oc_law, od_law, .func (PySem.W.fnOf "law" "law" (defArgs st_law) (defBody st_law) (defScope st_law) .none kV_law dc_law pm_law an_law cd_law ct_law), sl_law⟩) (c_law : PySem.W.codeIn K cd_law "law" = true) (k_law : PySem.W.keepIn K (.ref f_law) = true)
    (z_abs : PySem.W.nsIn K mainGlobals "abs" = some none)
    (z_all : PySem.W.nsIn K mainGlobals "all" = some none)
    (z_bool : PySem.W.nsIn K mainGlobals "bool" = some none)
    (z_enumerate : PySem.W.nsIn K mainGlobals "enumerate" = some none)
    (z_int : PySem.W.nsIn K mainGlobals "int" = some none)
    (z_isinstance : PySem.W.nsIn K mainGlobals "isinstance" = some none)
    (z_len : PySem.W.nsIn K mainGlobals "len" = some none)
    (z_list : PySem.W.nsIn K mainGlobals "list" = some none)
    (z_max : PySem.W.nsIn K mainGlobals "max" = some none)
    (z_min : PySem.W.nsIn K mainGlobals "min" = some none)
    (z_range : PySem.W.nsIn K mainGlobals "range" = some none)
    (z_sorted : PySem.W.nsIn K mainGlobals "sorted" = some none)
    (z_str : PySem.W.nsIn K mainGlobals "str" = some none)
    (z_tuple : PySem.W.nsIn K mainGlobals "tuple" = some none)
    (y_ALPHABET : PySem.W.nsIn K mainGlobals "ALPHABET" = some (some (.str "abcdefghijklmnopqrstuvwxyz" t_ALPHABET)))
    (y_COMES_WORD : PySem.W.nsIn K mainGlobals "COMES_WORD" = some (some (.str "comes" t_COMES_WORD)))
    (y_FIGURES : PySem.W.nsIn K mainGlobals "FIGURES" = some (some (.str "0123456789" t_FIGURES)))
    (y_LONGEST : PySem.W.nsIn K mainGlobals "LONGEST" = some (some (.int 8 t_LONGEST)))
    (y_MOST_FIGURES : PySem.W.nsIn K mainGlobals "MOST_FIGURES" = some (some (.int 40 t_MOST_FIGURES)))
    (y_NOBODY : PySem.W.nsIn K mainGlobals "NOBODY" = some (some (.str "-" t_NOBODY)))
    : ∃ fd : FuncData, (∀ (s : Shared) (v : Value), BindsTo s fd ⟨[v], []⟩ [("script", v)]) ∧ ∀ base : Heap, K.In base → base.Ns mainGlobals mg → FnOk l.prog w K mg base (L2.CX l.prog w) 8 fa fd ["script"] (spLaw K) := by
  have e := hfa.symm.trans (PySem.W.mg_of X G a_law)
  cases e
  have T : Txt mg := ⟨PySem.W.mg_none_of X G z_abs, PySem.W.mg_none_of X G z_all, PySem.W.mg_none_of X G z_bool, PySem.W.mg_none_of X G z_enumerate, PySem.W.mg_none_of X G z_int, PySem.W.mg_none_of X G z_isinstance, PySem.W.mg_none_of X G z_len, PySem.W.mg_none_of X G z_list, PySem.W.mg_none_of X G z_max, PySem.W.mg_none_of X G z_min, PySem.W.mg_none_of X G z_range, PySem.W.mg_none_of X G z_sorted, PySem.W.mg_none_of X G z_str, PySem.W.mg_none_of X G z_tuple, ⟨_, PySem.W.mg_of X G y_ALPHABET⟩, ⟨_, PySem.W.mg_of X G y_COMES_WORD⟩, ⟨_, PySem.W.mg_of X G y_FIGURES⟩, ⟨_, PySem.W.mg_of X G y_LONGEST⟩, ⟨_, PySem.W.mg_of X G y_MOST_FIGURES⟩, ⟨_, PySem.W.mg_of X G y_NOBODY⟩⟩
  have F_is_integer := fun_mk (st := st_is_integer) l_is_integer c_is_integer k_is_integer
  have F_is_count := fun_mk (st := st_is_count) l_is_count c_is_count k_is_count
  have F_is_name := fun_mk (st := st_is_name) l_is_name c_is_name k_is_name
  have F_is_letter := fun_mk (st := st_is_letter) l_is_letter c_is_letter k_is_letter
  have F_wrong_item := fun_mk (st := st_wrong_item) l_wrong_item c_wrong_item k_wrong_item
  have F_is_taken := fun_mk (st := st_is_taken) l_is_taken c_is_taken k_is_taken
  have F_is_next := fun_mk (st := st_is_next) l_is_next c_is_next k_is_next
  have F_records_behind := fun_mk (st := st_records_behind) l_records_behind c_records_behind k_records_behind
  have F_wrong_in_log := fun_mk (st := st_wrong_in_log) l_wrong_in_log c_wrong_in_log k_wrong_in_log
  have F_or_dash := fun_mk (st := st_or_dash) l_or_dash c_or_dash k_or_dash
  have F_lines_joined := fun_mk (st := st_lines_joined) l_lines_joined c_lines_joined k_lines_joined
  have F_write_play := fun_mk (st := st_write_play) l_write_play c_write_play k_write_play
  have F_rows_from := fun_mk (st := st_rows_from) l_rows_from c_rows_from k_rows_from
  have F_count_from := fun_mk (st := st_count_from) l_count_from c_count_from k_count_from
  have F_letter_from := fun_mk (st := st_letter_from) l_letter_from c_letter_from k_letter_from
  have F_read_play := fun_mk (st := st_read_play) l_read_play c_read_play k_read_play
  have F_law_satchel := fun_mk (st := st_law_satchel) l_law_satchel c_law_satchel k_law_satchel
  have F_law_lift := fun_mk (st := st_law_lift) l_law_lift c_law_lift k_law_lift
  have F_law_twinned := fun_mk (st := st_law_twinned) l_law_twinned c_law_twinned k_law_twinned
  have F_law_labels := fun_mk (st := st_law_labels) l_law_labels c_law_labels k_law_labels
  have F_law_numbers := fun_mk (st := st_law_numbers) l_law_numbers c_law_numbers k_law_numbers
  have F_law_less := fun_mk (st := st_law_less) l_law_less c_law_less k_law_less
  have F_law_log := fun_mk (st := st_law_log) l_law_log c_law_log k_law_log
  have F_law_coming_list := fun_mk (st := st_law_coming_list) l_law_coming_list c_law_coming_list k_law_coming_list
  have F_law_line_of := fun_mk (st := st_law_line_of) l_law_line_of c_law_line_of k_law_line_of
  have F_law_play_text := fun_mk (st := st_law_play_text) l_law_play_text c_law_play_text k_law_play_text
  have F_law_wordly := fun_mk (st := st_law_wordly) l_law_wordly c_law_wordly k_law_wordly
  have F_law_case_right := fun_mk (st := st_law_case_right) l_law_case_right c_law_case_right k_law_case_right
  have F_law := fun_mk (st := st_law) l_law c_law k_law
  refine ⟨PySem.W.fnOf "law" "law" (defArgs st_law) (defBody st_law) (defScope st_law) .none kV_law dc_law pm_law an_law cd_law ct_law, fun s v => .of_eq rfl, fun base _ _ => ?_⟩
  have D_is_integer := d_is_integer (P := l.prog) (w := w) (base := base) T F_is_integer
  have C_is_integer := calN_of (n := 1) F_is_integer D_is_integer (PySem.W.mg_of X G a_is_integer) rfl fun _ _ _ _ _ _ us hl => match us, hl with | [_], _ => rfl
  have D_is_count := d_is_count (P := l.prog) (w := w) (base := base) T C_is_integer F_is_count
  have C_is_count := calN_of (n := 1) F_is_count D_is_count (PySem.W.mg_of X G a_is_count) rfl fun _ _ _ _ _ _ us hl => match us, hl with | [_], _ => rfl
  have D_is_name := d_is_name (P := l.prog) (w := w) (base := base) T F_is_name
  have C_is_name := calN_of (n := 1) F_is_name D_is_name (PySem.W.mg_of X G a_is_name) rfl fun _ _ _ _ _ _ us hl => match us, hl with | [_], _ => rfl
  have D_is_letter := d_is_letter (P := l.prog) (w := w) (base := base) T C_is_count C_is_name F_is_letter
  have C_is_letter := calN_of (n := 1) F_is_letter D_is_letter (PySem.W.mg_of X G a_is_letter) rfl fun _ _ _ _ _ _ us hl => match us, hl with | [_], _ => rfl
  have D_wrong_item := d_wrong_item (P := l.prog) (w := w) (base := base) T C_is_letter F_wrong_item
  have C_wrong_item := calN_of (n := 1) F_wrong_item D_wrong_item (PySem.W.mg_of X G a_wrong_item) rfl fun _ _ _ _ _ _ us hl => match us, hl with | [_], _ => rfl
  have D_is_taken := d_is_taken (P := l.prog) (w := w) (base := base) T F_is_taken
  have C_is_taken := calN_of (n := 4) F_is_taken D_is_taken (PySem.W.mg_of X G a_is_taken) rfl fun _ _ _ _ _ _ us hl => match us, hl with | [_, _, _, _], _ => rfl
  have D_is_next := d_is_next (P := l.prog) (w := w) (base := base) T C_is_taken F_is_next
  have C_is_next := calN_of (n := 4) F_is_next D_is_next (PySem.W.mg_of X G a_is_next) rfl fun _ _ _ _ _ _ us hl => match us, hl with | [_, _, _, _], _ => rfl
  have D_records_behind := d_records_behind (P := l.prog) (w := w) (base := base) T C_is_next F_records_behind
  have C_records_behind := calN_of (n := 1) F_records_behind D_records_behind (PySem.W.mg_of X G a_records_behind) rfl fun _ _ _ _ _ _ us hl => match us, hl with | [_], _ => rfl
  have D_wrong_in_log := d_wrong_in_log (P := l.prog) (w := w) (base := base) T C_wrong_item C_records_behind F_wrong_in_log
  have C_wrong_in_log := calN_of (n := 1) F_wrong_in_log D_wrong_in_log (PySem.W.mg_of X G a_wrong_in_log) rfl fun _ _ _ _ _ _ us hl => match us, hl with | [_], _ => rfl
  have D_or_dash := d_or_dash (P := l.prog) (w := w) (base := base) T F_or_dash
  have C_or_dash := calN_of (n := 1) F_or_dash D_or_dash (PySem.W.mg_of X G a_or_dash) rfl fun _ _ _ _ _ _ us hl => match us, hl with | [_], _ => rfl
  have D_lines_joined := d_lines_joined (P := l.prog) (w := w) (base := base) T C_or_dash F_lines_joined
  have C_lines_joined := calN_of (n := 1) F_lines_joined D_lines_joined (PySem.W.mg_of X G a_lines_joined) rfl fun _ _ _ _ _ _ us hl => match us, hl with | [_], _ => rfl
  have D_write_play := d_write_play (P := l.prog) (w := w) (base := base) T C_lines_joined F_write_play
  have C_write_play := calN_of (n := 2) F_write_play D_write_play (PySem.W.mg_of X G a_write_play) rfl fun _ _ _ _ _ _ us hl => match us, hl with | [_, _], _ => rfl
  have K_write_play_0_comings_log := calK_of (n := 0) (ks := ["comings", "log"]) (ix := [1, 0]) F_write_play D_write_play (PySem.W.mg_of X G a_write_play) rfl fun _ _ _ _ _ _ us ws hl hl2 => match us, ws, hl, hl2 with | [], [_, _], _, _ => rfl
  have D_rows_from := d_rows_from (P := l.prog) (w := w) (base := base) T F_rows_from
  have C_rows_from := calN_of (n := 1) F_rows_from D_rows_from (PySem.W.mg_of X G a_rows_from) rfl fun _ _ _ _ _ _ us hl => match us, hl with | [_], _ => rfl
  have D_count_from := d_count_from (P := l.prog) (w := w) (base := base) T F_count_from
  have C_count_from := calN_of (n := 1) F_count_from D_count_from (PySem.W.mg_of X G a_count_from) rfl fun _ _ _ _ _ _ us hl => match us, hl with | [_], _ => rfl
  have D_letter_from := d_letter_from (P := l.prog) (w := w) (base := base) T C_is_name C_count_from F_letter_from
  have C_letter_from := calN_of (n := 1) F_letter_from D_letter_from (PySem.W.mg_of X G a_letter_from) rfl fun _ _ _ _ _ _ us hl => match us, hl with | [_], _ => rfl
  have D_read_play := d_read_play (P := l.prog) (w := w) (base := base) T C_rows_from C_count_from C_letter_from C_wrong_in_log F_read_play
  have C_read_play := calN_of (n := 1) F_read_play D_read_play (PySem.W.mg_of X G a_read_play) rfl fun _ _ _ _ _ _ us hl => match us, hl with | [_], _ => rfl
  have K_read_play_0_text := calK_of (n := 0) (ks := ["text"]) (ix := [0]) F_read_play D_read_play (PySem.W.mg_of X G a_read_play) rfl fun _ _ _ _ _ _ us ws hl hl2 => match us, ws, hl, hl2 with | [], [_], _, _ => rfl
  have D_law_satchel := d_law_satchel (P := l.prog) (w := w) (base := base) T F_law_satchel
  have C_law_satchel := calN_of (n := 2) F_law_satchel D_law_satchel (PySem.W.mg_of X G a_law_satchel) rfl fun _ _ _ _ _ _ us hl => match us, hl with | [_, _], _ => rfl
  have D_law_lift := d_law_lift (P := l.prog) (w := w) (base := base) T F_law_lift
  have C_law_lift := calN_of (n := 2) F_law_lift D_law_lift (PySem.W.mg_of X G a_law_lift) rfl fun _ _ _ _ _ _ us hl => match us, hl with | [_, _], _ => rfl
  have b_law_twinned := F_law_twinned.binds (ps := ["found", "due"]) fun _ _ _ _ _ _ us hl => match us, hl with | [_, _], _ => rfl
  have D_law_twinned := d_law_twinned (P := l.prog) (w := w) (base := base) T F_law_twinned (PySem.W.mg_of X G a_law_twinned) b_law_twinned 4
  have C_law_twinned := calN_of (n := 2) F_law_twinned D_law_twinned (PySem.W.mg_of X G a_law_twinned) rfl fun _ _ _ _ _ _ us hl => match us, hl with | [_, _], _ => rfl
  have D_law_labels := d_law_labels (P := l.prog) (w := w) (base := base) T C_law_lift F_law_labels
  have C_law_labels := calN_of (n := 2) F_law_labels D_law_labels (PySem.W.mg_of X G a_law_labels) rfl fun _ _ _ _ _ _ us hl => match us, hl with | [_, _], _ => rfl
  have D_law_numbers := d_law_numbers (P := l.prog) (w := w) (base := base) T C_law_lift F_law_numbers
  have C_law_numbers := calN_of (n := 2) F_law_numbers D_law_numbers (PySem.W.mg_of X G a_law_numbers) rfl fun _ _ _ _ _ _ us hl => match us, hl with | [_, _], _ => rfl
  have D_law_less := d_law_less (P := l.prog) (w := w) (base := base) T F_law_less
  have C_law_less := calN_of (n := 2) F_law_less D_law_less (PySem.W.mg_of X G a_law_less) rfl fun _ _ _ _ _ _ us hl => match us, hl with | [_, _], _ => rfl
  have D_law_log := d_law_log (P := l.prog) (w := w) (base := base) T C_law_lift C_law_less F_law_log
  have C_law_log := calN_of (n := 4) F_law_log D_law_log (PySem.W.mg_of X G a_law_log) rfl fun _ _ _ _ _ _ us hl => match us, hl with | [_, _, _, _], _ => rfl
  have D_law_coming_list := d_law_coming_list (P := l.prog) (w := w) (base := base) T C_law_lift F_law_coming_list
  have C_law_coming_list := calN_of (n := 3) F_law_coming_list D_law_coming_list (PySem.W.mg_of X G a_law_coming_list) rfl fun _ _ _ _ _ _ us hl => match us, hl with | [_, _, _], _ => rfl
  have D_law_line_of := d_law_line_of (P := l.prog) (w := w) (base := base) T F_law_line_of
  have C_law_line_of := calN_of (n := 1) F_law_line_of D_law_line_of (PySem.W.mg_of X G a_law_line_of) rfl fun _ _ _ _ _ _ us hl => match us, hl with | [_], _ => rfl
  have D_law_play_text := d_law_play_text (P := l.prog) (w := w) (base := base) T C_law_line_of F_law_play_text
  have C_law_play_text := calN_of (n := 2) F_law_play_text D_law_play_text (PySem.W.mg_of X G a_law_play_text) rfl fun _ _ _ _ _ _ us hl => match us, hl with | [_, _], _ => rfl
  have D_law_wordly := d_law_wordly (P := l.prog) (w := w) (base := base) T C_law_lift F_law_wordly
  have C_law_wordly := calN_of (n := 2) F_law_wordly D_law_wordly (PySem.W.mg_of X G a_law_wordly) rfl fun _ _ _ _ _ _ us hl => match us, hl with | [_, _], _ => rfl
  have D_law_case_right := d_law_case_right (P := l.prog) (w := w) (base := base) T C_law_wordly C_law_labels C_law_log C_law_lift C_law_numbers C_law_coming_list C_law_play_text C_law_twinned C_write_play C_read_play K_write_play_0_comings_log K_read_play_0_text F_law_case_right
  have C_law_case_right := calN_of (n := 1) F_law_case_right D_law_case_right (PySem.W.mg_of X G a_law_case_right) rfl fun _ _ _ _ _ _ us hl => match us, hl with | [_], _ => rfl
  have D_law := d_law (P := l.prog) (w := w) (base := base) T C_law_satchel C_law_case_right F_law
  exact law_of D_law rfl law_true
theorem walk {l : PySem.W.OpenLaw} {q : Program} {loose : List Str} {XP : (Str → Option Value) → Heap → Prop} {YP : World → Heap → Prop} {d : DefRec} {K : Params → PySem.W.Frag} (hn : l.most = some 63) (hdf : d.params.defaults = [])
    (hY : ∀ (w : World) (h : Heap), YP w h → (K w.params).In h)
    (F : ∀ (w : World) (mg : Str → Option Value) (fa : Addr) (h : Heap), (K w.params).In h → h.Ns mainGlobals mg → mg d.name = some (.ref fa) →
      ∃ fd : FuncData, (∀ (s : Shared) (u : Value), BindsTo s fd ⟨[u], []⟩ [("script", u)]) ∧ ∀ base : Heap, (K w.params).In base → base.Ns mainGlobals mg → FnOk l.prog w (K w.params) mg base (L2.CX l.prog w) 8 fa fd ["script"] (spLaw (K w.params))) :
    PySem.W.WalkO q loose XP YP l.row.toRowW d [] (fun f vs => PySem.call f vs) :=
  L2.walk_of (n := 63) (k := 8) (x := "script") (CX := fun w => L2.CX l.prog w) (sp := fun w => spLaw (K w.params)) hn (by decide) hdf ⟨rfl, by decide, by decide⟩ hY F (fun _ _ a ns hl _ hS => ⟨a, ns, rfl, hS, hl, fun _ => rfl⟩) fun w H s e s' z => cx_false [] H s e s' z
end Dn

open PySem PySem.W PyProof.Rows in
set_option maxRecDepth 100000 in
set_option maxHeartbeats 0 in
theorem PySem.Challenge.cw_carriedkeys_k62_plays_as_text_holds : PySem.Challenge.rw_carriedkeys_k62_plays_as_text.Holds := by
  w_on; o_law; k_head; (case hw => w_witness2)
  k_fill
  refine Dn.walk (l := PySem.Challenge.rw_carriedkeys_k62_plays_as_text) rfl rfl (fun w h Y => PySem.W.kIn_of Y) ?F
  case F =>
    intro w mg fa h KX G hmg
    refine' Dn.all_mk KX G hmg ?a_is_integer ?l_is_integer ?c_is_integer ?k_is_integer ?a_is_count ?l_is_count ?c_is_count ?k_is_count ?a_is_name ?l_is_name ?c_is_name ?k_is_name ?a_is_letter ?l_is_letter ?c_is_letter ?k_is_letter ?a_wrong_item ?l_wrong_item ?c_wrong_item ?k_wrong_item ?a_is_taken ?l_is_taken ?c_is_taken ?k_is_taken ?a_is_next ?l_is_next ?c_is_next ?k_is_next ?a_records_behind ?l_records_behind ?c_records_behind ?k_records_behind ?a_wrong_in_log ?l_wrong_in_log ?c_wrong_in_log ?k_wrong_in_log ?a_or_dash ?l_or_dash ?c_or_dash ?k_or_dash ?a_lines_joined ?l_lines_joined ?c_lines_joined ?k_lines_joined ?a_write_play ?l_write_play ?c_write_play ?k_write_play ?a_rows_from ?l_rows_from ?c_rows_from ?k_rows_from ?a_count_from ?l_count_from ?c_count_from ?k_count_from ?a_letter_from ?l_letter_from ?c_letter_from ?k_letter_from ?a_read_play ?l_read_play ?c_read_play ?k_read_play ?a_law_satchel ?l_law_satchel ?c_law_satchel ?k_law_satchel ?a_law_lift ?l_law_lift ?c_law_lift ?k_law_lift ?a_law_twinned ?l_law_twinned ?c_law_twinned ?k_law_twinned ?a_law_labels ?l_law_labels ?c_law_labels ?k_law_labels ?a_law_numbers ?l_law_numbers ?c_law_numbers ?k_law_numbers ?a_law_less ?l_law_less ?c_law_less ?k_law_less ?a_law_log ?l_law_log ?c_law_log ?k_law_log ?a_law_coming_list ?l_law_coming_list ?c_law_coming_list ?k_law_coming_list ?a_law_line_of ?l_law_line_of ?c_law_line_of ?k_law_line_of ?a_law_play_text ?l_law_play_text ?c_law_play_text ?k_law_play_text ?a_law_wordly ?l_law_wordly ?c_law_wordly ?k_law_wordly ?a_law_case_right ?l_law_case_right ?c_law_case_right ?k_law_case_right ?a_law ?l_law ?c_law ?k_law ?z_abs ?z_all ?z_bool ?z_enumerate ?z_int ?z_isinstance ?z_len ?z_list ?z_max ?z_min ?z_range ?z_sorted ?z_str ?z_tuple ?y_ALPHABET ?y_COMES_WORD ?y_FIGURES ?y_LONGEST ?y_MOST_FIGURES ?y_NOBODY
    (case a_is_integer => k_is)
    (case l_is_integer => k_is)
    (case c_is_integer => k_is)
    (case k_is_integer => k_is)
    (case a_is_count => k_is)
    (case l_is_count => k_is)
    (case c_is_count => k_is)
    (case k_is_count => k_is)
    (case a_is_name => k_is)
    (case l_is_name => k_is)
    (case c_is_name => k_is)
    (case k_is_name => k_is)
    (case a_is_letter => k_is)
    (case l_is_letter => k_is)
    (case c_is_letter => k_is)
    (case k_is_letter => k_is)
    (case a_wrong_item => k_is)
    (case l_wrong_item => k_is)
    (case c_wrong_item => k_is)
    (case k_wrong_item => k_is)
    (case a_is_taken => k_is)
    (case l_is_taken => k_is)
    (case c_is_taken => k_is)
    (case k_is_taken => k_is)
    (case a_is_next => k_is)
    (case l_is_next => k_is)
    (case c_is_next => k_is)
    (case k_is_next => k_is)
    (case a_records_behind => k_is)
    (case l_records_behind => k_is)
    (case c_records_behind => k_is)
    (case k_records_behind => k_is)
    (case a_wrong_in_log => k_is)
    (case l_wrong_in_log => k_is)
    (case c_wrong_in_log => k_is)
    (case k_wrong_in_log => k_is)
    (case a_or_dash => k_is)
    (case l_or_dash => k_is)
    (case c_or_dash => k_is)
    (case k_or_dash => k_is)
    (case a_lines_joined => k_is)
    (case l_lines_joined => k_is)
    (case c_lines_joined => k_is)
    (case k_lines_joined => k_is)
    (case a_write_play => k_is)
    (case l_write_play => k_is)
    (case c_write_play => k_is)
    (case k_write_play => k_is)
    (case a_rows_from => k_is)
    (case l_rows_from => k_is)
    (case c_rows_from => k_is)
    (case k_rows_from => k_is)
    (case a_count_from => k_is)
    (case l_count_from => k_is)
    (case c_count_from => k_is)
    (case k_count_from => k_is)
    (case a_letter_from => k_is)
    (case l_letter_from => k_is)
    (case c_letter_from => k_is)
    (case k_letter_from => k_is)
    (case a_read_play => k_is)
    (case l_read_play => k_is)
    (case c_read_play => k_is)
    (case k_read_play => k_is)
    (case a_law_satchel => k_is)
    (case l_law_satchel => k_is)
    (case c_law_satchel => k_is)
    (case k_law_satchel => k_is)
    (case a_law_lift => k_is)
    (case l_law_lift => k_is)
    (case c_law_lift => k_is)
    (case k_law_lift => k_is)
    (case a_law_twinned => k_is)
    (case l_law_twinned => k_is)
    (case c_law_twinned => k_is)
    (case k_law_twinned => k_is)
    (case a_law_labels => k_is)
    (case l_law_labels => k_is)
    (case c_law_labels => k_is)
    (case k_law_labels => k_is)
    (case a_law_numbers => k_is)
    (case l_law_numbers => k_is)
    (case c_law_numbers => k_is)
    (case k_law_numbers => k_is)
    (case a_law_less => k_is)
    (case l_law_less => k_is)
    (case c_law_less => k_is)
    (case k_law_less => k_is)
    (case a_law_log => k_is)
    (case l_law_log => k_is)
    (case c_law_log => k_is)
    (case k_law_log => k_is)
    (case a_law_coming_list => k_is)
    (case l_law_coming_list => k_is)
    (case c_law_coming_list => k_is)
    (case k_law_coming_list => k_is)
    (case a_law_line_of => k_is)
    (case l_law_line_of => k_is)
    (case c_law_line_of => k_is)
    (case k_law_line_of => k_is)
    (case a_law_play_text => k_is)
    (case l_law_play_text => k_is)
    (case c_law_play_text => k_is)
    (case k_law_play_text => k_is)
    (case a_law_wordly => k_is)
    (case l_law_wordly => k_is)
    (case c_law_wordly => k_is)
    (case k_law_wordly => k_is)
    (case a_law_case_right => k_is)
    (case l_law_case_right => k_is)
    (case c_law_case_right => k_is)
    (case k_law_case_right => k_is)
    (case a_law => k_is)
    (case l_law => k_is)
    (case c_law => k_is)
    (case k_law => k_is)
    (case z_abs => k_is)
    (case z_all => k_is)
    (case z_bool => k_is)
    (case z_enumerate => k_is)
    (case z_int => k_is)
    (case z_isinstance => k_is)
    (case z_len => k_is)
    (case z_list => k_is)
    (case z_max => k_is)
    (case z_min => k_is)
    (case z_range => k_is)
    (case z_sorted => k_is)
    (case z_str => k_is)
    (case z_tuple => k_is)
    (case y_ALPHABET => k_is)
    (case y_COMES_WORD => k_is)
    (case y_FIGURES => k_is)
    (case y_LONGEST => k_is)
    (case y_MOST_FIGURES => k_is)
    (case y_NOBODY => k_is)
