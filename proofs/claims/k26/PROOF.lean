import PyProof.Rows.All
import Wide.All
import OpenK.AllK
import Wide.FinOn
import HandS.ForMost
import HandS.Flow
import HandS.Style
import HandS.FStr
import HandS.TupAny
import HandS.TupMul
import HandS.TupLe
import HandS.IsInst
import HandS.Deep
import HandS.Text
import KE.SortData
import HandS.WordsDict
import HandS.RaiseMore
import PyProof.StrLawsRepr
import PyProof.Rows.ReprOcc
import PySem.Challenge.RW_howmanyslips_k26_numbers_among_any_value
set_option Elab.async false
set_option linter.all false
set_option maxRecDepth 100000
set_option autoImplicit false
/-! Own text: pure data, boxed objects, and how they stand in the abstract heap. -/
namespace PI
open PySem L2

/-- built-in classes -/
inductive Tn where
  | non | bl | int | str | lst | tup | dct | set | obj
  deriving DecidableEq
def Tn.nm : Tn → String
  | .non => "NoneType" | .bl => "bool" | .int => "int" | .str => "str" | .lst => "list" | .tup => "tuple" | .dct => "dict" | .set => "set" | .obj => "object"
/-- a value of the small language: a datum, a boxed object, a def, a class, a built-in class -/
inductive D where
  | p (x : PyData)
  | ref (n : Nat)
  | fn (x : Str)
  | ty (t : Tn)

/-- a boxed object -/
inductive Cell where
  | lst (xs : List D)
  | dct (kvs : List (Key × D))
  | dead

/-- where the boxes stand (b), and what is being made meanwhile (t) -/
structure BT where
  b : List Addr
  t : List Addr
def BT.all (B : BT) : List Addr := B.b ++ B.t
def BT.nil : BT := ⟨[], []⟩
def BT.add (B : BT) (p : Addr) : BT := ⟨B.b ++ [p], B.t⟩
def BT.push (B : BT) (p : Addr) : BT := ⟨B.b, p :: B.t⟩
theorem BT.no_nil (a : Addr) : a ∉ BT.nil.all := by simp [BT.nil, BT.all]
abbrev Store := List Cell
abbrev EnvI := List (Option D)

/-! ### lists and tuples that no box owns -/
def SqLB (_K : PySem.W.Frag) (B : BT) (H : Hp) (a : Addr) (xs : List V) : Prop := Rd H a (.lst xs) ∧ a ∉ B.all
def SqTB (K : PySem.W.Frag) (B : BT) (H : Hp) (a : Addr) (xs : List V) : Prop :=
  (Rd H a (.tup xs) ∧ a ∉ B.all) ∨
    ∃ (o : Obj) (its : Array Value) (n : Nat), K.lookup a = some o ∧ o.cls = .type "tuple" ∧ o.data = .seq its n ∧ its.size ≤ sizeLine ∧ Vals xs its.toList
theorem SqLB.sq {K : PySem.W.Frag} {B : BT} {H : Hp} {a : Addr} {xs : List V} (h : SqLB K B H a xs) : SqL K H a xs := .inl h.1
theorem SqTB.sq {K : PySem.W.Frag} {B : BT} {H : Hp} {a : Addr} {xs : List V} (h : SqTB K B H a xs) : SqT K H a xs := h.imp (·.1) id

def kP : Key → PyData
  | .inl i => .int i
  | .inr x => .str x

mutual
/-- v is the datum d, read off objects that no box owns -/
inductive Dq (K : PySem.W.Frag) (B : BT) (H : Hp) : V → PyData → Prop
  | non : Dq K B H .non .none
  | bl (b : Bool) : Dq K B H (.bl b) (.bool b)
  | int (i : Int) : Dq K B H (.int i) (.int i)
  | str (x : Str) : Dq K B H (.str x) (.str x)
  | lst {a : Addr} {xs : List V} {ds : List PyData} : SqLB K B H a xs → DqAll K B H xs ds → Dq K B H (.ref a) (.list ds)
  | tup {a : Addr} {xs : List V} {ds : List PyData} : SqTB K B H a xs → DqAll K B H xs ds → Dq K B H (.ref a) (.tuple ds)
  | dct {a : Addr} {kvs : List (Key × V)} {ds : List (PyData × PyData)} : Rd H a (.dK kvs) → a ∉ B.all → DqKV K B H kvs ds → Dq K B H (.ref a) (.dict ds)
inductive DqAll (K : PySem.W.Frag) (B : BT) (H : Hp) : List V → List PyData → Prop
  | nil : DqAll K B H [] []
  | cons {v : V} {vs : List V} {d : PyData} {ds : List PyData} : Dq K B H v d → DqAll K B H vs ds → DqAll K B H (v :: vs) (d :: ds)
inductive DqKV (K : PySem.W.Frag) (B : BT) (H : Hp) : List (Key × V) → List (PyData × PyData) → Prop
  | nil : DqKV K B H [] []
  | cons {k : Key} {v : V} {vs : List (Key × V)} {d : PyData} {ds : List (PyData × PyData)} : Dq K B H v d → DqKV K B H vs ds → DqKV K B H ((k, v) :: vs) ((kP k, d) :: ds)
end

/-- what values lean on stays -/
structure Ex0 (B : BT) (H : Hp) (B' : BT) (H' : Hp) : Prop where
  keep : ∀ a o, a ∉ B.all → H a = some o → H' a = some o ∧ a ∉ B'.all
  pre : ∀ (n : Nat) a, B.b[n]? = some a → B'.b[n]? = some a
theorem Ex0.rd {B B' : BT} {H H' : Hp} (e : Ex0 B H B' H') {a : Addr} {u : HO} (h : Rd H a u) (n : a ∉ B.all) : Rd H' a u ∧ a ∉ B'.all := by
  rcases h with h | ⟨o, h⟩
  · exact ⟨.inl (e.keep _ _ n h).1, (e.keep _ _ n h).2⟩
  · exact ⟨.inr ⟨o, (e.keep _ _ n h).1⟩, (e.keep _ _ n h).2⟩
mutual
theorem Dq.ex {K : PySem.W.Frag} {B B' : BT} {H H' : Hp} (e : Ex0 B H B' H') : ∀ {v : V} {d : PyData}, Dq K B H v d → Dq K B' H' v d
  | _, _, .non => .non
  | _, _, .bl b => .bl b
  | _, _, .int i => .int i
  | _, _, .str x => .str x
  | _, _, .lst h1 h2 => .lst (e.rd h1.1 h1.2) (DqAll.ex e h2)
  | _, _, .tup h1 h2 => .tup (h1.imp (fun z => e.rd z.1 z.2) id) (DqAll.ex e h2)
  | _, _, .dct h1 h2 h3 => .dct (e.rd h1 h2).1 (e.rd h1 h2).2 (DqKV.ex e h3)
theorem DqAll.ex {K : PySem.W.Frag} {B B' : BT} {H H' : Hp} (e : Ex0 B H B' H') : ∀ {v : List V} {d : List PyData}, DqAll K B H v d → DqAll K B' H' v d
  | _, _, .nil => .nil
  | _, _, .cons h1 h2 => .cons (Dq.ex e h1) (DqAll.ex e h2)
theorem DqKV.ex {K : PySem.W.Frag} {B B' : BT} {H H' : Hp} (e : Ex0 B H B' H') : ∀ {v : List (Key × V)} {d : List (PyData × PyData)}, DqKV K B H v d → DqKV K B' H' v d
  | _, _, .nil => .nil
  | _, _, .cons h1 h2 => .cons (Dq.ex e h1) (DqKV.ex e h2)
end
/-- the globals that values speak of -/
abbrev Mg := Str → Option Value
def RD (K : PySem.W.Frag) (mg : Mg) (B : BT) (H : Hp) : D → V → Prop
  | .p x, v => Dq K B H v x
  | .ref n, v => ∃ a, B.b[n]? = some a ∧ v = .ref a
  | .fn x, v => ∃ f, mg x = some (.ref f) ∧ v = .ref f
  | .ty t, v => v = .ty t.nm
theorem RD.ex {K : PySem.W.Frag} {mg : Mg} {B B' : BT} {H H' : Hp} (e : Ex0 B H B' H') {d : D} {v : V} (h : RD K mg B H d v) : RD K mg B' H' d v := by
  cases d with
  | p x => exact Dq.ex e h
  | ref n =>
    obtain ⟨a, h1, h2⟩ := h
    exact ⟨a, e.pre n a h1, h2⟩
  | fn x => exact h
  | ty n => exact h
abbrev RDs (K : PySem.W.Frag) (mg : Mg) (B : BT) (H : Hp) : List D → List V → Prop := Paired (RD K mg B H)
theorem RDs.ex {K : PySem.W.Frag} {mg : Mg} {B B' : BT} {H H' : Hp} (e : Ex0 B H B' H') {d : List D} {v : List V} (h : RDs K mg B H d v) : RDs K mg B' H' d v := Paired.mapP h fun _ _ r => RD.ex e r
abbrev RKV (K : PySem.W.Frag) (mg : Mg) (B : BT) (H : Hp) : List (Key × D) → List (Key × V) → Prop := Paired fun p q => p.1 = q.1 ∧ RD K mg B H p.2 q.2
theorem RKV.ex {K : PySem.W.Frag} {mg : Mg} {B B' : BT} {H H' : Hp} (e : Ex0 B H B' H') {d : List (Key × D)} {v : List (Key × V)} (h : RKV K mg B H d v) : RKV K mg B' H' d v := Paired.mapP h fun _ _ r => ⟨r.1, RD.ex e r.2⟩

def CRl (K : PySem.W.Frag) (mg : Mg) (B : BT) (H : Hp) (a : Addr) : Cell → Prop
  | .lst ds => ∃ vs, H a = some (.lst vs) ∧ RDs K mg B H ds vs
  | .dct ds => ∃ kvs, H a = some (.dK kvs) ∧ RKV K mg B H ds kvs
  | .dead => True
theorem CRl.ex {K : PySem.W.Frag} {mg : Mg} {B B' : BT} {H H' : Hp} {a : Addr} {c : Cell} (e : Ex0 B H B' H') (hk : ∀ o, H a = some o → H' a = some o) (h : CRl K mg B H a c) : CRl K mg B' H' a c := by
  cases c with
  | lst ds =>
    obtain ⟨vs, h1, h2⟩ := h
    exact ⟨vs, hk _ h1, RDs.ex e h2⟩
  | dct ds =>
    obtain ⟨vs, h1, h2⟩ := h
    exact ⟨vs, hk _ h1, RKV.ex e h2⟩
  | dead => trivial
/-- the boxes as they stand in the heap -/
structure SR (K : PySem.W.Frag) (mg : Mg) (B : BT) (H : Hp) (S : Store) : Prop where
  len : B.b.length = S.length
  nd : B.all.Nodup
  al : ∀ a ∈ B.all, ∃ o, H a = some o
  cell : ∀ (n : Nat) (c : Cell) (a : Addr), S[n]? = some c → B.b[n]? = some a → CRl K mg B H a c
/-- the slots -/
structure ER (K : PySem.W.Frag) (mg : Mg) (B : BT) (H : Hp) (ev : EnvI) (σ : St) : Prop where
  len : ev.length = σ.length
  at_ : ∀ (i : Nat) d, ev[i]? = some (some d) → ∃ v, σ[i]? = some (some v) ∧ RD K mg B H d v
theorem ER.ex {K : PySem.W.Frag} {mg : Mg} {B B' : BT} {H H' : Hp} {ev : EnvI} {σ : St} (e : Ex0 B H B' H') (h : ER K mg B H ev σ) : ER K mg B' H' ev σ :=
  ⟨h.len, fun i d q => let ⟨v, a, b⟩ := h.at_ i d q; ⟨v, a, RD.ex e b⟩⟩
theorem ER.set {K : PySem.W.Frag} {mg : Mg} {B : BT} {H : Hp} {ev : EnvI} {σ : St} (h : ER K mg B H ev σ) (i : Nat) {d : D} {v : V} (r : RD K mg B H d v) : ER K mg B H (ev.set i (some d)) (σ.set i (some v)) := by
  refine ⟨by simp [h.len], fun j d' q => ?_⟩
  by_cases hj : i = j
  · subst hj
    by_cases hl : i < ev.length
    · rw [List.getElem?_set_self hl] at q
      cases q
      exact ⟨v, by rw [List.getElem?_set_self (by rw [← h.len]; exact hl)], r⟩
    · rw [List.getElem?_eq_none (by simpa using hl)] at q; cases q
  · rw [List.getElem?_set_ne hj] at q ⊢
    exact h.at_ j d' q

/-- from one state of the boxes and the heap to a later one -/
structure Ext (B : BT) (H : Hp) (B' : BT) (H' : Hp) : Prop where
  more : ∃ m, B'.b = B.b ++ m ∧ ∀ a ∈ m, H a = none
  same : B'.t = B.t
  keep : ∀ a o, a ∉ B.all → H a = some o → H' a = some o
  tmp : ∀ a ∈ B.t, H' a = H a
  al : ∀ a ∈ B'.all, ∃ o, H' a = some o
theorem Ext.not_mem {B B' : BT} {H H' : Hp} (e : Ext B H B' H') {a : Addr} {o : HO} (h : H a = some o) (n : a ∉ B.all) : a ∉ B'.all := by
  obtain ⟨m, e1, hm⟩ := e.more
  intro q
  unfold BT.all at q n
  rw [e1, e.same, List.append_assoc] at q
  rcases List.mem_append.mp q with q | q
  · exact n (List.mem_append_left _ q)
  · rcases List.mem_append.mp q with q | q
    · rw [hm a q] at h; cases h
    · exact n (List.mem_append_right _ q)
theorem Ext.ex {B B' : BT} {H H' : Hp} (e : Ext B H B' H') : Ex0 B H B' H' :=
  ⟨fun a o n h => ⟨e.keep a o n h, e.not_mem h n⟩, fun n a h => by
    obtain ⟨m, e1, _⟩ := e.more
    rw [e1, List.getElem?_append_left (List.getElem?_eq_some_iff.mp h).1]; exact h⟩
theorem Ext.mem {B B' : BT} {H H' : Hp} (e : Ext B H B' H') {a : Addr} (h : a ∈ B.all) : a ∈ B'.all := by
  obtain ⟨m, e1, _⟩ := e.more
  unfold BT.all at *
  rw [e1, e.same]
  rcases List.mem_append.mp h with z | z
  · exact List.mem_append_left _ (List.mem_append_left _ z)
  · exact List.mem_append_right _ z
theorem Ext.none {B B' : BT} {H H' : Hp} (e : Ext B H B' H') {a : Addr} (h : H' a = none) : H a = none := by
  cases q : H a with
  | none => rfl
  | some o =>
    by_cases hb : a ∈ B.all
    · obtain ⟨u, hu⟩ := e.al a (e.mem hb)
      rw [h] at hu; cases hu
    · rw [e.keep a o hb q] at h; cases h
theorem Ext.refl {B : BT} {H : Hp} (al : ∀ a ∈ B.all, ∃ o, H a = some o) : Ext B H B H := ⟨⟨[], by simp, by simp⟩, rfl, fun _ _ _ h => h, fun _ _ => rfl, al⟩
theorem Ext.trans {B B1 B2 : BT} {H H1 H2 : Hp} (a : Ext B H B1 H1) (b : Ext B1 H1 B2 H2) : Ext B H B2 H2 := by
  obtain ⟨m1, e1, n1⟩ := a.more
  obtain ⟨m2, e2, n2⟩ := b.more
  refine ⟨⟨m1 ++ m2, by rw [e2, e1, List.append_assoc], fun x hx => ?_⟩, b.same.trans a.same, fun x o n h => b.keep x o (a.not_mem h n) (a.keep x o n h), fun x hx => (b.tmp x (by rw [a.same]; exact hx)).trans (a.tmp x hx), b.al⟩
  rcases List.mem_append.mp hx with q | q
  · exact n1 x q
  · exact a.none (n2 x q)
theorem Dq.ext {K : PySem.W.Frag} {B B' : BT} {H H' : Hp} (e : Ext B H B' H') {v : V} {d : PyData} (h : Dq K B H v d) : Dq K B' H' v d := Dq.ex e.ex h
theorem DqAll.ext {K : PySem.W.Frag} {B B' : BT} {H H' : Hp} (e : Ext B H B' H') {v : List V} {d : List PyData} (h : DqAll K B H v d) : DqAll K B' H' v d := DqAll.ex e.ex h
theorem RD.ext {K : PySem.W.Frag} {mg : Mg} {B B' : BT} {H H' : Hp} (e : Ext B H B' H') {d : D} {v : V} (h : RD K mg B H d v) : RD K mg B' H' d v := RD.ex e.ex h
theorem RDs.ext {K : PySem.W.Frag} {mg : Mg} {B B' : BT} {H H' : Hp} (e : Ext B H B' H') {d : List D} {v : List V} (h : RDs K mg B H d v) : RDs K mg B' H' d v := RDs.ex e.ex h
theorem RKV.ext {K : PySem.W.Frag} {mg : Mg} {B B' : BT} {H H' : Hp} (e : Ext B H B' H') {d : List (Key × D)} {v : List (Key × V)} (h : RKV K mg B H d v) : RKV K mg B' H' d v := RKV.ex e.ex h
theorem ER.ext {K : PySem.W.Frag} {mg : Mg} {B B' : BT} {H H' : Hp} {ev : EnvI} {σ : St} (e : Ext B H B' H') (h : ER K mg B H ev σ) : ER K mg B' H' ev σ := ER.ex e.ex h

theorem BT.mem_add {B : BT} {p a : Addr} (h : a ∈ (B.add p).all) : a ∈ B.all ∨ a = p := by
  unfold BT.add BT.all at *
  rw [List.append_assoc] at h
  rcases List.mem_append.mp h with h | h
  · exact .inl (List.mem_append_left _ h)
  · rcases List.mem_append.mp h with h | h
    · exact .inr (List.mem_singleton.mp h)
    · exact .inl (List.mem_append_right _ h)
theorem BT.nodup_add {B : BT} {p : Addr} (h : B.all.Nodup) (n : p ∉ B.all) : (B.add p).all.Nodup := by
  unfold BT.add BT.all at *
  have : (B.b ++ [p] ++ B.t).Perm (p :: (B.b ++ B.t)) := by
    rw [List.append_assoc]
    exact List.perm_middle
  exact this.nodup_iff.mpr (List.nodup_cons.mpr ⟨n, h⟩)
theorem BT.mem_push {B : BT} {p a : Addr} : a ∈ (B.push p).all ↔ a = p ∨ a ∈ B.all := by
  unfold BT.push BT.all
  simp only [List.mem_append, List.mem_cons]
  constructor
  · rintro (h | h | h)
    · exact .inr (.inl h)
    · exact .inl h
    · exact .inr (.inr h)
  · rintro (h | h | h)
    · exact .inr (.inl h)
    · exact .inl h
    · exact .inr (.inr h)
theorem BT.add_push {B : BT} {p a : Addr} (h : a ∈ (B.add p).all) : a ∈ (B.push p).all := by
  rcases BT.mem_add h with h | h
  · exact BT.mem_push.mpr (.inr h)
  · exact BT.mem_push.mpr (.inl h)
theorem BT.mem_b {B : BT} {a : Addr} {n : Nat} (h : B.b[n]? = some a) : a ∈ B.all := List.mem_append_left _ (List.mem_of_getElem? h)
theorem BT.perm_push (B : BT) (p : Addr) : (B.push p).all.Perm (p :: B.all) := List.perm_middle

section
variable {K : PySem.W.Frag} {mg : Mg} {B : BT} {H : Hp} {S : Store}
theorem SR.refl (h : SR K mg B H S) : Ext B H B H := Ext.refl h.al
theorem SR.fresh (h : SR K mg B H S) {p : Addr} (hp : H p = none) : p ∉ B.all := fun q => by
  obtain ⟨o, e⟩ := h.al p q
  rw [hp] at e; cases e
/-- a new object beside the boxes -/
theorem SR.ext_new (h : SR K mg B H S) {p : Addr} (hp : H p = none) (o : HO) : Ext B H B (upd H p o) :=
  ⟨⟨[], by simp, by simp⟩, rfl, fun a u _ e => by rw [upd_ne (ne_of_none e hp)]; exact e, fun a ha => upd_ne fun q => h.fresh hp (by rw [← q]; exact List.mem_append_right _ ha), fun a ha => by
    obtain ⟨u, e⟩ := h.al a ha
    exact ⟨u, by rw [upd_ne (ne_of_none e hp)]; exact e⟩⟩
theorem SR.new (h : SR K mg B H S) {p : Addr} (hp : H p = none) (o : HO) : SR K mg B (upd H p o) S :=
  ⟨h.len, h.nd, (h.ext_new hp o).al, fun n c a h1 h2 => (h.cell n c a h1 h2).ex (h.ext_new hp o).ex fun u e => by rw [upd_ne (ne_of_none e hp)]; exact e⟩
/-- a new box -/
theorem SR.ext_box (h : SR K mg B H S) {p : Addr} (hp : H p = none) (o : HO) : Ext B H (B.add p) (upd H p o) :=
  ⟨⟨[p], rfl, fun a ha => by rw [List.mem_singleton.mp ha]; exact hp⟩, rfl, fun a u _ e => by rw [upd_ne (ne_of_none e hp)]; exact e, (h.ext_new hp o).tmp, fun a ha => by
    rcases BT.mem_add ha with ha | ha
    · obtain ⟨u, e⟩ := h.al a ha
      exact ⟨u, by rw [upd_ne (ne_of_none e hp)]; exact e⟩
    · rw [ha]
      exact ⟨o, upd_same⟩⟩
theorem add_get {b : List Addr} {S : Store} {p a : Addr} {n : Nat} {c c' : Cell} (hl : b.length = S.length) (h1 : (S ++ [c])[n]? = some c') (h2 : (b ++ [p])[n]? = some a) : (S[n]? = some c' ∧ b[n]? = some a) ∨ (c' = c ∧ a = p) := by
  by_cases hn : n < S.length
  · rw [List.getElem?_append_left hn] at h1
    rw [List.getElem?_append_left (by rw [hl]; exact hn)] at h2
    exact .inl ⟨h1, h2⟩
  · have hn' : n = S.length := by
      have := (List.getElem?_eq_some_iff.mp h1).1
      simp at this
      omega
    subst hn'
    rw [List.getElem?_append_right (Nat.le_refl _)] at h1
    rw [List.getElem?_append_right (by rw [hl]; exact Nat.le_refl _), hl] at h2
    simp at h1 h2
    exact .inr ⟨h1.symm, h2.symm⟩
theorem SR.box (h : SR K mg B H S) {p : Addr} (hp : H p = none) {o : HO} {c : Cell} (hc : CRl K mg (B.add p) (upd H p o) p c) : SR K mg (B.add p) (upd H p o) (S ++ [c]) := by
  have e := h.ext_box hp o
  refine ⟨by simp [BT.add, h.len], BT.nodup_add h.nd (h.fresh hp), e.al, fun n c' a h1 h2 => ?_⟩
  rcases add_get h.len h1 h2 with ⟨h1, h2⟩ | ⟨rfl, rfl⟩
  · exact (h.cell n c' a h1 h2).ex e.ex fun u q => by rw [upd_ne (ne_of_none q hp)]; exact q
  · exact hc
theorem nodup_get {B : List Addr} (hB : B.Nodup) {i j : Nat} {x : Addr} (a : B[i]? = some x) (b : B[j]? = some x) : i = j := by
  obtain ⟨h1, e1⟩ := List.getElem?_eq_some_iff.mp a
  obtain ⟨h2, e2⟩ := List.getElem?_eq_some_iff.mp b
  exact (List.getElem_inj hB).mp (e1.trans e2.symm)
theorem SR.ndb (h : SR K mg B H S) : B.b.Nodup := (List.nodup_append.mp h.nd).1
/-- a box is written -/
theorem SR.ext_write (h : SR K mg B H S) {n : Nat} {a : Addr} (ha : B.b[n]? = some a) (o : HO) : Ext B H B (upd H a o) := by
  have hm := BT.mem_b ha
  refine ⟨⟨[], by simp, by simp⟩, rfl, fun b u hb e => by rw [upd_ne (fun q : b = a => hb (by rw [q]; exact hm))]; exact e, fun b hb => upd_ne fun q => (List.nodup_append.mp h.nd).2.2 a (List.mem_of_getElem? ha) b hb q.symm, fun b hb => ?_⟩
  by_cases q : b = a
  · subst q; exact ⟨o, upd_same⟩
  · obtain ⟨u, e⟩ := h.al b hb
    exact ⟨u, by rw [upd_ne q]; exact e⟩
theorem SR.write (h : SR K mg B H S) {n : Nat} {a : Addr} (ha : B.b[n]? = some a) {o : HO} {c : Cell} (hc : CRl K mg B (upd H a o) a c) : SR K mg B (upd H a o) (S.set n c) := by
  have e := h.ext_write ha o
  refine ⟨by simp [h.len], h.nd, e.al, fun m c' b h1 h2 => ?_⟩
  by_cases hm : n = m
  · subst hm
    rw [ha] at h2; cases h2
    have hl : n < S.length := by
      have := (List.getElem?_eq_some_iff.mp h1).1
      simpa using this
    rw [List.getElem?_set_self hl] at h1
    cases h1
    exact hc
  · rw [List.getElem?_set_ne hm] at h1
    have hb : b ≠ a := fun q => hm (nodup_get h.ndb ha (q ▸ h2))
    exact (h.cell m c' b h1 h2).ex e.ex fun u q => by rw [upd_ne hb]; exact q

/-! something new is being made: p is set aside, is written, and comes back -/
theorem ex_push {p : Addr} (hp : H p = none) (o : HO) : Ex0 B H (B.push p) (upd H p o) :=
  ⟨fun a u n h => ⟨by rw [upd_ne (ne_of_none h hp)]; exact h, fun q => (BT.mem_push.mp q).elim (ne_of_none h hp) n⟩, fun _ _ h => h⟩
theorem ex_pop {p : Addr} : Ex0 (B.push p) H B H := ⟨fun a u n h => ⟨h, fun q => n (BT.mem_push.mpr (.inr q))⟩, fun _ _ h => h⟩
theorem ex_kept {p : Addr} : Ex0 (B.push p) H (B.add p) H :=
  ⟨fun a u n h => ⟨h, fun q => n (BT.add_push q)⟩, fun n a h => by
    have h : B.b[n]? = some a := h
    show (B.b ++ [p])[n]? = some a
    rw [List.getElem?_append_left (List.getElem?_eq_some_iff.mp h).1]; exact h⟩
theorem ex_temp {p : Addr} (hp : p ∈ B.t) (o : HO) : Ex0 B H B (upd H p o) :=
  ⟨fun a u n h => ⟨by rw [upd_ne (fun q => n (by rw [q]; exact List.mem_append_right _ hp))]; exact h, n⟩, fun _ _ h => h⟩
theorem SR.push (h : SR K mg B H S) {p : Addr} (hp : H p = none) (o : HO) : SR K mg (B.push p) (upd H p o) S := by
  have ne : ∀ a ∈ B.all, a ≠ p := fun a ha q => h.fresh hp (q ▸ ha)
  refine ⟨h.len, (B.perm_push p).nodup_iff.mpr (List.nodup_cons.mpr ⟨h.fresh hp, h.nd⟩), fun a ha => ?_, fun n c a h1 h2 => (h.cell n c a h1 h2).ex (ex_push hp o) fun u e => by rw [upd_ne (ne_of_none e hp)]; exact e⟩
  rcases BT.mem_push.mp ha with rfl | ha
  · exact ⟨o, upd_same⟩
  · obtain ⟨u, e⟩ := h.al a ha
    exact ⟨u, by rw [upd_ne (ne a ha)]; exact e⟩
theorem SR.pop {p : Addr} (h : SR K mg (B.push p) H S) : SR K mg B H S :=
  ⟨h.len, (List.nodup_cons.mp ((B.perm_push p).nodup_iff.mp h.nd)).2, fun a ha => h.al a (BT.mem_push.mpr (.inr ha)), fun n c a h1 h2 => (h.cell n c a h1 h2).ex ex_pop fun _ z => z⟩
theorem SR.popped {p : Addr} (h : SR K mg (B.push p) H S) : p ∉ B.all := (List.nodup_cons.mp ((B.perm_push p).nodup_iff.mp h.nd)).1
/-- what is being made is written -/
theorem SR.temp (h : SR K mg B H S) {p : Addr} (hp : p ∈ B.t) (o : HO) : SR K mg B (upd H p o) S := by
  refine ⟨h.len, h.nd, fun a ha => ?_, fun m c' b h1 h2 => (h.cell m c' b h1 h2).ex (ex_temp hp o) fun u q => ?_⟩
  · by_cases q : a = p
    · subst q; exact ⟨o, upd_same⟩
    · obtain ⟨u, e⟩ := h.al a ha
      exact ⟨u, by rw [upd_ne q]; exact e⟩
  · rw [upd_ne fun q : b = p => (List.nodup_append.mp h.nd).2.2 b (List.mem_of_getElem? h2) p hp q]; exact q
/-- what was being made becomes a box -/
theorem SR.keepBox {p : Addr} (h : SR K mg (B.push p) H S) {c : Cell} (hc : CRl K mg (B.add p) H p c) : SR K mg (B.add p) H (S ++ [c]) := by
  have hl : B.b.length = S.length := h.len
  refine ⟨by simp [BT.add, hl], BT.nodup_add h.pop.nd h.popped, fun a ha => h.al a (BT.add_push ha), fun n c' a h1 h2 => ?_⟩
  rcases add_get hl h1 h2 with ⟨h1, h2⟩ | ⟨rfl, rfl⟩
  · exact (h.cell n c' a h1 h2).ex ex_kept fun _ z => z
  · exact hc
theorem Ext.keepBox {B0 : BT} {H0 : Hp} {p : Addr} (x : Ext B0 H0 B H) (hp : H0 p = Option.none) {o : HO} (ho : H p = some o) : Ext B0 H0 (B.add p) H := by
  obtain ⟨m, e1, hm⟩ := x.more
  refine ⟨⟨m ++ [p], by show B.b ++ [p] = _; rw [e1, List.append_assoc], fun a ha => ?_⟩, x.same, fun a u n h => x.keep a u n h, x.tmp, fun a ha => ?_⟩
  · rcases List.mem_append.mp ha with q | q
    · exact hm a q
    · rw [List.mem_singleton.mp q]; exact hp
  · rcases BT.mem_add ha with q | q
    · exact x.al a q
    · rw [q]; exact ⟨o, ho⟩
/-- a step that goes on while p is set aside -/
theorem Ext.inner {B0 B1 : BT} {H0 H1 : Hp} {p : Addr} (x : Ext B0 H0 B H) (hp : H0 p = Option.none) (y : Ext (B.push p) H (B1.push p) H1) : Ext B0 H0 B1 H1 := by
  obtain ⟨m1, e1, n1⟩ := x.more
  obtain ⟨m2, e2, n2⟩ := y.more
  have e2 : B1.b = B.b ++ m2 := e2
  have e3 : p :: B1.t = p :: B.t := y.same
  have e3 := (List.cons.inj e3).2
  refine ⟨⟨m1 ++ m2, by rw [e2, e1, List.append_assoc], fun a ha => ?_⟩, e3.trans x.same, fun a o n h => y.keep a o (fun q => (BT.mem_push.mp q).elim (ne_of_none h hp) (x.not_mem h n)) (x.keep a o n h), fun a ha => (y.tmp a (List.mem_cons_of_mem _ (by rw [x.same]; exact ha))).trans (x.tmp a ha), fun a ha => y.al a (BT.mem_push.mpr (.inr ha))⟩
  rcases List.mem_append.mp ha with q | q
  · exact n1 a q
  · exact x.none (n2 a q)
/-- what is set aside is written -/
theorem Ext.aside {B0 : BT} {H0 : Hp} {p : Addr} (x : Ext B0 H0 B H) (hp : H0 p = Option.none) (np : p ∉ B.all) (o : HO) : Ext B0 H0 B (upd H p o) := by
  refine ⟨x.more, x.same, fun a u n h => by rw [upd_ne (ne_of_none h hp)]; exact x.keep a u n h, fun a ha => ?_, fun a ha => ?_⟩
  · rw [upd_ne fun q => np (by rw [← q]; exact List.mem_append_right _ (by rw [x.same]; exact ha))]
    exact x.tmp a ha
  · obtain ⟨u, e⟩ := x.al a ha
    exact ⟨u, by rw [upd_ne fun q => np (by rw [← q]; exact ha)]; exact e⟩
theorem Ext.pushed {B1 : BT} {H1 : Hp} {p : Addr} (x : Ext (B.push p) H B1 H1) : ∃ B2 : BT, B1 = B2.push p := by
  obtain ⟨b, t⟩ := B1
  have e : t = p :: B.t := x.same
  subst e
  exact ⟨⟨b, B.t⟩, rfl⟩
end

/-! ### the meaning of a piece of syntax -/
abbrev M := EnvI → Store → Option (D × Store)
abbrev Ms := EnvI → Store → Option (List D × Store)
/-- how a statement ends -/
inductive Fl where
  | nx | rt (d : D) | bk | ct
abbrev MS := EnvI → Store → Option (Fl × EnvI × Store)
/-- a target -/
abbrev MG := D → EnvI → Store → Option (EnvI × Store)
/-- what is walked: all its items -/
abbrev MI := EnvI → Store → Option (List D × Store)

section
variable (K : PySem.W.Frag) (mg : Mg)
/-- ahead: the boxes and slots stand as ev, S -/
def At (B : BT) (H : Hp) (ev : EnvI) (σ : St) (S : Store) : Prop := SR K mg B H S ∧ ER K mg B H ev σ
def tM (m : M) : TE := fun σ H Q => ∃ B ev S d S', SR K mg B H S ∧ ER K mg B H ev σ ∧ m ev S = some (d, S') ∧
  ∀ B' H' v, Ext B H B' H' → SR K mg B' H' S' → RD K mg B' H' d v → Q v H'
def tMs (m : Ms) : TA := fun σ H Q => ∃ B ev S d S', SR K mg B H S ∧ ER K mg B H ev σ ∧ m ev S = some (d, S') ∧
  ∀ B' H' v, Ext B H B' H' → SR K mg B' H' S' → RDs K mg B' H' d v → Q v H'
/-- a test -/
def tMt (m : M) : TT := fun σ H Q => ∃ B ev S b S', SR K mg B H S ∧ ER K mg B H ev σ ∧ m ev S = some (.p (.bool b), S') ∧
  ∀ B' H', Ext B H B' H' → SR K mg B' H' S' → Q b H'
def tMS (m : MS) : TS := fun D σ H => ∃ B ev S f ev' S', SR K mg B H S ∧ ER K mg B H ev σ ∧ m ev S = some (f, ev', S') ∧
  ∀ B' H', Ext B H B' H' → SR K mg B' H' S' →
    match f with
    | .nx => ∀ σ', ER K mg B' H' ev' σ' → D.nx σ' H'
    | .bk => ∀ σ', ER K mg B' H' ev' σ' → D.bk σ' H'
    | .ct => ∀ σ', ER K mg B' H' ev' σ' → D.ct σ' H'
    | .rt d => ∀ v, RD K mg B' H' d v → D.rt v H'
def tMG (m : MG) : TG := fun v σ H Q => ∃ B ev S d ev' S', SR K mg B H S ∧ ER K mg B H ev σ ∧ RD K mg B H d v ∧ m d ev S = some (ev', S') ∧
  ∀ B' H' σ', Ext B H B' H' → SR K mg B' H' S' → ER K mg B' H' ev' σ' → Q σ' H'
end
end PI
set_option maxHeartbeats 1000000
/-! Own text: operators of the small language, and that they are the model's. -/
namespace PI
open PySem L2

/-! ### looking at values -/
def lstOf (S : Store) : D → Option (List D)
  | .p (.list xs) => some (xs.map .p)
  | .ref n => match S[n]? with
    | some (.lst ys) => some ys
    | _ => none
  | _ => none
def allP : List D → Option (List PyData)
  | [] => some []
  | .p x :: r => (allP r).map (x :: ·)
  | _ :: _ => none
theorem allP_eq : ∀ {xs : List D} {ys : List PyData}, allP xs = some ys → xs = ys.map .p
  | [], ys, h => by simp [allP] at h; subst h; rfl
  | .p x :: r, ys, h => by
    simp only [allP] at h
    cases e : allP r with
    | none => rw [e] at h; cases h
    | some zs =>
      rw [e] at h
      simp at h
      subst h
      rw [List.map_cons, ← allP_eq e]
  | .ref _ :: _, _, h => by simp [allP] at h
  | .fn _ :: _, _, h => by simp [allP] at h
  | .ty _ :: _, _, h => by simp [allP] at h
theorem allP_map : ∀ ys : List PyData, allP (ys.map .p) = some ys
  | [] => rfl
  | y :: ys => by simp [allP, allP_map ys]
/-- a new list; bx: boxed -/
def mkL (bx : Bool) (xs : List D) (S : Store) : Option (D × Store) :=
  if xs.length ≤ sizeLine then
    (if bx then some (.ref S.length, S ++ [.lst xs]) else (allP xs).map fun ys => (.p (.list ys), S))
  else none
def mkT (xs : List PyData) (S : Store) : Option (D × Store) := if xs.length ≤ sizeLine then some (.p (.tuple xs), S) else none
def isTru : D → Option Bool
  | .p (.bool b) => some b
  | _ => none
def keyP : PyData → Option Key
  | .int i => some (.inl i)
  | .str x => some (.inr x)
  | _ => none
theorem keyP_eq {x : PyData} {k : Key} (h : keyP x = some k) : x = kP k := by
  cases x <;> simp [keyP] at h <;> subst h <;> rfl

section
variable {K : PySem.W.Frag} {mg : Mg} {B : BT} {H : Hp} {S : Store}
theorem dqAll_map : ∀ {vs : List V} {ds : List PyData}, DqAll K B H vs ds ↔ RDs K mg B H (ds.map .p) vs
  | [], [] => ⟨fun _ => .nil, fun _ => .nil⟩
  | [], _ :: _ => ⟨fun h => (by cases h), fun h => (by cases h)⟩
  | _ :: _, [] => ⟨fun h => (by cases h), fun h => (by cases h)⟩
  | v :: vs, d :: ds => ⟨fun h => by
      cases h with
      | cons h1 h2 => exact .cons h1 (dqAll_map.mp h2), fun h => by
      cases h with
      | cons h1 h2 => exact .cons h1 (dqAll_map.mpr h2)⟩
theorem lst_ok (h : SR K mg B H S) {d : D} {v : V} {xs : List D} (r : RD K mg B H d v) (e : lstOf S d = some xs) : ∃ a vs, v = .ref a ∧ Rd H a (.lst vs) ∧ RDs K mg B H xs vs := by
  cases d with
  | p x =>
    cases x with
    | list ys =>
      simp only [lstOf, Option.some.injEq] at e
      subst e
      cases r with
      | lst h1 h2 => exact ⟨_, _, rfl, h1.1, dqAll_map.mp h2⟩
    | _ => simp [lstOf] at e
  | ref n =>
    obtain ⟨a, h1, rfl⟩ := r
    simp only [lstOf] at e
    cases q : S[n]? with
    | none => rw [q] at e; cases e
    | some c =>
      rw [q] at e
      cases c with
      | lst ys =>
        simp only [Option.some.injEq] at e
        subst e
        obtain ⟨vs, h2, h3⟩ := h.cell n _ a q h1
        exact ⟨a, vs, rfl, .inl h2, h3⟩
      | _ => cases e
  | fn _ => cases e
  | ty _ => cases e
theorem mkL_ok (h : SR K mg B H S) {bx : Bool} {xs : List D} {vs : List V} {d : D} {S' : Store} (r : RDs K mg B H xs vs) (e : mkL bx xs S = some (d, S')) {p : Addr} (hp : H p = none) :
    vs.length ≤ sizeLine ∧ ∃ B', Ext B H B' (upd H p (.lst vs)) ∧ SR K mg B' (upd H p (.lst vs)) S' ∧ RD K mg B' (upd H p (.lst vs)) d (.ref p) := by
  unfold mkL at e
  have hl := Paired.length r
  split at e
  · rename_i hz
    refine ⟨by rw [← hl]; exact hz, ?_⟩
    cases bx with
    | true =>
      simp only [if_true, Option.some.injEq, Prod.mk.injEq] at e
      obtain ⟨rfl, rfl⟩ := e
      have x := h.ext_box hp (.lst vs)
      exact ⟨B.add p, x, h.box hp ⟨vs, upd_same, RDs.ext x r⟩, p, (by show (B.b ++ [p])[S.length]? = some p; rw [← h.len]; simp), rfl⟩
    | false =>
      simp only [Bool.false_eq_true, if_false] at e
      cases q : allP xs with
      | none => rw [q] at e; cases e
      | some ys =>
        rw [q] at e
        simp only [Option.map_some, Option.some.injEq, Prod.mk.injEq] at e
        obtain ⟨rfl, rfl⟩ := e
        have hx := allP_eq q
        subst hx
        have x := h.ext_new hp (.lst vs)
        exact ⟨B, x, h.new hp _, .lst ⟨.inl upd_same, h.fresh hp⟩ (dqAll_map.mpr (RDs.ext x r))⟩
  · cases e
theorem mkT_ok (h : SR K mg B H S) {xs : List PyData} {vs : List V} {d : D} {S' : Store} (r : DqAll K B H vs xs) (e : mkT xs S = some (d, S')) {p : Addr} (hp : H p = none) :
    vs.length ≤ sizeLine ∧ Ext B H B (upd H p (.tup vs)) ∧ SR K mg B (upd H p (.tup vs)) S' ∧ RD K mg B (upd H p (.tup vs)) d (.ref p) := by
  unfold mkT at e
  have hl := Paired.length (dqAll_map (mg := mg).mp r)
  rw [List.length_map] at hl
  split at e
  · rename_i hz
    simp only [Option.some.injEq, Prod.mk.injEq] at e
    obtain ⟨rfl, rfl⟩ := e
    have x := h.ext_new hp (.tup vs)
    exact ⟨by rw [← hl]; exact hz, x, h.new hp _, .tup (.inl ⟨.inl upd_same, h.fresh hp⟩) (DqAll.ext x r)⟩
  · cases e
end

/-! ### the model's rules over lists that are read -/
section
variable {X : Cx} {pins : List (Addr × Obj)} {σ : St} {H : Hp} {s : Shared}
theorem lstR (I : Inv X pins σ H s) {l : Addr} {xs : List V} (hH : Rd H l (.lst xs)) : xs.length ≤ sizeLine ∧ ∃ (its : List Value) (n : Nat), Vals xs its ∧ xs.length = its.length ∧ s.heap.get? l = some { cls := .type "list", data := .seq its.toArray n } := by
  obtain ⟨z, its, n, r, e⟩ := hH.ok I.hok
  exact ⟨z, its, n, r, r.length, e⟩
def rCatR : R2 := fun x y H Q => ∃ l b xs zs, x = .ref l ∧ y = .ref b ∧ Rd H l (.lst xs) ∧ Rd H b (.lst zs) ∧ xs.length + zs.length ≤ sizeLine ∧ ∀ p, H p = none → Q (.ref p) (upd H p (.lst (xs ++ zs)))
theorem op_catR : OpR X (binaryOp .Add) rCatR := by
  intro pins s σ H x y v u Q I rx ry h
  obtain ⟨l, b, xs, zs, rfl, rfl, hH, hB, hz, q⟩ := h
  cases rx
  cases ry
  obtain ⟨z, its, n, r, hl, e⟩ := lstR I hH
  obtain ⟨z2, its2, n2, r2, hl2, e2⟩ := lstR I hB
  refine PySem.P.add_list e e2 ?_ (by rw [List.size_toArray, List.size_toArray]; omega)
  have ea : its.toArray ++ its2.toArray = (its ++ its2).toArray := by simp
  rw [ea]
  exact ⟨.ref _, _, I.lnew (t' := s.toks) (r.append r2) (by rw [List.length_append]; omega), rfl, q _ I.fresh⟩
def rRepR : R2 := fun x y H Q => ∃ l k xs, x = .ref l ∧ y = .int k ∧ Rd H l (.lst xs) ∧ -(2 ^ 63) ≤ k ∧ k < 2 ^ 63 ∧ xs.length * k.toNat ≤ sizeLine ∧
  ∀ p, H p = none → Q (.ref p) (upd H p (.lst (List.replicate k.toNat xs).flatten))
theorem op_repR : OpR X (binaryOp .Mult) rRepR := by
  intro pins s σ H x y v u Q I rx ry h
  obtain ⟨l, k, xs, rfl, rfl, hH, h1, h2, hz, q⟩ := h
  cases rx
  obtain ⟨t, rfl⟩ := ry
  obtain ⟨z, its, n, r, hl, e⟩ := lstR I hH
  have hlen : its.toArray.size * k.toNat ≤ sizeLine := by rw [List.size_toArray, ← hl]; exact hz
  have hcap : ¬ its.toArray.size * k.toNat > (2 ^ 63 - 1) / 8 := by
    have : (sizeLine : Nat) ≤ (2 ^ 63 - 1) / 8 := by decide
    omega
  have hfit : ¬ (!Builtin.List.listFitsIndex k) = true := by
    rw [fitsIndex_both h1 h2]
    exact Bool.false_ne_true
  have hlong : ¬ Builtin.List.listTooLong (its.toArray.size * k.toNat) = true := by
    rw [notLongL hlen]
    exact Bool.false_ne_true
  have hnew : List.foldl (fun x1 x2 => x1 ++ x2) #[] (List.replicate (if its.toArray.isEmpty = true then 0 else k.toNat) its.toArray) = (List.replicate k.toNat its).flatten.toArray := by
    have f0 : ∀ m : Nat, List.foldl (fun x1 x2 => x1 ++ x2) #[] (List.replicate m its.toArray) = (List.replicate m its).flatten.toArray := fun m => by
      have := foldl_rep its m []
      rw [List.nil_append] at this
      exact this
    rw [f0]
    cases its with
    | nil => simp
    | cons a r' => rw [if_neg (by simp)]
  refine wpAny_binaryOp_repeat_ref (T := "list") (U := "int") (by decide) ⟨_, e, rfl⟩ (fun s' => typeIs_int s' k t) noFill_list_mul F.fills_int_mul F.slot_int_rmul repeat_list F.slot_int_index.lookup
    (call_meets F.slot_int_rmul (typeIs_int s k t) F.entry_int_rmul (F.args_int_rmul_2 _ _) (int___rmul___int_list k t l its.toArray n)
      ⟨e, rfl, ⟨_, e, rfl⟩, call_meets F.slot_list_mul ⟨_, e, rfl⟩ F.entry_list_mul (F.args_list_mul_2 _ _) (AutoListH.list___mul___list_int_3 l its.toArray n k t hfit hcap hlong) ⟨e, ?_⟩⟩)
  rw [hnew]
  exact ⟨.ref _, _, I.lnew (t' := s.toks) (r.rep k.toNat) (by rw [PyProof.Rows.lm_len_rep_flat, Nat.mul_comm]; exact hz), rfl, q _ I.fresh⟩
end

/-! ### binary operators -/
def intOp (op : Operator) (i j : Int) : Option Int := match op with
  | .Add => some (i + j)
  | .Sub => some (i - j)
  | .Mult => if (-(2 ^ 64) < i ∧ i < 2 ^ 64) ∨ (-(2 ^ 64) < j ∧ j < 2 ^ 64) then some (i * j) else none
  | .Mod => if 0 < j then some (i % j) else none
  | .FloorDiv => if 0 < j ∧ j < 1073741824 then some (i / j) else none
  | .Pow => if 0 ≤ j ∧ j ≤ 1000000 ∧ i.natAbs < 2 ^ 64 then some (i ^ j.toNat) else none
  | .LShift => if 0 ≤ j ∧ j ≤ 1000000 ∧ i.natAbs < 2 ^ 64 then some (i * 2 ^ j.toNat) else none
  | .RShift => if 0 ≤ j then some (i / 2 ^ j.toNat) else none
  | .BitAnd => some (Builtin.bitAnd i j)
  | .BitOr => some (Builtin.bitOr i j)
  | .BitXor => some (Builtin.bitXor i j)
  | _ => none
def seqOp (bx : Bool) (op : Operator) (S : Store) (x y : D) : Option (D × Store) := match op with
  | .Add => (match x, y with
    | .p (.str a), .p (.str b) => if a.length + b.length ≤ sizeLine then some (.p (.str (a ++ b)), S) else none
    | .p (.tuple a), .p (.tuple b) => mkT (a ++ b) S
    | _, _ => (match lstOf S x, lstOf S y with
      | some xs, some ys => mkL bx (xs ++ ys) S
      | _, _ => none))
  | .Mult => (match x, y with
    | .p (.tuple a), .p (.int k) => if a ≠ [] ∧ 2 ≤ k ∧ k ≤ 1000 ∧ a.length ≤ 1000 then some (.p (.tuple (List.replicate k.toNat a).flatten), S) else none
    | _, .p (.int k) => (match lstOf S x with
      | some xs => if -(2 ^ 63) ≤ k ∧ k < 2 ^ 63 then mkL bx (List.replicate k.toNat xs).flatten S else none
      | none => none)
    | _, _ => none)
  | _ => none
def binI (bx : Bool) (op : Operator) (S : Store) (x y : D) : Option (D × Store) := match x, y with
  | .p (.int i), .p (.int j) => (intOp op i j).map fun k => (.p (.int k), S)
  | _, _ => seqOp bx op S x y

/-- the wish: whatever stands behind -/
def Post (K : PySem.W.Frag) (mg : Mg) (B : BT) (H : Hp) (d : D) (S' : Store) (Q : VK) : Prop := ∀ B' H' v, Ext B H B' H' → SR K mg B' H' S' → RD K mg B' H' d v → Q v H'

section
variable {X : Cx} {pins : List (Addr × Obj)} {σ : St} {H : Hp} {s : Shared} {B : BT} {S S' : Store} {d dx dy : D} {vx vy : V} {v u : Value} {Q : VK}
theorem Post.same (h : SR X.K X.mg B H S) (p : Post X.K X.mg B H d S Q) {w : V} (r : RD X.K X.mg B H d w) : Q w H := p B H w h.refl h r
theorem intOp_ok (op : Operator) {i j k : Int} (I : Inv X pins σ H s) (rx : RelV (.int i) v) (ry : RelV (.int j) u) (e : intOp op i j = some k) (q : Q (.int k) H) :
    wpAny (model X.prog X.w) X.A (binaryOp op v u) (EP X pins σ Q) X.xe s := by
  cases op <;> simp only [intOp] at e
  case Add => cases e; exact op_add pins s σ H _ _ v u Q I rx ry ⟨_, _, rfl, rfl, q⟩
  case Sub => cases e; exact op_sub pins s σ H _ _ v u Q I rx ry ⟨_, _, rfl, rfl, q⟩
  case Mult =>
    split at e
    · cases e; exact op_mul pins s σ H _ _ v u Q I rx ry ⟨_, _, rfl, rfl, (by assumption), q⟩
    · cases e
  case Mod =>
    split at e
    · cases e; exact op_mod pins s σ H _ _ v u Q I rx ry ⟨_, _, rfl, rfl, (by assumption), q⟩
    · cases e
  case Pow =>
    split at e
    · cases e; exact op_pow pins s σ H _ _ v u Q I rx ry ⟨_, _, rfl, rfl, (by assumption), q⟩
    · cases e
  case LShift =>
    split at e
    · cases e; exact op_shl pins s σ H _ _ v u Q I rx ry ⟨_, _, rfl, rfl, (by assumption), q⟩
    · cases e
  case RShift =>
    split at e
    · cases e; exact op_shr pins s σ H _ _ v u Q I rx ry ⟨_, _, rfl, rfl, (by assumption), q⟩
    · cases e
  case BitOr => cases e; exact op_or pins s σ H _ _ v u Q I rx ry ⟨_, _, rfl, rfl, q⟩
  case BitXor => cases e; exact op_xor pins s σ H _ _ v u Q I rx ry ⟨_, _, rfl, rfl, q⟩
  case BitAnd => cases e; exact op_and pins s σ H _ _ v u Q I rx ry ⟨_, _, rfl, rfl, q⟩
  case FloorDiv =>
    split at e
    · cases e; exact op_fdiv pins s σ H _ _ v u Q I rx ry ⟨_, _, rfl, rfl, (by assumption), q⟩
    · cases e
  all_goals cases e

theorem dq_tup {K : PySem.W.Frag} {x : V} {ds : List PyData} (h : Dq K B H x (.tuple ds)) : ∃ a vs, x = .ref a ∧ SqTB K B H a vs ∧ DqAll K B H vs ds := by
  cases h with
  | tup h1 h2 => exact ⟨_, _, rfl, h1, h2⟩
theorem dq_str {K : PySem.W.Frag} {x : V} {z : Str} (h : Dq K B H x (.str z)) : x = .str z := by cases h; rfl
theorem dq_int {K : PySem.W.Frag} {x : V} {z : Int} (h : Dq K B H x (.int z)) : x = .int z := by cases h; rfl
theorem DqAll.append {K : PySem.W.Frag} : ∀ {xs ys : List V} {ds es : List PyData}, DqAll K B H xs ds → DqAll K B H ys es → DqAll K B H (xs ++ ys) (ds ++ es)
  | _, _, _, _, .nil, h => h
  | _, _, _, _, .cons h t, h2 => .cons h (DqAll.append t h2)
theorem DqAll.rep {K : PySem.W.Frag} {xs : List V} {ds : List PyData} (h : DqAll K B H xs ds) : ∀ k : Nat, DqAll K B H (List.replicate k xs).flatten (List.replicate k ds).flatten
  | 0 => by simp; exact .nil
  | k + 1 => by simp only [List.replicate_succ, List.flatten_cons]; exact DqAll.append h (DqAll.rep h k)
theorem DqAll.length {K : PySem.W.Frag} : ∀ {xs : List V} {ds : List PyData}, DqAll K B H xs ds → xs.length = ds.length
  | _, _, .nil => rfl
  | _, _, .cons _ t => by simp [DqAll.length t]
theorem RDs.append {K : PySem.W.Frag} {mg : Mg} : ∀ {xs ys : List D} {ds es : List V}, RDs K mg B H xs ds → RDs K mg B H ys es → RDs K mg B H (xs ++ ys) (ds ++ es)
  | _, _, _, _, .nil, h => h
  | _, _, _, _, .cons h t, h2 => .cons h (RDs.append t h2)
theorem RDs.rep {K : PySem.W.Frag} {mg : Mg} {xs : List D} {ds : List V} (h : RDs K mg B H xs ds) : ∀ k : Nat, RDs K mg B H (List.replicate k xs).flatten (List.replicate k ds).flatten
  | 0 => by simp; exact .nil
  | k + 1 => by simp only [List.replicate_succ, List.flatten_cons]; exact RDs.append h (RDs.rep h k)
theorem flat_rep {α : Type} (xs : List α) (k : Nat) : (List.replicate k xs).flatten.length = xs.length * k := by
  rw [PyProof.Rows.lm_len_rep_flat, Nat.mul_comm]

theorem cat_ok (bx : Bool) {xs ys : List D} (hS : SR X.K X.mg B H S) (I : Inv X pins σ H s) (rvx : RelV vx v) (rvy : RelV vy u) (rx : RD X.K X.mg B H dx vx) (ry : RD X.K X.mg B H dy vy)
    (e1 : lstOf S dx = some xs) (e2 : lstOf S dy = some ys) (e : mkL bx (xs ++ ys) S = some (d, S')) (q : Post X.K X.mg B H d S' Q) :
    wpAny (model X.prog X.w) X.A (binaryOp .Add v u) (EP X pins σ Q) X.xe s := by
  obtain ⟨a, xs', rfl, ha, r1⟩ := lst_ok hS rx e1
  obtain ⟨b, ys', rfl, hb, r2⟩ := lst_ok hS ry e2
  have hz : xs'.length + ys'.length ≤ sizeLine := by
    have z := (mkL_ok hS (RDs.append r1 r2) e (p := s.heap.objs.size) (I.hok.fresh (Nat.le_refl _))).1
    rw [List.length_append] at z
    exact z
  refine op_catR pins s σ H _ _ v u Q I rvx rvy ⟨a, b, xs', ys', rfl, rfl, ha, hb, hz, fun p hp => ?_⟩
  obtain ⟨_, B', x1, x2, x3⟩ := mkL_ok hS (RDs.append r1 r2) e hp
  exact q B' _ _ x1 x2 x3

theorem seqOp_ok (bx : Bool) (op : Operator) (hS : SR X.K X.mg B H S) (I : Inv X pins σ H s) (rvx : RelV vx v) (rvy : RelV vy u) (rx : RD X.K X.mg B H dx vx) (ry : RD X.K X.mg B H dy vy)
    (e : seqOp bx op S dx dy = some (d, S')) (q : Post X.K X.mg B H d S' Q) : wpAny (model X.prog X.w) X.A (binaryOp op v u) (EP X pins σ Q) X.xe s := by
  cases op <;> simp only [seqOp] at e
  case Add =>
    split at e
    · rename_i a b
      obtain rfl := dq_str rx
      obtain rfl := dq_str ry
      split at e
      · rename_i hz
        cases e
        exact op_add_str pins s σ H _ _ v u Q I rvx rvy ⟨_, _, rfl, rfl, hz, q.same hS (.str _)⟩
      · cases e
    · rename_i a b
      obtain ⟨x1, vs1, rfl, h1, g1⟩ := dq_tup rx
      obtain ⟨x2, vs2, rfl, h2, g2⟩ := dq_tup ry
      have hz : vs1.length + vs2.length ≤ sizeLine := by
        have z := (mkT_ok hS (DqAll.append g1 g2) e (p := s.heap.objs.size) (I.hok.fresh (Nat.le_refl _))).1
        rw [List.length_append] at z
        exact z
      refine op_catA pins s σ H _ _ v u Q I rvx rvy ⟨x1, x2, vs1, vs2, rfl, rfl, h1.sq, h2.sq, hz, fun n1 => ?_, fun _ n2 => ?_, fun _ n2 p hp => ?_⟩
      · subst n1
        cases g1
        unfold mkT at e
        split at e
        · cases e
          exact q.same hS ry
        · cases e
      · subst n2
        cases g2
        unfold mkT at e
        split at e
        · cases e
          rw [List.append_nil] at q
          exact q.same hS rx
        · cases e
      · obtain ⟨_, y1, y2, y3⟩ := mkT_ok hS (DqAll.append g1 g2) e hp
        exact q B _ _ y1 y2 y3
    · split at e
      · exact cat_ok bx hS I rvx rvy rx ry (by assumption) (by assumption) e q
      · cases e
  case Mult =>
    split at e
    · rename_i a k
      obtain ⟨x1, vs1, rfl, h1, g1⟩ := dq_tup rx
      obtain rfl := dq_int ry
      split at e
      · rename_i hc
        cases e
        have hl := g1.length
        refine op_repT pins s σ H _ _ v u Q I rvx rvy ⟨x1, k, vs1, rfl, rfl, h1.sq, fun z => hc.1 (List.eq_nil_of_length_eq_zero (by rw [← hl, z]; rfl)), hc.2.1, hc.2.2.1, by rw [hl]; exact hc.2.2.2, fun p hp => ?_⟩
        have x := hS.ext_new hp (.tup (List.replicate k.toNat vs1).flatten)
        exact q B _ _ x (hS.new hp _) (.tup (.inl ⟨.inl upd_same, hS.fresh hp⟩) (DqAll.ext x (g1.rep _)))
      · cases e
    · rename_i k _
      obtain rfl := dq_int ry
      split at e
      · rename_i xs e1
        obtain ⟨a, xs', rfl, ha, r1⟩ := lst_ok hS rx e1
        split at e
        · rename_i hc
          refine op_repR pins s σ H _ _ v u Q I rvx rvy ⟨a, k, xs', rfl, rfl, ha, hc.1, hc.2, ?_, fun p hp => ?_⟩
          · have z := (mkL_ok hS (r1.rep k.toNat) e (p := s.heap.objs.size) (I.hok.fresh (Nat.le_refl _))).1
            rw [flat_rep] at z
            exact z
          · obtain ⟨_, B', x1, x2, x3⟩ := mkL_ok hS (r1.rep k.toNat) e hp
            exact q B' _ _ x1 x2 x3
        · cases e
      · cases e
    · cases e
  all_goals cases e
end
end PI
set_option maxHeartbeats 1000000
/-! Own text: comparisons, membership, subscripts, slices of the small language. -/
namespace PI
open PySem L2

/-- a value as one datum -/
def viewP (S : Store) : D → Option PyData
  | .p x => some x
  | .ref n => match S[n]? with
    | some (.lst ys) => (allP ys).map .list
    | _ => none
  | _ => none
/-- what a list or tuple holds -/
def seqP (S : Store) : D → Option (List PyData)
  | .p (.tuple xs) => some xs
  | d => (lstOf S d).bind allP
/-- a dict's entries -/
def keysP : List (PyData × PyData) → Option (List (Key × D))
  | [] => some []
  | (k, x) :: r => match keyP k, keysP r with
    | some k', some r' => some ((k', .p x) :: r')
    | _, _ => none
def dctOf (S : Store) : D → Option (List (Key × D))
  | .p (.dict kvs) => keysP kvs
  | .ref n => match S[n]? with
    | some (.dct kvs) => some kvs
    | _ => none
  | _ => none
def valD (kvs : List (Key × D)) (k : Key) : Option D := (kvs.find? fun kv => decide (kv.1 = k)).map (·.2)

section
variable {K : PySem.W.Frag} {mg : Mg} {B : BT} {H : Hp} {S : Store}
mutual
theorem Dq.weak : ∀ {v : V} {d : PyData}, Dq K B H v d → Dq K BT.nil H v d
  | _, _, .non => .non
  | _, _, .bl b => .bl b
  | _, _, .int i => .int i
  | _, _, .str x => .str x
  | _, _, .lst h1 h2 => .lst ⟨h1.1, BT.no_nil _⟩ (DqAll.weak h2)
  | _, _, .tup h1 h2 => .tup (h1.imp (fun z => ⟨z.1, BT.no_nil _⟩) id) (DqAll.weak h2)
  | _, _, .dct h1 h2 h3 => .dct h1 (BT.no_nil _) (DqKV.weak h3)
theorem DqAll.weak : ∀ {v : List V} {d : List PyData}, DqAll K B H v d → DqAll K BT.nil H v d
  | _, _, .nil => .nil
  | _, _, .cons h1 h2 => .cons (Dq.weak h1) (DqAll.weak h2)
theorem DqKV.weak : ∀ {v : List (Key × V)} {d : List (PyData × PyData)}, DqKV K B H v d → DqKV K BT.nil H v d
  | _, _, .nil => .nil
  | _, _, .cons h1 h2 => .cons (Dq.weak h1) (DqKV.weak h2)
end
theorem view_ok (h : SR K mg B H S) {d : D} {v : V} {x : PyData} (r : RD K mg B H d v) (e : viewP S d = some x) : Dq K BT.nil H v x := by
  cases d with
  | p y =>
    simp only [viewP, Option.some.injEq] at e
    subst e
    exact Dq.weak r
  | ref n =>
    obtain ⟨a, h1, rfl⟩ := r
    simp only [viewP] at e
    cases q : S[n]? with
    | none => rw [q] at e; cases e
    | some c =>
      rw [q] at e
      cases c with
      | lst ys =>
        simp only at e
        cases q2 : allP ys with
        | none => rw [q2] at e; cases e
        | some zs =>
          rw [q2] at e
          simp at e
          subst e
          have := allP_eq q2
          subst this
          obtain ⟨vs, h2, h3⟩ := h.cell n _ a q h1
          exact .lst ⟨.inl h2, BT.no_nil _⟩ (DqAll.weak (dqAll_map.mpr h3))
      | _ => cases e
  | fn _ => cases e
  | ty _ => cases e
theorem seqP_ok (h : SR K mg B H S) {d : D} {v : V} {xs : List PyData} (r : RD K mg B H d v) (e : seqP S d = some xs) : ∃ a vs, v = .ref a ∧ (SqL K H a vs ∨ SqT K H a vs) ∧ DqAll K B H vs xs := by
  have go : (lstOf S d).bind allP = some xs → ∃ a vs, v = .ref a ∧ (SqL K H a vs ∨ SqT K H a vs) ∧ DqAll K B H vs xs := fun e => by
    cases q : lstOf S d with
    | none => rw [q] at e; cases e
    | some zs =>
      rw [q] at e
      obtain ⟨a, vs, rfl, h1, h2⟩ := lst_ok h r q
      have := allP_eq e
      subst this
      exact ⟨a, vs, rfl, .inl (.inl h1), dqAll_map.mpr h2⟩
  cases d with
  | p x =>
    cases x with
    | tuple ys =>
      simp only [seqP, Option.some.injEq] at e
      subst e
      obtain ⟨a, vs, rfl, h1, h2⟩ := dq_tup r
      exact ⟨a, vs, rfl, .inr h1.sq, h2⟩
    | _ => exact go e
  | _ => exact go e
theorem keysP_ok : ∀ {kvs : List (Key × V)} {ds : List (PyData × PyData)} {es : List (Key × D)}, DqKV K B H kvs ds → keysP ds = some es → RKV K mg B H es kvs
  | _, _, es, .nil, e => by
    simp [keysP] at e
    subst e
    exact .nil
  | _, _, es, .cons (k := k) (d := d) (ds := ds) h1 h2, e => by
    have hk : keyP (kP k) = some k := by cases k <;> rfl
    simp only [keysP, hk] at e
    cases q : keysP ds with
    | none => rw [q] at e; cases e
    | some r =>
      rw [q] at e
      simp at e
      subst e
      exact .cons ⟨rfl, h1⟩ (keysP_ok h2 q)
theorem dct_ok (h : SR K mg B H S) {d : D} {v : V} {xs : List (Key × D)} (r : RD K mg B H d v) (e : dctOf S d = some xs) : ∃ a vs, v = .ref a ∧ Rd H a (.dK vs) ∧ RKV K mg B H xs vs := by
  cases d with
  | p x =>
    cases x with
    | dict ys =>
      cases r with
      | dct h1 h2 h3 => exact ⟨_, _, rfl, h1, keysP_ok h3 e⟩
    | _ => simp [dctOf] at e
  | ref n =>
    obtain ⟨a, h1, rfl⟩ := r
    simp only [dctOf] at e
    cases q : S[n]? with
    | none => rw [q] at e; cases e
    | some c =>
      rw [q] at e
      cases c with
      | dct ys =>
        simp only [Option.some.injEq] at e
        subst e
        obtain ⟨vs, h2, h3⟩ := h.cell n _ a q h1
        exact ⟨a, vs, rfl, .inl h2, h3⟩
      | _ => cases e
  | fn _ => cases e
  | ty _ => cases e
theorem RKV.val : ∀ {es : List (Key × D)} {kvs : List (Key × V)}, RKV K mg B H es kvs → ∀ k : Key,
    (valD es k = none ∧ valV kvs k = none) ∨ ∃ d v, valD es k = some d ∧ valV kvs k = some v ∧ RD K mg B H d v
  | _, _, .nil, k => .inl ⟨rfl, rfl⟩
  | (j, d) :: es, (j', v) :: kvs, .cons h1 h2, k => by
    obtain ⟨rfl, h1⟩ := h1
    by_cases hk : j = k
    · exact .inr ⟨d, v, by simp [valD, List.find?_cons, hk], by simp [valV, List.find?_cons, hk], h1⟩
    · have e1 : valD ((j, d) :: es) k = valD es k := by simp [valD, List.find?_cons, hk]
      have e2 : valV ((j, v) :: kvs) k = valV kvs k := by simp [valV, List.find?_cons, hk]
      rw [e1, e2]
      exact RKV.val h2 k
end


section
variable {X : Cx} {pins : List (Addr × Obj)} {σ : St} {H : Hp} {s : Shared} {B : BT}
theorem key_reads {h : Heap} {k : Key} {v : Value} (e : keyIs k v = true) : Reads h v (kP k) [] := by
  rcases keyIs_shape e with ⟨i, t, rfl, rfl⟩ | ⟨x, t, rfl, rfl⟩
  · exact .int i t
  · exact .str x t
theorem pairs_keys {P : Program} {w : World} {h : Heap} : ∀ {es : List DictEntry} {kvs : List (Key × Value)}, PySem.Pairs (mixKind P w) es kvs → ReadsAll h (es.map (·.key)) (kvs.map fun q => kP q.1) []
  | _, _, .nil => .nil
  | _, _, .cons h1 _ t => ReadsAll.cons (as := []) (bs := []) (key_reads h1) (pairs_keys t)
theorem pairs_vals {P : Program} {w : World} : ∀ {es : List DictEntry} {kvs : List (Key × Value)}, PySem.Pairs (mixKind P w) es kvs → es.map (·.val) = kvs.map (·.2)
  | _, _, .nil => rfl
  | _, _, .cons _ h2 t => by simp [h2, pairs_vals t]
/-- the modules' table is no object of ours -/
def NoSys (X : Cx) : Prop := ∃ o, X.base.get? sysModules = some o
theorem NoSys.rd (n : NoSys X) (I : Inv X pins σ H s) {a : Addr} {u : HO} (r : Rd H a u) : a ≠ sysModules := fun e => by
  obtain ⟨o, ho⟩ := n
  have z := (I.bs _ _ ho).2
  subst e
  rcases r with r | ⟨ob, r⟩ <;> rw [z] at r <;> cases r
mutual
theorem Dq.reads (I : Inv X pins σ H s) (n : NoSys X) : ∀ {d : PyData} {v : V} {u : Value}, Dq X.K B H v d → RelV v u → ∃ as, Reads s.heap u d as ∧ sysModules ∉ as
  | .none, _, _, h, r => by
    cases h; cases r
    exact ⟨_, .none, by simp⟩
  | .bool b, _, _, h, r => by
    cases h; cases r
    exact ⟨_, .bool b, by simp⟩
  | .int i, _, _, h, r => by
    cases h
    obtain ⟨t, rfl⟩ := r
    exact ⟨_, .int i t, by simp⟩
  | .str x, _, _, h, r => by
    cases h
    obtain ⟨t, rfl⟩ := r
    exact ⟨_, .str x t, by simp⟩
  | .list ds, _, _, h, r => by
    cases h with
    | lst hs ha =>
      cases r
      obtain ⟨z, its, k, rv, hl, e⟩ := lstR I hs.1
      obtain ⟨as, hr, na⟩ := DqAll.reads I n ha rv
      refine ⟨_, .list e rfl rfl hr, ?_⟩
      rw [List.mem_cons, not_or]
      exact ⟨fun q => n.rd I hs.1 q.symm, na⟩
  | .tuple ds, _, _, h, r => by
    cases h with
    | tup hs ha =>
      cases r
      obtain ⟨its, rv, ⟨o, ho, hc, k, hd⟩, _⟩ := I.tuple hs.sq
      obtain ⟨as, hr, na⟩ := DqAll.reads I n ha rv
      exact ⟨_, .tuple ho hc hd hr, na⟩
  | .dict kvs, _, _, h, r => by
    cases h with
    | dct h1 h2 h3 =>
      cases r
      obtain ⟨z, hd, vs, rel, ⟨o, es, ep, ho, hx, hdt, hk, hp, nd⟩⟩ := dk_rd I.hok h1
      obtain ⟨as, hr, na, ek⟩ := DqKV.reads I n h3 rel
      have e1 := pairs_keys (h := s.heap) hp
      have e2 := pairs_vals hp
      rw [ek] at e1
      rw [← e2] at hr
      refine ⟨_, .dict ho hx.1 hdt e1 hr, ?_⟩
      intro q
      rcases List.mem_append.mp q with q | q
      · exact n.rd I h1 (List.mem_singleton.mp q).symm
      · exact na q
theorem DqAll.reads (I : Inv X pins σ H s) (n : NoSys X) : ∀ {ds : List PyData} {vs : List V} {us : List Value}, DqAll X.K B H vs ds → Vals vs us → ∃ as, ReadsAll s.heap us ds as ∧ sysModules ∉ as
  | [], _, _, h, r => by
    cases h; cases r
    exact ⟨_, .nil, by simp⟩
  | d :: ds, _, _, h, r => by
    cases h with
    | cons h1 h2 =>
      cases r with
      | cons r1 r2 =>
        obtain ⟨as, q1, n1⟩ := Dq.reads I n h1 r1
        obtain ⟨bs, q2, n2⟩ := DqAll.reads I n h2 r2
        refine ⟨_, .cons q1 q2, ?_⟩
        rw [List.mem_append, not_or]
        exact ⟨n1, n2⟩
theorem DqKV.reads (I : Inv X pins σ H s) (n : NoSys X) : ∀ {ds : List (PyData × PyData)} {kvs : List (Key × V)} {vs : List (Key × Value)}, DqKV X.K B H kvs ds → KV kvs vs → ∃ as, ReadsAll s.heap (vs.map (·.2)) (ds.map (·.2)) as ∧ sysModules ∉ as ∧ (vs.map fun q => kP q.1) = ds.map (·.1)
  | [], _, _, h, r => by
    cases h; cases r
    exact ⟨_, .nil, by simp, rfl⟩
  | (k, d) :: ds, _, _, h, r => by
    cases h with
    | cons h1 h2 =>
      cases r with
      | cons r1 r2 =>
        obtain ⟨e, r1⟩ := r1
        obtain ⟨as, q1, n1⟩ := Dq.reads I n h1 r1
        obtain ⟨bs, q2, n2, n3⟩ := DqKV.reads I n h2 r2
        refine ⟨_, .cons q1 q2, ?_, ?_⟩
        · rw [List.mem_append, not_or]
          exact ⟨n1, n2⟩
        · simp only [List.map_cons, n3]
          rw [← e]
end
end

/-! ### comparisons -/
def ordI (op : CmpOp) (i j : Int) : Option Bool := match op with
  | .Lt => some (decide (i < j))
  | .LtE => some (decide (i ≤ j))
  | .Gt => some (decide (j < i))
  | .GtE => some (decide (j ≤ i))
  | _ => none
def isI (x y : PyData) : Option Bool := match y, x with
  | .none, .none => some true
  | .none, _ => some false
  | .bool b, .bool c => some (decide (c = b))
  | _, _ => none
/-- is None, is True: of any value -/
def isD (x y : D) : Option Bool := match x, y with
  | .p a, .p b => isI a b
  | .ref _, .p .none => some false
  | _, _ => none
def intsP : List PyData → Option (List Int)
  | [] => some []
  | .int i :: r => (intsP r).map (i :: ·)
  | _ :: _ => none
theorem intsP_eq : ∀ {xs : List PyData} {ns : List Int}, intsP xs = some ns → xs = ns.map .int
  | [], ns, h => by simp [intsP] at h; subst h; rfl
  | .int i :: r, ns, h => by
    simp only [intsP] at h
    cases e : intsP r with
    | none => rw [e] at h; cases h
    | some ms =>
      rw [e] at h
      simp at h
      subst h
      rw [List.map_cons, ← intsP_eq e]
  | .none :: _, _, h => by simp [intsP] at h
  | .bool _ :: _, _, h => by simp [intsP] at h
  | .str _ :: _, _, h => by simp [intsP] at h
  | .list _ :: _, _, h => by simp [intsP] at h
  | .tuple _ :: _, _, h => by simp [intsP] at h
  | .dict _ :: _, _, h => by simp [intsP] at h
def leT (ns ms : List Int) : Bool := Ob.lexAt (fun j => decide (ns.getD j 0 = ms.getD j 0)) (fun j => decide (ns.getD j 0 ≤ ms.getD j 0)) (decide (ns.length ≤ ms.length)) 0 (min ns.length ms.length)
def tupOrd (op : CmpOp) (ns ms : List Int) : Option Bool := match op with
  | .Lt => some (HT.lexLt ns ms)
  | .LtE => some (leT ns ms)
  | _ => none
/-- x in y -/
def memI (S : Store) (x y : D) : Option Bool := match y with
  | .p (.str z) => (match x with
    | .p (.str c) => (match c.cps.toList with
      | [n] => some (decide (n ∈ z.cps.toList))
      | _ => none)
    | _ => none)
  | _ => (match dctOf S y with
    | some kvs => (match x with
      | .p a => (keyP a).map fun k => (valD kvs k).isSome
      | _ => none)
    | none => (match seqP S y, viewP S x with
      | some xs, some a => if SeqAt.shaped a = true ∧ PyData.canLayAll0 xs = true then some (xs.any fun z => PyData.eqv z a) else none
      | _, _ => none))
def eqG (S : Store) (x y : D) : Option Bool := match viewP S x, viewP S y with
  | some a, some b => if SeqAt.shaped a = true ∧ SeqAt.shaped b = true then some (PyData.eqv a b) else none
  | _, _ => none
/-- x == y: texts by themselves, all else as data -/
def eqI (S : Store) (x y : D) : Option Bool := match x, y with
  | .p (.str a), .p (.str b) => some (decide (a = b))
  | x, y => eqG S x y
theorem eqI_cases {S : Store} {x y : D} {c : Bool} (h : eqI S x y = some c) : (∃ a b, x = .p (.str a) ∧ y = .p (.str b) ∧ c = decide (a = b)) ∨ eqG S x y = some c := by
  unfold eqI at h
  split at h
  · cases h
    exact .inl ⟨_, _, rfl, rfl, rfl⟩
  · exact .inr h
def ordD (op : CmpOp) (x y : D) : Option Bool := match x, y with
  | .p (.int i), .p (.int j) => ordI op i j
  | .p (.tuple xs), .p (.tuple ys) => (match intsP xs, intsP ys with
    | some ns, some ms => tupOrd op ns ms
    | _, _ => none)
  | _, _ => none
def cmpI (op : CmpOp) (S : Store) (x y : D) : Option Bool := match op with
  | .Eq => eqI S x y
  | .NotEq => (eqI S x y).map (!·)
  | .Is => isD x y
  | .IsNot => (isD x y).map (!·)
  | .In => memI S x y
  | .NotIn => (memI S x y).map (!·)
  | _ => ordD op x y

section
variable {X : Cx} {pins : List (Addr × Obj)} {σ : St} {H : Hp} {s : Shared} {B : BT} {S : Store} {dx dy : D} {vx vy : V} {v u : Value} {Q : VK} {b : Bool}
theorem dq_ints {K : PySem.W.Frag} : ∀ {ns : List Int} {vs : List V}, DqAll K B H vs (ns.map .int) → vs = ns.map V.int
  | [], _, h => by cases h; rfl
  | n :: ns, _, h => by
    cases h with
    | cons h1 h2 =>
      cases h1
      rw [dq_ints h2]; rfl
theorem isI_ok {K : PySem.W.Frag} {a c : PyData} (ra : Dq K B H vx a) (rc : Dq K B H vy c) (e : isI a c = some b) : (vy = .non ∧ b = decide (vx = .non)) ∨ ∃ k l, vx = .bl k ∧ vy = .bl l ∧ b = decide (k = l) := by
  cases rc <;> cases ra <;> simp [isI] at e <;> subst e <;> first | (exact .inl ⟨rfl, by simp⟩) | exact .inr ⟨_, _, rfl, rfl, rfl⟩
theorem isD_ok {K : PySem.W.Frag} {mg : Mg} (rx : RD K mg B H dx vx) (ry : RD K mg B H dy vy) (e : isD dx dy = some b) : (vy = .non ∧ b = decide (vx = .non)) ∨ ∃ k l, vx = .bl k ∧ vy = .bl l ∧ b = decide (k = l) := by
  cases dx with
  | p a =>
    cases dy with
    | p c => exact isI_ok rx ry e
    | _ => simp [isD] at e
  | ref n =>
    cases dy with
    | p c =>
      cases c <;> simp [isD] at e
      subst e
      obtain ⟨a, _, rfl⟩ := rx
      cases ry
      exact .inl ⟨rfl, by simp⟩
    | _ => simp [isD] at e
  | _ => simp [isD] at e
theorem lt_dim {A : Around} {n m : Nat} (h : m ≤ 64) (hu : A.units + 65 < cLine) : A.units + 1 + min n m < cLine := by
  have : min n m ≤ m := Nat.min_le_right _ _
  omega
theorem shaped_depth {d : PyData} (h : SeqAt.shaped d = true) : d.canLay0 = true ∧ d.depth ≤ 64 := by
  unfold SeqAt.shaped at h
  rw [Bool.and_eq_true] at h
  exact ⟨h.1, of_decide_eq_true h.2⟩

theorem one_sign {c : Str} {n : Nat} (h : c.cps.toList = [n]) : c = ⟨#[n]⟩ := by
  obtain ⟨a⟩ := c
  have : a = #[n] := by
    apply Array.toList_inj.mp
    exact h
  rw [this]
theorem memI_ok (neg : Bool) (hu : X.A.units + 65 < cLine) (n : NoSys X) (hS : SR X.K X.mg B H S) (I : Inv X pins σ H s) (rvx : RelV vx v) (rvy : RelV vy u) (rx : RD X.K X.mg B H dx vx) (ry : RD X.K X.mg B H dy vy)
    (e : memI S dx dy = some b) (q : Q (.bl (if neg then !b else b)) H) : wpAny (model X.prog X.w) X.A (compareOp (if neg then .NotIn else .In) v u) (EP X pins σ Q) X.xe s := by
  have hu1 : X.A.units + 1 < cLine := by omega
  unfold memI at e
  split at e
  · rename_i z
    obtain rfl := dq_str ry
    split at e
    · rename_i c
      obtain rfl := dq_str rx
      split at e
      · rename_i m hm
        have := one_sign hm
        subst this
        cases e
        cases neg with
        | false => exact op_in_sign pins s σ H _ _ v u Q I rvx rvy ⟨_, _, rfl, rfl, q⟩
        | true => exact op_notIn_sign pins s σ H _ _ v u Q I rvx rvy ⟨_, _, rfl, rfl, q⟩
      · cases e
    · cases e
  · split at e
    · rename_i kvs hk
      split at e
      · rename_i a
        cases hka : keyP a with
        | none => rw [hka] at e; cases e
        | some k =>
          rw [hka] at e
          simp only [Option.map_some, Option.some.injEq] at e
          subst e
          have ea := keyP_eq hka
          subst ea
          obtain ⟨p, vs, rfl, hp, rel⟩ := dct_ok hS ry hk
          cases rvy
          have ex : vx = kV k := by
            cases k with
            | inl i => exact dq_int rx
            | inr x => exact dq_str rx
          subst ex
          have g : DGet H p (kV k) (valV vs k) := .inl ⟨vs, k, hp, rfl, rfl⟩
          have eo : (valV vs k).isSome = (valD kvs k).isSome := by
            rcases rel.val k with ⟨h1, h2⟩ | ⟨d, v, h1, h2, _⟩ <;> rw [h1, h2] <;> rfl
          cases neg with
          | false => exact d_in hu1 I g rvx fun s' I' => ⟨.bl _, H, I', rfl, by rw [eo]; exact q⟩
          | true => exact d_notIn hu1 I g rvx fun s' I' => ⟨.bl _, H, I', rfl, by rw [eo]; exact q⟩
      · cases e
    · split at e
      · rename_i xs a h1 h2
        split at e
        · rename_i hc
          cases e
          obtain ⟨ca, da⟩ := shaped_depth hc.1
          obtain ⟨p, vs, rfl, hp, hd⟩ := seqP_ok hS ry h1
          obtain ⟨as, r1, _⟩ := Dq.reads I n (view_ok hS rx h2) rvx
          cases rvy
          rcases hp with hp | hp
          · obtain ⟨its, rv, ⟨o, k, e1, e2, _, e4⟩, _⟩ := I.list hp
            obtain ⟨bs, r2, _⟩ := DqAll.reads I n hd rv
            have r3 : Reads s.heap (.ref p) (.list xs) (p :: bs) := .list e1 e2 e4 r2
            cases neg with
            | false => exact SeqAt.in_list_reads r3 r1 hc.2 ca (lt_dim da hu) ⟨.bl _, H, I, rfl, q⟩
            | true => exact SeqAt.notIn_list_reads r3 r1 hc.2 ca (lt_dim da hu) ⟨.bl _, H, I, rfl, q⟩
          · obtain ⟨its, rv, ⟨o, e1, e2, k, e4⟩, _⟩ := I.tuple hp
            obtain ⟨bs, r2, _⟩ := DqAll.reads I n hd rv
            have r3 : Reads s.heap (.ref p) (.tuple xs) bs := .tuple e1 e2 e4 r2
            cases neg with
            | false => exact SeqAt.in_tuple_reads r3 r1 hc.2 ca (lt_dim da hu) ⟨.bl _, H, I, rfl, q⟩
            | true => exact SeqAt.notIn_tuple_reads r3 r1 hc.2 ca (lt_dim da hu) ⟨.bl _, H, I, rfl, q⟩
        · cases e
      · cases e

theorem ordD_ok (op : CmpOp) (hu0 : X.A.units < cLine) (I : Inv X pins σ H s) (rvx : RelV vx v) (rvy : RelV vy u) (rx : RD X.K X.mg B H dx vx) (ry : RD X.K X.mg B H dy vy)
    (e : ordD op dx dy = some b) (q : Q (.bl b) H) : wpAny (model X.prog X.w) X.A (compareOp op v u) (EP X pins σ Q) X.xe s := by
  unfold ordD at e
  split at e
  · obtain rfl := dq_int rx
    obtain rfl := dq_int ry
    cases op <;> simp only [ordI] at e <;> cases e
    · exact op_lt pins s σ H _ _ v u Q I rvx rvy ⟨_, _, rfl, rfl, q⟩
    · exact op_le pins s σ H _ _ v u Q I rvx rvy ⟨_, _, rfl, rfl, q⟩
    · exact op_gt pins s σ H _ _ v u Q I rvx rvy ⟨_, _, rfl, rfl, q⟩
    · exact op_ge pins s σ H _ _ v u Q I rvx rvy ⟨_, _, rfl, rfl, q⟩
  · rename_i xs ys
    split at e
    · rename_i ns ms h1 h2
      have e1 := intsP_eq h1
      have e2 := intsP_eq h2
      subst e1 e2
      obtain ⟨a, vs, rfl, ha, ga⟩ := dq_tup rx
      obtain ⟨c, ws, rfl, hc, gc⟩ := dq_tup ry
      have e3 := dq_ints ga
      have e4 := dq_ints gc
      subst e3 e4
      cases op <;> simp only [tupOrd] at e <;> cases e
      · exact op_ltT hu0 pins s σ H _ _ v u Q I rvx rvy ⟨a, c, ns, ms, rfl, rfl, ha.sq, hc.sq, q⟩
      · exact op_leT hu0 pins s σ H _ _ v u Q I rvx rvy ⟨a, c, ns, ms, rfl, rfl, ha.sq, hc.sq, q⟩
    · cases e
  · cases e
theorem cmpI_ok (op : CmpOp) (hu : X.A.units + 65 < cLine) (n : NoSys X) (hS : SR X.K X.mg B H S) (I : Inv X pins σ H s) (rvx : RelV vx v) (rvy : RelV vy u) (rx : RD X.K X.mg B H dx vx) (ry : RD X.K X.mg B H dy vy)
    (e : cmpI op S dx dy = some b) (q : Q (.bl b) H) : wpAny (model X.prog X.w) X.A (compareOp op v u) (EP X pins σ Q) X.xe s := by
  have hu0 : X.A.units < cLine := by omega
  have hEq : ∀ {c : Bool}, eqG S dx dy = some c → ∃ a b as bs, Reads s.heap v a as ∧ Reads s.heap u b bs ∧ SeqAt.shaped a = true ∧ SeqAt.shaped b = true ∧ c = PyData.eqv a b := fun {c} e => by
    unfold eqG at e
    split at e
    · rename_i a b h1 h2
      split at e
      · rename_i hc
        cases e
        obtain ⟨as, r1, _⟩ := Dq.reads I n (view_ok hS rx h1) rvx
        obtain ⟨bs, r2, _⟩ := Dq.reads I n (view_ok hS ry h2) rvy
        exact ⟨a, b, as, bs, r1, r2, hc.1, hc.2, rfl⟩
      · cases e
    · cases e
  cases op with
  | Eq =>
    rcases eqI_cases e with ⟨a, c, rfl, rfl, rfl⟩ | e
    · obtain rfl := dq_str rx
      obtain rfl := dq_str ry
      exact op_eq pins s σ H _ _ v u Q I rvx rvy ⟨rfl, by rw [show decide (V.str a = V.str c) = decide (a = c) from decide_eq_decide.mpr ⟨fun z => V.str.inj z, fun z => by rw [z]⟩]; exact q⟩
    obtain ⟨a, c, as, bs, r1, r2, s1, s2, rfl⟩ := hEq e
    exact SeqAt.compareEq_shaped r1 r2 s1 s2 (by omega) ⟨.bl _, H, I, rfl, q⟩
  | NotEq =>
    simp only [cmpI] at e
    cases e' : eqI S dx dy with
    | none => rw [e'] at e; cases e
    | some c =>
      rw [e'] at e
      cases e
      rcases eqI_cases e' with ⟨a, d, rfl, rfl, rfl⟩ | e'
      · obtain rfl := dq_str rx
        obtain rfl := dq_str ry
        exact op_ne pins s σ H _ _ v u Q I rvx rvy ⟨rfl, by rw [show decide (V.str a = V.str d) = decide (a = d) from decide_eq_decide.mpr ⟨fun z => V.str.inj z, fun z => by rw [z]⟩]; exact q⟩
      obtain ⟨a, c, as, bs, r1, r2, s1, s2, rfl⟩ := hEq e'
      exact SeqAt.compareNe_shaped r1 r2 s1 s2 (by omega) ⟨.bl _, H, I, rfl, q⟩
  | Is =>
    rcases isD_ok rx ry e with ⟨rfl, rfl⟩ | ⟨k, l, rfl, rfl, rfl⟩
    · exact op_isN pins s σ H _ _ v u Q I rvx rvy ⟨rfl, q⟩
    · exact op_isBl pins s σ H _ _ v u Q I rvx rvy ⟨_, _, rfl, rfl, q⟩
  | IsNot =>
    simp only [cmpI] at e
    cases e' : isD dx dy with
    | none => rw [e'] at e; cases e
    | some c =>
      rw [e'] at e
      cases e
      rcases isD_ok rx ry e' with ⟨rfl, rfl⟩ | ⟨k, l, rfl, rfl, rfl⟩
      · exact op_notN pins s σ H _ _ v u Q I rvx rvy ⟨rfl, q⟩
      · exact op_notBl pins s σ H _ _ v u Q I rvx rvy ⟨_, _, rfl, rfl, q⟩
  | In => exact memI_ok false hu n hS I rvx rvy rx ry e q
  | NotIn =>
    simp only [cmpI] at e
    cases e' : memI S dx dy with
    | none => rw [e'] at e; cases e
    | some c =>
      rw [e'] at e
      cases e
      exact memI_ok true hu n hS I rvx rvy rx ry e' q
  | Lt => exact ordD_ok _ hu0 I rvx rvy rx ry e q
  | LtE => exact ordD_ok _ hu0 I rvx rvy rx ry e q
  | Gt => exact ordD_ok _ hu0 I rvx rvy rx ry e q
  | GtE => exact ordD_ok _ hu0 I rvx rvy rx ry e q
end

/-! ### subscripts -/
def atD {α : Type} (xs : List α) (i : Int) : Option α := atI xs i
def ixI (S : Store) (x y : D) : Option D := match x, y with
  | .p (.tuple xs), .p (.int i) => (atI xs i).map .p
  | .p (.str z), .p (.int i) => if z.length ≤ sizeLine then (atI z.cps.toList i).map fun c => .p (.str ⟨#[c]⟩) else none
  | _, .p y => (match dctOf S x with
    | some kvs => (keyP y).bind (valD kvs)
    | none => (match y with
      | .int i => (lstOf S x).bind fun xs => atI xs i
      | _ => none))
  | _, _ => none
/-- x[lo:hi] -/
def cutD {α : Type} (xs : List α) (lo hi : Option Int) : List α := (xs.drop (HT.sIx xs.length 0 lo)).take (HT.sIx xs.length xs.length hi - HT.sIx xs.length 0 lo)
def slI (bx : Bool) (S : Store) (x : D) (lo hi : Option Int) : Option (D × Store) := match x with
  | .p (.tuple xs) => some (.p (.tuple (cutD xs lo hi)), S)
  | .p (.str z) => if z.length ≤ sizeLine then some (.p (.str (cutS z lo hi)), S) else none
  | _ => (lstOf S x).bind fun xs => mkL bx (cutD xs lo hi) S
theorem cutV_eq (xs : List V) (lo hi : Option Int) : cutV xs lo hi = cutD xs lo hi := rfl

theorem RDs.length {K : PySem.W.Frag} {mg : Mg} {B : BT} {H : Hp} {ds : List D} {vs : List V} (h : RDs K mg B H ds vs) : ds.length = vs.length := Paired.length h
theorem RDs.at {K : PySem.W.Frag} {mg : Mg} {B : BT} {H : Hp} : ∀ {ds : List D} {vs : List V} {i : Nat} {d : D}, RDs K mg B H ds vs → ds[i]? = some d → ∃ v, vs[i]? = some v ∧ RD K mg B H d v
  | _, _, _, _, .nil, e => by simp at e
  | _, _, 0, _, .cons r _, e => by simp at e; subst e; exact ⟨_, rfl, r⟩
  | _, _, i + 1, d, .cons _ t, e => by
    obtain ⟨v, h1, h2⟩ := RDs.at (i := i) (d := d) t (by simpa using e)
    exact ⟨v, by simpa using h1, h2⟩
theorem RDs.drop {K : PySem.W.Frag} {mg : Mg} {B : BT} {H : Hp} : ∀ {ds : List D} {vs : List V} (n : Nat), RDs K mg B H ds vs → RDs K mg B H (ds.drop n) (vs.drop n)
  | _, _, 0, r => r
  | _, _, _ + 1, .nil => .nil
  | _, _, n + 1, .cons _ t => RDs.drop n t
theorem RDs.take {K : PySem.W.Frag} {mg : Mg} {B : BT} {H : Hp} : ∀ {ds : List D} {vs : List V} (n : Nat), RDs K mg B H ds vs → RDs K mg B H (ds.take n) (vs.take n)
  | _, _, 0, _ => .nil
  | _, _, _ + 1, .nil => .nil
  | _, _, n + 1, .cons r t => .cons r (RDs.take n t)
theorem RDs.cut {K : PySem.W.Frag} {mg : Mg} {B : BT} {H : Hp} {ds : List D} {vs : List V} (h : RDs K mg B H ds vs) (lo hi : Option Int) : RDs K mg B H (cutD ds lo hi) (cutV vs lo hi) := by
  rw [cutV_eq]
  unfold cutD
  rw [h.length]
  exact (h.drop _).take _
theorem RDs.atI {K : PySem.W.Frag} {mg : Mg} {B : BT} {H : Hp} {ds : List D} {vs : List V} {i : Int} {d : D} (h : RDs K mg B H ds vs) (e : atI ds i = some d) : ∃ v, L2.atI vs i = some v ∧ RD K mg B H d v := by
  unfold L2.atI at e ⊢
  rw [h.length] at e
  cases q : ixN vs.length i with
  | none => rw [q] at e; cases e
  | some j =>
    rw [q] at e
    exact h.at e
theorem atI_map {α β : Type} (f : α → β) (xs : List α) (i : Int) : L2.atI (xs.map f) i = (L2.atI xs i).map f := by
  unfold L2.atI
  rw [List.length_map]
  cases ixN xs.length i with
  | none => rfl
  | some j => simp

section
variable {X : Cx} {pins : List (Addr × Obj)} {σ : St} {H : Hp} {s : Shared} {B : BT} {S S' : Store} {d dx dy : D} {vx vy : V} {v u : Value} {Q : VK}
/-- any subscript, by values -/
def rIxA (K : PySem.W.Frag) : R2 := fun x y H Q => rIx K x y H Q ∨ ∃ a v, x = .ref a ∧ DGet H a y (some v) ∧ Q v H
theorem ix_any (hu : X.A.units + 1 < cLine) : IxR X (rIxA X.K) := by
  intro value slice pins s σ H x y v u Q I rx ry h hs
  rcases h with h | ⟨a, w, rfl, g, q⟩
  · exact ix_seq value slice pins s σ H x y v u Q I rx ry h hs
  · cases rx
    exact PyProof.Rows.tail_any (dict_typeIs I g) PySem.F.slot_dict_getitem.lookup (d_getItem hu I g ry fun w' s3 I3 rw' => ⟨w, H, I3, rw', q⟩) hs
theorem ixI_ok (hS : SR X.K X.mg B H S) (rx : RD X.K X.mg B H dx vx) (ry : RD X.K X.mg B H dy vy) (e : ixI S dx dy = some d) (q : Post X.K X.mg B H d S Q) : rIxA X.K vx vy H Q := by
  unfold ixI at e
  split at e
  · rename_i xs i
    obtain ⟨a, vs, rfl, ha, ga⟩ := dq_tup rx
    obtain rfl := dq_int ry
    cases h : L2.atI xs i with
    | none => rw [h] at e; cases e
    | some z =>
      rw [h] at e
      cases e
      have r := dqAll_map (mg := X.mg).mp ga
      obtain ⟨w, h1, h2⟩ := RDs.atI (i := i) (d := .p z) r (by rw [atI_map, h]; rfl)
      exact .inl (.inr (.inl ⟨a, vs, i, w, rfl, rfl, ha.sq, h1, q.same hS h2⟩))
  · rename_i z i
    obtain rfl := dq_str rx
    obtain rfl := dq_int ry
    split at e
    · rename_i hz
      cases h : L2.atI z.cps.toList i with
      | none => rw [h] at e; cases e
      | some c =>
        rw [h] at e
        cases e
        exact .inl (.inr (.inr ⟨z, i, c, rfl, rfl, hz, h, q.same hS (.str _)⟩))
    · cases e
  · rename_i y _ _
    split at e
    · rename_i kvs hk
      obtain ⟨a, vs, rfl, ha, rel⟩ := dct_ok hS rx hk
      cases h : keyP y with
      | none => rw [h] at e; cases e
      | some k =>
        rw [h] at e
        have ey := keyP_eq h
        subst ey
        have ex : vy = kV k := by
          cases k with
          | inl i => exact dq_int ry
          | inr x => exact dq_str ry
        subst ex
        rcases rel.val k with ⟨h1, h2⟩ | ⟨d', w, h1, h2, h3⟩
        · rw [Option.bind_some, h1] at e
          cases e
        · rw [Option.bind_some, h1] at e
          cases e
          exact .inr ⟨a, w, rfl, .inl ⟨vs, k, ha, rfl, h2.symm⟩, q.same hS h3⟩
    · split at e
      · rename_i hne i hk
        obtain rfl := dq_int ry
        cases h : lstOf S dx with
        | none => rw [h] at e; cases e
        | some xs =>
          rw [h] at e
          obtain ⟨a, vs, rfl, ha, r⟩ := lst_ok hS rx h
          obtain ⟨w, h1, h2⟩ := RDs.atI r e
          exact .inl (.inl ⟨a, vs, _, w, rfl, rfl, .inl ha, h1, q.same hS h2⟩)
      · cases e
  · cases e
/-- any slice, by values -/
def rSlAny (K : PySem.W.Frag) : V → Option Int → Option Int → Hp → VK → Prop := fun x lo hi H Q => rSlL K x lo hi H Q ∨ (rSlA K x lo hi H Q ∨ rSlS x lo hi H Q)
theorem sl_any : SlR X (rSlAny X.K) := sl_list.or (sl_tupA.or sl_str)
theorem DqAll.cut {K : PySem.W.Frag} {ds : List PyData} {vs : List V} (h : DqAll K B H vs ds) (lo hi : Option Int) : DqAll K B H (cutV vs lo hi) (cutD ds lo hi) := by
  have r := RDs.cut (dqAll_map (mg := fun _ => none).mp h) lo hi
  have e : cutD (ds.map D.p) lo hi = (cutD ds lo hi).map D.p := by
    unfold cutD
    rw [List.length_map, List.map_take, List.map_drop]
  rw [e] at r
  exact dqAll_map.mpr r
theorem whole_cut {α : Type} {xs : List α} {lo hi : Option Int} (h : HT.sIx xs.length 0 lo = 0 ∧ HT.sIx xs.length xs.length hi = xs.length) : cutD xs lo hi = xs := by
  unfold cutD
  rw [h.1, h.2]
  simp
theorem slI_ok (bx : Bool) {lo hi : Option Int} (hS : SR X.K X.mg B H S) (rx : RD X.K X.mg B H dx vx) (e : slI bx S dx lo hi = some (d, S')) (q : Post X.K X.mg B H d S' Q) : rSlAny X.K vx lo hi H Q := by
  unfold slI at e
  split at e
  · rename_i xs
    obtain ⟨a, vs, rfl, ha, ga⟩ := dq_tup rx
    cases e
    have hl := ga.length
    refine .inr (.inl ⟨a, vs, rfl, ha.sq, fun hw => ?_, fun _ p hp => ?_⟩)
    · rw [hl] at hw
      rw [whole_cut hw] at q
      exact q.same hS rx
    · have x := hS.ext_new hp (.tup (cutV vs lo hi))
      exact q B _ _ x (hS.new hp _) (.tup (.inl ⟨.inl upd_same, hS.fresh hp⟩) (DqAll.ext x (ga.cut lo hi)))
  · rename_i z
    obtain rfl := dq_str rx
    split at e
    · rename_i hz
      cases e
      exact .inr (.inr ⟨z, rfl, hz, q.same hS (.str _)⟩)
    · cases e
  · cases h : lstOf S dx with
    | none => rw [h] at e; cases e
    | some xs =>
      rw [h] at e
      obtain ⟨a, vs, rfl, ha, r⟩ := lst_ok hS rx h
      refine .inl ⟨a, vs, rfl, .inl ha, fun p hp => ?_⟩
      obtain ⟨_, B', x1, x2, x3⟩ := mkL_ok hS (r.cut lo hi) e hp
      exact q B' _ _ x1 x2 x3
end
end PI
set_option maxHeartbeats 1000000
/-! Own text: built-in functions and methods of the small language. -/
namespace PI
open PySem L2

abbrev BF := Store → List D → Option (D × Store)
/-- a built-in, by values: what f says is what the model does -/
def BR (X : Cx) (val : Value) (f : BF) : Prop :=
  ∀ (pins : List (Addr × Obj)) (s : Shared) (σ : St) (H : Hp) (B : BT) (S : Store) (ds : List D) (d : D) (S' : Store) (vs : List V) (us : List Value) (Q : VK),
    Inv X pins σ H s → SR X.K X.mg B H S → RDs X.K X.mg B H ds vs → Vals vs us → f S ds = some (d, S') → Post X.K X.mg B H d S' Q → wpAny (model X.prog X.w) X.A (call val us) (EP X pins σ Q) X.xe s

section
variable {K : PySem.W.Frag} {mg : Mg} {B : BT} {H : Hp} {S : Store}
theorem rds_nil {vs : List V} (r : RDs K mg B H [] vs) : vs = [] := by cases r; rfl
theorem rds1 {d : D} {vs : List V} (r : RDs K mg B H [d] vs) : ∃ v, vs = [v] ∧ RD K mg B H d v := by
  cases r with
  | cons h t => cases t; exact ⟨_, rfl, h⟩
theorem rds2 {d e : D} {vs : List V} (r : RDs K mg B H [d, e] vs) : ∃ v w, vs = [v, w] ∧ RD K mg B H d v ∧ RD K mg B H e w := by
  cases r with
  | cons h t =>
    obtain ⟨w, rfl, h2⟩ := rds1 t
    exact ⟨_, w, rfl, h, h2⟩
/-- list or tuple, its items as values -/
def seqD (S : Store) : D → Option (List D)
  | .p (.tuple xs) => some (xs.map .p)
  | d => lstOf S d
theorem seqD_ok (h : SR K mg B H S) {d : D} {v : V} {xs : List D} (r : RD K mg B H d v) (e : seqD S d = some xs) : ∃ a vs, v = .ref a ∧ (SqL K H a vs ∨ SqT K H a vs) ∧ RDs K mg B H xs vs := by
  have go : lstOf S d = some xs → ∃ a vs, v = .ref a ∧ (SqL K H a vs ∨ SqT K H a vs) ∧ RDs K mg B H xs vs := fun e => by
    obtain ⟨a, vs, rfl, h1, h2⟩ := lst_ok h r e
    exact ⟨a, vs, rfl, .inl (.inl h1), h2⟩
  cases d with
  | p x =>
    cases x with
    | tuple ys =>
      simp only [seqD, Option.some.injEq] at e
      subst e
      obtain ⟨a, vs, rfl, h1, h2⟩ := dq_tup r
      exact ⟨a, vs, rfl, .inr h1.sq, dqAll_map.mp h2⟩
    | _ => exact go e
  | _ => exact go e
end

/-! ### len, int, str, bool, max, min -/
def bLen : BF := fun S ds => match ds with
  | [.p (.str z)] => if z.length ≤ sizeLine then some (.p (.int z.length), S) else none
  | [x] => (match dctOf S x with
    | some kvs => some (.p (.int kvs.length), S)
    | none => (seqD S x).map fun xs => (.p (.int xs.length), S))
  | _ => none
theorem RKV.length {K : PySem.W.Frag} {mg : Mg} {B : BT} {H : Hp} {a : List (Key × D)} {b : List (Key × V)} (r : RKV K mg B H a b) : a.length = b.length := Paired.length r
theorem len_ok {X : Cx} : BR X (.builtin "len") bLen := by
  intro pins s σ H B S ds d S' vs us Q I hS r rv e q
  unfold bLen at e
  split at e
  · rename_i z
    obtain ⟨v, rfl, h⟩ := rds1 r
    obtain rfl := dq_str h
    split at e
    · rename_i hz
      cases e
      exact call_len pins s σ H _ us Q I rv ⟨_, _, rfl, ⟨hz, rfl⟩, q.same hS (.int _)⟩
    · cases e
  · rename_i x _
    obtain ⟨v, rfl, h⟩ := rds1 r
    split at e
    · rename_i kvs hk
      cases e
      obtain ⟨a, ws, rfl, ha, rel⟩ := dct_ok hS h hk
      obtain ⟨u, rfl, ru⟩ := vals1 rv
      cases ru
      exact d_len I ha fun t s' I' => ⟨.int kvs.length, H, I', by rw [rel.length]; exact ⟨t, rfl⟩, q.same hS (.int _)⟩
    · cases hx : seqD S x with
      | none => rw [hx] at e; cases e
      | some xs =>
        rw [hx] at e
        cases e
        obtain ⟨a, ws, rfl, ha, r2⟩ := seqD_ok hS h hx
        refine call_len pins s σ H _ us Q I rv ⟨_, ws.length, rfl, ?_, ?_⟩
        · rcases ha with ha | ha
          · exact .inl ⟨ws, ha, rfl⟩
          · exact .inr ⟨ws, ha, rfl⟩
        · rw [← r2.length]
          exact q.same hS (.int _)
  · cases e
def bInt : BF := fun S ds => match ds with
  | [.p (.int i)] => some (.p (.int i), S)
  | [.p (.bool b)] => some (.p (.int (if b then 1 else 0)), S)
  | [.p (.str z)] => if z.length ≤ 640 then (intText? z).map fun n => (.p (.int n), S) else none
  | _ => none
theorem dq_bl {K : PySem.W.Frag} {B : BT} {H : Hp} {x : V} {z : Bool} (h : Dq K B H x (.bool z)) : x = .bl z := by cases h; rfl
theorem int_ok {X : Cx} : BR X (.type "int") bInt := by
  intro pins s σ H B S ds d S' vs us Q I hS r rv e q
  unfold bInt at e
  split at e
  · obtain ⟨v, rfl, h⟩ := rds1 r
    obtain rfl := dq_int h
    cases e
    exact call_int1 pins s σ H _ us Q I rv (.inl ⟨_, rfl, q.same hS (.int _)⟩)
  · obtain ⟨v, rfl, h⟩ := rds1 r
    obtain rfl := dq_bl h
    cases e
    exact call_int1 pins s σ H _ us Q I rv (.inr ⟨_, rfl, q.same hS (.int _)⟩)
  · rename_i z
    obtain ⟨v, rfl, h⟩ := rds1 r
    obtain rfl := dq_str h
    split at e
    · rename_i hz
      cases h2 : intText? z with
      | none => rw [h2] at e; cases e
      | some n =>
        rw [h2] at e
        cases e
        exact call_int_str pins s σ H _ us Q I rv ⟨z, n, rfl, h2, hz, q.same hS (.int _)⟩
    · cases e
  · cases e
def bStr : BF := fun S ds => match ds with
  | [.p (.int i)] => if i.natAbs.log2 < 1920 then some (.p (.str (toString i)), S) else none
  | _ => none
theorem str_ok {X : Cx} : BR X (.type "str") bStr := by
  intro pins s σ H B S ds d S' vs us Q I hS r rv e q
  unfold bStr at e
  split at e
  · obtain ⟨v, rfl, h⟩ := rds1 r
    obtain rfl := dq_int h
    split at e
    · rename_i hz
      cases e
      exact call_str_int pins s σ H _ us Q I rv ⟨_, rfl, hz, q.same hS (.str _)⟩
    · cases e
  · cases e
def bMax : BF := fun S ds => match ds with
  | [.p (.int i), .p (.int j)] => some (.p (.int (if j > i then j else i)), S)
  | _ => none
theorem max_ok {X : Cx} (hc : X.calm = true) : BR X (.builtin "max") bMax := by
  intro pins s σ H B S ds d S' vs us Q I hS r rv e q
  unfold bMax at e
  split at e
  · obtain ⟨v, w, rfl, h1, h2⟩ := rds2 r
    obtain rfl := dq_int h1
    obtain rfl := dq_int h2
    cases e
    exact call_max2 hc pins s σ H _ us Q I rv ⟨_, _, rfl, q.same hS (.int _)⟩
  · cases e
def bMin : BF := fun S ds => match ds with
  | [.p (.int i), .p (.int j)] => some (.p (.int (if j < i then j else i)), S)
  | _ => none
theorem min_ok {X : Cx} (hc : X.calm = true) : BR X (.builtin "min") bMin := by
  intro pins s σ H B S ds d S' vs us Q I hS r rv e q
  unfold bMin at e
  split at e
  · obtain ⟨v, w, rfl, h1, h2⟩ := rds2 r
    obtain rfl := dq_int h1
    obtain rfl := dq_int h2
    cases e
    exact call_min2 hc pins s σ H _ us Q I rv ⟨_, _, rfl, q.same hS (.int _)⟩
  · cases e

/-! ### list, tuple -/
def bList (bx : Bool) : BF := fun S ds => match ds with
  | [x] => (seqD S x).bind fun xs => mkL bx xs S
  | _ => none
theorem list_ok {X : Cx} (bx : Bool) : BR X (.type "list") (bList bx) := by
  intro pins s σ H B S ds d S' vs us Q I hS r rv e q
  unfold bList at e
  split at e
  · rename_i x
    obtain ⟨v, rfl, h⟩ := rds1 r
    cases hx : seqD S x with
    | none => rw [hx] at e; cases e
    | some xs =>
      rw [hx] at e
      obtain ⟨a, ws, rfl, ha, r2⟩ := seqD_ok hS h hx
      refine call_list_of pins s σ H _ us Q I rv ⟨a, ws, rfl, ha, fun l hl => ?_⟩
      obtain ⟨_, B', x1, x2, x3⟩ := mkL_ok hS r2 e hl
      exact q B' _ _ x1 x2 x3
  · cases e
def bTuple : BF := fun S ds => match ds with
  | [.p (.tuple xs)] => some (.p (.tuple xs), S)
  | [x] => (lstOf S x).bind fun xs => (allP xs).bind fun ys => mkT ys S
  | _ => none
theorem tuple_ok {X : Cx} : BR X (.type "tuple") bTuple := by
  intro pins s σ H B S ds d S' vs us Q I hS r rv e q
  unfold bTuple at e
  split at e
  · obtain ⟨v, rfl, h⟩ := rds1 r
    cases e
    obtain ⟨a, ws, rfl, h1, h2⟩ := dq_tup h
    exact call_tuple_of pins s σ H _ us Q I rv ⟨a, ws, rfl, .inr ⟨h1.sq, q.same hS h⟩⟩
  · rename_i x _
    obtain ⟨v, rfl, h⟩ := rds1 r
    cases hx : lstOf S x with
    | none => rw [hx] at e; cases e
    | some xs =>
      rw [hx, Option.bind_some] at e
      cases hy : allP xs with
      | none => rw [hy] at e; cases e
      | some ys =>
        rw [hy, Option.bind_some] at e
        have := allP_eq hy
        subst this
        obtain ⟨a, ws, rfl, ha, r2⟩ := lst_ok hS h hx
        refine call_tuple_of pins s σ H _ us Q I rv ⟨a, ws, rfl, .inl ⟨.inl ha, fun l hl => ?_⟩⟩
        obtain ⟨_, x1, x2, x3⟩ := mkT_ok hS (dqAll_map.mpr r2) e hl
        exact q B _ _ x1 x2 x3
  · cases e

/-! ### isinstance -/
def tnOf (S : Store) : D → Option Tn
  | .p .none => some .non
  | .p (.bool _) => some .bl
  | .p (.int _) => some .int
  | .p (.str _) => some .str
  | .p (.list _) => some .lst
  | .p (.tuple _) => some .tup
  | .p (.dict _) => some .dct
  | .ref n => match S[n]? with
    | some (.lst _) => some .lst
    | some (.dct _) => some .dct
    | _ => none
  | _ => none
def isSub (a b : Tn) : Bool := a == b || (a == .bl && b == .int) || b == .obj
def bIsi : BF := fun S ds => match ds with
  | [x, .ty t] => (tnOf S x).map fun u => (.p (.bool (isSub u t)), S)
  | _ => none
theorem kit_all (a b : Tn) : kitB a.nm b.nm = some (isSub a b) := by
  cases a <;> cases b <;> decide +kernel
theorem rd_lst {K : PySem.W.Frag} {H : Hp} {a : Addr} {xs : List V} (h : Rd H a (.lst xs)) : TyX K H (.ref a) (.type "list") := by
  rcases h with h | ⟨o, h⟩
  · exact .base (.lst h)
  · exact .base (.frz h)
theorem rd_dct {K : PySem.W.Frag} {H : Hp} {a : Addr} {xs : List (Key × V)} (h : Rd H a (.dK xs)) : TyX K H (.ref a) (.type "dict") := by
  rcases h with h | ⟨o, h⟩
  · exact .base (.dK h)
  · exact .fDict h
theorem tn_ok {K : PySem.W.Frag} {mg : Mg} {B : BT} {H : Hp} {S : Store} (h : SR K mg B H S) {d : D} {v : V} {t : Tn} (r : RD K mg B H d v) (e : tnOf S d = some t) : TyX K H v (.type t.nm) := by
  cases d with
  | p x =>
    cases x with
    | none => cases e; cases r; exact .base .non
    | bool b => cases e; cases r; exact .base (.bl b)
    | int b => cases e; cases r; exact .base (.int b)
    | str b => cases e; cases r; exact .base (.str b)
    | list b =>
      cases e
      cases r with
      | lst h1 _ => exact rd_lst h1.1
    | tuple b =>
      cases e
      obtain ⟨a, vs, rfl, h1, h2⟩ := dq_tup r
      rcases h1 with ⟨⟨h1⟩ | ⟨o, h1⟩, _⟩ | ⟨o, its, n, hk, hc, _⟩
      · rename_i h1; exact .base (.tup h1)
      · exact .fTuple h1
      · exact .kTuple hk hc
    | dict b =>
      cases e
      cases r with
      | dct h1 _ => exact rd_dct h1
  | ref n =>
    obtain ⟨a, h1, rfl⟩ := r
    simp only [tnOf] at e
    cases q : S[n]? with
    | none => rw [q] at e; cases e
    | some c =>
      rw [q] at e
      cases c with
      | lst ys =>
        cases e
        obtain ⟨vs, h2, _⟩ := h.cell n _ a q h1
        exact rd_lst (.inl h2)
      | dct ys =>
        cases e
        obtain ⟨vs, h2, _⟩ := h.cell n _ a q h1
        exact rd_dct (.inl h2)
      | dead => cases e
  | fn _ => cases e
  | ty _ => cases e
theorem isi_ok {X : Cx} : BR X (.builtin "isinstance") bIsi := by
  intro pins s σ H B S ds d S' vs us Q I hS r rv e q
  unfold bIsi at e
  split at e
  · rename_i x t
    obtain ⟨v, w, rfl, h1, h2⟩ := rds2 r
    cases ht : tnOf S x with
    | none => rw [ht] at e; cases e
    | some u =>
      rw [ht] at e
      cases e
      obtain rfl : w = .ty t.nm := h2
      exact call_isi pins s σ H _ us Q I rv ⟨v, _, _, _, isSub u t, rfl, .ty _, tn_ok hS h1 ht, kit_ty (kit_all u t), q.same hS (.bl _)⟩
  · cases e

/-! ### repr -/
def bRepr : BF := fun S ds => match ds with
  | [x] => (viewP S x).bind fun a => if a.showable = true ∧ a.depth ≤ 64 ∧ a.shown.length ≤ sizeLine then some (.p (.str a.shown), S) else none
  | _ => none
theorem repr_ok {X : Cx} (hg : X.A.guards = some []) (hu : X.A.units + 65 < cLine) (n : NoSys X) : BR X (.builtin "repr") bRepr := by
  intro pins s σ H B S ds d S' vs us Q I hS r rv e q
  unfold bRepr at e
  split at e
  · rename_i x
    obtain ⟨v, rfl, h⟩ := rds1 r
    obtain ⟨u, rfl, ru⟩ := vals1 rv
    cases hx : viewP S x with
    | none => rw [hx] at e; cases e
    | some a =>
      rw [hx, Option.bind_some] at e
      split at e
      · rename_i hc
        obtain ⟨c1, c2, c3⟩ := hc
        cases e
        have dq := view_ok hS h hx
        have fin : ∀ (h' : Heap) (t : Tok) (tk : Nat), (∀ b o, s.heap.get? b = some o → h'.get? b = some o) → EP X pins σ Q (.str a.shown t) { s with heap := h', toks := tk } :=
          fun h' t tk k => ⟨.str _, H, I.kept k, ⟨t, rfl⟩, q.same hS (.str _)⟩
        obtain ⟨as, rr, na⟩ := Dq.reads I n dq ru
        cases rr with
        | none => exact PySem.P.repr_of_none (fin _ _ _ fun _ _ z => z)
        | bool b => exact PySem.P.repr_of_bool (fin _ _ _ fun _ _ z => z)
        | int i t =>
          have hz : i.natAbs.log2 < 1920 := of_decide_eq_true c1
          exact PySem.P.repr_of_int hz (fin _ _ _ fun _ _ z => z)
        | str x t => exact PySem.P.repr_of_str (hsz := c3) (fin _ _ _ fun _ _ z => z)
        | list h1 h2 h3 h4 => exact PySem.repr_of_reads' (.list h1 h2 h3 h4) c1 (fun _ => na) hg (by omega) (fun _ _ z => z) (fun h' u tk k => fin h' u tk k) c3
        | tuple h1 h2 h3 h4 => exact PySem.repr_of_reads' (.tuple h1 h2 h3 h4) c1 (fun _ => na) hg (by omega) (fun _ _ z => z) (fun h' u tk k => fin h' u tk k) c3
        | dict h1 h2 h3 h4 h5 => exact PySem.repr_of_reads' (.dict h1 h2 h3 h4 h5) c1 (fun _ => na) hg (by omega) (fun _ _ z => z) (fun h' u tk k => fin h' u tk k) c3
      · cases e
  · cases e
end PI
set_option maxHeartbeats 1000000
/-! Own text: methods of built-in objects; the names of built-ins. -/
namespace PI
open PySem L2

def blsP : List D → Option (List Bool)
  | [] => some []
  | .p (.bool b) :: r => (blsP r).map (b :: ·)
  | _ :: _ => none
theorem blsP_ok {K : PySem.W.Frag} {mg : Mg} {B : BT} {H : Hp} : ∀ {xs : List D} {bs : List Bool} {vs : List V}, blsP xs = some bs → RDs K mg B H xs vs → vs = bs.map V.bl
  | [], bs, _, h, r => by simp [blsP] at h; subst h; cases r; rfl
  | x :: r, bs, _, h, .cons h1 h2 => by
    cases x with
    | p y =>
      cases y with
      | bool b =>
        simp only [blsP] at h
        cases e : blsP r with
        | none => rw [e] at h; cases h
        | some ms =>
          rw [e] at h
          simp at h
          subst h
          cases h1
          rw [blsP_ok e h2]; rfl
      | _ => simp [blsP] at h
    | _ => simp [blsP] at h
def bAny : BF := fun S ds => match ds with
  | [x] => (lstOf S x).bind fun xs => (blsP xs).map fun bs => (.p (.bool (bs.any id)), S)
  | _ => none
def bAll : BF := fun S ds => match ds with
  | [x] => (lstOf S x).bind fun xs => (blsP xs).map fun bs => (.p (.bool (bs.all id)), S)
  | _ => none
theorem any_ok {X : Cx} (hc : X.calm = true) : BR X (.builtin "any") bAny := by
  intro pins s σ H B S ds d S' vs us Q I hS r rv e q
  unfold bAny at e
  split at e
  · rename_i x
    obtain ⟨v, rfl, h⟩ := rds1 r
    cases hx : lstOf S x with
    | none => rw [hx] at e; cases e
    | some xs =>
      rw [hx, Option.bind_some] at e
      cases hb : blsP xs with
      | none => rw [hb] at e; cases e
      | some bs =>
        rw [hb] at e
        cases e
        obtain ⟨a, ws, rfl, ha, r2⟩ := lst_ok hS h hx
        have := blsP_ok hb r2
        subst this
        exact cr_any hc pins s σ H _ us Q I rv ⟨a, bs, rfl, .inl ha, q.same hS (.bl _)⟩
  · cases e
theorem all_ok {X : Cx} (hc : X.calm = true) : BR X (.builtin "all") bAll := by
  intro pins s σ H B S ds d S' vs us Q I hS r rv e q
  unfold bAll at e
  split at e
  · rename_i x
    obtain ⟨v, rfl, h⟩ := rds1 r
    cases hx : lstOf S x with
    | none => rw [hx] at e; cases e
    | some xs =>
      rw [hx, Option.bind_some] at e
      cases hb : blsP xs with
      | none => rw [hb] at e; cases e
      | some bs =>
        rw [hb] at e
        cases e
        obtain ⟨a, ws, rfl, ha, r2⟩ := lst_ok hS h hx
        have := blsP_ok hb r2
        subst this
        exact cr_all hc pins s σ H _ us Q I rv ⟨a, bs, rfl, .inl ha, q.same hS (.bl _)⟩
  · cases e

/-! ### the built-ins by name -/
structure BK (X : Cx) : Prop where
  calm : X.calm = true
  gd : X.A.guards = some []
  hu : X.A.units + 65 < cLine
  sys : NoSys X
def bltF (bx : Bool) (x : Str) : Option BF :=
  if x = "len" then some bLen else if x = "int" then some bInt else if x = "str" then some bStr else if x = "max" then some bMax else if x = "min" then some bMin else
  if x = "list" then some (bList bx) else if x = "tuple" then some bTuple else if x = "isinstance" then some bIsi else if x = "repr" then some bRepr else
  if x = "any" then some bAny else if x = "all" then some bAll else none
/-- the value that a built-in's name has -/
def IsB (v : Value) : Prop := (∃ id, v = .builtin id) ∨ ∃ T, v = .type T
theorem blt_ok {X : Cx} (h : BK X) {bx : Bool} {x : Str} {f : BF} (e : bltF bx x = some f) : ∃ v, bootBuiltins x = some v ∧ IsB v ∧ x ≠ "__name__" ∧ (x == ("__debug__" : Str)) = false ∧ BR X v f := by
  unfold bltF at e
  repeat' split at e
  all_goals first | (rename_i hx; cases e; subst hx) | (cases e)
  case _ => exact ⟨.builtin "len", by decide +kernel, .inl ⟨_, rfl⟩, by decide, by decide, len_ok⟩
  case _ => exact ⟨.type "int", by decide +kernel, .inr ⟨_, rfl⟩, by decide, by decide, int_ok⟩
  case _ => exact ⟨.type "str", by decide +kernel, .inr ⟨_, rfl⟩, by decide, by decide, str_ok⟩
  case _ => exact ⟨.builtin "max", by decide +kernel, .inl ⟨_, rfl⟩, by decide, by decide, max_ok h.calm⟩
  case _ => exact ⟨.builtin "min", by decide +kernel, .inl ⟨_, rfl⟩, by decide, by decide, min_ok h.calm⟩
  case _ => exact ⟨.type "list", by decide +kernel, .inr ⟨_, rfl⟩, by decide, by decide, list_ok bx⟩
  case _ => exact ⟨.type "tuple", by decide +kernel, .inr ⟨_, rfl⟩, by decide, by decide, tuple_ok⟩
  case _ => exact ⟨.builtin "isinstance", by decide +kernel, .inl ⟨_, rfl⟩, by decide, by decide, isi_ok⟩
  case _ => exact ⟨.builtin "repr", by decide +kernel, .inl ⟨_, rfl⟩, by decide, by decide, repr_ok h.gd h.hu h.sys⟩
  case _ => exact ⟨.builtin "any", by decide +kernel, .inl ⟨_, rfl⟩, by decide, by decide, any_ok h.calm⟩
  case _ => exact ⟨.builtin "all", by decide +kernel, .inl ⟨_, rfl⟩, by decide, by decide, all_ok h.calm⟩
/-- built-in classes as values -/
def tyF (x : Str) : Option Tn :=
  if x = "int" then some .int else if x = "bool" then some .bl else if x = "str" then some .str else if x = "list" then some .lst else if x = "tuple" then some .tup else if x = "dict" then some .dct else none
theorem ty_ok {x : Str} {t : Tn} (e : tyF x = some t) : bootBuiltins x = some (.type t.nm) ∧ x ≠ "__name__" ∧ (x == ("__debug__" : Str)) = false := by
  unfold tyF at e
  repeat' split at e
  all_goals first | (rename_i hx; cases e; subst hx; exact ⟨by decide +kernel, by decide, by decide⟩) | (cases e)

/-! ### methods -/
abbrev MF := Store → D → List D → Option (D × Store)
/-- a method of the built-in class T by values -/
def MtS (X : Cx) (T : Tn) (name : Str) (f : MF) : Prop := ∃ id, PlainAttrs T.nm ∧ Slot T.nm name id ∧ typeOf (.builtin id) = pure (.type "method_descriptor") ∧
  ∀ (pins : List (Addr × Obj)) (s : Shared) (σ : St) (H : Hp) (B : BT) (S : Store) (dx : D) (ds : List D) (d : D) (S' : Store) (vx : V) (vs : List V) (v : Value) (us : List Value) (Q : VK),
    Inv X pins σ H s → SR X.K X.mg B H S → RD X.K X.mg B H dx vx → RDs X.K X.mg B H ds vs → RelV vx v → Vals vs us → f S dx ds = some (d, S') → Post X.K X.mg B H d S' Q →
    wpAny (model X.prog X.w) X.A (call (.builtin id) (v :: us)) (EP X pins σ Q) X.xe s
def mAppend : MF := fun S x ds => match x, ds with
  | .ref n, [y] => (match S[n]? with
    | some (.lst xs) => if xs.length < sizeLine then some (.p .none, S.set n (.lst (xs ++ [y]))) else none
    | _ => none)
  | _, _ => none
theorem append_ok {X : Cx} : MtS X .lst "append" mAppend := by
  refine ⟨_, PySem.F.plainAttrs_list, PySem.F.slot_list_append, PySem.F.type_list_append, ?_⟩
  intro pins s σ H B S dx ds d S' vx vs v us Q I hS rx r rvx rv e q
  unfold mAppend at e
  split at e
  · rename_i n y
    obtain ⟨a, ha, rfl⟩ := rx
    obtain ⟨w, rfl, ry⟩ := rds1 r
    split at e
    · rename_i xs hx
      split at e
      · rename_i hz
        cases e
        obtain ⟨ws, h1, h2⟩ := hS.cell n _ a hx ha
        refine mt_append pins s σ H _ _ v us Q I rvx rv ⟨a, ws, w, rfl, rfl, h1, by rw [← h2.length]; exact hz, ?_⟩
        have x := hS.ext_write ha (.lst (ws ++ [w]))
        exact q B _ .non x (hS.write ha ⟨_, upd_same, RDs.ext x (h2.append (.cons ry .nil))⟩) .non
      · cases e
    · cases e
  · cases e
def mPop : MF := fun S x ds => match x, ds with
  | .ref n, [] => (match S[n]? with
    | some (.lst xs) => (xs[xs.length - 1]?).map fun y => (y, S.set n (.lst xs.dropLast))
    | _ => none)
  | .ref n, [.p (.int i)] => (match S[n]? with
    | some (.lst xs) => if -(2 ^ 63) ≤ i ∧ i < 2 ^ 63 then (match seqIndex? i xs.length with
      | some k => (xs[k]?).map fun y => (y, S.set n (.lst (xs.eraseIdx k)))
      | none => none) else none
    | _ => none)
  | _, _ => none
theorem RDs.dropLast {K : PySem.W.Frag} {mg : Mg} {B : BT} {H : Hp} {ds : List D} {vs : List V} (h : RDs K mg B H ds vs) : RDs K mg B H ds.dropLast vs.dropLast := by
  rw [List.dropLast_eq_take, List.dropLast_eq_take, h.length]
  exact h.take _
theorem RDs.erase {K : PySem.W.Frag} {mg : Mg} {B : BT} {H : Hp} : ∀ {ds : List D} {vs : List V} (i : Nat), RDs K mg B H ds vs → RDs K mg B H (ds.eraseIdx i) (vs.eraseIdx i)
  | _, _, _, .nil => .nil
  | _, _, 0, .cons _ t => t
  | _, _, i + 1, .cons q t => .cons q (RDs.erase i t)
theorem pop_ok {X : Cx} : MtS X .lst "pop" mPop := by
  refine ⟨_, PySem.F.plainAttrs_list, PySem.F.slot_list_pop, PySem.F.type_list_pop, ?_⟩
  intro pins s σ H B S dx ds d S' vx vs v us Q I hS rx r rvx rv e q
  unfold mPop at e
  split at e
  · rename_i n
    obtain ⟨a, ha, rfl⟩ := rx
    obtain rfl := rds_nil r
    split at e
    · rename_i xs hx
      obtain ⟨ws, h1, h2⟩ := hS.cell n _ a hx ha
      cases hy : xs[xs.length - 1]? with
      | none => rw [hy] at e; cases e
      | some y =>
        rw [hy] at e
        cases e
        obtain ⟨w, hw, ry⟩ := h2.at hy
        refine mt_pop pins s σ H _ _ v us Q I rvx rv ⟨a, ws, w, rfl, rfl, h1, by rw [← h2.length]; exact hw, ?_⟩
        have x := hS.ext_write ha (.lst ws.dropLast)
        exact q B _ w x (hS.write ha ⟨_, upd_same, RDs.ext x h2.dropLast⟩) (RD.ext x ry)
    · cases e
  · rename_i n i
    obtain ⟨a, ha, rfl⟩ := rx
    obtain ⟨w0, rfl, ri⟩ := rds1 r
    obtain rfl := dq_int ri
    split at e
    · rename_i xs hx
      obtain ⟨ws, h1, h2⟩ := hS.cell n _ a hx ha
      split at e
      · rename_i hc
        split at e
        · rename_i k hk
          cases hy : xs[k]? with
          | none => rw [hy] at e; cases e
          | some y =>
            rw [hy] at e
            cases e
            obtain ⟨w, hw, ry⟩ := h2.at hy
            refine mt_popAt pins s σ H _ _ v us Q I rvx rv ⟨a, ws, i, k, w, rfl, rfl, h1, hc.1, hc.2, by rw [← h2.length]; exact hk, hw, ?_⟩
            have x := hS.ext_write ha (.lst (ws.eraseIdx k))
            exact q B _ w x (hS.write ha ⟨_, upd_same, RDs.ext x (h2.erase k)⟩) (RD.ext x ry)
        · cases e
      · cases e
    · cases e
  · cases e
def mUpper : MF := fun S x ds => match x, ds with
  | .p (.str z), [] => if z.length ≤ 5592405 then some (.p (.str (Txt.upper z)), S) else none
  | _, _ => none
theorem upper_ok {X : Cx} : MtS X .str "upper" mUpper := by
  refine ⟨_, PySem.F.plainAttrs_str, PySem.F.slot_str_upper, PySem.F.type_str_upper, ?_⟩
  intro pins s σ H B S dx ds d S' vx vs v us Q I hS rx r rvx rv e q
  unfold mUpper at e
  split at e
  · obtain rfl := dq_str rx
    obtain rfl := rds_nil r
    split at e
    · rename_i hz
      cases e
      exact mt_upper pins s σ H _ _ v us Q I rvx rv ⟨_, rfl, rfl, hz, q.same hS (.str _)⟩
    · cases e
  · cases e
def mGet : MF := fun S x ds => match ds with
  | [.p k] => (match dctOf S x, keyP k with
    | some kvs, some k' => some ((valD kvs k').getD (.p .none), S)
    | _, _ => none)
  | [.p k, z] => (match dctOf S x, keyP k with
    | some kvs, some k' => some ((valD kvs k').getD z, S)
    | _, _ => none)
  | _ => none
theorem kv_dq {K : PySem.W.Frag} {B : BT} {H : Hp} {k : Key} {x : V} (h : Dq K B H x (kP k)) : x = kV k := by
  cases k with
  | inl i => exact dq_int h
  | inr s => exact dq_str h
theorem get_ok {X : Cx} (hu : X.A.units + 1 < cLine) : MtS X .dct "get" mGet := by
  refine ⟨_, PySem.F.plainAttrs_dict, PySem.F.slot_dict_get, PySem.F.type_dict_get, ?_⟩
  intro pins s σ H B S dx ds d S' vx vs v us Q I hS rx r rvx rv e q
  unfold mGet at e
  split at e
  · obtain ⟨w, rfl, ry⟩ := rds1 r
    split at e
    · rename_i kvs k' hk hk'
      cases e
      have := keyP_eq hk'
      subst this
      obtain rfl := kv_dq ry
      obtain ⟨a, ws, rfl, ha, rel⟩ := dct_ok hS rx hk
      cases rvx
      obtain ⟨u, rfl, ru⟩ := vals1 rv
      have g : DGet H a (kV k') (valV ws k') := .inl ⟨ws, k', ha, rfl, rfl⟩
      refine d_get1 hu I g ru fun w' s' I' rw' => ⟨_, H, I', rw', ?_⟩
      rcases rel.val k' with ⟨h1, h2⟩ | ⟨d', v', h1, h2, h3⟩
      · rw [h1] at q
        rw [h2]
        exact q.same hS (.non)
      · rw [h1] at q
        rw [h2]
        exact q.same hS h3
    · cases e
  · rename_i z
    obtain ⟨w, w2, rfl, ry, rz⟩ := rds2 r
    split at e
    · rename_i kvs k' hk hk'
      cases e
      have := keyP_eq hk'
      subst this
      obtain rfl := kv_dq ry
      obtain ⟨a, ws, rfl, ha, rel⟩ := dct_ok hS rx hk
      cases rvx
      obtain ⟨u, u2, rfl, ru, ru2⟩ := vals2 rv
      have g : DGet H a (kV k') (valV ws k') := .inl ⟨ws, k', ha, rfl, rfl⟩
      refine d_get2 hu I g ru ru2 fun w' s' I' rw' => ⟨_, H, I', rw', ?_⟩
      rcases rel.val k' with ⟨h1, h2⟩ | ⟨d', v', h1, h2, h3⟩
      · rw [h1] at q
        rw [h2]
        exact q.same hS rz
      · rw [h1] at q
        rw [h2]
        exact q.same hS h3
    · cases e
  · cases e
def metF (t : Tn) (x : Str) : Option MF := match t with
  | .lst => if x = "append" then some mAppend else if x = "pop" then some mPop else none
  | .str => if x = "upper" then some mUpper else none
  | .dct => if x = "get" then some mGet else none
  | _ => none
theorem met_ok {X : Cx} (h : BK X) {t : Tn} {x : Str} {f : MF} (e : metF t x = some f) : MtS X t x f := by
  have hu : X.A.units + 1 < cLine := by have := h.hu; omega
  cases t <;> simp only [metF] at e
  all_goals repeat' split at e
  all_goals first | (rename_i hx; cases e; subst hx) | (cases e)
  · exact upper_ok
  · exact append_ok
  · exact pop_ok
  · exact get_ok hu
end PI
set_option maxHeartbeats 1000000
/-! Own text: what a piece of syntax means (M ..), and that the model does it: expressions. -/
namespace PI
open PySem PySem.Spec L2
open PyProof.Rows hiding St

/-! ### meanings put together -/
def mC (d : D) : M := fun _ S => some (d, S)
def mV (i : Nat) : M := fun ev S => match ev[i]? with
  | some (some d) => some (d, S)
  | _ => none
def mNo : M := fun _ _ => none
def mBin (bx : Bool) (op : Operator) (a b : M) : M := fun ev S => (a ev S).bind fun r => (b ev r.2).bind fun t => binI bx op t.2 r.1 t.1
def mCmp (op : CmpOp) (a b : M) : M := fun ev S => (a ev S).bind fun r => (b ev r.2).bind fun t => (cmpI op t.2 r.1 t.1).map fun c => (.p (.bool c), t.2)
def mChain (op op' : CmpOp) (a b c : M) : M := fun ev S => (a ev S).bind fun r => (b ev r.2).bind fun t => (cmpI op t.2 r.1 t.1).bind fun k =>
  if k then (c ev t.2).bind fun q => (cmpI op' q.2 t.1 q.1).map fun z => (.p (.bool z), q.2) else some (.p (.bool false), t.2)
def mNot (a : M) : M := fun ev S => (a ev S).bind fun r => (isTru r.1).map fun b => (.p (.bool (!b)), r.2)
def mAnd (a b : M) : M := fun ev S => (a ev S).bind fun r => (isTru r.1).bind fun k => if k then b ev r.2 else some (.p (.bool false), r.2)
def mOr (a b : M) : M := fun ev S => (a ev S).bind fun r => (isTru r.1).bind fun k => if k then some (.p (.bool true), r.2) else b ev r.2
def mIf (c a b : M) : M := fun ev S => (c ev S).bind fun r => (isTru r.1).bind fun k => if k then a ev r.2 else b ev r.2
def mNeg (a : M) : M := fun ev S => (a ev S).bind fun r => match r.1 with
  | .p (.int i) => some (.p (.int (-i)), r.2)
  | _ => none
def mNil : Ms := fun _ S => some ([], S)
def mCons (a : M) (b : Ms) : Ms := fun ev S => (a ev S).bind fun r => (b ev r.2).map fun t => (r.1 :: t.1, t.2)
def mTup (a : Ms) : M := fun ev S => (a ev S).bind fun r => (allP r.1).bind fun xs => mkT xs r.2
def mLst (bx : Bool) (a : Ms) : M := fun ev S => (a ev S).bind fun r => mkL bx r.1 r.2
def mIx (a b : M) : M := fun ev S => (a ev S).bind fun r => (b ev r.2).bind fun t => (ixI t.2 r.1 t.1).map fun d => (d, t.2)
abbrev MO := EnvI → Store → Option (Option Int × Store)
def mONone : MO := fun _ S => some (none, S)
def mOSome (a : M) : MO := fun ev S => (a ev S).bind fun r => match r.1 with
  | .p (.int i) => some (some i, r.2)
  | _ => none
def mSl (bx : Bool) (a : M) (lo hi : MO) : M := fun ev S => (a ev S).bind fun r => (lo ev r.2).bind fun l => (hi ev l.2).bind fun h => slI bx h.2 r.1 l.1 h.1
/-- x[::-1] -/
def mRev (bx : Bool) (a : M) : M := fun ev S => (a ev S).bind fun r => (lstOf r.2 r.1).bind fun xs => mkL bx xs.reverse r.2
def mBlt (f : BF) (a : Ms) : M := fun ev S => (a ev S).bind fun r => f r.2 r.1
def mMet (x : Str) (o : M) (a : Ms) : M := fun ev S => (o ev S).bind fun r => (tnOf r.2 r.1).bind fun t => (metF t x).bind fun f => (a ev r.2).bind fun q => f q.2 r.1 q.1
def permD {α : Type} (l : List α) : List Nat → Option (List α)
  | [] => some []
  | i :: r => match l[i]?, permD l r with
    | some x, some xs => some (x :: xs)
    | _, _ => none
def mCall (cf : BF) (ix : List Nat) (a k : Ms) : M := fun ev S => (a ev S).bind fun r => (k ev r.2).bind fun t => (permD (r.1 ++ t.1) ix).bind fun full => cf t.2 full

/-! ### the model does it -/
section
variable (X : Cx)
/-- behind an expression -/
def RM (pins : List (Addr × Obj)) (σ : St) (B : BT) (H : Hp) (d : D) (S' : Store) (u : Value) (s' : Shared) : Prop :=
  ∃ v H' B', Inv X pins σ H' s' ∧ RelV v u ∧ Ext B H B' H' ∧ SR X.K X.mg B' H' S' ∧ RD X.K X.mg B' H' d v
def RMs (pins : List (Addr × Obj)) (σ : St) (B : BT) (H : Hp) (ds : List D) (S' : Store) (us : List Value) (s' : Shared) : Prop :=
  ∃ vs H' B', Inv X pins σ H' s' ∧ Vals vs us ∧ Ext B H B' H' ∧ SR X.K X.mg B' H' S' ∧ RDs X.K X.mg B' H' ds vs
def RT (pins : List (Addr × Obj)) (σ : St) (B : BT) (H : Hp) (k : Bool) (S' : Store) (b : Bool) (s' : Shared) : Prop :=
  b = k ∧ ∃ H' B', Inv X pins σ H' s' ∧ Ext B H B' H' ∧ SR X.K X.mg B' H' S'
def EM (e : Expr) (m : M) : Prop := ∀ (pins : List (Addr × Obj)) (s : Shared) (σ : St) (H : Hp) (B : BT) (ev : EnvI) (S : Store) (d : D) (S' : Store), Inv X pins σ H s → SR X.K X.mg B H S → ER X.K X.mg B H ev σ → m ev S = some (d, S') →
  wpAny (model X.prog X.w) X.A (eval e X.env) (RM X pins σ B H d S') X.xe s
def TM (e : Expr) (m : M) : Prop := ∀ (pins : List (Addr × Obj)) (s : Shared) (σ : St) (H : Hp) (B : BT) (ev : EnvI) (S : Store) (d : D) (S' : Store) (k : Bool), Inv X pins σ H s → SR X.K X.mg B H S → ER X.K X.mg B H ev σ → m ev S = some (d, S') → isTru d = some k →
  wpAny (model X.prog X.w) X.A (isTrue e X.env (eval e X.env)) (RT X pins σ B H k S') X.xe s
def AM (es : List Expr) (m : Ms) : Prop := ∀ (pos : Pos) (pins : List (Addr × Obj)) (s : Shared) (σ : St) (H : Hp) (B : BT) (ev : EnvI) (S : Store) (ds : List D) (S' : Store), Inv X pins σ H s → SR X.K X.mg B H S → ER X.K X.mg B H ev σ → m ev S = some (ds, S') →
  wpAny (model X.prog X.w) X.A (spliced (backTo pos (starEach es X.env))) (RMs X pins σ B H ds S') X.xe s
def KM (kws : List Keyword) (m : Ms) : Prop := ∀ (pos : Pos) (pins : List (Addr × Obj)) (s : Shared) (σ : St) (H : Hp) (B : BT) (ev : EnvI) (S : Store) (ds : List D) (S' : Store), Inv X pins σ H s → SR X.K X.mg B H S → ER X.K X.mg B H ev σ → m ev S = some (ds, S') →
  wpAny (model X.prog X.w) X.A (evalAll ((backToKw pos (keywordEach kws X.env)).map (·.2))) (RMs X pins σ B H ds S') X.xe s
end

section
variable {X : Cx} {a b c e : Expr} {ma mb mc : M} {pos : Pos}
theorem RM.post {pins : List (Addr × Obj)} {σ : St} {B B1 : BT} {H H1 : Hp} {d : D} {S' : Store} {u : Value} {s' : Shared} (x : Ext B H B1 H1) (h : RM X pins σ B1 H1 d S' u s') : RM X pins σ B H d S' u s' := by
  obtain ⟨v, H', B', h1, h2, h3, h4, h5⟩ := h
  exact ⟨v, H', B', h1, h2, x.trans h3, h4, h5⟩
/-- what a value must be behind: for the rules that speak of Post -/
def QM (X : Cx) (B : BT) (H : Hp) (d : D) (S' : Store) : VK := fun v H' => ∃ B', Ext B H B' H' ∧ SR X.K X.mg B' H' S' ∧ RD X.K X.mg B' H' d v
theorem post_QM {B : BT} {H : Hp} {d : D} {S' : Store} : Post X.K X.mg B H d S' (QM X B H d S') := fun B' _ _ x1 x2 x3 => ⟨B', x1, x2, x3⟩
theorem RM.of_EP {pins : List (Addr × Obj)} {σ : St} {B B1 : BT} {H H1 : Hp} {d : D} {S' : Store} {u : Value} {s' : Shared} (x : Ext B H B1 H1) (h : EP X pins σ (QM X B1 H1 d S') u s') : RM X pins σ B H d S' u s' := by
  obtain ⟨v, H', h1, h2, B', h3, h4, h5⟩ := h
  exact ⟨v, H', B', h1, h2, x.trans h3, h4, h5⟩
/-- EM as the layer's PE, and back -/
theorem EM.pe (h : EM X e ma) : PE X e (tM X.K X.mg ma) := ⟨fun pins s σ H Q I ⟨B, ev, S, d, S', hS, hE, em, q⟩ =>
  thn (h pins s σ H B ev S d S' I hS hE em) fun u s1 ⟨v, H1, B1, I1, r1, x1, S1, d1⟩ => ⟨v, H1, I1, r1, q B1 H1 v x1 S1 d1⟩⟩
theorem EM.of_pe {t : TE} (h : PE X e t) (g : ∀ σ H B ev S d S', SR X.K X.mg B H S → ER X.K X.mg B H ev σ → ma ev S = some (d, S') → t σ H (QM X B H d S')) : EM X e ma :=
  fun pins s σ H B ev S d S' I hS hE em => thn (h.run pins s σ H _ I (g σ H B ev S d S' hS hE em)) fun u s1 q => RM.of_EP hS.refl q
theorem RT.of {pins : List (Addr × Obj)} {σ : St} {B B1 : BT} {H H1 : Hp} {k : Bool} {S' : Store} {u : Bool} {s' : Shared} (x : Ext B H B1 H1) (h : RT X pins σ B1 H1 k S' u s') : RT X pins σ B H k S' u s' := by
  obtain ⟨h0, H', B', h1, h3, h4⟩ := h
  exact ⟨h0, H', B', h1, x.trans h3, h4⟩

theorem bind_some {α β : Type} {x : Option α} {f : α → Option β} {b : β} (h : x.bind f = some b) : ∃ a, x = some a ∧ f a = some b := by
  cases x with
  | none => cases h
  | some a => exact ⟨a, rfl, h⟩
theorem map_some {α β : Type} {x : Option α} {f : α → β} {b : β} (h : x.map f = some b) : ∃ a, x = some a ∧ f a = b := by
  cases x with
  | none => cases h
  | some a => exact ⟨a, rfl, Option.some.inj h⟩

theorem em_const {d : D} {v : V} (h : PE X e (tC v)) (r : ∀ B H, RD X.K X.mg B H d v) : EM X e (mC d) :=
  EM.of_pe h fun σ H B ev S d' S' hS hE em => by
    cases em
    exact ⟨B, hS.refl, hS, r B H⟩
theorem em_var {i : Nat} {x : Str} (hN : X.N[i]? = some x) (hv : Vis X.env.scope x) (hd : (x == ("__debug__" : Str)) = false) (hcd : (x == ("__classdict__" : Str)) = false) : EM X (.Name x pos) (mV i) :=
  EM.of_pe (pe_var hN hv hd hcd) fun σ H B ev S d S' hS hE em => by
    unfold mV at em
    split at em
    · rename_i d' h
      cases em
      obtain ⟨v, h1, h2⟩ := hE.at_ i _ h
      exact ⟨v, h1, B, hS.refl, hS, h2⟩
    · cases em
theorem binI_ok (bx : Bool) (op : Operator) {pins : List (Addr × Obj)} {σ : St} {H : Hp} {s : Shared} {B : BT} {S S' : Store} {d dx dy : D} {vx vy : V} {v u : Value} {Q : VK}
    (hS : SR X.K X.mg B H S) (I : Inv X pins σ H s) (rvx : RelV vx v) (rvy : RelV vy u) (rx : RD X.K X.mg B H dx vx) (ry : RD X.K X.mg B H dy vy)
    (e : binI bx op S dx dy = some (d, S')) (q : Post X.K X.mg B H d S' Q) : wpAny (model X.prog X.w) X.A (binaryOp op v u) (EP X pins σ Q) X.xe s := by
  unfold binI at e
  split at e
  · obtain rfl := dq_int rx
    obtain rfl := dq_int ry
    obtain ⟨k, h1, h2⟩ := map_some e
    cases h2
    exact intOp_ok op I rvx rvy h1 (q.same hS (.int _))
  · exact seqOp_ok bx op hS I rvx rvy rx ry e q
/-- two expressions in a row -/
theorem two (ha : EM X a ma) (hb : EM X b mb) {pins : List (Addr × Obj)} {s : Shared} {σ : St} {H : Hp} {B : BT} {ev : EnvI} {S S1 S2 : Store} {x y : D} (I : Inv X pins σ H s) (hS : SR X.K X.mg B H S) (hE : ER X.K X.mg B H ev σ)
    (e1 : ma ev S = some (x, S1)) (e2 : mb ev S1 = some (y, S2)) {α : Type} {Q : α → Shared → Prop} {f : Value → Value → Sem α}
    (hf : ∀ v u s2 vx vy H2 B2, Inv X pins σ H2 s2 → RelV vx v → RelV vy u → Ext B H B2 H2 → SR X.K X.mg B2 H2 S2 → RD X.K X.mg B2 H2 x vx → RD X.K X.mg B2 H2 y vy → wpAny (model X.prog X.w) X.A (f v u) Q X.xe s2) :
    wpAny (model X.prog X.w) X.A (eval a X.env) (fun v s₁ => wpAny (model X.prog X.w) X.A (eval b X.env) (fun u s₂ => wpAny (model X.prog X.w) X.A (f v u) Q X.xe s₂) X.xe s₁) X.xe s := by
  refine thn (ha pins s σ H B ev S x S1 I hS hE e1) fun v s1 ⟨vx, H1, B1, I1, r1, x1, hS1, d1⟩ => ?_
  refine thn (hb pins s1 σ H1 B1 ev S1 y S2 I1 hS1 (hE.ext x1) e2) fun u s2 ⟨vy, H2, B2, I2, r2, x2, hS2, d2⟩ => ?_
  exact hf v u s2 vx vy H2 B2 I2 r1 r2 (x1.trans x2) hS2 (RD.ext x2 d1) d2
theorem em_bin (bx : Bool) {op : Operator} (ha : EM X a ma) (hb : EM X b mb) : EM X (.BinOp a op b pos) (mBin bx op ma mb) := by
  intro pins s σ H B ev S d S' I hS hE em
  obtain ⟨⟨x, S1⟩, e1, em⟩ := bind_some em
  obtain ⟨⟨y, S2⟩, e2, em⟩ := bind_some em
  refine wpAny_BinOp (two ha hb I hS hE e1 e2 fun v u s2 vx vy H2 B2 I2 r1 r2 x2 hS2 d1 d2 => ?_)
  exact thn (binI_ok bx op hS2 I2 r1 r2 d1 d2 em post_QM) fun u s3 q => RM.of_EP x2 q
theorem isTru_p {d : D} {k : Bool} (h : isTru d = some k) : d = .p (.bool k) := by
  cases d with
  | p x => cases x <;> simp [isTru] at h; subst h; rfl
  | _ => cases h
theorem em_cmp (K : BK X) {op : CmpOp} (ha : EM X a ma) (hb : EM X b mb) (hm : behindInMarks op b = false) : EM X (.Compare a [op] [b] pos) (mCmp op ma mb) := by
  intro pins s σ H B ev S d S' I hS hE em
  obtain ⟨⟨x, S1⟩, e1, em⟩ := bind_some em
  obtain ⟨⟨y, S2⟩, e2, em⟩ := bind_some em
  obtain ⟨k, e3, em⟩ := map_some em
  cases em
  refine wpAny_Compare1 (two ha hb I hS hE e1 e2 fun v u s2 vx vy H2 B2 I2 r1 r2 x2 hS2 d1 d2 => ?_) hm
  exact thn (cmpI_ok op K.hu K.sys hS2 I2 r1 r2 d1 d2 e3 (Q := QM X B2 H2 (.p (.bool k)) S2) ⟨B2, hS2.refl, hS2, .bl k⟩) fun u s3 q => RM.of_EP x2 q
theorem tm_cmp (K : BK X) {op : CmpOp} (ha : EM X a ma) (hb : EM X b mb) (hm : behindInMarks op b = false) : TM X (.Compare a [op] [b] pos) (mCmp op ma mb) := by
  intro pins s σ H B ev S d S' k I hS hE em hk
  obtain rfl := isTru_p hk
  obtain ⟨⟨x, S1⟩, e1, em⟩ := bind_some em
  obtain ⟨⟨y, S2⟩, e2, em⟩ := bind_some em
  obtain ⟨k', e3, em⟩ := map_some em
  cases em
  refine wpAny_isTrue_Compare1 (thn (ha pins s σ H B ev S x S1 I hS hE e1) fun v s1 ⟨vx, H1, B1, I1, r1, x1, hS1, d1⟩ => thn (hb pins s1 σ H1 B1 ev S1 y S2 I1 hS1 (hE.ext x1) e2) fun u s2 ⟨vy, H2, B2, I2, r2, x2, hS2, d2⟩ =>
    thn (cmpI_ok op K.hu K.sys hS2 I2 r1 r2 (RD.ext x2 d1) d2 e3 (Q := QM X B2 H2 (.p (.bool k)) S2) ⟨B2, hS2.refl, hS2, .bl k⟩) fun c s3 q => ?_) hm
  obtain ⟨w, H3, I3, r3, B3, x3, hS3, d3⟩ := q
  cases d3
  cases r3
  exact wpAny_truthy_bool ⟨rfl, H3, B3, I3, (x1.trans x2).trans x3, hS3⟩
/-- a value that is a truth value, as a test -/
theorem tm_val (h : EM X e ma) (he : ∀ whole, isTrue e X.env whole = (do let v ← whole; standAt e.pos; holding [v] (truthy v))) : TM X e ma := by
  intro pins s σ H B ev S d S' k I hS hE em hk
  obtain rfl := isTru_p hk
  refine isTrue_plain (thn (h pins s σ H B ev S _ S' I hS hE em) fun v s1 ⟨x, H1, B1, I1, r1, x1, hS1, d1⟩ => ?_) (he _)
  cases d1
  cases r1
  exact wpAny_truthy_bool ⟨rfl, H1, B1, I1, x1, hS1⟩

theorem cmp_at (K : BK X) {op : CmpOp} {pins : List (Addr × Obj)} {σ : St} {H H2 : Hp} {s : Shared} {B B2 : BT} {S2 : Store} {x y : D} {vx vy : V} {v u : Value} {k : Bool} (x2 : Ext B H B2 H2) (hS : SR X.K X.mg B2 H2 S2) (I : Inv X pins σ H2 s)
    (r1 : RelV vx v) (r2 : RelV vy u) (d1 : RD X.K X.mg B2 H2 x vx) (d2 : RD X.K X.mg B2 H2 y vy) (e : cmpI op S2 x y = some k) :
    wpAny (model X.prog X.w) X.A (compareOp op v u) (fun c s3 => c = .bool k ∧ ∃ H3 B3, Inv X pins σ H3 s3 ∧ Ext B H B3 H3 ∧ Ext B2 H2 B3 H3 ∧ SR X.K X.mg B3 H3 S2) X.xe s := by
  refine thn (cmpI_ok op K.hu K.sys hS I r1 r2 d1 d2 e (Q := QM X B2 H2 (.p (.bool k)) S2) ⟨B2, hS.refl, hS, .bl k⟩) fun c s3 q => ?_
  obtain ⟨w, H3, I3, r3, B3, x3, hS3, d3⟩ := q
  cases d3
  cases r3
  exact ⟨rfl, H3, B3, I3, x2.trans x3, x3, hS3⟩
theorem em_chain (K : BK X) {op op' : CmpOp} (ha : EM X a ma) (hb : EM X b mb) (hc : EM X c mc) (hm : lastMarks [op, op'] [b, c] = false) : EM X (.Compare a [op, op'] [b, c] pos) (mChain op op' ma mb mc) := by
  intro pins s σ H B ev S d S' I hS hE em
  obtain ⟨⟨x, S1⟩, e1, em⟩ := bind_some em
  obtain ⟨⟨y, S2⟩, e2, em⟩ := bind_some em
  obtain ⟨k, e3, em⟩ := bind_some em
  refine Compare_chain (thn (ha pins s σ H B ev S x S1 I hS hE e1) fun v s1 ⟨vx, H1, B1, I1, r1, x1, hS1, d1⟩ => chain_link (thn (hb pins s1 σ H1 B1 ev S1 y S2 I1 hS1 (hE.ext x1) e2) fun u s2 ⟨vy, H2, B2, I2, r2, x2, hS2, d2⟩ =>
    thn (cmp_at K (x1.trans x2) hS2 I2 r1 r2 (RD.ext x2 d1) d2 e3) fun w s3 ⟨hw, H3, B3, I3, x3, y3, hS3⟩ => ?_)) hm
  subst hw
  refine wpAny_truthy_bool ?_
  cases k with
  | false =>
    cases em
    exact ite_ff ⟨.bl false, H3, B3, I3, rfl, x3, hS3, .bl false⟩
  | true =>
    obtain ⟨⟨z, S4⟩, e4, em⟩ := bind_some em
    obtain ⟨k2, e5, em⟩ := map_some em
    cases em
    refine ite_tt (chain_last (thn (hc pins s3 σ H3 B3 ev S2 z S4 I3 hS3 (hE.ext x3) e4) fun w' s4 ⟨vz, H4, B4, I4, r4, x4, hS4, d4⟩ => ?_))
    refine thn (cmp_at K (x3.trans x4) hS4 I4 r2 r4 (RD.ext x4 (RD.ext y3 d2)) d4 e5) fun w s5 ⟨hw, H5, B5, I5, x5, _, hS5⟩ => ?_
    subst hw
    exact ⟨.bl k2, H5, B5, I5, rfl, x5, hS5, .bl k2⟩
theorem tm_chain (K : BK X) {op op' : CmpOp} (ha : EM X a ma) (hb : EM X b mb) (hc : EM X c mc) (hm : lastMarks [op, op'] [b, c] = false) : TM X (.Compare a [op, op'] [b, c] pos) (mChain op op' ma mb mc) := by
  intro pins s σ H B ev S d S' kk I hS hE em hk
  obtain rfl := isTru_p hk
  obtain ⟨⟨x, S1⟩, e1, em⟩ := bind_some em
  obtain ⟨⟨y, S2⟩, e2, em⟩ := bind_some em
  obtain ⟨k, e3, em⟩ := bind_some em
  refine isTrue_chain (thn (ha pins s σ H B ev S x S1 I hS hE e1) fun v s1 ⟨vx, H1, B1, I1, r1, x1, hS1, d1⟩ => test_link (thn (hb pins s1 σ H1 B1 ev S1 y S2 I1 hS1 (hE.ext x1) e2) fun u s2 ⟨vy, H2, B2, I2, r2, x2, hS2, d2⟩ =>
    thn (cmp_at K (x1.trans x2) hS2 I2 r1 r2 (RD.ext x2 d1) d2 e3) fun w s3 ⟨hw, H3, B3, I3, x3, y3, hS3⟩ => ?_)) hm
  subst hw
  refine wpAny_truthy_bool ?_
  cases k with
  | false =>
    simp only [Bool.false_eq_true, if_false, Option.some.injEq, Prod.mk.injEq, D.p.injEq, PyData.bool.injEq] at em
    obtain ⟨rfl, rfl⟩ := em
    exact ite_ff ⟨rfl, H3, B3, I3, x3, hS3⟩
  | true =>
    obtain ⟨⟨z, S4⟩, e4, em⟩ := bind_some em
    obtain ⟨k2, e5, em⟩ := map_some em
    cases em
    refine ite_tt (test_last (thn (hc pins s3 σ H3 B3 ev S2 z S4 I3 hS3 (hE.ext x3) e4) fun w' s4 ⟨vz, H4, B4, I4, r4, x4, hS4, d4⟩ => ?_))
    refine thn (cmp_at K (x3.trans x4) hS4 I4 r2 r4 (RD.ext x4 (RD.ext y3 d2)) d4 e5) fun w s5 ⟨hw, H5, B5, I5, x5, _, hS5⟩ => ?_
    subst hw
    exact wpAny_truthy_bool ⟨rfl, H5, B5, I5, x5, hS5⟩

/-! not, and, or, if -/
theorem em_not (ha : EM X a ma) : EM X (.UnaryOp .Not a pos) (mNot ma) :=
  EM.of_pe (pe_not ha.pe) fun σ H B ev S d S' hS hE em => by
    obtain ⟨⟨x, S1⟩, e1, em⟩ := bind_some em
    obtain ⟨k, e2, em⟩ := map_some em
    cases em
    obtain rfl := isTru_p e2
    refine ⟨B, ev, S, _, _, hS, hE, e1, fun B' H' v x1 s1 d1 => ?_⟩
    cases d1
    exact ⟨k, rfl, B', x1, s1, .bl _⟩
theorem tm_not (ha : TM X a ma) : TM X (.UnaryOp .Not a pos) (mNot ma) := by
  intro pins s σ H B ev S d S' k I hS hE em hk
  obtain ⟨⟨x, S1⟩, e1, em⟩ := bind_some em
  obtain ⟨k2, e2, em⟩ := map_some em
  cases em
  obtain rfl : (!k2) = k := by simpa [isTru] using hk
  refine isTrue_not (thn (ha pins s σ H B ev S _ _ k2 I hS hE e1 e2) fun b s1 ⟨hb, q⟩ => ?_)
  subst hb
  exact ⟨rfl, q⟩
/-- one more conjunct -/
theorem em_one {op : BoolOp} (ha : EM X a ma) : EM X (.BoolOp op [a] pos) ma :=
  EM.of_pe (pe_one ha.pe) fun σ H B ev S d S' hS hE em => ⟨B, ev, S, d, S', hS, hE, em, fun B' H' v x1 s1 d1 => ⟨B', x1, s1, d1⟩⟩
theorem em_and {rest : List Expr} (ha : EM X a ma) (hb : EM X (.BoolOp .And (b :: rest) pos) mb) : EM X (.BoolOp .And (a :: b :: rest) pos) (mAnd ma mb) :=
  EM.of_pe (pe_and ha.pe hb.pe) fun σ H B ev S d S' hS hE em => by
    obtain ⟨⟨x, S1⟩, e1, em⟩ := bind_some em
    obtain ⟨k, e2, em⟩ := bind_some em
    obtain rfl := isTru_p e2
    refine ⟨B, ev, S, _, _, hS, hE, e1, fun B' H' v x1 s1 d1 => ?_⟩
    cases d1
    refine ⟨k, rfl, ?_⟩
    cases k with
    | false =>
      cases em
      exact ⟨B', x1, s1, .bl false⟩
    | true => exact ⟨B', ev, S1, d, S', s1, hE.ext x1, em, fun B2 H2 v x2 s2 d2 => ⟨B2, x1.trans x2, s2, d2⟩⟩
theorem em_or {rest : List Expr} (ha : EM X a ma) (hb : EM X (.BoolOp .Or (b :: rest) pos) mb) : EM X (.BoolOp .Or (a :: b :: rest) pos) (mOr ma mb) :=
  EM.of_pe (pe_or ha.pe hb.pe) fun σ H B ev S d S' hS hE em => by
    obtain ⟨⟨x, S1⟩, e1, em⟩ := bind_some em
    obtain ⟨k, e2, em⟩ := bind_some em
    obtain rfl := isTru_p e2
    refine ⟨B, ev, S, _, _, hS, hE, e1, fun B' H' v x1 s1 d1 => ?_⟩
    cases d1
    refine ⟨k, rfl, ?_⟩
    cases k with
    | true =>
      cases em
      exact ⟨B', x1, s1, .bl true⟩
    | false => exact ⟨B', ev, S1, d, S', s1, hE.ext x1, em, fun B2 H2 v x2 s2 d2 => ⟨B2, x1.trans x2, s2, d2⟩⟩
/-- a conjunction as a test, whatever its whole is -/
def WM (X : Cx) (e : Expr) (m : M) : Prop := ∀ (whole : Sem Value) (pins : List (Addr × Obj)) (s : Shared) (σ : St) (H : Hp) (B : BT) (ev : EnvI) (S : Store) (d : D) (S' : Store) (k : Bool), Inv X pins σ H s → SR X.K X.mg B H S → ER X.K X.mg B H ev σ → m ev S = some (d, S') → isTru d = some k →
  wpAny (model X.prog X.w) X.A (isTrue e X.env whole) (RT X pins σ B H k S') X.xe s
theorem WM.tm (h : WM X e ma) : TM X e ma := h _
theorem wm_and1 (ha : TM X a ma) : WM X (.BoolOp .And [a] pos) ma := by
  intro wh pins s σ H B ev S d S' k I hS hE em hk
  refine isTrue_and (thn (ha pins s σ H B ev S d S' k I hS hE em hk) fun c s1 q => ?_)
  cases c with
  | true => exact isTrue_and_nil q
  | false => exact q
theorem wm_or1 (ha : TM X a ma) : WM X (.BoolOp .Or [a] pos) ma := by
  intro wh pins s σ H B ev S d S' k I hS hE em hk
  refine isTrue_or (thn (ha pins s σ H B ev S d S' k I hS hE em hk) fun c s1 q => ?_)
  cases c with
  | false => exact isTrue_or_nil q
  | true => exact q
theorem wm_and {rest : List Expr} (ha : TM X a ma) (hb : WM X (.BoolOp .And (b :: rest) pos) mb) : WM X (.BoolOp .And (a :: b :: rest) pos) (mAnd ma mb) := by
  intro wh pins s σ H B ev S d S' k I hS hE em hk
  obtain ⟨⟨x, S1⟩, e1, em⟩ := bind_some em
  obtain ⟨k1, e2, em⟩ := bind_some em
  refine isTrue_and (thn (ha pins s σ H B ev S x S1 k1 I hS hE e1 e2) fun c s1 ⟨hc, H1, B1, I1, x1, hS1⟩ => ?_)
  subst hc
  cases c with
  | false =>
    cases em
    cases hk
    exact ⟨rfl, H1, B1, I1, x1, hS1⟩
  | true => exact thn (hb wh pins s1 σ H1 B1 ev S1 d S' k I1 hS1 (hE.ext x1) em hk) fun _ _ q => q.of x1
theorem wm_or {rest : List Expr} (ha : TM X a ma) (hb : WM X (.BoolOp .Or (b :: rest) pos) mb) : WM X (.BoolOp .Or (a :: b :: rest) pos) (mOr ma mb) := by
  intro wh pins s σ H B ev S d S' k I hS hE em hk
  obtain ⟨⟨x, S1⟩, e1, em⟩ := bind_some em
  obtain ⟨k1, e2, em⟩ := bind_some em
  refine isTrue_or (thn (ha pins s σ H B ev S x S1 k1 I hS hE e1 e2) fun c s1 ⟨hc, H1, B1, I1, x1, hS1⟩ => ?_)
  subst hc
  cases c with
  | true =>
    cases em
    cases hk
    exact ⟨rfl, H1, B1, I1, x1, hS1⟩
  | false => exact thn (hb wh pins s1 σ H1 B1 ev S1 d S' k I1 hS1 (hE.ext x1) em hk) fun _ _ q => q.of x1
theorem em_if (hc : TM X c mc) (ha : EM X a ma) (hb : EM X b mb) : EM X (.IfExp c a b pos) (mIf mc ma mb) := by
  intro pins s σ H B ev S d S' I hS hE em
  obtain ⟨⟨x, S1⟩, e1, em⟩ := bind_some em
  obtain ⟨k, e2, em⟩ := bind_some em
  refine wpAny_IfExp (thn (hc pins s σ H B ev S x S1 k I hS hE e1 e2) fun k' s1 ⟨hk, H1, B1, I1, x1, hS1⟩ => ?_)
  subst hk
  cases k' with
  | true => exact thn (ha pins s1 σ H1 B1 ev S1 d S' I1 hS1 (hE.ext x1) em) fun _ _ q => q.post x1
  | false => exact thn (hb pins s1 σ H1 B1 ev S1 d S' I1 hS1 (hE.ext x1) em) fun _ _ q => q.post x1
theorem tm_if (hc : TM X c mc) (ha : TM X a ma) (hb : TM X b mb) : TM X (.IfExp c a b pos) (mIf mc ma mb) := by
  intro pins s σ H B ev S d S' kk I hS hE em hkk
  obtain ⟨⟨x, S1⟩, e1, em⟩ := bind_some em
  obtain ⟨k, e2, em⟩ := bind_some em
  unfold PySem.isTrue
  refine wpAny_bind (thn (hc pins s σ H B ev S x S1 k I hS hE e1 e2) fun k' s1 ⟨hk, H1, B1, I1, x1, hS1⟩ => ?_)
  subst hk
  cases k' with
  | true => exact thn (ha pins s1 σ H1 B1 ev S1 d S' kk I1 hS1 (hE.ext x1) em hkk) fun _ _ q => q.of x1
  | false => exact thn (hb pins s1 σ H1 B1 ev S1 d S' kk I1 hS1 (hE.ext x1) em hkk) fun _ _ q => q.of x1
theorem em_neg (ha : EM X a ma) : EM X (.UnaryOp .USub a pos) (mNeg ma) :=
  EM.of_pe (pe_un un_neg ha.pe) fun σ H B ev S d S' hS hE em => by
    obtain ⟨⟨x, S1⟩, e1, em⟩ := bind_some em
    simp only at em
    split at em
    · rename_i i
      cases em
      refine ⟨B, ev, S, _, _, hS, hE, e1, fun B' H' v x1 s1 d1 => ?_⟩
      obtain rfl := dq_int d1
      exact ⟨i, rfl, B', x1, s1, .int _⟩
    · cases em

/-! argument lists, displays -/
def notStar : Expr → Bool
  | .Starred .. => false
  | _ => true
theorem star_cons {e : Expr} {es : List Expr} {env : Env} (h : notStar e = true) : starEach (e :: es) env = (false, eval e env) :: starEach es env := by
  cases e <;> first | rfl | cases h
theorem star_plain {env : Env} : ∀ {es : List Expr}, es.all notStar = true → (backTo pos (starEach es env)).any (·.1) = false
  | [], _ => rfl
  | e :: es, h => by
    rw [List.all_cons, Bool.and_eq_true] at h
    rw [star_cons h.1]
    show (false || (backTo pos (starEach es env)).any (·.1)) = false
    rw [star_plain h.2]; rfl
theorem star_few {env : Env} : ∀ {es : List Expr}, es.all notStar = true → (backTo pos (starEach es env)).all (fun x => !x.1) = true
  | [], _ => rfl
  | e :: es, h => by
    rw [List.all_cons, Bool.and_eq_true] at h
    rw [star_cons h.1]
    show (true && (backTo pos (starEach es env)).all (fun x => !x.1)) = true
    rw [star_few h.2]; rfl
theorem am_nil : AM X [] mNil := by
  intro pos pins s σ H B ev S ds S' I hS hE em
  cases em
  exact Calls.spliced_nil ⟨[], H, B, I, .nil, hS.refl, hS, .nil⟩
theorem am_cons {es : List Expr} {m : Ms} (ha : EM X a ma) (hr : AM X es m) (hs : notStar a = true) : AM X (a :: es) (mCons ma m) := by
  intro pos pins s σ H B ev S ds S' I hS hE em
  obtain ⟨⟨x, S1⟩, e1, em⟩ := bind_some em
  obtain ⟨⟨xs, S2⟩, e2, em⟩ := map_some em
  cases em
  rw [star_cons hs]
  show wpAny _ _ (spliced ((false, eval a X.env) :: backTo pos (starEach es X.env))) _ _ s
  refine Calls.spliced_cons (thn (ha pins s σ H B ev S x S1 I hS hE e1) fun u s1 ⟨vx, H1, B1, I1, r1, x1, hS1, d1⟩ => ?_)
  refine thn (hr pos pins s1 σ H1 B1 ev S1 xs _ I1 hS1 (hE.ext x1) e2) fun us s2 ⟨vs, H2, B2, I2, r2, x2, hS2, d2⟩ => ?_
  exact ⟨vx :: vs, H2, B2, I2, .cons r1 r2, x1.trans x2, hS2, .cons (RD.ext x2 d1) d2⟩
theorem AM.pa {es : List Expr} {m : Ms} (h : AM X es m) : PA X es (tMs X.K X.mg m) := ⟨fun pos pins s σ H Q I ⟨B, ev, S, d, S', hS, hE, em, q⟩ =>
  thn (h pos pins s σ H B ev S d S' I hS hE em) fun u s1 ⟨v, H1, B1, I1, r1, x1, S1, d1⟩ => ⟨v, H1, I1, r1, q B1 H1 v x1 S1 d1⟩⟩
theorem em_tup {es : List Expr} {m : Ms} {k : Nat} (h : AM X es m) : EM X (.Tuple es k pos) (mTup m) :=
  EM.of_pe (pe_tup h.pa) fun σ H B ev S d S' hS hE em => by
    obtain ⟨⟨xs, S1⟩, e1, em⟩ := bind_some em
    obtain ⟨ys, e2, em⟩ := bind_some em
    have := allP_eq e2
    simp only at this
    subst this
    refine ⟨B, ev, S, _, _, hS, hE, e1, fun B' H' v x1 s1 d1 => ?_⟩
    have hl : v.length ≤ sizeLine := by
      have q := em
      unfold mkT at q
      split at q
      · rename_i hz
        rw [← d1.length, List.length_map]; exact hz
      · cases q
    refine ⟨hl, fun p hp => ?_⟩
    obtain ⟨_, y1, y2, y3⟩ := mkT_ok s1 (dqAll_map.mpr d1) em hp
    exact ⟨B', x1.trans y1, y2, y3⟩
theorem em_lst (bx : Bool) {es : List Expr} {m : Ms} (h : AM X es m) : EM X (.List es pos) (mLst bx m) :=
  EM.of_pe (pe_lst h.pa) fun σ H B ev S d S' hS hE em => by
    obtain ⟨⟨xs, S1⟩, e1, em⟩ := bind_some em
    refine ⟨B, ev, S, _, _, hS, hE, e1, fun B' H' v x1 s1 d1 => ?_⟩
    have hl : v.length ≤ sizeLine := by
      have q := em
      unfold mkL at q
      split at q
      · rename_i hz
        rw [← d1.length]; exact hz
      · cases q
    refine ⟨hl, fun p hp => ?_⟩
    obtain ⟨_, B2, y1, y2, y3⟩ := mkL_ok s1 d1 em hp
    exact ⟨B2, x1.trans y1, y2, y3⟩

/-! subscripts, slices -/
def notSlice : Expr → Bool
  | .Slice .. => false
  | _ => true
theorem plainIx {b : Expr} (h : notSlice b = true) : PlainIx b := by
  intro o i
  cases b <;> first | rfl | cases h
theorem em_ix (K : BK X) (ha : EM X a ma) (hb : EM X b mb) (hs : notSlice b = true) : EM X (.Subscript a b pos) (mIx ma mb) :=
  EM.of_pe (pe_ix (ix_any (by have := K.hu; omega)) ha.pe hb.pe (plainIx hs)) fun σ H B ev S d S' hS hE em => by
    obtain ⟨⟨x, S1⟩, e1, em⟩ := bind_some em
    obtain ⟨⟨y, S2⟩, e2, em⟩ := bind_some em
    obtain ⟨z, e3, em⟩ := map_some em
    cases em
    refine ⟨B, ev, S, _, _, hS, hE, e1, fun B1 H1 v1 x1 s1 d1 => ⟨B1, ev, S1, _, _, s1, hE.ext x1, e2, fun B2 H2 v2 x2 s2 d2 => ?_⟩⟩
    exact ixI_ok s2 (RD.ext x2 d1) d2 e3 fun B3 H3 v3 x3 s3 d3 => ⟨B3, (x1.trans x2).trans x3, s3, d3⟩
/-- a part of a slice -/
def OM (X : Cx) (e : Option Expr) (m : MO) : Prop := PO X e fun σ H Q => ∃ B ev S o S', SR X.K X.mg B H S ∧ ER X.K X.mg B H ev σ ∧ m ev S = some (o, S') ∧ ∀ B' H', Ext B H B' H' → SR X.K X.mg B' H' S' → Q o H'
theorem om_none : OM X none mONone := ⟨fun pins s σ H Q I ⟨B, ev, S, o, S', hS, hE, em, q⟩ => by
  cases em
  exact (po_none (X := X)).run pins s σ H Q I (q B H hS.refl hS)⟩
theorem om_some (ha : EM X a ma) : OM X (some a) (mOSome ma) := ⟨fun pins s σ H Q I ⟨B, ev, S, o, S', hS, hE, em, q⟩ => by
  obtain ⟨⟨x, S1⟩, e1, em⟩ := bind_some em
  simp only at em
  split at em
  · rename_i i
    cases em
    refine (po_some ha.pe).run pins s σ H Q I ⟨B, ev, S, _, _, hS, hE, e1, fun B1 H1 v1 x1 s1 d1 => ?_⟩
    obtain rfl := dq_int d1
    exact ⟨i, rfl, q B1 H1 x1 s1⟩
  · cases em⟩
theorem em_sl (bx : Bool) {lo hi : Option Expr} {ml mh : MO} {p2 : Pos} (ha : EM X a ma) (hl : OM X lo ml) (hh : OM X hi mh) : EM X (.Subscript a (.Slice lo hi none p2) pos) (mSl bx ma ml mh) := by
  intro pins s σ H B ev S d S' I hS hE em
  obtain ⟨⟨x, S1⟩, e1, em⟩ := bind_some em
  obtain ⟨⟨l, S2⟩, e2, em⟩ := bind_some em
  obtain ⟨⟨h, S3⟩, e3, em⟩ := bind_some em
  refine thn ((pe_slice (r := rSlAny X.K) sl_any ha.pe hl hh).run pins s σ H (QM X B H d S') I ?_) fun u s1 q => RM.of_EP hS.refl q
  refine ⟨B, ev, S, _, _, hS, hE, e1, fun B1 H1 v1 x1 s1 d1 => ⟨B1, ev, S1, _, _, s1, hE.ext x1, e2, fun B2 H2 x2 s2 => ⟨B2, ev, S2, _, _, s2, hE.ext (x1.trans x2), e3, fun B3 H3 x3 s3 => ?_⟩⟩⟩
  exact slI_ok bx s3 (RD.ext x3 (RD.ext x2 d1)) em fun B4 H4 v4 x4 s4 d4 => ⟨B4, ((x1.trans x2).trans x3).trans x4, s4, d4⟩
theorem RDs.reverse {K : PySem.W.Frag} {mg : Mg} {B : BT} {H : Hp} : ∀ {ds : List D} {vs : List V}, RDs K mg B H ds vs → RDs K mg B H ds.reverse vs.reverse
  | _, _, .nil => .nil
  | _, _, .cons r t => by
    simp only [List.reverse_cons]
    exact RDs.append (RDs.reverse t) (.cons r .nil)
/-- x[::-1] -/
theorem revR {pins : List (Addr × Obj)} {σ : St} {H : Hp} {s : Shared} {k : Nat} {p1 p2 p3 : Pos} (bx : Bool) (ha : EM X a ma) : EM X (.Subscript a (.Slice none none (some (.UnaryOp .USub (.Constant (.int 1) k p1) p2)) p3) pos) (mRev bx ma) :=
  EM.of_pe (pe_revL ha.pe) fun σ H B ev S d S' hS hE em => by
    obtain ⟨⟨x, S1⟩, e1, em⟩ := bind_some em
    obtain ⟨xs, e2, em⟩ := bind_some em
    refine ⟨B, ev, S, _, _, hS, hE, e1, fun B1 H1 v1 x1 s1 d1 => ?_⟩
    obtain ⟨l, vs, rfl, hl, r⟩ := lst_ok s1 d1 e2
    refine ⟨l, vs, rfl, .inl hl, fun p hp => ?_⟩
    have rr := RDs.reverse r
    obtain ⟨_, B2, y1, y2, y3⟩ := mkL_ok s1 rr em hp
    exact ⟨B2, x1.trans y1, y2, y3⟩

/-! calls of built-ins, of methods -/
theorem em_blt {es : List Expr} {m : Ms} {x : Str} {f : BF} {p : Pos} {val : Value} (hc : BR X val f) (hB : IsB val) (hg : Gl X x) (hm : X.mg x = none) (hv : bootBuiltins x = some val) (hn : x ≠ "__name__") (hdb : (x == ("__debug__" : Str)) = false)
    (ha : AM X (a :: es) m) (hs : (a :: es).all notStar = true) : EM X (.Call (.Name x p) (a :: es) [] pos) (mBlt f m) := by
  intro pins s σ H B ev S d S' I hS hE em
  obtain ⟨⟨xs, S1⟩, e1, em⟩ := bind_some em
  have hs2 := hs
  rw [List.all_cons, Bool.and_eq_true] at hs2
  refine wpAny_Call_Name_kw (ld_blt I hg hm hv ?_ hn hdb)
  have go : wpAny (model X.prog X.w) X.A (spliced (backTo pos (starEach (a :: es) X.env))) (fun us s₁ => wpAny (model X.prog X.w) X.A (call val us) (RM X pins σ B H d S') X.xe s₁) X.xe s :=
    thn (ha pos pins s σ H B ev S xs S1 I hS hE e1) fun us s1 ⟨vs, H1, B1, I1, r1, x1, hS1, d1⟩ =>
      thn (hc pins s1 σ H1 B1 S1 xs d S' vs us (QM X B1 H1 d S') I1 hS1 d1 r1 em post_QM) fun u s2 q => RM.of_EP x1 q
  rcases hB with ⟨id, rfl⟩ | ⟨T, rfl⟩
  · exact PyProof.Rows.callWith_builtin1 go (star_cons hs2.1) (star_plain hs2.2)
  · exact PyProof.Rows.callWith_type1 go (star_cons hs2.1) (star_plain hs2.2)
/-- the receiver is written so that super() is not meant -/
def plainRecv : Expr → Bool
  | .Call (.Name _ _) [] [] _ => false
  | _ => true
theorem recv_base {o : Expr} {x : Str} {env : Env} (h : plainRecv o = true) : attributeBase o x env (eval o env) = eval o env := by
  unfold attributeBase
  split
  · cases h
  · rfl
theorem tyIs {pins : List (Addr × Obj)} {σ : St} {B : BT} {H : Hp} {S : Store} {s : Shared} {r : D} {vr : V} {v : Value} {t : Tn} {x : Str} {f : MF} (I : Inv X pins σ H s) (hS : SR X.K X.mg B H S) (d1 : RD X.K X.mg B H r vr) (r1 : RelV vr v)
    (e2 : tnOf S r = some t) (e3 : metF t x = some f) : s.TypeIs v t.nm ∧ ∀ l, v = .ref l → ∃ ob, s.heap.get? l = some ob ∧ ob.dict = none := by
  have hl : ∀ {a : Addr} {vs : List V}, Rd H a (.lst vs) → s.TypeIs (.ref a) "list" ∧ ∀ l, Value.ref a = .ref l → ∃ ob, s.heap.get? l = some ob ∧ ob.dict = none := fun {a vs} h => by
    obtain ⟨_, its, n, _, _, e⟩ := lstR I h
    exact ⟨⟨_, e, rfl⟩, fun l q => by cases q; exact ⟨_, e, rfl⟩⟩
  have hd : ∀ {a : Addr} {vs : List (Key × V)}, Rd H a (.dK vs) → s.TypeIs (.ref a) "dict" ∧ ∀ l, Value.ref a = .ref l → ∃ ob, s.heap.get? l = some ob ∧ ob.dict = none := fun {a vs} h => by
    obtain ⟨_, _, _, _, ⟨o, es, ep, e, ex, _⟩⟩ := dk_rd I.hok h
    exact ⟨⟨_, e, ex.1⟩, fun l q => by cases q; exact ⟨_, e, ex.2.1⟩⟩
  cases r with
  | p y =>
    cases y <;> simp only [tnOf, Option.some.injEq] at e2 <;> subst e2 <;> simp only [metF] at e3 <;> try (cases e3)
    · obtain rfl := dq_str d1
      obtain ⟨tk, rfl⟩ := r1
      exact ⟨typeIs_str s _ tk, fun _ q => nomatch q⟩
    · cases d1 with
      | lst h1 _ => cases r1; exact hl h1.1
    · cases d1 with
      | dct h1 _ => cases r1; exact hd h1
  | ref n =>
    obtain ⟨a, h1, rfl⟩ := d1
    cases r1
    simp only [tnOf] at e2
    cases q : S[n]? with
    | none => rw [q] at e2; cases e2
    | some c =>
      rw [q] at e2
      cases c with
      | lst ys =>
        cases e2
        obtain ⟨vs, h2, _⟩ := hS.cell n _ a q h1
        exact hl (.inl h2)
      | dct ys =>
        cases e2
        obtain ⟨vs, h2, _⟩ := hS.cell n _ a q h1
        exact hd (.inl h2)
      | dead => cases e2
  | fn _ => cases e2
  | ty _ => cases e2
theorem em_met (K : BK X) {o : Expr} {mo : M} {es : List Expr} {m : Ms} {x : Str} {apos : Pos} (ho : EM X o mo) (ha : AM X (a :: es) m) (hs : (a :: es).all notStar = true) (hl : es.length < 29) (hp : plainRecv o = true) (hline : (apos.endLine == pos.line) = true) :
    EM X (.Call (.Attribute o x apos) (a :: es) [] pos) (mMet x mo m) := by
  intro pins s σ H B ev S d S' I hS hE em
  obtain ⟨⟨r, S1⟩, e1, em⟩ := bind_some em
  obtain ⟨t, e2, em⟩ := bind_some em
  obtain ⟨f, e3, em⟩ := bind_some em
  obtain ⟨⟨xs, S2⟩, e4, em⟩ := bind_some em
  refine wpAny_Call_method_late (recv_base hp) ?_ hline rfl (thn (ho pins s σ H B ev S r S1 I hS hE e1) fun v s1 ⟨vr, H1, B1, I1, r1, x1, hS1, d1⟩ => ?_)
  · rw [star_few hs]
    show (true && true && decide _) = true
    simp only [List.length_cons, List.length_nil, Nat.add_zero, List.isEmpty_nil, if_true, Bool.true_and, decide_eq_true_eq]
    omega
  · obtain ⟨id, pa, slot, hty, rule⟩ := met_ok K e3
    have ty := tyIs I1 hS1 d1 r1 e2 e3
    refine ⟨t.nm, id, pa, slot, hty, ty.1, ty.2, ?_⟩
    have hA := ha pos pins s1 σ H1 B1 ev S1 xs S2 I1 hS1 (hE.ext x1) e4
    rw [List.all_cons, Bool.and_eq_true] at hs
    rw [star_cons hs.1] at hA ⊢
    refine Calls.callWith_builtin (by show (false || (backTo pos (starEach es X.env)).any (·.1)) = false; rw [star_plain hs.2] <;> rfl) (Calls.evalArgs_plain ?_)
    exact thn hA fun us s2 ⟨vs, H2, B2, I2, r2, x2, hS2, d2⟩ =>
      thn (rule pins s2 σ H2 B2 S2 r xs d S' vr vs v us (QM X B2 H2 d S') I2 hS2 (RD.ext x2 d1) d2 r1 r2 em post_QM) fun u s3 q => RM.of_EP (x1.trans x2) q
theorem em_met0 (K : BK X) {o : Expr} {mo : M} {x : Str} {apos : Pos} (ho : EM X o mo) (hp : plainRecv o = true) (hline : (apos.endLine == pos.line) = true) :
    EM X (.Call (.Attribute o x apos) [] [] pos) (mMet x mo mNil) := by
  intro pins s σ H B ev S d S' I hS hE em
  obtain ⟨⟨r, S1⟩, e1, em⟩ := bind_some em
  obtain ⟨t, e2, em⟩ := bind_some em
  obtain ⟨f, e3, em⟩ := bind_some em
  obtain ⟨⟨xs, S2⟩, e4, em⟩ := bind_some em
  cases e4
  refine wpAny_Call_method0_late (recv_base hp) hline (thn (ho pins s σ H B ev S r S1 I hS hE e1) fun v s1 ⟨vr, H1, B1, I1, r1, x1, hS1, d1⟩ => ?_)
  obtain ⟨id, pa, slot, hty, rule⟩ := met_ok K e3
  have ty := tyIs I1 hS1 d1 r1 e2 e3
  refine ⟨t.nm, id, pa, slot, hty, ty.1, ty.2, Calls.callWith_builtin rfl (PySem.evalArgs_none ?_)⟩
  exact thn (rule pins s1 σ H1 B1 S1 r [] d S' vr [] v [] (QM X B1 H1 d S') I1 hS1 d1 .nil r1 .nil em post_QM) fun u s3 q => RM.of_EP x1 q

/-! ### own defs -/
/-- a def keeps what cf says of it, for all arguments; no exception leaves it -/
structure FnI (P : Program) (w : World) (K : PySem.W.Frag) (mg : Mg) (base : Heap) (k : Nat) (f : Addr) (fd : FuncData) (ps : List Str) (cf : List D → Store → Option (D × Store)) : Prop where
  run : ∀ (A : Around) (outer : List Env) (s : Shared) (H : Hp) (args : Args) (us : List Value) (vs : List V) (B : BT) (S : Store) (ds : List D) (d : D) (S' : Store) (Q : VK), Room k A → A.guards = some [] → Env0 P w K mg base A outer s H →
    BindsTo s fd args (ps.zip us) → us.length = ps.length → Vals vs us → SR K mg B H S → RDs K mg B H ds vs → cf ds S = some (d, S') → Post K mg B H d S' Q → codeAny (model P w) A (.call (.ref f) args) (L2.CR CX0 outer P w H s Q E0) s
/-- where the parameters stand among the positional values and the keywords' -/
def argIx (ps ks : List Str) (n : Nat) : Option (List Nat) :=
  if n + ks.length = ps.length ∧ ks.Nodup ∧ (ks.all fun k => (ps.drop n).contains k) = true ∧ ((ps.drop n).all fun k => ks.contains k) = true then some (List.range n ++ (ps.drop n).map fun p => n + ks.idxOf p) else none
/-- how the parameters bind -/
def Bnd (fd : FuncData) (ps : List Str) : Prop := ∀ (s : Shared) (us ws full : List Value) (ks : List Str) (ix : List Nat), argIx ps ks us.length = some ix → ws.length = ks.length → permD (us ++ ws) ix = some full → BindsTo s fd ⟨us, ks.zip ws⟩ (ps.zip full)
theorem permD_vals : ∀ {ix : List Nat} {vs vs' : List V} {us : List Value}, Vals vs us → permD vs ix = some vs' → ∃ us', permD us ix = some us' ∧ Vals vs' us'
  | [], _, _, _, _, h => by simp [permD] at h; subst h; exact ⟨[], rfl, .nil⟩
  | i :: ix, vs, vs', us, r, h => by
    simp only [permD] at h
    cases h1 : vs[i]? with
    | none => rw [h1] at h; cases h
    | some x =>
      cases h2 : permD vs ix with
      | none => rw [h1, h2] at h; cases h
      | some xs =>
        rw [h1, h2] at h
        cases h
        obtain ⟨u, e1, r1⟩ := r.get h1
        obtain ⟨us', e2, r2⟩ := permD_vals r h2
        exact ⟨u :: us', by simp only [permD, e1, e2], .cons r1 r2⟩
theorem permD_rds {K : PySem.W.Frag} {mg : Mg} {B : BT} {H : Hp} : ∀ {ix : List Nat} {ds ds' : List D} {vs : List V}, RDs K mg B H ds vs → permD ds ix = some ds' → ∃ vs', permD vs ix = some vs' ∧ RDs K mg B H ds' vs'
  | [], _, _, _, _, h => by simp [permD] at h; subst h; exact ⟨[], rfl, .nil⟩
  | i :: ix, ds, ds', vs, r, h => by
    simp only [permD] at h
    cases h1 : ds[i]? with
    | none => rw [h1] at h; cases h
    | some x =>
      cases h2 : permD ds ix with
      | none => rw [h1, h2] at h; cases h
      | some xs =>
        rw [h1, h2] at h
        cases h
        obtain ⟨v, e1, r1⟩ := r.at h1
        obtain ⟨vs', e2, r2⟩ := permD_rds r h2
        exact ⟨v :: vs', by simp only [permD, e1, e2], .cons r1 r2⟩
theorem permD_len {α : Type} : ∀ {ix : List Nat} {l l' : List α}, permD l ix = some l' → l'.length = ix.length
  | [], _, _, h => by simp [permD] at h; subst h; rfl
  | i :: ix, l, l', h => by
    simp only [permD] at h
    cases h1 : l[i]? with
    | none => rw [h1] at h; cases h
    | some x =>
      cases h2 : permD l ix with
      | none => rw [h1, h2] at h; cases h
      | some xs => rw [h1, h2] at h; cases h; simp [permD_len h2]
theorem argIx_len {ps ks : List Str} {n : Nat} {ix : List Nat} (h : argIx ps ks n = some ix) : ix.length = ps.length ∧ n + ks.length = ps.length := by
  unfold argIx at h
  split at h
  · rename_i hc
    cases h
    refine ⟨?_, hc.1⟩
    simp
    omega
  · cases h
theorem run_own {pins : List (Addr × Obj)} {σ : St} {H : Hp} {s : Shared} {B : BT} {S S' : Store} {ds : List D} {d : D} {us us' : List Value} {vs' : List V} {kw : List (Str × Value)} {k : Nat} {f : Addr} {fd : FuncData} {ps : List Str} {cf : List D → Store → Option (D × Store)} {Q : VK}
    (F : FnI X.prog X.w X.K X.mg X.base k f fd ps cf) (hr : Room k X.A) (hg : X.A.guards = some []) (hx : X.xe = fun _ _ => False) (I : Inv X pins σ H s) (hb : BindsTo s fd ⟨us, kw⟩ (ps.zip us')) (hl : us'.length = ps.length) (rv : Vals vs' us') (hS : SR X.K X.mg B H S)
    (rd : RDs X.K X.mg B H ds vs') (e : cf ds S = some (d, S')) (q : Post X.K X.mg B H d S' Q) : wpAny (model X.prog X.w) X.A (call (.ref f) us kw) (EP X pins σ Q) X.xe s := by
  refine wpAny_call (codeAny_mono (F.run X.A X.stack s H ⟨us, kw⟩ us' vs' B S ds d S' Q hr hg I.env0 hb hl rv hS rd e q) fun r s' hq => ?_)
  cases r with
  | error e => exact hq.elim
  | ok fl =>
    cases fl with
    | ret u => exact I.after hq
    | next => exact False.elim hq
    | brk => exact False.elim hq
    | cont => exact False.elim hq
theorem km_nil : KM X [] mNil := by
  intro pos pins s σ H B ev S ds S' I hS hE em
  cases em
  exact wpAny_evalAll_nil ⟨[], H, B, I, .nil, hS.refl, hS, .nil⟩
theorem km_cons {kws : List Keyword} {m : Ms} {nm : Option Str} {kpos : Pos} (ha : EM X a ma) (hr : KM X kws m) : KM X (⟨nm, a, kpos⟩ :: kws) (mCons ma m) := by
  intro pos pins s σ H B ev S ds S' I hS hE em
  obtain ⟨⟨x, S1⟩, e1, em⟩ := bind_some em
  obtain ⟨⟨xs, S2⟩, e2, em⟩ := map_some em
  cases em
  show wpAny _ _ (evalAll ((do let v ← eval a X.env; standAt pos; pure v) :: (backToKw pos (keywordEach kws X.env)).map (·.2))) _ _ s
  refine wpAny_evalAll_cons (wpAny_bind (thn (ha pins s σ H B ev S x S1 I hS hE e1) fun u s1 ⟨vx, H1, B1, I1, r1, x1, hS1, d1⟩ => wpAny_bind (wpAny_standAt (wpAny_pure ?_))))
  refine thn (hr pos pins s1 σ H1 B1 ev S1 xs _ I1 hS1 (hE.ext x1) e2) fun us s2 ⟨vs, H2, B2, I2, r2, x2, hS2, d2⟩ => ?_
  exact ⟨vx :: vs, H2, B2, I2, .cons r1 r2, x1.trans x2, hS2, .cons (RD.ext x2 d1) d2⟩
def kwNames : List Keyword → Option (List Str)
  | [] => some []
  | ⟨some n, _, _⟩ :: r => (kwNames r).map (n :: ·)
  | ⟨none, _, _⟩ :: _ => none
theorem kw_all {env : Env} : ∀ {kws : List Keyword} {ks : List Str}, kwNames kws = some ks → (backToKw pos (keywordEach kws env)).all (·.1.isSome) = true ∧ (backToKw pos (keywordEach kws env)).filterMap (·.1) = ks ∧ (backToKw pos (keywordEach kws env)).any (·.1.isNone) = false
  | [], ks, h => by simp [kwNames] at h; subst h; exact ⟨rfl, rfl, rfl⟩
  | ⟨some n, v, p⟩ :: r, ks, h => by
    simp only [kwNames] at h
    obtain ⟨ms, e, rfl⟩ := map_some h
    obtain ⟨h1, h2, h3⟩ := kw_all (env := env) e
    refine ⟨?_, ?_, ?_⟩
    · show (true && (backToKw pos (keywordEach r env)).all (·.1.isSome)) = true
      rw [h1]; rfl
    · show n :: (backToKw pos (keywordEach r env)).filterMap (·.1) = n :: ms
      rw [h2]
    · show (false || (backToKw pos (keywordEach r env)).any (·.1.isNone)) = false
      rw [h3]; rfl
  | ⟨none, v, p⟩ :: r, ks, h => by cases h
theorem em_call {es : List Expr} {kws : List Keyword} {m mk : Ms} {x : Str} {p : Pos} {ks : List Str} {ix : List Nat} {k : Nat} {f : Addr} {fd : FuncData} {ps : List Str} {cf : BF}
    (F : FnI X.prog X.w X.K X.mg X.base k f fd ps (fun ds S => cf S ds)) (hr : Room k X.A) (hgd : X.A.guards = some []) (hx : X.xe = fun _ _ => False) (hb : Bnd fd ps) (hg : Gl X x) (hm : X.mg x = some (.ref f)) (hk : PySem.W.keepIn X.K (.ref f) = true) (hdb : (x == ("__debug__" : Str)) = false)
    (ha : AM X es m) (hs : es.all notStar = true) (hkw : KM X kws mk) (hks : kwNames kws = some ks) (hix : argIx ps ks es.length = some ix) (hm0 : es = [] → m = mNil) (hml : ∀ ev S ds S', m ev S = some (ds, S') → ds.length = es.length) (hkl : ∀ ev S ds S', mk ev S = some (ds, S') → ds.length = ks.length) :
    EM X (.Call (.Name x p) es kws pos) (mCall cf ix m mk) := by
  intro pins s σ H B ev S d S' I hS hE em
  obtain ⟨⟨xs, S1⟩, e1, em⟩ := bind_some em
  obtain ⟨⟨zs, S2⟩, e2, em⟩ := bind_some em
  obtain ⟨full, e3, em⟩ := bind_some em
  obtain ⟨k1, k2, k3⟩ := kw_all (pos := pos) (env := X.env) hks
  have l1 : xs.length = es.length := hml _ _ _ _ e1
  have l2 : zs.length = ks.length := hkl _ _ _ _ e2
  -- behind all arguments
  have fin : ∀ us s1, RMs X pins σ B H xs S1 us s1 → wpAny (model X.prog X.w) X.A (evalAll ((backToKw pos (keywordEach kws X.env)).map (·.2))) (fun ws s2 => X.K.In s2.heap ∧ wpAny (model X.prog X.w) X.A (call (.ref f) ([] ++ us) (((backToKw pos (keywordEach kws X.env)).filterMap (·.1)).zip ws)) (RM X pins σ B H d S') X.xe s2) X.xe s1 :=
    fun us s1 ⟨vs, H1, B1, I1, r1, x1, hS1, d1⟩ => by
      refine thn (hkw pos pins s1 σ H1 B1 ev S1 zs S2 I1 hS1 (hE.ext x1) e2) fun ws s2 ⟨vz, H2, B2, I2, r2, x2, hS2, d2⟩ => ⟨I2.kIn, ?_⟩
      rw [k2, List.nil_append]
      obtain ⟨vf, e4, df⟩ := permD_rds ((RDs.ext x2 d1).append d2) e3
      obtain ⟨uf, e5, rf⟩ := permD_vals (r1.append r2) e4
      have l3 : us.length = es.length := by rw [← r1.length, ← d1.length]; exact l1
      have l4 : ws.length = ks.length := by rw [← r2.length, ← d2.length]; exact l2
      have bnd : BindsTo s2 fd ⟨us, ks.zip ws⟩ (ps.zip uf) := hb s2 us ws uf ks ix (by rw [l3]; exact hix) l4 e5
      have lf : uf.length = ps.length := by rw [permD_len e5]; exact (argIx_len hix).1
      exact thn (run_own F hr hgd hx I2 bnd lf rf hS2 df em (post_QM (X := X))) fun u s3 q => RM.of_EP (x1.trans x2) q
  refine wpAny_Call_Name_kw (ld_glob I hg hm ?_ hdb)
  cases es with
  | nil =>
    cases hm0 rfl
    cases e1
    refine PySem.W.callWith_KW0 (h₀ := X.base) I.ok.mod.kin hk k1 (fin [] s ⟨[], H, B, I, .nil, hS.refl, hS, .nil⟩) ?_
    show (false || (backToKw pos (keywordEach kws X.env)).any (·.1.isNone)) = false
    rw [k3]; rfl
  | cons e es =>
    have hs2 := hs
    rw [List.all_cons, Bool.and_eq_true] at hs2
    refine PySem.W.callWith_KW (h₀ := X.base) I.ok.mod.kin hk k1 (thn (ha pos pins s σ H B ev S xs S1 I hS hE e1) fun us s1 q => fin us s1 q) ?_ (star_cons hs2.1)
    rw [star_plain hs, k3]; rfl
end
end PI
set_option maxHeartbeats 1000000
/-! Own text: dict displays, targets, statements, loops. -/
namespace PI
open PySem PySem.Spec L2
open PyProof.Rows hiding St

/-! ### dicts -/
def putD (kvs : List (Key × D)) (k : Key) (v : D) : List (Key × D) :=
  if kvs.any (fun kv => decide (kv.1 = k)) then kvs.map (fun kv => if kv.1 = k then (kv.1, v) else kv) else kvs ++ [(k, v)]
def mergeD (kvs more : List (Key × D)) : List (Key × D) := more.foldl (fun acc kv => putD acc kv.1 kv.2) kvs
def allKV : List (Key × D) → Option (List (PyData × PyData))
  | [] => some []
  | (k, .p x) :: r => (allKV r).map ((kP k, x) :: ·)
  | _ :: _ => none
/-- a new dict; bx: boxed -/
def mkD (bx : Bool) (kvs : List (Key × D)) (S : Store) : Option (D × Store) :=
  if kvs.length ≤ sizeLine then (if bx then some (.ref S.length, S ++ [.dct kvs]) else (allKV kvs).map fun ys => (.p (.dict ys), S)) else none

section
variable {K : PySem.W.Frag} {mg : Mg} {B : BT} {H : Hp} {S : Store}
theorem RKV.any {es : List (Key × D)} {kvs : List (Key × V)} (r : RKV K mg B H es kvs) (k : Key) : es.any (fun kv => decide (kv.1 = k)) = kvs.any (fun kv => decide (kv.1 = k)) := by
  induction r with
  | nil => rfl
  | cons h _ ih =>
    simp only [List.any_cons, ih, h.1]
theorem RKV.mapP {es : List (Key × D)} {kvs : List (Key × V)} (r : RKV K mg B H es kvs) (k : Key) {d : D} {v : V} (h : RD K mg B H d v) :
    RKV K mg B H (es.map (fun kv => if kv.1 = k then (kv.1, d) else kv)) (kvs.map (fun kv => if kv.1 = k then (kv.1, v) else kv)) := by
  induction r with
  | nil => exact .nil
  | @cons a b _ _ h1 _ ih =>
    obtain ⟨a1, a2⟩ := a
    obtain ⟨b1, b2⟩ := b
    obtain ⟨e, h2⟩ := h1
    simp only at e
    subst e
    simp only [List.map_cons]
    by_cases hk : a1 = k
    · simp only [hk, if_true]
      exact .cons ⟨rfl, h⟩ ih
    · simp only [hk, if_false]
      exact .cons ⟨rfl, h2⟩ ih
theorem RKV.append {es fs : List (Key × D)} {kvs lvs : List (Key × V)} (r : RKV K mg B H es kvs) (q : RKV K mg B H fs lvs) : RKV K mg B H (es ++ fs) (kvs ++ lvs) := by
  induction r with
  | nil => exact q
  | cons h _ ih => exact .cons h ih
theorem RKV.put {es : List (Key × D)} {kvs : List (Key × V)} (r : RKV K mg B H es kvs) (k : Key) {d : D} {v : V} (h : RD K mg B H d v) : RKV K mg B H (putD es k d) (putK kvs k v) := by
  unfold putD putK
  rw [r.any k]
  split
  · exact r.mapP k h
  · exact r.append (.cons ⟨rfl, h⟩ .nil)
theorem RKV.merge {fs : List (Key × D)} {lvs : List (Key × V)} (q : RKV K mg B H fs lvs) : ∀ {es : List (Key × D)} {kvs : List (Key × V)}, RKV K mg B H es kvs → RKV K mg B H (mergeD es fs) (mergeK kvs lvs) := by
  induction q with
  | nil => intro es kvs r; exact r
  | @cons a b _ _ h _ ih =>
    intro es kvs r
    obtain ⟨a1, a2⟩ := a
    obtain ⟨b1, b2⟩ := b
    obtain ⟨e, h⟩ := h
    simp only at e
    subst e
    exact ih (r.put a1 h)
theorem allKV_dq : ∀ {es : List (Key × D)} {ys : List (PyData × PyData)} {kvs : List (Key × V)}, allKV es = some ys → RKV K mg B H es kvs → DqKV K B H kvs ys
  | [], ys, _, h, r => by simp [allKV] at h; subst h; cases r; exact .nil
  | (k, d) :: es, ys, _, h, .cons (b := b) h1 h2 => by
    cases d with
    | p x =>
      simp only [allKV] at h
      obtain ⟨zs, e, rfl⟩ := map_some h
      obtain ⟨e1, h1⟩ := h1
      obtain ⟨b1, b2⟩ := b
      simp only at e1
      subst e1
      exact .cons h1 (allKV_dq e h2)
    | _ => simp [allKV] at h
/-- a finished dict, list at p, which was set aside -/
theorem mkD_fin {bx : Bool} {p : Addr} {es : List (Key × D)} {kvs : List (Key × V)} {d : D} {S' : Store} (h : SR K mg (B.push p) H S) (hp : H p = some (.dK kvs)) (r : RKV K mg (B.push p) H es kvs) (e : mkD bx es S = some (d, S')) :
    ∃ B', SR K mg B' H S' ∧ RD K mg B' H d (.ref p) ∧ (∀ B0 H0, Ext B0 H0 B H → H0 p = none → Ext B0 H0 B' H) := by
  unfold mkD at e
  split at e
  · cases bx with
    | true =>
      simp only [if_true, Option.some.injEq, Prod.mk.injEq] at e
      obtain ⟨rfl, rfl⟩ := e
      have hl : B.b.length = S.length := h.len
      exact ⟨B.add p, h.keepBox ⟨kvs, hp, RKV.ex ex_kept r⟩, ⟨p, by show (B.b ++ [p])[S.length]? = some p; rw [← hl]; simp, rfl⟩, fun B0 H0 x q => x.keepBox q hp⟩
    | false =>
      simp only [Bool.false_eq_true, if_false] at e
      obtain ⟨ys, e1, e2⟩ := map_some e
      cases e2
      exact ⟨B, h.pop, .dct (.inl hp) h.popped (allKV_dq e1 (RKV.ex ex_pop r)), fun _ _ x _ => x⟩
  · cases e
theorem mkL_fin {bx : Bool} {p : Addr} {es : List D} {vs : List V} {d : D} {S' : Store} (h : SR K mg (B.push p) H S) (hp : H p = some (.lst vs)) (r : RDs K mg (B.push p) H es vs) (e : mkL bx es S = some (d, S')) :
    ∃ B', SR K mg B' H S' ∧ RD K mg B' H d (.ref p) ∧ (∀ B0 H0, Ext B0 H0 B H → H0 p = none → Ext B0 H0 B' H) := by
  unfold mkL at e
  split at e
  · cases bx with
    | true =>
      simp only [if_true, Option.some.injEq, Prod.mk.injEq] at e
      obtain ⟨rfl, rfl⟩ := e
      have hl : B.b.length = S.length := h.len
      exact ⟨B.add p, h.keepBox ⟨vs, hp, RDs.ex ex_kept r⟩, ⟨p, by show (B.b ++ [p])[S.length]? = some p; rw [← hl]; simp, rfl⟩, fun B0 H0 x q => x.keepBox q hp⟩
    | false =>
      simp only [Bool.false_eq_true, if_false] at e
      obtain ⟨ys, e1, e2⟩ := map_some e
      cases e2
      have := allP_eq e1
      subst this
      exact ⟨B, h.pop, .lst ⟨.inl hp, h.popped⟩ (dqAll_map.mpr (RDs.ex ex_pop r)), fun _ _ x _ => x⟩
  · cases e
end

/-! ### dict displays -/
abbrev Mp := EnvI → Store → Option (List (Key × D) × Store)
def mpNil : Mp := fun _ S => some ([], S)
def mpCons (k v : M) (r : Mp) : Mp := fun ev S => (k ev S).bind fun a => match a.1 with
  | .p x => (keyP x).bind fun k' => (v ev a.2).bind fun b => (r ev b.2).map fun c => ((k', b.1) :: c.1, c.2)
  | _ => none
def mDic (bx : Bool) (r : Mp) : M := fun ev S => (r ev S).bind fun a => if a.1.length ≤ 15 then mkD bx (mergeD [] a.1) a.2 else none
def DM (X : Cx) (pos : Pos) (keys : List (Option Expr)) (values : List Expr) (m : Mp) : Prop := ∀ (pins : List (Addr × Obj)) (s : Shared) (σ : St) (H : Hp) (B : BT) (ev : EnvI) (S : Store) (es : List (Key × D)) (S' : Store), Inv X pins σ H s → SR X.K X.mg B H S → ER X.K X.mg B H ev σ → m ev S = some (es, S') →
  wpAny (model X.prog X.w) X.A (evalPairs (pairTrees keys values X.env pos)) (fun vs s' => ∃ kvs H' B', Inv X pins σ H' s' ∧ VV (kvs.map fun kv => (kV kv.1, kv.2)) vs ∧ Ext B H B' H' ∧ SR X.K X.mg B' H' S' ∧ RKV X.K X.mg B' H' es kvs) X.xe s
section
variable {X : Cx} {a b c e : Expr} {ma mb mc : M} {pos : Pos}
theorem dm_nil : DM X pos [] [] mpNil := by
  intro pins s σ H B ev S es S' I hS hE em
  cases em
  exact pairTrees_nil_walk ⟨[], H, B, I, .nil, hS.refl, hS, .nil⟩
theorem dm_cons {ks : List (Option Expr)} {vs : List Expr} {m : Mp} (ha : EM X a ma) (hb : EM X b mb) (hr : DM X pos ks vs m) : DM X pos (some a :: ks) (b :: vs) (mpCons ma mb m) := by
  intro pins s σ H B ev S es S' I hS hE em
  obtain ⟨⟨x, S1⟩, e1, em⟩ := bind_some em
  cases x with
  | p x =>
    obtain ⟨k, e2, em⟩ := bind_some em
    obtain ⟨⟨y, S2⟩, e3, em⟩ := bind_some em
    obtain ⟨⟨zs, S3⟩, e4, em⟩ := map_some em
    cases em
    have ek := keyP_eq e2
    subst ek
    refine pairTrees_cons_walk (thn (ha pins s σ H B ev S _ S1 I hS hE e1) fun u s1 ⟨vx, H1, B1, I1, r1, x1, hS1, d1⟩ => thn (hb pins s1 σ H1 B1 ev S1 y S2 I1 hS1 (hE.ext x1) e3) fun w s2 ⟨vy, H2, B2, I2, r2, x2, hS2, d2⟩ =>
      thn (hr pins s2 σ H2 B2 ev S2 zs _ I2 hS2 (hE.ext (x1.trans x2)) e4) fun us s3 ⟨kvs, H3, B3, I3, r3, x3, hS3, d3⟩ => ?_)
    obtain rfl := kv_dq d1
    exact ⟨(k, vy) :: kvs, H3, B3, I3, .cons ⟨r1, r2⟩ r3, (x1.trans x2).trans x3, hS3, .cons ⟨rfl, RD.ext x3 d2⟩ d3⟩
  | _ => cases em
theorem em_dic0 (bx : Bool) : EM X (.Dict [] [] pos) (mDic bx mpNil) :=
  EM.of_pe pe_dnewK fun σ H B ev S d S' hS hE em => by
    obtain ⟨⟨x, S1⟩, e1, em⟩ := bind_some em
    cases e1
    simp only [List.length_nil, Nat.zero_le, if_true] at em
    intro p hp
    obtain ⟨B', y1, y2, y3⟩ := mkD_fin (hS.push hp (.dK [])) upd_same .nil em
    exact ⟨B', y3 B H (hS.ext_new hp _) hp, y1, y2⟩
theorem em_dic (bx : Bool) {keys : List (Option Expr)} {values : List Expr} {m : Mp} (h : DM X pos keys values m) (hall : keys.all (·.isSome) = true) (hl : keys.length = values.length) (h0 : keys ≠ []) (h15 : keys.length ≤ 15) : EM X (.Dict keys values pos) (mDic bx m) := by
  intro pins s σ H B ev S d S' I hS hE em
  obtain ⟨⟨es, S1⟩, e1, em⟩ := bind_some em
  split at em
  · rename_i hz
    have hn := I.hok.fresh (Nat.le_refl s.heap.objs.size)
    have I1 := I.laid (a := s.heap.objs.size) (o := .dK []) (h' := s.heap.push { cls := .type "dict", data := .dict #[] }) (t' := s.toks) (fun _ _ q => Heap.get?_push_of_some _ q) (Nat.le_refl _) (dk_empty s.heap I.big)
    refine wpAny_Dict_walk (knd := mixKind X.prog X.w) hall hl h0 h15 (thn (h pins _ σ _ (B.push s.heap.objs.size) ev S es S1 I1 (hS.push hn _) (ER.ex (ex_push hn _) hE) e1) fun ws s2 ⟨kvs, H2, B2, I2, rel, x2, hS2, d2⟩ => ?_)
    obtain ⟨rs, c, rk⟩ := carries_of (P := X.prog) (w := X.w) rel
    obtain ⟨B3, rfl⟩ := x2.pushed
    have e : H2 s.heap.objs.size = some (.dK []) := (x2.tmp _ List.mem_cons_self).trans upd_same
    obtain ⟨z, hd, vs0, r0, dd⟩ := dk_of I2.hok e
    cases r0
    have hl2 : kvs.length ≤ 15 := by rw [← d2.length]; exact hz
    have hz2 : (mergeK [] kvs).length ≤ sizeLine := by
      have h1 := length_mergeK kvs []
      rw [List.length_nil] at h1
      rw [sizeLine_eq]; omega
    refine ⟨rs, c, dd, fun h' dd' hs => ?_⟩
    have he : ∃ q, h'.get? s.heap.objs.size = some q := let ⟨q, _, _, hq, _⟩ := dd'; ⟨q, hq⟩
    have hT : s.heap.objs.size ∈ (B3.push s.heap.objs.size).t := List.mem_cons_self
    have x0 : Ext B H B3 H2 := (hS.ext_new hn (.dK [])).inner hn x2
    have x3 := x0.aside hn hS2.popped (.dK (mergeK [] kvs))
    have d3 : RKV X.K X.mg (B3.push s.heap.objs.size) (upd H2 s.heap.objs.size (.dK (mergeK [] kvs))) (mergeD [] es) (mergeK [] kvs) := (RKV.ex (ex_temp hT _) d2).merge .nil
    obtain ⟨B', y1, y2, y3⟩ := mkD_fin (hS2.temp hT _) upd_same d3 em
    exact ⟨.ref s.heap.objs.size, _, B', d_write I2 (by rw [e]; exact True.intro) hs he (dk_new hz2 hd (rk.merge .nil) dd'), rfl, y3 B H x3 hn, y1, y2⟩
  · cases em

/-! ### targets -/
def gNm (i : Nat) : MG := fun d ev S => some (ev.set i (some d), S)
def gsNil : List D → EnvI → Store → Option (EnvI × Store) := fun ds ev S => match ds with
  | [] => some (ev, S)
  | _ => none
def gsCons (g : MG) (r : List D → EnvI → Store → Option (EnvI × Store)) : List D → EnvI → Store → Option (EnvI × Store) := fun ds ev S => match ds with
  | d :: ds => (g d ev S).bind fun a => r ds a.1 a.2
  | [] => none
/-- (a, b, ..) = a tuple of just so many -/
def gTp (n : Nat) (r : List D → EnvI → Store → Option (EnvI × Store)) : MG := fun d ev S => match d with
  | .p (.tuple xs) => if xs.length = n then r (xs.map .p) ev S else none
  | _ => none
def setI (S : Store) (o i d : D) : Option Store := match o with
  | .ref n => (match S[n]? with
    | some (.lst xs) => (match i with
      | .p (.int k) => (ixN xs.length k).map fun j => S.set n (.lst (xs.set j d))
      | _ => none)
    | some (.dct kvs) => (match i with
      | .p x => if kvs.length < sizeLine then (keyP x).map fun k => S.set n (.dct (putD kvs k d)) else none
      | _ => none)
    | _ => none)
  | _ => none
/-- o[i] = .. -/
def gSb (o i : M) : MG := fun d ev S => (o ev S).bind fun a => (i ev a.2).bind fun b => (setI b.2 a.1 b.1 d).map fun S' => (ev, S')
/-- a target that stores at the slots is -/
def GM (X : Cx) (tg : Expr) (is : List Nat) (m : MG) : Prop := ∀ (pins : List (Addr × Obj)) (s : Shared) (σ : St) (H : Hp) (B : BT) (ev : EnvI) (S : Store) (d : D) (v : V) (u : Value) (ev' : EnvI) (S' : Store), Inv X pins σ H s → SR X.K X.mg B H S → ER X.K X.mg B H ev σ → RD X.K X.mg B H d v → RelV v u → m d ev S = some (ev', S') →
  wpAny (model X.prog X.w) X.A (assign tg X.env u) (fun _ s' => ∃ σ' H' B', Inv X pins σ' H' s' ∧ Ext B H B' H' ∧ SR X.K X.mg B' H' S' ∧ ER X.K X.mg B' H' ev' σ' ∧ ∀ j, j ∉ is → σ'[j]? = σ[j]?) X.xe s
def GsM (X : Cx) (tgs : List Expr) (is : List Nat) (m : List D → EnvI → Store → Option (EnvI × Store)) : Prop := ∀ (pins : List (Addr × Obj)) (s : Shared) (σ : St) (H : Hp) (B : BT) (ev : EnvI) (S : Store) (ds : List D) (vs : List V) (us : List Value) (ev' : EnvI) (S' : Store), Inv X pins σ H s → SR X.K X.mg B H S → ER X.K X.mg B H ev σ → RDs X.K X.mg B H ds vs → Vals vs us → m ds ev S = some (ev', S') →
  wpAny (model X.prog X.w) X.A (assignInOrder ((assignEach tgs X.env).map (·.2)) us) (fun _ s' => ∃ σ' H' B', Inv X pins σ' H' s' ∧ Ext B H B' H' ∧ SR X.K X.mg B' H' S' ∧ ER X.K X.mg B' H' ev' σ' ∧ ∀ j, j ∉ is → σ'[j]? = σ[j]?) X.xe s
theorem gm_name {i : Nat} {x : Str} (hN : X.N.Nodup) (hi : X.N[i]? = some x) (hx : Loc X.env.scope x) (hf : X.fn x = true ∨ X.env.scope.names.lookup x = some .local) : GM X (.Name x pos) [i] (gNm i) := by
  intro pins s σ H B ev S d v u ev' S' I hS hE rd rv em
  cases em
  exact wpAny_assign_Name (store_ok I hN hi hx rv (fun s' I' => ⟨_, H, B, I', hS.refl, hS, hE.set i rd, fun j hj => List.getElem?_set_ne (fun q => hj (by rw [q]; exact List.mem_singleton_self _))⟩) hf)
theorem gs_nil : GsM X [] [] gsNil := by
  intro pins s σ H B ev S ds vs us ev' S' I hS hE rd rv em
  unfold gsNil at em
  split at em
  · cases em
    cases rd
    cases rv
    exact assignInOrder_nil ⟨σ, H, B, I, hS.refl, hS, hE, fun _ _ => rfl⟩
  · cases em
theorem each_cons {e : Expr} {es : List Expr} {env : Env} (h : notStar e = true) : assignEach (e :: es) env = (false, assign e env) :: assignEach es env := by
  cases e <;> first | rfl | cases h
theorem gs_cons {e : Expr} {es : List Expr} {is js : List Nat} {g : MG} {r : List D → EnvI → Store → Option (EnvI × Store)} (h1 : GM X e is g) (h2 : GsM X es js r) (hs : notStar e = true) : GsM X (e :: es) (is ++ js) (gsCons g r) := by
  intro pins s σ H B ev S ds vs us ev' S' I hS hE rd rv em
  unfold gsCons at em
  split at em
  · obtain ⟨⟨ev1, S1⟩, e1, em⟩ := bind_some em
    cases rd with
    | cons d1 d2 =>
      cases rv with
      | cons r1 r2 =>
        rw [each_cons hs]
        refine assignInOrder_cons (thn (h1 pins s σ H B ev S _ _ _ ev1 S1 I hS hE d1 r1 e1) fun _ s1 ⟨σ1, H1, B1, I1, x1, hS1, hE1, u1⟩ => ?_)
        refine thn (h2 pins s1 σ1 H1 B1 ev1 S1 _ _ _ ev' S' I1 hS1 hE1 (RDs.ext x1 d2) r2 em) fun _ s2 ⟨σ2, H2, B2, I2, x2, hS2, hE2, u2⟩ => ?_
        exact ⟨σ2, H2, B2, I2, x1.trans x2, hS2, hE2, fun j hj => (u2 j fun q => hj (List.mem_append_right _ q)).trans (u1 j fun q => hj (List.mem_append_left _ q))⟩
  · cases em
theorem each_len {env : Env} : ∀ {es : List Expr}, es.all notStar = true → (assignEach es env).length = es.length ∧ (assignEach es env).findIdx? (·.1) = none
  | [], _ => ⟨rfl, rfl⟩
  | e :: es, h => by
    rw [List.all_cons, Bool.and_eq_true] at h
    rw [each_cons h.1]
    obtain ⟨h1, h2⟩ := each_len (env := env) h.2
    refine ⟨by simp [h1], ?_⟩
    rw [List.findIdx?_cons, if_neg (by simp), h2]; rfl
/-- a tuple's items go to the targets: from any tuple that is read -/
theorem gm_items {es : List Expr} {is : List Nat} {k : Nat} {r : List D → EnvI → Store → Option (EnvI × Store)} (K : BK X) (h : GsM X es is r) (hs : es.all notStar = true) {pins : List (Addr × Obj)} {s : Shared} {σ : St} {H : Hp} {B : BT} {ev : EnvI} {S : Store} {ds : List D} {a : Addr} {vs : List V} {ev' : EnvI} {S' : Store}
    (I : Inv X pins σ H s) (hS : SR X.K X.mg B H S) (hE : ER X.K X.mg B H ev σ) (hq : SqT X.K H a vs) (rd : RDs X.K X.mg B H ds vs) (hl : ds.length = es.length) (em : r ds ev S = some (ev', S')) :
    wpAny (model X.prog X.w) X.A (assign (.Tuple es k pos) X.env (.ref a)) (fun _ s' => ∃ σ' H' B', Inv X pins σ' H' s' ∧ Ext B H B' H' ∧ SR X.K X.mg B' H' S' ∧ ER X.K X.mg B' H' ev' σ' ∧ ∀ j, j ∉ is → σ'[j]? = σ[j]?) X.xe s := by
  obtain ⟨its, rv, ht, hz⟩ := I.tuple hq
  obtain ⟨l1, l2⟩ := each_len (env := X.env) hs
  refine PyProof.Rows.assign_Tuple_tuple (I.ok.hd K.calm) ht (by rw [l1, List.size_toArray, ← rv.length, ← rd.length, hl]) l2 fun h' hx => ?_
  have I1 : Inv X pins σ H { s with heap := h' } := I.kept (t' := s.toks) fun b o e => hx b o (Nat.ne_of_lt (Heap.lt_size e)) e
  exact h pins _ σ H B ev S ds vs _ ev' S' I1 hS hE rd (by simpa using rv) em
theorem gm_tup {es : List Expr} {is : List Nat} {k : Nat} {r : List D → EnvI → Store → Option (EnvI × Store)} (K : BK X) (h : GsM X es is r) (hs : es.all notStar = true) : GM X (.Tuple es k pos) is (gTp es.length r) := by
  intro pins s σ H B ev S d v u ev' S' I hS hE rd rv em
  unfold gTp at em
  split at em
  · rename_i xs
    split at em
    · rename_i hl
      obtain ⟨a, vs, rfl, h1, h2⟩ := dq_tup rd
      cases rv
      exact gm_items K h hs I hS hE h1.sq (dqAll_map.mp h2) (by rw [List.length_map]; exact hl) em
    · cases em
  · cases em
theorem RDs.set {K : PySem.W.Frag} {mg : Mg} {B : BT} {H : Hp} {d : D} {v : V} (h : RD K mg B H d v) : ∀ {ds : List D} {vs : List V} (i : Nat), RDs K mg B H ds vs → RDs K mg B H (ds.set i d) (vs.set i v)
  | _, _, _, .nil => .nil
  | _, _, 0, .cons _ t => .cons h t
  | _, _, i + 1, .cons q t => .cons q (RDs.set h i t)
theorem setI_ok (K : BK X) {pins : List (Addr × Obj)} {s : Shared} {σ : St} {H : Hp} {B : BT} {S S' : Store} {o i d : D} {vo vi v : V} {ov iv u : Value} (I : Inv X pins σ H s) (hS : SR X.K X.mg B H S) (d1 : RD X.K X.mg B H o vo) (d2 : RD X.K X.mg B H i vi) (d3 : RD X.K X.mg B H d v)
    (r1 : RelV vo ov) (r2 : RelV vi iv) (r3 : RelV v u) (e : setI S o i d = some S') : wpAny (model X.prog X.w) X.A (setItem ov iv u) (fun _ s' => ∃ H', Inv X pins σ H' s' ∧ Ext B H B H' ∧ SR X.K X.mg B H' S') X.xe s := by
  unfold setI at e
  split at e
  · rename_i n
    obtain ⟨a, ha, rfl⟩ := d1
    split at e
    · rename_i xs hx
      obtain ⟨vs, h1, h2⟩ := hS.cell n _ a hx ha
      split at e
      · rename_i k
        obtain rfl := dq_int d2
        obtain ⟨j, hj, rfl⟩ := map_some e
        refine thn (set_list pins s σ H _ _ v ov iv u (fun H' => Ext B H B H' ∧ SR X.K X.mg B H' (S.set n (.lst (xs.set j d)))) I r1 r2 r3 ⟨a, vs, k, j, rfl, rfl, h1, by rw [← h2.length]; exact hj, ?_⟩) fun _ s' ⟨H', I', q⟩ => ⟨H', I', q⟩
        have x := hS.ext_write ha (.lst (vs.set j v))
        exact ⟨x, hS.write ha ⟨_, upd_same, RDs.ext x (RDs.set d3 j h2)⟩⟩
      · cases e
    · rename_i kvs hx
      obtain ⟨vs, h1, h2⟩ := hS.cell n _ a hx ha
      split at e
      · split at e
        · rename_i hz
          obtain ⟨k, hk, rfl⟩ := map_some e
          have ek := keyP_eq hk
          subst ek
          obtain rfl := kv_dq d2
          cases r1
          refine d_setItem (by have := K.hu; omega) I (DPut.k h1 (by rw [← h2.length]; exact hz)) r2 r3 fun s' I' => ?_
          have x := hS.ext_write ha (.dK (putK vs k v))
          exact ⟨_, I', x, hS.write ha ⟨_, upd_same, RKV.ext x (h2.put k d3)⟩⟩
        · cases e
      · cases e
    · cases e
  · cases e
theorem gm_sub (K : BK X) {o i : Expr} {mo mi : M} (ho : EM X o mo) (hi : EM X i mi)
    (ha : ∀ v, assign (.Subscript o i pos) X.env v = (do
      let ov ← holding [v] (eval o X.env)
      let iv ← holding [v, ov] (eval i X.env)
      standAt pos
      holding [v, ov, iv] (setItem ov iv v)
      release [v, ov, iv] [])) : GM X (.Subscript o i pos) [] (gSb mo mi) := by
  intro pins s σ H B ev S d v u ev' S' I hS hE rd rv em
  obtain ⟨⟨x, S1⟩, e1, em⟩ := bind_some em
  obtain ⟨⟨y, S2⟩, e2, em⟩ := bind_some em
  obtain ⟨S3, e3, em⟩ := map_some em
  cases em
  rw [ha]
  refine wpAny_bind (wpAny_holding (thn (ho pins s σ H B ev S x S1 I hS hE e1) fun ov s1 ⟨vo, H1, B1, I1, r1, x1, hS1, d1⟩ => ?_))
  refine wpAny_bind (wpAny_holding (thn (hi pins s1 σ H1 B1 ev S1 y S2 I1 hS1 (hE.ext x1) e2) fun iv s2 ⟨vi, H2, B2, I2, r2, x2, hS2, d2⟩ => ?_))
  refine wpAny_bind (wpAny_standAt (wpAny_bind (wpAny_holding (thn (setI_ok K I2 hS2 (RD.ext x2 d1) d2 (RD.ext (x1.trans x2) rd) r1 r2 rv e3) fun _ s3 ⟨H3, I3, x3, hS3⟩ => ?_))))
  exact wpAny_release ⟨σ, H3, B2, I3, (x1.trans x2).trans x3, hS3, hE.ext ((x1.trans x2).trans x3), fun _ _ => rfl⟩
end
end PI
set_option maxHeartbeats 1000000
/-! Own text: what is walked, comprehensions, statements, loops. -/
namespace PI
open PySem PySem.Spec L2
open PyProof.Rows hiding St

theorem Ex0.trans {B B1 B2 : BT} {H H1 H2 : Hp} (a : Ex0 B H B1 H1) (b : Ex0 B1 H1 B2 H2) : Ex0 B H B2 H2 :=
  ⟨fun x o n h => b.keep x o (a.keep x o n h).2 (a.keep x o n h).1, fun n x h => b.pre n x (a.pre n x h)⟩
theorem Ex0.refl {B : BT} {H : Hp} : Ex0 B H B H := ⟨fun _ _ n h => ⟨h, n⟩, fun _ _ h => h⟩

/-! ### what is walked: at turn i, with the boxes as they stand, an item, the end, or no word -/
abbrev Src := Nat → Store → Option (Option D)
abbrev MIt := EnvI → Store → Option (Src × Store)
def JM (K : PySem.W.Frag) (mg : Mg) (J : It) (src : Src) (B1 : BT) (H1 : Hp) : Prop := ∀ (i : Nat) (B' : BT) (H' : Hp) (S' : Store), Ex0 B1 H1 B' H' → SR K mg B' H' S' →
  (src i S' = some none → J.stop i H') ∧ ∀ d, src i S' = some (some d) → J.go i H' ∧ ∀ x H2, J.yld i H' x H2 → (H2 = H' ∨ ∃ T o, H' T = none ∧ H2 = upd H' T o) ∧ RD K mg B' H2 d x
def tI (K : PySem.W.Frag) (mg : Mg) (m : MIt) : TI := fun σ H R => ∃ B ev S src S', SR K mg B H S ∧ ER K mg B H ev σ ∧ m ev S = some (src, S') ∧ ∀ J B' H', Ext B H B' H' → SR K mg B' H' S' → JM K mg J src B' H' → R J H'
def IM (X : Cx) (tg iter : Expr) (m : MIt) : Prop := PI X tg iter (tI X.K X.mg m)
theorem IM.of {X : Cx} {tg iter : Expr} {wi : TI} {m : MIt} (h : PI X tg iter wi) (g : ∀ σ H R, tI X.K X.mg m σ H R → wi σ H R) : IM X tg iter m := ⟨fun pins s σ H R I q => h.run pins s σ H R I (g σ H R q)⟩
theorem PI_or {X : Cx} {tg iter : Expr} {w1 w2 : TI} (h1 : PI X tg iter w1) (h2 : PI X tg iter w2) : PI X tg iter (fun σ H R => w1 σ H R ∨ w2 σ H R) := ⟨fun pins s σ H R I q => by
  rcases q with q | q
  · exact h1.run pins s σ H R I q
  · exact h2.run pins s σ H R I q⟩
/-- a value's items -/
def srcL (xs : List D) : Src := fun i _ => some xs[i]?
def srcR (n : Nat) : Src := fun i S => match S[n]? with
  | some (.lst ys) => some ys[i]?
  | _ => none
def srcOf (S : Store) : D → Option Src
  | .p (.list xs) => some (srcL (xs.map .p))
  | .p (.tuple xs) => some (srcL (xs.map .p))
  | .ref n => (match S[n]? with
    | some (.lst _) => some (srcR n)
    | _ => none)
  | _ => none
def mIter (a : M) : MIt := fun ev S => (a ev S).bind fun r => (srcOf r.2 r.1).map fun f => (f, r.2)
/-- lo, lo + 1, .. -/
def srcN (lo : Int) (n : Nat) : Src := fun i _ => some (if i < n then some (.p (.int (lo + i))) else none)
def mRng1 (a : M) : MIt := fun ev S => (a ev S).bind fun r => match r.1 with
  | .p (.int j) => if -(2 ^ 62) ≤ j ∧ j < 2 ^ 62 then some (srcN 0 j.toNat, r.2) else none
  | _ => none
def rng2 (S : Store) : D → D → Option (Src × Store)
  | .p (.int i), .p (.int j) => if -(2 ^ 62) ≤ i ∧ i < 2 ^ 62 ∧ -(2 ^ 62) ≤ j ∧ j < 2 ^ 62 then some (srcN i (j - i).toNat, S) else none
  | _, _ => none
def mRng2 (a b : M) : MIt := fun ev S => (a ev S).bind fun r => (b ev r.2).bind fun t => rng2 t.2 r.1 t.1
section
variable {X : Cx} {tg a b e : Expr} {ma mb : M} {pos : Pos}
theorem jm_list {K : PySem.W.Frag} {mg : Mg} {B : BT} {H : Hp} {p : Addr} {vs : List V} {ds : List D} (h : SqLB K B H p vs) (r : RDs K mg B H ds vs) : JM K mg (Itl K p) (srcL ds) B H := by
  intro i B' H' S' x hS
  have h' : SqL K H' p vs := .inl (x.rd h.1 h.2).1
  have r' := RDs.ex x r
  refine ⟨fun e => ⟨vs, h', ?_⟩, fun d e => ?_⟩
  · have e : ds[i]? = none := Option.some.inj e
    rw [← r'.length]
    exact List.getElem?_eq_none_iff.mp e
  · have e : ds[i]? = some d := Option.some.inj e
    obtain ⟨v, hv, rv⟩ := r'.at e
    refine ⟨⟨vs, v, h', hv⟩, fun x' H2 y => ?_⟩
    obtain ⟨rfl, y⟩ := y
    refine ⟨.inl rfl, ?_⟩
    have := y vs h'
    rw [hv] at this
    cases this
    exact rv
theorem jm_tup {K : PySem.W.Frag} {mg : Mg} {B : BT} {H : Hp} {p : Addr} {vs : List V} {ds : List D} (h : SqTB K B H p vs) (r : RDs K mg B H ds vs) : JM K mg (Itt K p) (srcL ds) B H := by
  intro i B' H' S' x hS
  have h' : SqT K H' p vs := h.imp (fun z => (x.rd z.1 z.2).1) id
  have r' := RDs.ex x r
  refine ⟨fun e => ⟨vs, h', ?_⟩, fun d e => ?_⟩
  · have e : ds[i]? = none := Option.some.inj e
    rw [← r'.length]
    exact List.getElem?_eq_none_iff.mp e
  · have e : ds[i]? = some d := Option.some.inj e
    obtain ⟨v, hv, rv⟩ := r'.at e
    refine ⟨⟨vs, v, h', hv⟩, fun x' H2 y => ?_⟩
    obtain ⟨rfl, y⟩ := y
    refine ⟨.inl rfl, ?_⟩
    have := y vs h'
    rw [hv] at this
    cases this
    exact rv
theorem jm_box {K : PySem.W.Frag} {mg : Mg} {B : BT} {H : Hp} {p : Addr} {n : Nat} (h : B.b[n]? = some p) : JM K mg (Itl K p) (srcR n) B H := by
  intro i B' H' S' x hS
  have h' := x.pre n p h
  have go : ∀ ys, S'[n]? = some (.lst ys) → ∃ vs, SqL K H' p vs ∧ RDs K mg B' H' ys vs := fun ys e => by
    obtain ⟨vs, h1, h2⟩ := hS.cell n _ p e h'
    exact ⟨vs, .inl (.inl h1), h2⟩
  refine ⟨fun e => ?_, fun d e => ?_⟩
  · unfold srcR at e
    split at e
    · rename_i ys hy
      obtain ⟨vs, h1, h2⟩ := go ys hy
      have e : ys[i]? = none := Option.some.inj e
      exact ⟨vs, h1, by rw [← h2.length]; exact List.getElem?_eq_none_iff.mp e⟩
    · cases e
  · unfold srcR at e
    split at e
    · rename_i ys hy
      obtain ⟨vs, h1, h2⟩ := go ys hy
      have e : ys[i]? = some d := Option.some.inj e
      obtain ⟨v, hv, rv⟩ := h2.at e
      refine ⟨⟨vs, v, h1, hv⟩, fun x' H2 y => ?_⟩
      obtain ⟨rfl, y⟩ := y
      refine ⟨.inl rfl, ?_⟩
      have := y vs h1
      rw [hv] at this
      cases this
      exact rv
    · cases e
theorem im_val (ha : EM X a ma) : IM X tg a (mIter ma) := by
  refine IM.of (PI_or (pi_list ha.pe) (pi_tup ha.pe)) fun σ H R q => ?_
  obtain ⟨B, ev, S, src, S', hS, hE, em, q⟩ := q
  obtain ⟨⟨x, S1⟩, e1, em⟩ := bind_some em
  obtain ⟨f, e2, em⟩ := map_some em
  cases em
  -- a list, boxed or not, is the first way; a tuple the second
  cases x with
  | p y =>
    cases y <;> simp only [srcOf, Option.some.injEq] at e2 <;> first | (subst e2) | (cases e2)
    · refine .inl ⟨B, ev, S, _, _, hS, hE, e1, fun B1 H1 v1 x1 s1 d1 => ?_⟩
      cases d1 with
      | lst h1 h2 => exact ⟨_, rfl, ⟨_, h1.sq⟩, q _ B1 H1 x1 s1 (jm_list (mg := X.mg) h1 (dqAll_map.mp h2))⟩
    · refine .inr ⟨B, ev, S, _, _, hS, hE, e1, fun B1 H1 v1 x1 s1 d1 => ?_⟩
      obtain ⟨p, vs, rfl, h1, h2⟩ := dq_tup d1
      exact ⟨p, rfl, ⟨_, h1.sq⟩, q _ B1 H1 x1 s1 (jm_tup (mg := X.mg) h1 (dqAll_map.mp h2))⟩
  | ref n =>
    simp only [srcOf] at e2
    cases hq : S1[n]? with
    | none => rw [hq] at e2; cases e2
    | some c =>
      rw [hq] at e2
      cases c with
      | lst ys =>
        cases e2
        refine .inl ⟨B, ev, S, _, _, hS, hE, e1, fun B1 H1 v1 x1 s1 d1 => ?_⟩
        obtain ⟨p, h1, rfl⟩ := d1
        obtain ⟨vs, h2, _⟩ := s1.cell n _ p hq h1
        exact ⟨p, rfl, ⟨_, .inl (.inl h2)⟩, q _ B1 H1 x1 s1 (jm_box h1)⟩
      | _ => cases e2
  | _ => cases e2
theorem jm_rng {K : PySem.W.Frag} {mg : Mg} {B : BT} {H : Hp} {lo : Int} {n : Nat} : JM K mg (Itr lo n) (srcN lo n) B H := by
  intro i B' H' S' x hS
  refine ⟨fun e => ?_, fun d e => ?_⟩
  · have e : (if i < n then some (D.p (.int (lo + i))) else none) = none := Option.some.inj e
    split at e
    · cases e
    · rename_i h; exact Nat.le_of_not_lt h
  · have e : (if i < n then some (D.p (.int (lo + i))) else none) = some d := Option.some.inj e
    split at e
    · rename_i h
      cases e
      refine ⟨h, fun x' H2 y => ?_⟩
      obtain ⟨rfl, rfl⟩ := y
      exact ⟨.inl rfl, .int _⟩
    · cases e
theorem im_rng1 {p : Pos} (ha : EM X a ma) (hs : notStar a = true) (hg : Gl X "range") (hm : X.mg "range" = none) : IM X tg (.Call (.Name "range" p) [a] [] pos) (mRng1 ma) := by
  refine IM.of (pi_range1 hg hm (am_cons ha am_nil hs).pa (star_cons hs)) fun σ H R q => ?_
  obtain ⟨B, ev, S, src, S', hS, hE, em, q⟩ := q
  obtain ⟨⟨x, S1⟩, e1, em⟩ := bind_some em
  simp only at em
  split at em
  · rename_i j
    split at em
    · rename_i hc
      cases em
      refine ⟨B, ev, S, [.p (.int j)], S', hS, hE, by simp only [mCons, mNil, e1, Option.bind_some, Option.map_some], fun B1 H1 v1 x1 s1 d1 => ?_⟩
      obtain ⟨v, rfl, h⟩ := rds1 d1
      obtain rfl := dq_int h
      exact ⟨j, rfl, hc.1, hc.2, q _ B1 H1 x1 s1 jm_rng⟩
    · cases em
  · cases em
theorem im_rng2 {p : Pos} (ha : EM X a ma) (hb : EM X b mb) (hs : notStar a = true) (hs2 : notStar b = true) (hg : Gl X "range") (hm : X.mg "range" = none) : IM X tg (.Call (.Name "range" p) [a, b] [] pos) (mRng2 ma mb) := by
  refine IM.of (pi_range2 hg hm (am_cons ha (am_cons hb am_nil hs2) hs).pa (by rw [star_cons hs, star_cons hs2]; rfl) (star_cons hs2)) fun σ H R q => ?_
  obtain ⟨B, ev, S, src, S', hS, hE, em, q⟩ := q
  obtain ⟨⟨x, S1⟩, e1, em⟩ := bind_some em
  obtain ⟨⟨y, S2⟩, e2, em⟩ := bind_some em
  unfold rng2 at em
  split at em
  · rename_i d1 d2 i j h1 h2
    split at em
    · rename_i hc
      cases em
      have h1 : x = .p (.int i) := h1
      have h2 : y = .p (.int j) := h2
      subst h1 h2
      refine ⟨B, ev, S, [.p (.int i), .p (.int j)], S2, hS, hE, by simp only [mCons, mNil, e1, e2, Option.bind_some, Option.map_some], fun B1 H1 v1 x1 s1 d1 => ?_⟩
      obtain ⟨v, w, rfl, h, h2⟩ := rds2 d1
      obtain rfl := dq_int h
      obtain rfl := dq_int h2
      exact ⟨i, j, rfl, hc, q _ B1 H1 x1 s1 jm_rng⟩
    · cases em
  · cases em
end

/-! ### targets and tests for the layer -/
def tG (K : PySem.W.Frag) (mg : Mg) (is : List Nat) (m : MG) : TG := fun v σ H Q => ∃ B ev S d ev' S', SR K mg B H S ∧ ER K mg B H ev σ ∧ RD K mg B H d v ∧ m d ev S = some (ev', S') ∧
  ∀ B' H' σ', Ext B H B' H' → SR K mg B' H' S' → ER K mg B' H' ev' σ' → (∀ j, j ∉ is → σ'[j]? = σ[j]?) → σ'.length = σ.length → Q σ' H'
section
variable {X : Cx} {tg a b e : Expr} {ma mb : M} {pos : Pos}
theorem GM.pg {is : List Nat} {m : MG} (h : GM X tg is m) : PG X tg (tG X.K X.mg is m) := ⟨fun pins s σ H v u Q I r ⟨B, ev, S, d, ev', S', hS, hE, rd, em, q⟩ =>
  thn (h pins s σ H B ev S d v u ev' S' I hS hE rd r em) fun _ s' ⟨σ', H', B', I', x, s1, e1, u1⟩ => ⟨σ', H', I', q B' H' σ' x s1 e1 u1 (I'.len.trans I.len.symm)⟩⟩
theorem TM.pt (h : TM X e ma) : PT X e (tMt X.K X.mg ma) := ⟨fun pins s σ H Q I ⟨B, ev, S, b, S', hS, hE, em, q⟩ =>
  thn (h pins s σ H B ev S _ S' b I hS hE em rfl) fun k s1 ⟨hk, H1, B1, I1, x1, S1⟩ => ⟨H1, I1, by rw [hk]; exact q B1 H1 x1 S1⟩⟩
def mYes : M := mC (.p (.bool true))
theorem pts_yes : PTs X [] (tMt X.K X.mg mYes) := ⟨fun pins s σ H Q I ⟨B, ev, S, b, S', hS, hE, em, q⟩ => by
  cases em
  exact (pts_nil (X := X)).run pins s σ H Q I (q B H hS.refl hS)⟩
end

/-! ### comprehensions -/
def wipeE (ev : EnvI) : List Nat → EnvI
  | [] => ev
  | v :: vs => (wipeE ev vs).set v none
def lcLoop (src : Src) (g : MG) (c elt : M) (ev : EnvI) : Nat → Nat → List D → Store → Option (List D × Store)
  | 0, _, _, _ => none
  | k + 1, i, acc, S => (src i S).bind fun o => match o with
    | none => some (acc, S)
    | some d => (g d ev S).bind fun r => (c r.1 r.2).bind fun t => (isTru t.1).bind fun b =>
      if b then (elt r.1 t.2).bind fun y => if acc.length < sizeLine then lcLoop src g c elt ev k (i + 1) (acc ++ [y.1]) y.2 else none
      else lcLoop src g c elt ev k (i + 1) acc t.2
def mLc (L : Nat) (bx : Bool) (mi : MIt) (own : List Nat) (g : MG) (c elt : M) : M := fun ev S => (mi ev S).bind fun r => (lcLoop r.1 g c elt (wipeE ev own) L 0 [] r.2).bind fun q => mkL bx q.1 q.2

theorem ER.unset {K : PySem.W.Frag} {mg : Mg} {B : BT} {H : Hp} {ev : EnvI} {σ : St} (h : ER K mg B H ev σ) (i : Nat) : ER K mg B H (ev.set i none) (σ.set i none) := by
  refine ⟨by simp [h.len], fun j d' q => ?_⟩
  by_cases hj : i = j
  · subst hj
    by_cases hl : i < ev.length
    · rw [List.getElem?_set_self hl] at q; cases q
    · rw [List.getElem?_eq_none (by simpa using hl)] at q; cases q
  · rw [List.getElem?_set_ne hj] at q ⊢
    exact h.at_ j d' q
theorem ER.wipe {K : PySem.W.Frag} {mg : Mg} {B : BT} {H : Hp} {ev : EnvI} {σ : St} (h : ER K mg B H ev σ) : ∀ vs : List Nat, ER K mg B H (wipeE ev vs) (wipe σ vs)
  | [] => h
  | v :: vs => (ER.wipe h vs).unset v
theorem wipe_at (σ : St) : ∀ (vs : List Nat) (j : Nat), (wipe σ vs)[j]? = if j ∈ vs then (σ[j]?).map (fun _ => none) else σ[j]?
  | [], j => by simp [wipe]
  | v :: vs, j => by
    show ((wipe σ vs).set v none)[j]? = _
    by_cases hj : v = j
    · subst hj
      by_cases hl : v < σ.length
      · rw [List.getElem?_set_self (by rw [wipe_length]; exact hl)]
        simp [List.getElem?_eq_getElem hl]
      · rw [List.getElem?_eq_none (by rw [List.length_set, wipe_length]; omega), List.getElem?_eq_none (by omega)]
        simp
    · rw [List.getElem?_set_ne hj, wipe_at σ vs j]
      have : (j ∈ v :: vs) ↔ j ∈ vs := by
        rw [List.mem_cons]
        exact ⟨fun q => q.elim (fun z => absurd z.symm hj) id, .inr⟩
      simp only [this]
theorem wipe_same {σ σ2 : St} {vs is : List Nat} (hl : σ2.length = σ.length) (hi : ∀ j ∈ is, j ∈ vs) (u : ∀ j, j ∉ is → σ2[j]? = (wipe σ vs)[j]?) : wipe σ2 vs = wipe σ vs := by
  apply List.ext_getElem?
  intro j
  rw [wipe_at]
  by_cases hj : j ∈ vs
  · rw [if_pos hj, wipe_at, if_pos hj]
    by_cases hlt : j < σ.length
    · rw [List.getElem?_eq_getElem hlt, List.getElem?_eq_getElem (by rw [hl]; exact hlt)]; rfl
    · rw [List.getElem?_eq_none (by omega), List.getElem?_eq_none (by omega)]
  · rw [if_neg hj]
    exact u j fun q => hj (hi j q)

/-- the layer's reading of a comprehension, from its meaning -/
theorem lc_reads {K : PySem.W.Frag} {mg : Mg} {L : Nat} {bx : Bool} {mi : MIt} {own is : List Nat} {g : MG} {c elt : M} (hi : ∀ j ∈ is, j ∈ own) {σ : St} {H : Hp} {B : BT} {ev : EnvI} {S : Store} {d : D} {S' : Store} {Q : VK}
    (hS : SR K mg B H S) (hE : ER K mg B H ev σ) (em : mLc L bx mi own g c elt ev S = some (d, S')) (q : Post K mg B H d S' Q) : tLc (tI K mg mi) (tG K mg is g) (tMt K mg c) (tM K mg elt) own σ H Q := by
  obtain ⟨⟨src, S1⟩, e1, em⟩ := bind_some em
  obtain ⟨⟨accF, SF⟩, e2, em⟩ := bind_some em
  refine ⟨B, ev, S, src, S1, hS, hE, e1, fun J B1 H1 x1 hS1 jm D hD => ?_⟩
  refine ⟨fun i k Hi => ∃ Bi Si acc accV, Ext B1 H1 Bi Hi ∧ Ex0 B1 H1 (Bi.push D) Hi ∧ SR K mg (Bi.push D) Hi Si ∧ Hi D = some (.lst accV) ∧ RDs K mg (Bi.push D) Hi acc accV ∧ lcLoop src g c elt (wipeE ev own) k i acc Si = some (accF, SF), ?_, ?_⟩
  · exact ⟨L, B1, S1, [], [], hS1.ext_new hD _, ex_push hD _, hS1.push hD _, upd_same, .nil, e2⟩
  · rintro i k Hi ⟨Bi, Si, acc, accV, xi, yi, si, hDi, ra, lp⟩
    cases k with
    | zero => cases lp
    | succ k =>
      simp only [lcLoop] at lp
      obtain ⟨o, e3, lp⟩ := bind_some lp
      obtain ⟨j1, j2⟩ := jm i _ Hi Si yi si
      cases o with
      | none =>
        cases lp
        refine .inl ⟨j1 e3, ?_⟩
        obtain ⟨B', y1, y2, y3⟩ := mkL_fin si hDi ra em
        exact q B' Hi _ (y3 B H (x1.trans xi) (x1.none hD)) y1 y2
      | some d0 =>
        obtain ⟨hgo, hy⟩ := j2 d0 e3
        obtain ⟨⟨ev1, S2⟩, e4, lp⟩ := bind_some lp
        obtain ⟨⟨t, S3⟩, e5, lp⟩ := bind_some lp
        obtain ⟨bt, e6, lp⟩ := bind_some lp
        obtain rfl := isTru_p e6
        refine .inr ⟨hgo, fun H' => ∃ Bi Si acc accV, Ext B1 H1 Bi H' ∧ Ex0 B1 H1 (Bi.push D) H' ∧ SR K mg (Bi.push D) H' Si ∧ H' D = some (.lst accV) ∧ RDs K mg (Bi.push D) H' acc accV ∧ lcLoop src g c elt (wipeE ev own) k (i + 1) acc Si = some (accF, SF), ?_, ?_⟩
        · rintro H' ⟨B', S'', a', v', r⟩
          exact ⟨k, Nat.lt_succ_self _, B', S'', a', v', r⟩
        · intro x H2 hyld
          obtain ⟨hh, rd⟩ := hy x H2 hyld
          -- the item came: nothing, or one new object, in the heap
          have st : Ext (Bi.push D) Hi (Bi.push D) H2 ∧ SR K mg (Bi.push D) H2 Si := by
            rcases hh with rfl | ⟨T, ob, hT, rfl⟩
            · exact ⟨si.refl, si⟩
            · exact ⟨si.ext_new hT ob, si.new hT ob⟩
          obtain ⟨x2, s2⟩ := st
          have hEw : ER K mg (Bi.push D) H2 (wipeE ev own) (wipe σ own) := ER.ex ((x1.ex.trans yi).trans x2.ex) (hE.wipe own)
          refine ⟨Bi.push D, wipeE ev own, Si, d0, ev1, S2, s2, hEw, rd, e4, fun B3 H3 σ3 x3 s3 hE3 u3 l3 => ⟨wipe_same (l3.trans (wipe_length σ own)) hi u3, ?_⟩⟩
          refine ⟨B3, ev1, S2, bt, S3, s3, hE3, e5, fun B4 H4 x4 s4 => ?_⟩
          have x24 := (x2.trans x3).trans x4
          cases bt with
          | false =>
            obtain ⟨B5, rfl⟩ := x24.pushed
            refine ⟨B5, S3, acc, accV, xi.inner hD x24, yi.trans x24.ex, s4, (x24.tmp D List.mem_cons_self).trans hDi, RDs.ext x24 ra, lp⟩
          | true =>
            obtain ⟨⟨y, S5⟩, e7, lp⟩ := bind_some lp
            simp only at lp
            split at lp
            · rename_i hz
              refine ⟨B4, ev1, S3, y, S5, s4, hE3.ext x4, e7, fun B5 H5 v5 x5 s5 d5 => ?_⟩
              have x25 := x24.trans x5
              obtain ⟨B6, rfl⟩ := x25.pushed
              have hD5 : H5 D = some (.lst accV) := (x25.tmp D List.mem_cons_self).trans hDi
              have hT : D ∈ (B6.push D).t := List.mem_cons_self
              refine ⟨accV, hD5, by rw [← ra.length]; exact hz, B6, S5, acc ++ [y], accV ++ [v5], (xi.inner hD x25).aside hD s5.popped _, (yi.trans x25.ex).trans (ex_temp hT _), s5.temp hT _, upd_same, RDs.ex (ex_temp hT _) (RDs.append (RDs.ext x25 ra) (.cons d5 .nil)), lp⟩
            · cases lp
end PI
set_option maxHeartbeats 1000000
/-! Own text: the comprehension as a value, statements, loops. -/
namespace PI
open PySem PySem.Spec L2
open PyProof.Rows hiding St

/-- the tests of a comprehension -/
def CM (X : Cx) (ifs : List Expr) (m : M) : Prop := PTs X ifs (tMt X.K X.mg m)
theorem cm_nil {X : Cx} : CM X [] mYes := pts_yes
theorem cm_one {X : Cx} {c : Expr} {m : M} (h : TM X c m) : CM X [c] m := pts_one h.pt
section
variable {X : Cx} {tg a b e elt iter : Expr} {ma mb mc me : M} {mi : MIt} {g : MG} {is : List Nat} {ifs : List Expr} {scope : Scope} {own : List (Str × Nat)} {pos spos py : Pos} {L : Nat}
theorem em_lc (bx : Bool) (hK : BK X) (hN : X.N.Nodup) (hi : IM X tg iter mi) (ok : BlkOk X.N X.env.scope scope own) (his : ∀ j ∈ is, j ∈ own.map (·.2))
    (hg : ∀ (s : Shared) (H : Hp) (C : Addr) (cl : List (Str × Addr)) (fp : List Addr), GM (X.blk s H scope (compEnvC scope cl C X.env) fp) tg is g) (ht : ∀ (s : Shared) (H : Hp) (C : Addr) (cl : List (Str × Addr)) (fp : List Addr), CM (X.blk s H scope (compEnvC scope cl C X.env) fp) ifs mc)
    (he : ∀ (s : Shared) (H : Hp) (C : Addr) (cl : List (Str × Addr)) (fp : List Addr), EM (X.blk s H scope (compEnvC scope cl C X.env) fp) elt me) (hs : ∀ x, foldedSetIterable iter X.env x = pure x) :
    EM X (.ListComp elt [⟨tg, iter, ifs, 0⟩] scope pos) (mLc L bx mi (own.map (·.2)) g mc me) :=
  EM.of_pe (pe_lc hK.calm hN hi ok (g := tG X.K X.mg is g) (tt := tMt X.K X.mg mc) (te := tM X.K X.mg me) (fun s H C cl fp => (hg s H C cl fp).pg) (fun s H C cl fp => ht s H C cl fp) (fun s H C cl fp => (he s H C cl fp).pe) hs) fun σ H B ev S d S' hS hE em => lc_reads his hS hE em post_QM
end

/-! ### statements -/
def SM (X : Cx) (st : Stmt) (m : MS) : Prop := PS X st (tMS X.K X.mg m)
def SsM (X : Cx) (sts : List Stmt) (m : MS) : Prop := PSs X sts (tMS X.K X.mg m)
def sNil : MS := fun ev S => some (.nx, ev, S)
def sSeq (a b : MS) : MS := fun ev S => (a ev S).bind fun r => match r.1 with
  | .nx => b r.2.1 r.2.2
  | f => some (f, r.2.1, r.2.2)
def sEx (a : M) : MS := fun ev S => (a ev S).map fun r => (.nx, ev, r.2)
def sRet (a : M) : MS := fun ev S => (a ev S).map fun r => (.rt r.1, ev, r.2)
def sRetN : MS := fun ev S => some (.rt (.p .none), ev, S)
def sBrk : MS := fun ev S => some (.bk, ev, S)
def sCnt : MS := fun ev S => some (.ct, ev, S)
def sNo : MS := fun _ _ => none
def sIf (c : M) (a b : MS) : MS := fun ev S => (c ev S).bind fun r => (isTru r.1).bind fun k => if k then a ev r.2 else b ev r.2
def sAsg (a : M) (g : MG) : MS := fun ev S => (a ev S).bind fun r => (g r.1 ev r.2).map fun q => (.nx, q.1, q.2)
/-- plain names from a display, each with its slot -/
def sPar (a : Ms) (g : List D → EnvI → Store → Option (EnvI × Store)) : MS := fun ev S => (a ev S).bind fun r => (g r.1 ev r.2).map fun q => (.nx, q.1, q.2)

theorem PS.of {X : Cx} {st : Stmt} {t t' : TS} (h : PS X st t) (g : ∀ D σ H, t' D σ H → t D σ H) : PS X st t' := ⟨fun pins s σ H D I q => h.run pins s σ H D I (g D σ H q)⟩
theorem PSs.of {X : Cx} {st : List Stmt} {t t' : TS} (h : PSs X st t) (g : ∀ D σ H, t' D σ H → t D σ H) : PSs X st t' := ⟨fun pins s σ H D I q => h.run pins s σ H D I (g D σ H q)⟩
section
variable {X : Cx} {st : Stmt} {sts rest : List Stmt} {a b c e tg : Expr} {ma mb mc : M} {m m1 m2 : MS} {g : MG} {pos spos p py : Pos}
theorem sm_no : SM X st sNo := ⟨fun pins s σ H D I ⟨B, ev, S, f, ev', S', hS, hE, em, q⟩ => by cases em⟩
theorem ssm_nil : SsM X [] sNil := PSs.of pss_nil fun D σ H ⟨B, ev, S, f, ev', S', hS, hE, em, q⟩ => by
  cases em
  exact q B H hS.refl hS σ hE
theorem ssm_cons (h1 : SM X st m1) (h2 : SsM X rest m2) : SsM X (st :: rest) (sSeq m1 m2) := PSs.of (pss_cons h1 h2) fun D σ H ⟨B, ev, S, f, ev', S', hS, hE, em, q⟩ => by
  obtain ⟨⟨f1, ev1, S1⟩, e1, em⟩ := bind_some em
  refine ⟨B, ev, S, f1, ev1, S1, hS, hE, e1, fun B1 H1 x1 s1 => ?_⟩
  cases f1 with
  | nx => exact fun σ1 hE1 => ⟨B1, ev1, S1, f, ev', S', s1, hE1, em, fun B2 H2 x2 s2 => q B2 H2 (x1.trans x2) s2⟩
  | _ => cases em; exact q B1 H1 x1 s1
theorem ssm_one (h : SM X st m) : SsM X [st] m := pss_one h
theorem sm_pass : SM X (.Pass pos) sNil := PS.of ps_pass fun D σ H ⟨B, ev, S, f, ev', S', hS, hE, em, q⟩ => by
  cases em
  exact q B H hS.refl hS σ hE
theorem sm_break : SM X (.Break pos) sBrk := PS.of ps_break fun D σ H ⟨B, ev, S, f, ev', S', hS, hE, em, q⟩ => by
  cases em
  exact q B H hS.refl hS σ hE
theorem sm_continue : SM X (.Continue pos) sCnt := PS.of ps_continue fun D σ H ⟨B, ev, S, f, ev', S', hS, hE, em, q⟩ => by
  cases em
  exact q B H hS.refl hS σ hE
theorem sm_doc {x : Str} {j : Nat} {p : Pos} : SM X (.Expr (.Constant (.str x) j p) pos) sNil := PS.of ps_doc fun D σ H ⟨B, ev, S, f, ev', S', hS, hE, em, q⟩ => by
  cases em
  exact q B H hS.refl hS σ hE
theorem sm_expr (ha : EM X a ma) (hs : swapsWith a none pos.line X.env = pure false) : SM X (.Expr a pos) (sEx ma) := PS.of (ps_expr ha.pe hs) fun D σ H ⟨B, ev, S, f, ev', S', hS, hE, em, q⟩ => by
  obtain ⟨⟨d, S1⟩, e1, em⟩ := map_some em
  cases em
  exact ⟨B, ev, S, d, S1, hS, hE, e1, fun B1 H1 v x1 s1 d1 => q B1 H1 x1 s1 σ (hE.ext x1)⟩
theorem sm_ret (ha : EM X a ma) : SM X (.Return (some a) pos) (sRet ma) := PS.of (ps_ret ha.pe) fun D σ H ⟨B, ev, S, f, ev', S', hS, hE, em, q⟩ => by
  obtain ⟨⟨d, S1⟩, e1, em⟩ := map_some em
  cases em
  exact ⟨B, ev, S, d, S1, hS, hE, e1, fun B1 H1 v x1 s1 d1 => q B1 H1 x1 s1 v d1⟩
theorem sm_retN : SM X (.Return none pos) sRetN := PS.of ps_retN fun D σ H ⟨B, ev, S, f, ev', S', hS, hE, em, q⟩ => by
  cases em
  exact q B H hS.refl hS .non Dq.non
theorem sm_if {p q : List Stmt} (hc : TM X c mc) (h1 : SsM X p m1) (h2 : SsM X q m2) : SM X (.If c p q pos) (sIf mc m1 m2) := PS.of (ps_if hc.pt h1 h2) fun D σ H ⟨B, ev, S, f, ev', S', hS, hE, em, q⟩ => by
  obtain ⟨⟨d, S1⟩, e1, em⟩ := bind_some em
  obtain ⟨k, e2, em⟩ := bind_some em
  obtain rfl := isTru_p e2
  refine ⟨B, ev, S, k, S1, hS, hE, e1, fun B1 H1 x1 s1 => ?_⟩
  cases k with
  | true => exact ⟨B1, ev, S1, f, ev', S', s1, hE.ext x1, em, fun B2 H2 x2 s2 => q B2 H2 (x1.trans x2) s2⟩
  | false => exact ⟨B1, ev, S1, f, ev', S', s1, hE.ext x1, em, fun B2 H2 x2 s2 => q B2 H2 (x1.trans x2) s2⟩
theorem GM.pm {is : List Nat} {m : MG} (h : GM X tg is m) : PG X tg (tMG X.K X.mg m) := ⟨fun pins s σ H v u Q I r ⟨B, ev, S, d, ev', S', hS, hE, rd, em, q⟩ =>
  thn (h pins s σ H B ev S d v u ev' S' I hS hE rd r em) fun _ s' ⟨σ', H', B', I', x, s1, e1, u1⟩ => ⟨σ', H', I', q B' H' σ' x s1 e1⟩⟩
theorem asg_reads {σ : St} {H : Hp} {D : Ends} {te : TE} {tg : TG} (h1 : ∀ σ H Q, tM X.K X.mg ma σ H Q → te σ H Q) (h2 : ∀ v σ H Q, tMG X.K X.mg g v σ H Q → tg v σ H Q) (h : tMS X.K X.mg (sAsg ma g) D σ H) : tAsg te tg D σ H := by
  obtain ⟨B, ev, S, f, ev', S', hS, hE, em, q⟩ := h
  obtain ⟨⟨d, S1⟩, e1, em⟩ := bind_some em
  obtain ⟨⟨ev2, S2⟩, e2, em⟩ := map_some em
  cases em
  exact h1 _ _ _ ⟨B, ev, S, d, S1, hS, hE, e1, fun B1 H1 v x1 s1 d1 => h2 _ _ _ _ ⟨B1, ev, S1, d, ev2, S2, s1, hE.ext x1, d1, e2, fun B2 H2 σ2 x2 s2 hE2 => q B2 H2 (x1.trans x2) s2 σ2 hE2⟩⟩
theorem sm_asg {is : List Nat} (ha : EM X a ma) (hg : GM X tg is g) (hs : swapsWithSole [tg] a pos.line X.env = pure false) (hw : swappedStores [tg] a X.env = pure none) (h1 : (assignEach [tg] X.env).map (·.2) = [assign tg X.env]) : SM X (.Assign [tg] a pos) (sAsg ma g) :=
  PS.of (ps_asg ha.pe hg.pm hs hw h1) fun D σ H h => asg_reads (fun _ _ _ q => q) (fun _ _ _ _ q => q) h
/-- name = [..] on one line -/
theorem sm_lc {i : Nat} {y : Str} {mi : MIt} {gg : MG} {is : List Nat} {me : M} {ifs : List Expr} {elt iter : Expr} {scope : Scope} {own : List (Str × Nat)} {L : Nat} (bx : Bool) (hK : BK X) (hN : X.N.Nodup) (hy : X.N[i]? = some y) (hyl : X.env.scope.names.lookup y = some .local)
    (hsw : swapsWith (.ListComp elt [⟨tg, iter, ifs, 0⟩] scope pos) (some (.Name y py)) spos.line X.env = pure true) (hi : IM X tg iter mi) (ok : BlkOk X.N X.env.scope scope own) (his : ∀ j ∈ is, j ∈ own.map (·.2))
    (hg : ∀ (s : Shared) (H : Hp) (C : Addr) (cl : List (Str × Addr)) (fp : List Addr), GM (X.blk s H scope (compEnvC scope cl C X.env) fp) tg is gg) (ht : ∀ (s : Shared) (H : Hp) (C : Addr) (cl : List (Str × Addr)) (fp : List Addr), CM (X.blk s H scope (compEnvC scope cl C X.env) fp) ifs mc)
    (he : ∀ (s : Shared) (H : Hp) (C : Addr) (cl : List (Str × Addr)) (fp : List Addr), EM (X.blk s H scope (compEnvC scope cl C X.env) fp) elt me) (hs : ∀ x, foldedSetIterable iter X.env x = pure x) :
    SM X (.Assign [.Name y py] (.ListComp elt [⟨tg, iter, ifs, 0⟩] scope pos) spos) (sAsg (mLc L bx mi (own.map (·.2)) gg mc me) (gNm i)) :=
  PS.of (ps_setLc hK.calm hN hy hyl hsw hi ok (g := tG X.K X.mg is gg) (tt := tMt X.K X.mg mc) (te := tM X.K X.mg me) (fun s H C cl fp => (hg s H C cl fp).pg) (fun s H C cl fp => ht s H C cl fp) (fun s H C cl fp => (he s H C cl fp).pe) hs) fun D σ H h => asg_reads (fun σ H Q ⟨B, ev, S, d, S', hS, hE, em, q⟩ => lc_reads his hS hE em q)
    (fun v σ H Q ⟨B, ev, S, d, ev', S', hS, hE, rd, em, q⟩ => by
      cases em
      exact q B H _ hS.refl hS (hE.set i rd)) h

/-! parallel assignment -/
theorem rds3 {K : PySem.W.Frag} {mg : Mg} {B : BT} {H : Hp} {d e f : D} {vs : List V} (r : RDs K mg B H [d, e, f] vs) : ∃ v w u, vs = [v, w, u] ∧ RD K mg B H d v ∧ RD K mg B H e w ∧ RD K mg B H f u := by
  cases r with
  | cons h1 r =>
    obtain ⟨w, u, rfl, h2, h3⟩ := rds2 r
    exact ⟨_, w, u, rfl, h1, h2, h3⟩
def gP2 (i j : Nat) : List D → EnvI → Store → Option (EnvI × Store) := fun ds ev S => match ds with
  | [x, y] => some ((ev.set i (some x)).set j (some y), S)
  | _ => none
def gP3 (i j l : Nat) : List D → EnvI → Store → Option (EnvI × Store) := fun ds ev S => match ds with
  | [x, y, z] => some (((ev.set i (some x)).set j (some y)).set l (some z), S)
  | _ => none
theorem sm_par {i j : Nat} {x y : Str} {m : Ms} {px py pt : Pos} {kt k2 : Nat} {pt2 : Pos} (hK : BK X) (hN : X.N.Nodup) (hi : X.N[i]? = some x) (hj : X.N[j]? = some y) (hij : i ≠ j)
    (hx : X.env.scope.names.lookup x = some .local) (hy : X.env.scope.names.lookup y = some .local) (ha : AM X [a, b] m)
    (hw : swappedStores [.Tuple [.Name x px, .Name y py] kt pt] (.Tuple [a, b] k2 pt2) X.env = pure (some [x, y])) :
    SM X (.Assign [.Tuple [.Name x px, .Name y py] kt pt] (.Tuple [a, b] k2 pt2) pos) (sPar m (gP2 i j)) := PS.of (ps_par hK.calm hN hi hj hij hx hy ha.pa hw) fun D σ H ⟨B, ev, S, f, ev', S', hS, hE, em, q⟩ => by
  obtain ⟨⟨ds, S1⟩, e1, em⟩ := bind_some em
  obtain ⟨⟨ev2, S2⟩, e2, em⟩ := map_some em
  cases em
  unfold gP2 at e2
  split at e2
  · rename_i xx yy hd
    have hd : ds = [xx, yy] := hd
    subst hd
    cases e2
    refine ⟨B, ev, S, _, _, hS, hE, e1, fun B1 H1 vs x1 s1 d1 => ?_⟩
    obtain ⟨v, w, rfl, r1, r2⟩ := rds2 d1
    exact ⟨v, w, rfl, q B1 H1 x1 s1 _ (((hE.ext x1).set i r1).set j r2)⟩
  · cases e2
theorem sm_par3 {i j l : Nat} {x y z : Str} {m : Ms} {px py pz pt : Pos} {kt k2 : Nat} {pt2 : Pos} (hK : BK X) (hN : X.N.Nodup) (hi : X.N[i]? = some x) (hj : X.N[j]? = some y) (hl : X.N[l]? = some z) (hij : i ≠ j) (hil : i ≠ l) (hjl : j ≠ l)
    (hx : X.env.scope.names.lookup x = some .local) (hy : X.env.scope.names.lookup y = some .local) (hz : X.env.scope.names.lookup z = some .local) (ha : AM X [a, b, c] m)
    (hw : swappedStores [.Tuple [.Name x px, .Name y py, .Name z pz] kt pt] (.Tuple [a, b, c] k2 pt2) X.env = pure (some [x, y, z])) :
    SM X (.Assign [.Tuple [.Name x px, .Name y py, .Name z pz] kt pt] (.Tuple [a, b, c] k2 pt2) pos) (sPar m (gP3 i j l)) := PS.of (ps_par3 hK.calm hN hi hj hl hij hil hjl hx hy hz ha.pa hw) fun D σ H ⟨B, ev, S, f, ev', S', hS, hE, em, q⟩ => by
  obtain ⟨⟨ds, S1⟩, e1, em⟩ := bind_some em
  obtain ⟨⟨ev2, S2⟩, e2, em⟩ := map_some em
  cases em
  unfold gP3 at e2
  split at e2
  · rename_i xx yy zz hd
    have hd : ds = [xx, yy, zz] := hd
    subst hd
    cases e2
    refine ⟨B, ev, S, _, _, hS, hE, e1, fun B1 H1 vs x1 s1 d1 => ?_⟩
    obtain ⟨v, w, u, rfl, r1, r2, r3⟩ := rds3 d1
    exact ⟨v, w, u, rfl, q B1 H1 x1 s1 _ ((((hE.ext x1).set i r1).set j r2).set l r3)⟩
  · cases e2
end

/-! ### loops -/
def forLoop (src : Src) (g : MG) (body : MS) : Nat → Nat → EnvI → Store → Option (Fl × EnvI × Store)
  | 0, _, _, _ => none
  | k + 1, i, ev, S => (src i S).bind fun o => match o with
    | none => some (.nx, ev, S)
    | some d => (g d ev S).bind fun r => (body r.1 r.2).bind fun q => match q.1 with
      | .nx => forLoop src g body k (i + 1) q.2.1 q.2.2
      | .ct => forLoop src g body k (i + 1) q.2.1 q.2.2
      | .bk => some (.nx, q.2.1, q.2.2)
      | .rt d => some (.rt d, q.2.1, q.2.2)
def sFor (L : Nat) (mi : MIt) (g : MG) (body : MS) : MS := fun ev S => (mi ev S).bind fun r => forLoop r.1 g body L 0 ev r.2
def whLoop (c : M) (body : MS) : Nat → EnvI → Store → Option (Fl × EnvI × Store)
  | 0, _, _ => none
  | k + 1, ev, S => (c ev S).bind fun r => (isTru r.1).bind fun b => if b then (body ev r.2).bind fun q => match q.1 with
      | .nx => whLoop c body k q.2.1 q.2.2
      | .ct => whLoop c body k q.2.1 q.2.2
      | .bk => some (.nx, q.2.1, q.2.2)
      | .rt d => some (.rt d, q.2.1, q.2.2)
    else some (.nx, ev, r.2)
section
variable {X : Cx} {a b c e tg iter : Expr} {ma mb mc : M} {m : MS} {g : MG} {mi : MIt} {pos : Pos} {body : List Stmt}
theorem passes (hx : X.xe = fun _ _ => False) : PassesOwn (model X.prog X.w) X.A X.env X.xe := by rw [hx]; exact PassesOwn.never
theorem sm_for {is : List Nat} (L : Nat) (K : BK X) (hx : X.xe = fun _ _ => False) (hi : IM X tg iter mi) (hg : GM X tg is g) (hb : SsM X body m) (hs : ∀ x, foldedSetIterable iter X.env x = pure x) :
    SM X (.For tg iter body [] pos) (sFor L mi g m) := PS.of (ps_for (passes hx) K.calm hi hg.pm hb hs) fun D σ H ⟨B, ev, S, f, ev', S', hS, hE, em, q⟩ => by
  obtain ⟨⟨src, S1⟩, e1, em⟩ := bind_some em
  refine ⟨B, ev, S, src, S1, hS, hE, e1, fun J B1 H1 x1 hS1 jm => ?_⟩
  refine ⟨fun i k σi Hi => ∃ Bi evi Si, Ext B1 H1 Bi Hi ∧ SR X.K X.mg Bi Hi Si ∧ ER X.K X.mg Bi Hi evi σi ∧ forLoop src g m k i evi Si = some (f, ev', S'), ⟨L, B1, ev, S1, hS1.refl, hS1, hE.ext x1, em⟩, ?_⟩
  rintro i k σi Hi ⟨Bi, evi, Si, xi, si, hEi, lp⟩
  cases k with
  | zero => cases lp
  | succ k =>
    simp only [forLoop] at lp
    obtain ⟨o, e3, lp⟩ := bind_some lp
    obtain ⟨j1, j2⟩ := jm i _ Hi Si xi.ex si
    cases o with
    | none =>
      cases lp
      exact .inl ⟨j1 e3, q Bi Hi (x1.trans xi) si σi hEi⟩
    | some d0 =>
      obtain ⟨hgo, hy⟩ := j2 d0 e3
      obtain ⟨⟨ev1, S2⟩, e4, lp⟩ := bind_some lp
      obtain ⟨⟨f1, ev2, S3⟩, e5, lp⟩ := bind_some lp
      refine .inr ⟨hgo, fun σn Hn => ∃ Bn evn Sn, Ext B1 H1 Bn Hn ∧ SR X.K X.mg Bn Hn Sn ∧ ER X.K X.mg Bn Hn evn σn ∧ forLoop src g m k (i + 1) evn Sn = some (f, ev', S'), ?_, ?_⟩
      · rintro σn Hn ⟨Bn, evn, Sn, r⟩
        exact ⟨k, Nat.lt_succ_self _, Bn, evn, Sn, r⟩
      · intro x H2 hyld
        obtain ⟨hh, rd⟩ := hy x H2 hyld
        have st : Ext Bi Hi Bi H2 ∧ SR X.K X.mg Bi H2 Si := by
          rcases hh with rfl | ⟨T, ob, hT, rfl⟩
          · exact ⟨si.refl, si⟩
          · exact ⟨si.ext_new hT ob, si.new hT ob⟩
        obtain ⟨x2, s2⟩ := st
        refine ⟨Bi, evi, Si, d0, ev1, S2, s2, hEi.ext x2, rd, e4, fun B3 H3 σ3 x3 s3 hE3 => ?_⟩
        refine ⟨B3, ev1, S2, f1, ev2, S3, s3, hE3, e5, fun B4 H4 x4 s4 => ?_⟩
        have x14 := xi.trans ((x2.trans x3).trans x4)
        cases f1 with
        | nx => exact fun σ4 hE4 => ⟨B4, ev2, S3, x14, s4, hE4, lp⟩
        | ct => exact fun σ4 hE4 => ⟨B4, ev2, S3, x14, s4, hE4, lp⟩
        | bk => cases lp; exact q B4 H4 (x1.trans x14) s4
        | rt d => cases lp; exact q B4 H4 (x1.trans x14) s4
theorem sm_while (L : Nat) (hx : X.xe = fun _ _ => False) (hc : TM X c mc) (hb : SsM X body m) :
    SM X (.While c body [] pos) (whLoop mc m L) := PS.of (ps_while (passes hx) hc.pt hb) fun D σ H ⟨B, ev, S, f, ev', S', hS, hE, em, q⟩ => by
  refine ⟨fun k σi Hi => ∃ Bi evi Si, Ext B H Bi Hi ∧ SR X.K X.mg Bi Hi Si ∧ ER X.K X.mg Bi Hi evi σi ∧ whLoop mc m k evi Si = some (f, ev', S'), ⟨L, B, ev, S, hS.refl, hS, hE, em⟩, ?_⟩
  rintro k σi Hi ⟨Bi, evi, Si, xi, si, hEi, lp⟩
  cases k with
  | zero => cases lp
  | succ k =>
    simp only [whLoop] at lp
    obtain ⟨⟨d, S1⟩, e1, lp⟩ := bind_some lp
    obtain ⟨kb, e2, lp⟩ := bind_some lp
    obtain rfl := isTru_p e2
    refine ⟨Bi, evi, Si, kb, S1, si, hEi, e1, fun B1 H1 x1 s1 => ?_⟩
    cases kb with
    | false => cases lp; exact q B1 H1 (xi.trans x1) s1 σi (hEi.ext x1)
    | true =>
      obtain ⟨⟨f1, ev2, S3⟩, e5, lp⟩ := bind_some lp
      rw [if_pos rfl]
      refine ⟨fun σn Hn => ∃ Bn evn Sn, Ext B H Bn Hn ∧ SR X.K X.mg Bn Hn Sn ∧ ER X.K X.mg Bn Hn evn σn ∧ whLoop mc m k evn Sn = some (f, ev', S'), ?_, ?_⟩
      · rintro σn Hn ⟨Bn, evn, Sn, r⟩
        exact ⟨k, Nat.lt_succ_self _, Bn, evn, Sn, r⟩
      · refine ⟨B1, evi, S1, f1, ev2, S3, s1, hEi.ext x1, e5, fun B4 H4 x4 s4 => ?_⟩
        have x14 := xi.trans (x1.trans x4)
        cases f1 with
        | nx => exact fun σ4 hE4 => ⟨B4, ev2, S3, x14, s4, hE4, lp⟩
        | ct => exact fun σ4 hE4 => ⟨B4, ev2, S3, x14, s4, hE4, lp⟩
        | bk => cases lp; exact q B4 H4 x14 s4
        | rt d => cases lp; exact q B4 H4 x14 s4
end
end PI
set_option maxHeartbeats 1000000
/-! Own text: the reading of a piece of the text, and that it is sound. -/
namespace PI
open PySem PySem.Spec L2
open PyProof.Rows hiding St

/-- what is known of the whole text -/
structure GS where
  /-- turns a loop may take -/
  L : Nat
  /-- is the list or dict made here a box -/
  bx : Pos → Bool
  /-- values of global names -/
  gk : Str → Option D
  /-- built-in names that the text leaves alone -/
  bl : Str → Bool
/-- what is known of a block: its slots, its scope -/
structure CS where
  N : List Str
  sc : Scope
  fnc : Str → Bool
/-- the defs: parameters and meaning -/
abbrev CFt := Str → Option (List Str × BF)
structure Good (G : GS) (cf : CFt) (X : Cx) (c : CS) : Prop where
  bk : BK X
  xe : X.xe = fun _ _ => False
  eN : X.N = c.N
  nd : c.N.Nodup
  sc : X.env.scope = c.sc
  kd : c.sc.kind = .function
  fn : X.fn = c.fnc
  gk : ∀ x d, G.gk x = some d → ∃ u v, X.mg x = some u ∧ RelV v u ∧ ∀ B H, RD X.K X.mg B H d v
  bl : ∀ x, G.bl x = true → X.mg x = none
  fns : ∀ x ps f, cf x = some (ps, f) → ∃ k a fd, FnI X.prog X.w X.K X.mg X.base k a fd ps (fun ds S => f S ds) ∧ Room k X.A ∧ X.mg x = some (.ref a) ∧ PySem.W.keepIn X.K (.ref a) = true ∧ Bnd fd ps
def isVis (c : CS) (x : Str) : Bool := match c.sc.names.lookup x with
  | some .local => true
  | some .cell => true
  | some .free => true
  | _ => false
def isLoc (c : CS) (x : Str) : Bool := match c.sc.names.lookup x with
  | some .local => true
  | some .cell => true
  | _ => false
def isGl (c : CS) (x : Str) : Bool := match c.sc.names.lookup x with
  | some .globalImplicit => true
  | _ => false
/-- the slot of a name -/
def sIx (c : CS) (x : Str) : Option Nat := if c.N.contains x then some (c.N.idxOf x) else none
theorem sIx_at {c : CS} {x : Str} {i : Nat} (h : sIx c x = some i) : c.N[i]? = some x := by
  unfold sIx at h
  split at h
  · rename_i hc
    cases h
    have hm : x ∈ c.N := by simpa using hc
    have hl := List.idxOf_lt_length_of_mem hm
    rw [List.getElem?_eq_getElem hl, List.getElem_idxOf]
  · cases h
section
variable {G : GS} {cf : CFt} {X : Cx} {c : CS}
theorem Good.vis (g : Good G cf X c) {x : Str} (h : isVis c x = true) : Vis X.env.scope x := by
  unfold isVis at h
  unfold Vis
  rw [g.sc]
  split at h
  · exact .inl (by assumption)
  · exact .inr (.inl (by assumption))
  · exact .inr (.inr (by assumption))
  · cases h
theorem Good.lc (g : Good G cf X c) {x : Str} (h : isLoc c x = true) : L2.Loc X.env.scope x := by
  unfold isLoc at h
  unfold L2.Loc
  rw [g.sc]
  split at h
  · exact .inl (by assumption)
  · exact .inr (by assumption)
  · cases h
theorem Good.gl (g : Good G cf X c) {x : Str} (h : isGl c x = true) : Gl X x := by
  unfold isGl at h
  show X.env.scope.names.lookup x = _
  rw [g.sc]
  split at h
  · assumption
  · cases h
theorem Good.at_ (g : Good G cf X c) {x : Str} {i : Nat} (h : sIx c x = some i) : X.N[i]? = some x := by rw [g.eN]; exact sIx_at h
end

/-! ### the reading -/
structure Sm where
  E : CS → Expr → M
  T : CS → Expr → M
  G : CS → Expr → List Nat × MG
  S : CS → List Stmt → MS
def plainNm (x : Str) : Bool := !(x == ("__debug__" : Str)) && !(x == ("__classdict__" : Str))
def nmE (G : GS) (c : CS) (x : Str) : M :=
  if plainNm x then
    if isVis c x then (match sIx c x with
      | some i => mV i
      | none => mNo)
    else if isGl c x then (match G.gk x with
      | some d => mC d
      | none => if G.bl x then (match tyF x with
        | some t => mC (.ty t)
        | none => mNo) else mNo)
    else mNo
  else mNo
def kE : Const → M
  | .none => mC (.p .none)
  | .bool b => mC (.p (.bool b))
  | .int i => mC (.p (.int i))
  | .str x => mC (.p (.str x))
  | _ => mNo
def asE (f : Expr → M) : List Expr → Ms
  | [] => mNil
  | a :: es => mCons (f a) (asE f es)
def kwE (f : Expr → M) : List Keyword → Ms
  | [] => mNil
  | k :: ks => mCons (f k.value) (kwE f ks)
def andE (f : Expr → M) : List Expr → M
  | [] => mNo
  | [a] => f a
  | a :: es => mAnd (f a) (andE f es)
def orE (f : Expr → M) : List Expr → M
  | [] => mNo
  | [a] => f a
  | a :: es => mOr (f a) (orE f es)
def boE (f : Expr → M) (op : BoolOp) (es : List Expr) : M := match op with
  | .And => andE f es
  | .Or => orE f es
def cmpE (f : Expr → M) (a : Expr) (ops : List CmpOp) (es : List Expr) : M := match ops, es with
  | [op], [b] => if behindInMarks op b then mNo else mCmp op (f a) (f b)
  | [op, op'], [b, c] => if lastMarks [op, op'] [b, c] then mNo else mChain op op' (f a) (f b) (f c)
  | _, _ => mNo
def dcE (f : Expr → M) : List (Option Expr) → List Expr → Mp
  | [], [] => mpNil
  | some a :: ks, b :: vs => mpCons (f a) (f b) (dcE f ks vs)
  | _, _ => fun _ _ => none
def dicE (bx : Bool) (f : Expr → M) (ks : List (Option Expr)) (vs : List Expr) : M :=
  if ks.all (·.isSome) && ks.length == vs.length && ks.length ≤ 15 then mDic bx (dcE f ks vs) else mNo
def slO (f : Expr → M) : Option Expr → MO
  | none => mONone
  | some a => mOSome (f a)
def ixE (bx : Bool) (f : Expr → M) (a b : Expr) : M := match b with
  | .Slice lo hi none _ => mSl bx (f a) (slO f lo) (slO f hi)
  | .Slice none none (some (.UnaryOp .USub (.Constant (.int 1) _ _) _)) _ => mRev bx (f a)
  | b => if notSlice b then mIx (f a) (f b) else mNo
def bltE (G : GS) (pos : Pos) (f : Expr → M) (x : Str) (es : List Expr) : M :=
  if G.bl x && es.all notStar then (match es with
    | [] => mNo
    | e :: es => (match bltF (G.bx pos) x with
      | some b => mBlt b (asE f (e :: es))
      | none => mNo))
  else mNo
def callE (G : GS) (cf : CFt) (c : CS) (pos : Pos) (f : Expr → M) (x : Str) (es : List Expr) (kws : List Keyword) : M :=
  if isGl c x && plainNm x && es.all notStar then (match cf x with
    | some (ps, b) => (match kwNames kws with
      | some ks => (match argIx ps ks es.length with
        | some ix => mCall b ix (asE f es) (kwE f kws)
        | none => mNo)
      | none => mNo)
    | none => (match kws with
      | [] => bltE G pos f x es
      | _ => mNo))
  else mNo
def metE (pos apos : Pos) (f : Expr → M) (o : Expr) (x : Str) (es : List Expr) : M :=
  if plainRecv o && apos.endLine == pos.line && es.all notStar && es.length < 30 then mMet x (f o) (asE f es) else mNo
def notSet : Expr → Bool
  | .Set .. => false
  | _ => true
def itE (G : GS) (c : CS) (f : Expr → M) (e : Expr) : MIt := match e with
  | .Call (.Name x p) [a] [] _ => if x = "range" ∧ isGl c x = true ∧ G.bl x = true ∧ notStar a = true then mRng1 (f a) else mIter (f e)
  | .Call (.Name x p) [a, b] [] _ => if x = "range" ∧ isGl c x = true ∧ G.bl x = true ∧ notStar a = true ∧ notStar b = true then mRng2 (f a) (f b) else mIter (f e)
  | e => mIter (f e)
/-- the block of a comprehension -/
def blkS (c : CS) (scope : Scope) : CS := ⟨c.N, relS scope c.sc, fun x => scope.names.lookup x == some .cell⟩
/-- its own names with their slots -/
def ownS (c : CS) (scope : Scope) : List (Str × Nat) := scope.names.filterMap fun y => match y.2 with
  | .local => (sIx c y.1).map fun i => (y.1, i)
  | .cell => (sIx c y.1).map fun i => (y.1, i)
  | _ => none
def ifE (f : Expr → M) : List Expr → M
  | [] => mYes
  | [a] => f a
  | _ => mNo
def lcE (G : GS) (r : Sm) (c : CS) (elt : Expr) (gs : List Comprehension) (scope : Scope) (pos : Pos) : M := match gs with
  | [⟨tg, iter, ifs, n⟩] =>
    if n = 0 ∧ notSet iter = true ∧ blkC c.N c.sc scope (ownS c scope) = true ∧ (r.G (blkS c scope) tg).1.all (fun j => ((ownS c scope).map (·.2)).contains j) = true ∧ ifs.length ≤ 1 then
      mLc G.L (G.bx pos) (itE G c (r.E c) iter) ((ownS c scope).map (·.2)) (r.G (blkS c scope) tg).2 (ifE (r.T (blkS c scope)) ifs) (r.E (blkS c scope) elt)
    else mNo
  | _ => mNo
def stepE (G : GS) (cf : CFt) (r : Sm) (c : CS) : Expr → M
  | .Constant v _ _ => kE v
  | .Name x _ => nmE G c x
  | .BinOp a op b pos => mBin (G.bx pos) op (r.E c a) (r.E c b)
  | .UnaryOp op a _ => (match op with
    | .USub => mNeg (r.E c a)
    | .Not => mNot (r.E c a)
    | _ => mNo)
  | .BoolOp op es _ => boE (r.E c) op es
  | .Compare a ops es _ => cmpE (r.E c) a ops es
  | .IfExp t a b _ => mIf (r.T c t) (r.E c a) (r.E c b)
  | .Tuple es _ _ => if es.all notStar then mTup (asE (r.E c) es) else mNo
  | .List es pos => if es.all notStar then mLst (G.bx pos) (asE (r.E c) es) else mNo
  | .Dict ks vs pos => dicE (G.bx pos) (r.E c) ks vs
  | .Subscript a b pos => ixE (G.bx pos) (r.E c) a b
  | .Call f es kws pos => (match f with
    | .Name x _ => callE G cf c pos (r.E c) x es kws
    | .Attribute o x apos => (match kws with
      | [] => metE pos apos (r.E c) o x es
      | _ => mNo)
    | _ => mNo)
  | .ListComp elt gs scope pos => lcE G r c elt gs scope pos
  | _ => mNo
def unT (t E : Expr → M) (op : UnaryOp) (a : Expr) (p : Pos) : M := match op with
  | .Not => mNot (t a)
  | op => E (.UnaryOp op a p)
def stepT (r : Sm) (E : Expr → M) (c : CS) : Expr → M
  | .UnaryOp op a p => unT (r.T c) E op a p
  | .BoolOp op es _ => boE (r.T c) op es
  | .Compare a ops es _ => cmpE (r.E c) a ops es
  | .IfExp t a b _ => mIf (r.T c t) (r.T c a) (r.T c b)
  | e => E e

/-! ### it is sound -/
structure Sound (G : GS) (cf : CFt) (r : Sm) : Prop where
  E : ∀ X c, Good G cf X c → ∀ e, EM X e (r.E c e)
  T : ∀ X c, Good G cf X c → ∀ e, TM X e (r.T c e)
  tg : ∀ X c, Good G cf X c → ∀ e, GM X e (r.G c e).1 (r.G c e).2
  S : ∀ X c, Good G cf X c → ∀ l, SsM X l (r.S c l)
section
variable {G : GS} {cf : CFt} {X : Cx} {c : CS} {r : Sm} {f : Expr → M} {pos p : Pos}
theorem em_no {e : Expr} : EM X e mNo := fun pins s σ H B ev S d S' I hS hE em => by cases em
theorem tm_no {e : Expr} : TM X e mNo := fun pins s σ H B ev S d S' k I hS hE em hk => by cases em
theorem plain_nm {x : Str} (h : plainNm x = true) : (x == ("__debug__" : Str)) = false ∧ (x == ("__classdict__" : Str)) = false := by
  unfold plainNm at h
  rw [Bool.and_eq_true, Bool.not_eq_true', Bool.not_eq_true'] at h
  exact h
theorem em_ty (g : Good G cf X c) {x : Str} {t : Tn} (h1 : isGl c x = true) (h2 : G.bl x = true) (e : tyF x = some t) : EM X (.Name x p) (mC (.ty t)) := by
  obtain ⟨hv, hn, hd⟩ := ty_ok e
  exact em_const (v := .ty t.nm) (pe_bltn (g.gl h1) (g.bl _ h2) hv rfl hn hd) fun B H => rfl
theorem nm_ok (g : Good G cf X c) (x : Str) : EM X (.Name x p) (nmE G c x) := by
  unfold nmE
  split
  · rename_i h0
    obtain ⟨hd, hcd⟩ := plain_nm h0
    split
    · rename_i hv
      split
      · rename_i i hi
        exact em_var (g.at_ hi) (g.vis hv) hd hcd
      · exact em_no
    · split
      · rename_i hg
        split
        · rename_i d hk
          obtain ⟨u, v, h1, h2, h3⟩ := g.gk x d hk
          exact em_const (pe_glob (g.gl hg) h1 h2 hd) h3
        · split
          · rename_i hb
            split
            · rename_i t ht
              exact em_ty g hg hb ht
            · exact em_no
          · exact em_no
      · exact em_no
  · exact em_no
theorem k_ok (v : Const) (j : Nat) : EM X (.Constant v j p) (kE v) := by
  cases v <;> simp only [kE] <;> first | exact em_no | skip
  · exact em_const pe_non fun B H => .non
  · exact em_const pe_bl fun B H => .bl _
  · exact em_const pe_int fun B H => .int _
  · exact em_const pe_str fun B H => .str _
theorem as_ok (h : ∀ e, EM X e (f e)) : ∀ {es : List Expr}, es.all notStar = true → AM X es (asE f es)
  | [], _ => am_nil
  | a :: es, hs => by
    rw [List.all_cons, Bool.and_eq_true] at hs
    exact am_cons (h a) (as_ok h hs.2) hs.1
theorem kw_ok (h : ∀ e, EM X e (f e)) : ∀ kws : List Keyword, KM X kws (kwE f kws)
  | [] => km_nil
  | ⟨nm, a, kp⟩ :: ks => km_cons (h a) (kw_ok h ks)
theorem as_len : ∀ {es : List Expr} (ev : EnvI) (S : Store) (ds : List D) (S' : Store), asE f es ev S = some (ds, S') → ds.length = es.length
  | [], ev, S, ds, S', h => by cases h; rfl
  | a :: es, ev, S, ds, S', h => by
    obtain ⟨x, e1, h⟩ := bind_some h
    obtain ⟨y, e2, h⟩ := map_some h
    cases h
    rw [List.length_cons, List.length_cons, as_len ev _ _ _ e2]
theorem kw_len : ∀ {kws : List Keyword} {ks : List Str}, kwNames kws = some ks → ∀ (ev : EnvI) (S : Store) (ds : List D) (S' : Store), kwE f kws ev S = some (ds, S') → ds.length = ks.length
  | [], ks, hk, ev, S, ds, S', h => by cases hk; cases h; rfl
  | ⟨some n, v, q⟩ :: rest, ks, hk, ev, S, ds, S', h => by
    obtain ⟨x, e1, h⟩ := bind_some h
    obtain ⟨y, e2, h⟩ := map_some h
    cases h
    obtain ⟨ks', e3, hk⟩ := map_some hk
    cases hk
    rw [List.length_cons, List.length_cons, kw_len e3 ev _ _ _ e2]
  | ⟨none, v, q⟩ :: rest, ks, hk, ev, S, ds, S', h => by cases hk
theorem and_ok (h : ∀ e, EM X e (f e)) : ∀ es : List Expr, EM X (.BoolOp .And es pos) (andE f es)
  | [] => em_no
  | [a] => em_one (h a)
  | a :: b :: es => em_and (h a) (and_ok h (b :: es))
theorem or_ok (h : ∀ e, EM X e (f e)) : ∀ es : List Expr, EM X (.BoolOp .Or es pos) (orE f es)
  | [] => em_no
  | [a] => em_one (h a)
  | a :: b :: es => em_or (h a) (or_ok h (b :: es))
theorem bo_ok (h : ∀ e, EM X e (f e)) (op : BoolOp) (es : List Expr) : EM X (.BoolOp op es pos) (boE f op es) := by
  cases op
  · exact and_ok h es
  · exact or_ok h es
theorem wm_no {e : Expr} : WM X e mNo := fun w pins s σ H B ev S d S' k I hS hE em hk => by cases em
theorem andT_ok (h : ∀ e, TM X e (f e)) : ∀ es : List Expr, WM X (.BoolOp .And es pos) (andE f es)
  | [] => wm_no
  | [a] => wm_and1 (h a)
  | a :: b :: es => wm_and (h a) (andT_ok h (b :: es))
theorem orT_ok (h : ∀ e, TM X e (f e)) : ∀ es : List Expr, WM X (.BoolOp .Or es pos) (orE f es)
  | [] => wm_no
  | [a] => wm_or1 (h a)
  | a :: b :: es => wm_or (h a) (orT_ok h (b :: es))
theorem boT_ok (h : ∀ e, TM X e (f e)) (op : BoolOp) (es : List Expr) : TM X (.BoolOp op es pos) (boE f op es) := by
  cases op
  · exact (andT_ok h es).tm
  · exact (orT_ok h es).tm
theorem cmp_okE (K : BK X) (h : ∀ e, EM X e (f e)) (a : Expr) (ops : List CmpOp) (es : List Expr) : EM X (.Compare a ops es pos) (cmpE f a ops es) := by
  unfold cmpE
  split
  · split
    · exact em_no
    · exact em_cmp K (h _) (h _) (Bool.eq_false_iff.mpr (by assumption))
  · split
    · exact em_no
    · exact em_chain K (h _) (h _) (h _) (Bool.eq_false_iff.mpr (by assumption))
  · exact em_no
theorem cmp_okT (K : BK X) (h : ∀ e, EM X e (f e)) (a : Expr) (ops : List CmpOp) (es : List Expr) : TM X (.Compare a ops es pos) (cmpE f a ops es) := by
  unfold cmpE
  split
  · split
    · exact tm_no
    · exact tm_cmp K (h _) (h _) (Bool.eq_false_iff.mpr (by assumption))
  · split
    · exact tm_no
    · exact tm_chain K (h _) (h _) (h _) (Bool.eq_false_iff.mpr (by assumption))
  · exact tm_no
theorem dc_ok (h : ∀ e, EM X e (f e)) : ∀ (ks : List (Option Expr)) (vs : List Expr), DM X pos ks vs (dcE f ks vs)
  | [], [] => dm_nil
  | some a :: ks, b :: vs => dm_cons (h a) (h b) (dc_ok h ks vs)
  | [], _ :: _ => fun pins s σ H B ev S es S' I hS hE em => by cases em
  | none :: _, _ => fun pins s σ H B ev S es S' I hS hE em => by
    unfold dcE at em
    cases em
  | some _ :: _, [] => fun pins s σ H B ev S es S' I hS hE em => by cases em
theorem dic_ok (bx : Bool) (h : ∀ e, EM X e (f e)) (ks : List (Option Expr)) (vs : List Expr) : EM X (.Dict ks vs pos) (dicE bx f ks vs) := by
  unfold dicE
  split
  · rename_i hc
    simp only [Bool.and_eq_true, decide_eq_true_eq, beq_iff_eq] at hc
    obtain ⟨⟨h1, h2⟩, h3⟩ := hc
    cases ks with
    | nil =>
      cases vs with
      | nil => exact em_dic0 bx
      | cons _ _ => cases h2
    | cons k ks => exact em_dic bx (dc_ok h _ _) h1 h2 (by simp) h3
  · exact em_no
theorem sl_okO (h : ∀ e, EM X e (f e)) (o : Option Expr) : OM X o (slO f o) := by
  cases o with
  | none => exact om_none
  | some a => exact om_some (h a)
theorem ix_okE (K : BK X) (bx : Bool) (h : ∀ e, EM X e (f e)) (a b : Expr) : EM X (.Subscript a b pos) (ixE bx f a b) := by
  unfold ixE
  split
  · exact em_sl bx (h a) (sl_okO h _) (sl_okO h _)
  · exact revR (pins := []) (σ := []) (H := fun _ => none) (s := X.s_0) bx (h a)
  · split
    · exact em_ix K (h a) (h _) (by assumption)
    · exact em_no
theorem blt_okE (g : Good G cf X c) (h : ∀ e, EM X e (f e)) {x : Str} (hx : isGl c x = true) (es : List Expr) : EM X (.Call (.Name x p) es [] pos) (bltE G pos f x es) := by
  unfold bltE
  split
  · rename_i hc
    rw [Bool.and_eq_true] at hc
    split
    · exact em_no
    · split
      · rename_i b hb
        obtain ⟨v, h1, h2, h3, h4, h5⟩ := blt_ok g.bk hb
        exact em_blt h5 h2 (g.gl hx) (g.bl _ hc.1) h1 h3 h4 (as_ok h hc.2) hc.2
      · exact em_no
  · exact em_no
theorem call_okE (g : Good G cf X c) (h : ∀ e, EM X e (f e)) (x : Str) (es : List Expr) (kws : List Keyword) : EM X (.Call (.Name x p) es kws pos) (callE G cf c pos f x es kws) := by
  unfold callE
  split
  · rename_i hc
    simp only [Bool.and_eq_true] at hc
    obtain ⟨⟨h1, h2⟩, h3⟩ := hc
    split
    · rename_i ps b hb
      split
      · rename_i ks hk
        split
        · rename_i ix hi
          obtain ⟨k, a, fd, q1, q2, q3, q4, q5⟩ := g.fns _ _ _ hb
          exact em_call q1 q2 g.bk.gd g.xe q5 (g.gl h1) q3 q4 (plain_nm h2).1 (as_ok h h3) h3 (kw_ok h kws) hk hi (fun e => by subst e; rfl) as_len (kw_len hk)
        · exact em_no
      · exact em_no
    · split
      · exact blt_okE g h h1 es
      · exact em_no
  · exact em_no
theorem met_okE (K : BK X) {apos : Pos} (h : ∀ e, EM X e (f e)) (o : Expr) (x : Str) (es : List Expr) : EM X (.Call (.Attribute o x apos) es [] pos) (metE pos apos f o x es) := by
  unfold metE
  split
  · rename_i hc
    simp only [Bool.and_eq_true, decide_eq_true_eq] at hc
    obtain ⟨⟨⟨h1, h2⟩, h3⟩, h4⟩ := hc
    cases es with
    | nil => exact em_met0 K (h o) h1 h2
    | cons e es => exact em_met K (h o) (as_ok h h3) h3 (by simp only [List.length_cons] at h4; omega) h1 h2
  · exact em_no
theorem it_okE (g : Good G cf X c) (h : ∀ e, EM X e (f e)) (tg e : Expr) : IM X tg e (itE G c f e) := by
  unfold itE
  split
  · split
    · rename_i hc
      obtain ⟨rfl, h1, h2, h3⟩ := hc
      exact im_rng1 (h _) h3 (g.gl h1) (g.bl _ h2)
    · exact im_val (h _)
  · split
    · rename_i hc
      obtain ⟨rfl, h1, h2, h3, h4⟩ := hc
      exact im_rng2 (h _) (h _) h3 h4 (g.gl h1) (g.bl _ h2)
    · exact im_val (h _)
  · exact im_val (h _)
theorem not_set {e : Expr} {env : Env} (h : notSet e = true) : ∀ x, foldedSetIterable e env x = pure x := by
  intro x
  cases e <;> first | rfl | cases h
theorem Good.blk (g : Good G cf X c) (s : Shared) (H : Hp) (C : Addr) (cl : List (Str × Addr)) (fp : List Addr) (scope : Scope) (hk : scope.kind = .function) : Good G cf (X.blk s H scope (compEnvC scope cl C X.env) fp) (blkS c scope) :=
  ⟨⟨g.bk.calm, g.bk.gd, g.bk.hu, g.bk.sys⟩, rfl, g.eN, g.nd, by show relS scope X.env.scope = _; rw [g.sc]; rfl, hk, rfl, g.gk, g.bl, g.fns⟩
theorem if_okC (h : ∀ e, TM X e (f e)) {ifs : List Expr} (hl : ifs.length ≤ 1) : CM X ifs (ifE f ifs) := by
  cases ifs with
  | nil => exact cm_nil
  | cons a r =>
    cases r with
    | nil => exact cm_one (h a)
    | cons _ _ => simp only [List.length_cons] at hl; omega
theorem all_mem {is js : List Nat} (h : is.all (fun j => js.contains j) = true) : ∀ j ∈ is, j ∈ js := fun j hj => by
  have := (List.all_eq_true.mp h) j hj
  simpa using this
theorem lc_okE (hr : Sound G cf r) (g : Good G cf X c) (elt : Expr) (gs : List Comprehension) (scope : Scope) : EM X (.ListComp elt gs scope pos) (lcE G r c elt gs scope pos) := by
  unfold lcE
  split
  · split
    · rename_i hc
      obtain ⟨rfl, h1, h2, h3, h4⟩ := hc
      have ok := blkOk_by h2
      have gb := fun s H C cl fp => g.blk s H C cl fp scope ok.kind
      exact em_lc _ g.bk (by rw [g.eN]; exact g.nd) (it_okE g (hr.E X c g) _ _) (by rw [g.eN, g.sc]; exact ok) (all_mem h3) (fun s H C cl fp => hr.tg _ _ (gb s H C cl fp) _) (fun s H C cl fp => if_okC (hr.T _ _ (gb s H C cl fp)) h4) (fun s H C cl fp => hr.E _ _ (gb s H C cl fp) _) (not_set h1)
    · exact em_no
  · exact em_no
theorem step_okE (hr : Sound G cf r) (g : Good G cf X c) (e : Expr) : EM X e (stepE G cf r c e) := by
  have h := hr.E X c g
  have t := hr.T X c g
  unfold stepE
  split
  · exact k_ok _ _
  · exact nm_ok g _
  · exact em_bin _ (h _) (h _)
  · split
    · exact em_neg (h _)
    · exact em_not (h _)
    · exact em_no
  · exact bo_ok h _ _
  · exact cmp_okE g.bk h _ _ _
  · exact em_if (t _) (h _) (h _)
  · split
    · exact em_tup (as_ok h (by assumption))
    · exact em_no
  · split
    · exact em_lst _ (as_ok h (by assumption))
    · exact em_no
  · exact dic_ok _ h _ _
  · exact ix_okE g.bk _ h _ _
  · split
    · exact call_okE g h _ _ _
    · split
      · exact met_okE g.bk h _ _ _
      · exact em_no
    · exact em_no
  · exact lc_okE hr g _ _ _
  · exact em_no
theorem un_okT (t : ∀ e, TM X e (f e)) {E : Expr → M} (hE : ∀ e, EM X e (E e)) (op : UnaryOp) (a : Expr) : TM X (.UnaryOp op a p) (unT f E op a p) := by
  cases op
  case Not => exact tm_not (t _)
  all_goals exact tm_val (hE _) fun w => rfl
theorem step_okT (hr : Sound G cf r) (g : Good G cf X c) {E : Expr → M} (hE : ∀ e, EM X e (E e)) (e : Expr) : TM X e (stepT r E c e) := by
  have h := hr.E X c g
  have t := hr.T X c g
  cases e
  case UnaryOp => exact un_okT t hE _ _
  case BoolOp => exact boT_ok t _ _
  case Compare => exact cmp_okT g.bk h _ _ _
  case IfExp => exact tm_if (t _) (t _) (t _)
  all_goals exact tm_val (hE _) fun w => rfl
end
end PI
set_option maxHeartbeats 1000000
/-! Own text: the reading of targets and statements; the whole reading, by fuel. -/
namespace PI
open PySem PySem.Spec L2
open PyProof.Rows hiding St

def gNo : MG := fun _ _ _ => none
def isE (g : Expr → List Nat × MG) : List Expr → List Nat
  | [] => []
  | e :: es => (g e).1 ++ isE g es
def gsE (g : Expr → List Nat × MG) : List Expr → List D → EnvI → Store → Option (EnvI × Store)
  | [] => gsNil
  | e :: es => gsCons (g e).2 (gsE g es)
def isL1 (c : CS) (x : Str) : Bool := match c.sc.names.lookup x with
  | some .local => true
  | _ => false
def nmG (c : CS) (x : Str) : List Nat × MG :=
  if isLoc c x && (c.fnc x || isL1 c x) then (match sIx c x with
    | some i => ([i], gNm i)
    | none => ([], gNo))
  else ([], gNo)
def stepG (r : Sm) (c : CS) : Expr → List Nat × MG
  | .Name x _ => nmG c x
  | .Tuple es _ _ => if es.all notStar then (isE (r.G c) es, gTp es.length (gsE (r.G c) es)) else ([], gNo)
  | .Subscript o i _ => if notSlice i then ([], gSb (r.E c o) (r.E c i)) else ([], gNo)
  | _ => ([], gNo)
def isCmp : Expr → Bool
  | .ListComp .. => true
  | .SetComp .. => true
  | .DictComp .. => true
  | _ => false
def isTup : Expr → Bool
  | .Tuple .. => true
  | .List .. => true
  | _ => false
/-- what the storing order of a display to a display is: unknown, plain, or by these names -/
def swpF (kd : Str → Option NameKind) (ts vs : List Expr) : Option (Option (List Str)) :=
  if !(ts.length == 2 || ts.length == 3) || vs.length != ts.length then some none
  else if (vs.any fun | .Starred .. => true | _ => false) = true then some none
  else
    if ((ts.filterMap fun
      | .Name id pos => if kd id == some .local && pos.line == (ts.head?.map (·.pos.line)).getD 0 then some id else none
      | _ => none).length != ts.length || (ts.filterMap fun
      | .Name id pos => if kd id == some .local && pos.line == (ts.head?.map (·.pos.line)).getD 0 then some id else none
      | _ => none).eraseDups.length != (ts.filterMap fun
      | .Name id pos => if kd id == some .local && pos.line == (ts.head?.map (·.pos.line)).getD 0 then some id else none
      | _ => none).length) = true then some none
    else if vs.all (foldedForSure 8) = true then some none
    else if vs.all (constantsAlone 8) = true then none
    else some (some (ts.filterMap fun
      | .Name id pos => if kd id == some .local && pos.line == (ts.head?.map (·.pos.line)).getD 0 then some id else none
      | _ => none))
theorem swpF_ok {ts vs : List Expr} {env : Env} {k k2 : Nat} {p p2 : Pos} {o : Option (List Str)} (h : swpF env.kindOf ts vs = some o) (hb : env.blockKind = .function) : swappedStores [.Tuple ts k p] (.Tuple vs k2 p2) env = pure o := by
  unfold swpF at h
  unfold swappedStores
  simp only [hb]
  split at h
  · rename_i hc
    cases h
    simp only [hc, Bool.true_or, if_true]
  · rename_i hc
    rw [Bool.not_eq_true] at hc
    simp only [hc, Bool.false_or, bne_self_eq_false, Bool.false_eq_true, if_false]
    split at h
    · rename_i h2
      cases h
      exact if_pos h2
    · rename_i h2
      refine (if_neg h2).trans ?_
      split at h
      · rename_i h3
        cases h
        exact if_pos h3
      · rename_i h3
        refine (if_neg h3).trans ?_
        split at h
        · rename_i h4
          cases h
          exact if_pos h4
        · rename_i h4
          refine (if_neg h4).trans ?_
          split at h
          · cases h
          · rename_i h5
            cases h
            exact if_neg h5

def parS (c : CS) (f : Expr → M) (ts vs : List Expr) (nm : List Str) : MS := match ts, vs with
  | [.Name x _, .Name y _], [a, b] => (match sIx c x, sIx c y with
    | some i, some j => if nm = [x, y] ∧ isL1 c x = true ∧ isL1 c y = true ∧ i ≠ j ∧ [a, b].all notStar = true then sPar (asE f [a, b]) (gP2 i j) else sNo
    | _, _ => sNo)
  | [.Name x _, .Name y _, .Name z _], [a, b, d] => (match sIx c x, sIx c y, sIx c z with
    | some i, some j, some l => if nm = [x, y, z] ∧ isL1 c x = true ∧ isL1 c y = true ∧ isL1 c z = true ∧ i ≠ j ∧ i ≠ l ∧ j ≠ l ∧ [a, b, d].all notStar = true then sPar (asE f [a, b, d]) (gP3 i j l) else sNo
    | _, _, _ => sNo)
  | _, _ => sNo
def kdS (c : CS) (x : Str) : Option NameKind := c.sc.names.lookup x
def asgS (G : GS) (r : Sm) (c : CS) (tg e : Expr) : MS := match tg with
  | .Tuple ts _ _ => (match e with
    | .Tuple vs _ _ => (match swpF (kdS c) ts vs with
      | some none => sAsg (r.E c e) (r.G c tg).2
      | some (some nm) => parS c (r.E c) ts vs nm
      | none => sNo)
    | e => sAsg (r.E c e) (r.G c tg).2)
  | .Subscript o i p => sAsg (r.E c e) (r.G c tg).2
  | .Name y p => (match e with
    | .ListComp elt gs scope pos => sAsg (lcE G r c elt gs scope pos) (nmG c y).2
    | e => if isCmp e then sNo else sAsg (r.E c e) (nmG c y).2)
  | _ => sNo
def exS (r : Sm) (c : CS) : Expr → MS
  | .Constant (.str _) _ _ => sNil
  | e => if isCmp e then sNo else sEx (r.E c e)
def stepS1 (G : GS) (r : Sm) (c : CS) : Stmt → MS
  | .Pass _ => sNil
  | .Break _ => sBrk
  | .Continue _ => sCnt
  | .Return o _ => (match o with
    | some e => sRet (r.E c e)
    | none => sRetN)
  | .Expr e _ => exS r c e
  | .If t a b _ => sIf (r.T c t) (r.S c a) (r.S c b)
  | .Assign tgs e _ => (match tgs with
    | [tg] => asgS G r c tg e
    | _ => sNo)
  | .For tg iter body orelse _ => if notSet iter && orelse.isEmpty then sFor G.L (itE G c (r.E c) iter) (r.G c tg).2 (r.S c body) else sNo
  | .While t body orelse _ => if orelse.isEmpty then whLoop (r.T c t) (r.S c body) G.L else sNo
  | _ => sNo
def stepS (f : Stmt → MS) : List Stmt → MS
  | [] => sNil
  | st :: rest => sSeq (f st) (stepS f rest)
def semF (G : GS) (cf : CFt) : Nat → Sm
  | 0 => ⟨fun _ _ => mNo, fun _ _ => mNo, fun _ _ => ([], gNo), fun _ _ => sNo⟩
  | n + 1 => ⟨stepE G cf (semF G cf n), fun c => stepT (semF G cf n) (stepE G cf (semF G cf n) c) c, stepG (semF G cf n), fun c => stepS (stepS1 G (semF G cf n) c)⟩

section
variable {G : GS} {cf : CFt} {X : Cx} {c : CS} {r : Sm} {f : Expr → M} {pos p p2 : Pos}
theorem gm_no {e : Expr} : GM X e [] gNo := fun pins s σ H B ev S d v u ev' S' I hS hE rd rv em => by cases em
theorem l1_ok (g : Good G cf X c) {x : Str} (h : isL1 c x = true) : X.env.scope.names.lookup x = some .local := by
  unfold isL1 at h
  rw [g.sc]
  split at h
  · assumption
  · cases h
theorem nm_okG (g : Good G cf X c) (x : Str) : GM X (.Name x p) (nmG c x).1 (nmG c x).2 := by
  unfold nmG
  split
  · rename_i hc
    rw [Bool.and_eq_true, Bool.or_eq_true] at hc
    split
    · rename_i i hi
      exact gm_name (by rw [g.eN]; exact g.nd) (g.at_ hi) (g.lc hc.1) (hc.2.elim (fun z => .inl (by rw [g.fn]; exact z)) fun z => .inr (l1_ok g z))
    · exact gm_no
  · exact gm_no
theorem gs_ok {g : Expr → List Nat × MG} (h : ∀ e, GM X e (g e).1 (g e).2) : ∀ {es : List Expr}, es.all notStar = true → GsM X es (isE g es) (gsE g es)
  | [], _ => gs_nil
  | e :: es, hs => by
    rw [List.all_cons, Bool.and_eq_true] at hs
    exact gs_cons (h e) (gs_ok h hs.2) hs.1
theorem step_okG (hr : Sound G cf r) (g : Good G cf X c) (e : Expr) : GM X e (stepG r c e).1 (stepG r c e).2 := by
  unfold stepG
  split
  · exact nm_okG g _
  · split
    · exact gm_tup g.bk (gs_ok (hr.tg X c g) (by assumption)) (by assumption)
    · exact gm_no
  · split
    · rename_i o i p hs
      exact gm_sub g.bk (hr.E X c g _) (hr.E X c g _) (by intro v; cases i <;> first | rfl | cases hs)
    · exact gm_no
  · exact gm_no
theorem sw_of {e tg : Expr} {l : Nat} {env : Env} (h : isCmp e = false) (o : Option Expr) : swapsWith e o l env = pure false := by
  cases e <;> first | rfl | cases h
theorem sw_tg {e tg : Expr} {l : Nat} {env : Env} (h : ∀ x p, tg ≠ .Name x p) : swapsWith e (some tg) l env = pure false := by
  unfold swapsWith
  cases e <;> first | rfl | (cases tg <;> first | rfl | exact absurd rfl (h _ _))
theorem st_of {e tg : Expr} {env : Env} (h : isTup tg = false) : swappedStores [tg] e env = pure none := by
  unfold swappedStores
  cases tg <;> first | rfl | cases h
theorem st_of2 {e : Expr} {ts : List Expr} {k : Nat} {env : Env} (h : isTup e = false) : swappedStores [.Tuple ts k p] e env = pure none := by
  unfold swappedStores
  cases e <;> first | rfl | cases h
theorem sole_of {e tg : Expr} {l : Nat} {env : Env} (h : isCmp e = false) : swapsWithSole [tg] e l env = pure false := sw_of (tg := tg) h _
theorem sole_tg {e tg : Expr} {l : Nat} {env : Env} (h : ∀ x p, tg ≠ .Name x p) : swapsWithSole [tg] e l env = pure false := sw_tg h
theorem swp_good (g : Good G cf X c) {ts vs : List Expr} {o : Option (Option (List Str))} (h : swpF (kdS c) ts vs = o) : swpF X.env.kindOf ts vs = o := by
  have e : X.env.kindOf = kdS c := by
    funext x
    show X.env.scope.names.lookup x = c.sc.names.lookup x
    rw [g.sc]
  rw [e]; exact h
theorem bk_fn (g : Good G cf X c) : X.env.blockKind = .function := by
  unfold Env.blockKind
  rw [g.sc, g.kd]; rfl
theorem par_ok (g : Good G cf X c) (h : ∀ e, EM X e (f e)) {ts vs : List Expr} {nm : List Str} {k k2 : Nat} {pt pt2 : Pos} (hw : swappedStores [.Tuple ts k pt] (.Tuple vs k2 pt2) X.env = pure (some nm)) :
    SM X (.Assign [.Tuple ts k pt] (.Tuple vs k2 pt2) pos) (parS c f ts vs nm) := by
  unfold parS
  split
  · split
    · split
      · rename_i i j hi hj hc
        obtain ⟨rfl, h1, h2, h3, h4⟩ := hc
        exact sm_par g.bk (by rw [g.eN]; exact g.nd) (g.at_ hi) (g.at_ hj) h3 (l1_ok g h1) (l1_ok g h2) (as_ok h h4) hw
      · exact sm_no
    · exact sm_no
  · split
    · split
      · rename_i i j l hi hj hl hc
        obtain ⟨rfl, h1, h2, h3, h4, h5, h6, h7⟩ := hc
        exact sm_par3 g.bk (by rw [g.eN]; exact g.nd) (g.at_ hi) (g.at_ hj) (g.at_ hl) h4 h5 h6 (l1_ok g h1) (l1_ok g h2) (l1_ok g h3) (as_ok h h7) hw
      · exact sm_no
    · exact sm_no
  · exact sm_no
theorem sm_none {st : Stmt} {m : MS} (h : ∀ ev S x, m ev S ≠ some x) : SM X st m := ⟨fun pins s σ H D I ⟨B, ev, S, f, ev', S', hS, hE, em, q⟩ => absurd em (h ev S _)⟩
theorem lc_okA (hr : Sound G cf r) (g : Good G cf X c) (y : Str) (elt : Expr) (gs : List Comprehension) (scope : Scope) : SM X (.Assign [.Name y p] (.ListComp elt gs scope p2) pos) (sAsg (lcE G r c elt gs scope p2) (nmG c y).2) := by
  have gen : swapsWith (.ListComp elt gs scope p2) (some (.Name y p)) pos.line X.env = pure false → SM X (.Assign [.Name y p] (.ListComp elt gs scope p2) pos) (sAsg (lcE G r c elt gs scope p2) (nmG c y).2) := fun hs =>
    sm_asg (lc_okE hr g elt gs scope) (nm_okG g y) hs (st_of rfl) rfl
  have he : ∃ b : Bool, swapsWith (.ListComp elt gs scope p2) (some (.Name y p)) pos.line X.env = pure b ∧ (b = true → X.env.scope.names.lookup y = some .local) := by
    refine ⟨(X.env.blockKind == .function && X.env.kindOf y == some .local && p.line == p2.line && !(scope.names.any fun (n, k) => n == y && (k == .local || k == .cell))), rfl, fun h => ?_⟩
    simp only [Bool.and_eq_true] at h
    exact eq_of_beq h.1.1.2
  obtain ⟨b, hb, hl⟩ := he
  cases b with
  | false => exact gen hb
  | true =>
    have hl := hl rfl
    unfold nmG
    split
    · split
      · rename_i i hi
        unfold lcE
        split
        · split
          · rename_i hc
            obtain ⟨rfl, h1, h2, h3, h4⟩ := hc
            have ok := blkOk_by h2
            have gb := fun s H C cl fp => g.blk s H C cl fp _ ok.kind
            exact sm_lc _ g.bk (by rw [g.eN]; exact g.nd) (g.at_ hi) hl hb (it_okE g (hr.E X c g) _ _) (by rw [g.eN, g.sc]; exact ok) (all_mem h3) (fun s H C cl fp => hr.tg _ _ (gb s H C cl fp) _) (fun s H C cl fp => if_okC (hr.T _ _ (gb s H C cl fp)) h4) (fun s H C cl fp => hr.E _ _ (gb s H C cl fp) _) (not_set h1)
          · exact sm_none fun ev S x h => by cases h
        · exact sm_none fun ev S x h => by cases h
      · refine sm_none fun ev S x h => ?_
        obtain ⟨x, e1, h⟩ := bind_some h
        cases h
    · refine sm_none fun ev S x h => ?_
      obtain ⟨x, e1, h⟩ := bind_some h
      cases h
theorem asg_ok (hr : Sound G cf r) (g : Good G cf X c) (tg e : Expr) : SM X (.Assign [tg] e pos) (asgS G r c tg e) := by
  have h := hr.E X c g
  unfold asgS
  split
  · split
    · split
      · rename_i hw
        exact sm_asg (h _) (hr.tg X c g _) (sole_of rfl) (swpF_ok (swp_good g hw) (bk_fn g)) rfl
      · rename_i nm hw
        exact par_ok g h (swpF_ok (swp_good g hw) (bk_fn g))
      · exact sm_no
    · rename_i hn
      cases e
      case Tuple => exact (hn _ _ _ rfl).elim
      all_goals exact sm_asg (h _) (hr.tg X c g _) (sole_tg (fun x p z => Expr.noConfusion z)) (by first | exact st_of2 rfl | (unfold swappedStores; rfl)) rfl
  · exact sm_asg (h _) (hr.tg X c g _) (sole_tg (fun x p z => Expr.noConfusion z)) (st_of rfl) rfl
  · split
    · exact lc_okA hr g _ _ _ _
    · split
      · exact sm_no
      · rename_i hc
        exact sm_asg (h _) (nm_okG g _) (sole_of (Bool.eq_false_iff.mpr hc)) (st_of rfl) rfl
  · exact sm_no
theorem ex_okS (hr : Sound G cf r) (g : Good G cf X c) (e : Expr) : SM X (.Expr e pos) (exS r c e) := by
  unfold exS
  split
  · exact sm_doc
  · split
    · exact sm_no
    · rename_i hc
      exact sm_expr (hr.E X c g _) (sw_of (tg := e) (Bool.eq_false_iff.mpr hc) _)
theorem step_okS1 (hr : Sound G cf r) (g : Good G cf X c) (st : Stmt) : SM X st (stepS1 G r c st) := by
  have h := hr.E X c g
  have t := hr.T X c g
  have u := hr.S X c g
  unfold stepS1
  split
  · exact sm_pass
  · exact sm_break
  · exact sm_continue
  · split
    · exact sm_ret (h _)
    · exact sm_retN
  · exact ex_okS hr g _
  · exact sm_if (t _) (u _) (u _)
  · split
    · exact asg_ok hr g _ _
    · exact sm_no
  · split
    · rename_i orelse _ hc
      rw [Bool.and_eq_true] at hc
      cases orelse with
      | nil => exact sm_for _ g.bk g.xe (it_okE g h _ _) (hr.tg X c g _) (u _) (not_set hc.1)
      | cons _ _ => cases hc.2
    · exact sm_no
  · split
    · rename_i orelse _ hc
      cases orelse with
      | nil => exact sm_while _ g.xe (t _) (u _)
      | cons _ _ => cases hc
    · exact sm_no
  · exact sm_no
theorem step_okS {f : Stmt → MS} (h : ∀ st, SM X st (f st)) : ∀ l : List Stmt, SsM X l (stepS f l)
  | [] => ssm_nil
  | st :: rest => ssm_cons (h st) (step_okS h rest)
theorem ssm_none {sts : List Stmt} : SsM X sts sNo := ⟨fun pins s σ H D I ⟨B, ev, S, f, ev', S', hS, hE, em, q⟩ => by cases em⟩
theorem sem_sound (G : GS) (cf : CFt) : ∀ n, Sound G cf (semF G cf n)
  | 0 => ⟨fun _ _ _ _ => em_no, fun _ _ _ _ => tm_no, fun _ _ _ _ => gm_no, fun _ _ _ _ => ssm_none⟩
  | n + 1 =>
    have ih := sem_sound G cf n
    ⟨fun X c g e => step_okE ih g e, fun X c g e => step_okT ih g (fun e => step_okE ih g e) e, fun X c g e => step_okG ih g e, fun X c g l => step_okS (fun st => step_okS1 ih g st) l⟩
end
end PI
set_option maxHeartbeats 1000000
/-! Own text: how parameters bind; a def by its body's reading; the defs by levels; the law's end. -/
namespace PI
open PySem PySem.Spec L2
open PyProof.Rows hiding St
/-- plain parameters alone -/
def plainPar (a : Arguments) (ps : List Str) : Prop := a.posonlyargs = [] ∧ a.args.map (·.arg) = ps ∧ a.vararg = none ∧ a.kwonlyargs = [] ∧ a.kwarg = none
theorem kw_loop {ps : List Str} {f : Str × Value → List (Str × Value) × List (Str × Value) → Sem (ForInStep (List (Str × Value) × List (Str × Value)))}
    (hf : ∀ x st, ps.contains x.1 = true → (st.1.lookup x.1).isSome = false → f x st = pure (.yield (st.1 ++ [x], st.2))) : ∀ (kw : List (Str × Value)) (st : List (Str × Value) × List (Str × Value)),
      (∀ x ∈ kw, ps.contains x.1 = true) → (kw.map (·.1)).Nodup → (∀ x ∈ kw, st.1.lookup x.1 = none) → forIn kw st f = pure (st.1 ++ kw, st.2)
  | [], st, _, _, _ => by rw [List.forIn_nil, List.append_nil]
  | x :: kw, st, h1, h2, h3 => by
    rw [List.map_cons, List.nodup_cons] at h2
    rw [List.forIn_cons, hf x st (h1 x List.mem_cons_self) (by rw [h3 x List.mem_cons_self]; rfl), pure_bind]
    show forIn kw (st.1 ++ [x], st.2) f = _
    rw [kw_loop hf kw _ (fun y hy => h1 y (List.mem_cons_of_mem _ hy)) h2.2 (fun y hy => ?_)]
    · rw [List.append_assoc]; rfl
    · rw [List.lookup_append, h3 y (List.mem_cons_of_mem _ hy)]
      have : (y.1 == x.1) = false := beq_eq_false_iff_ne.mpr fun e => h2.1 (by rw [← e]; exact List.mem_map_of_mem hy)
      simp [List.lookup, this]
theorem zip_look {ps : List Str} : ∀ {us : List Value} {i : Nat} {p : Str}, ps.Nodup → us.length ≤ ps.length → ps[i]? = some p → (ps.zip us).lookup p = us[i]? := by
  induction ps with
  | nil => intro us i p _ _ h; simp at h
  | cons q ps ih =>
    intro us i p hn hl h
    cases us with
    | nil => simp
    | cons u us =>
      rw [List.nodup_cons] at hn
      cases i with
      | zero =>
        simp only [List.getElem?_cons_zero, Option.some.injEq] at h
        subst h
        simp [List.lookup]
      | succ i =>
        rw [List.getElem?_cons_succ] at h
        have : (p == q) = false := beq_eq_false_iff_ne.mpr fun e => hn.1 (by rw [← e]; exact List.mem_of_getElem? h)
        simp only [List.zip_cons_cons, List.lookup, this, List.getElem?_cons_succ]
        exact ih hn.2 (by simpa using hl) h
theorem zip_ix {p : Str} : ∀ {ks : List Str} {ws : List Value}, ws.length = ks.length → p ∈ ks → (ks.zip ws).lookup p = ws[ks.idxOf p]?
  | [], ws, _, h => by cases h
  | k :: ks, [], hl, h => by cases hl
  | k :: ks, w :: ws, hl, h => by
    by_cases e : p = k
    · subst e; simp [List.lookup]
    · have e' : (p == k) = false := beq_eq_false_iff_ne.mpr e
      have e2 : (k == p) = false := beq_eq_false_iff_ne.mpr fun z => e z.symm
      simp only [List.zip_cons_cons, List.lookup, e']
      rw [List.idxOf_cons, e2]
      exact zip_ix (by simpa using hl) ((List.mem_cons.mp h).resolve_left e)
theorem permD_at {α : Type} : ∀ {ix : List Nat} {l full : List α}, permD l ix = some full → ∀ (j i : Nat), ix[j]? = some i → full[j]? = l[i]? ∧ ∃ v, l[i]? = some v
  | [], l, full, h, j, i, e => by simp at e
  | i0 :: ix, l, full, h, j, i, e => by
    unfold permD at h
    split at h
    · rename_i a r h1 h2
      cases h
      cases j with
      | zero =>
        simp only [List.getElem?_cons_zero, Option.some.injEq] at e
        subst e
        rw [h1]; exact ⟨rfl, a, rfl⟩
      | succ j =>
        rw [List.getElem?_cons_succ] at e ⊢
        exact permD_at h2 j i e
    · cases h
theorem fm_zip {m : List (Str × Value)} : ∀ {ps : List Str} {full : List Value}, full.length = ps.length → (∀ (j : Nat) (p : Str), ps[j]? = some p → m.lookup p = full[j]?) → (ps.filterMap fun n => (m.lookup n).map fun v => (n, v)) = ps.zip full
  | [], full, _, _ => rfl
  | p :: ps, [], hl, _ => by cases hl
  | p :: ps, v :: full, hl, h => by
    have h0 : m.lookup p = some v := h 0 p rfl
    rw [List.filterMap_cons_some (b := (p, v)) (by rw [h0]; rfl), fm_zip (by simpa using hl) fun j q e => h (j + 1) q e]
    rfl
theorem bnd_of {fd : FuncData} {ps : List Str} (h : plainPar fd.params ps) (hd : fd.defaults = .none) (hn : ps.Nodup) : Bnd fd ps := by
  intro s us ws full ks ix hix hw hp
  obtain ⟨h1, h2, h3, h4, h5⟩ := h
  have len := argIx_len hix
  have hfl : full.length = ps.length := by rw [permD_len hp, len.1]
  unfold argIx at hix
  split at hix
  · rename_i hc
    obtain ⟨c1, c2, c3, c4⟩ := hc
    cases hix
    have hsub : ∀ k ∈ ks, k ∈ ps.drop us.length := fun k hk => by simpa using (List.all_eq_true.mp c3) k hk
    have hks : ∀ p ∈ ps.drop us.length, p ∈ ks := fun p hp' => by simpa using (List.all_eq_true.mp c4) p hp'
    have hslot : ∀ j p, ps[j]? = some p → ((ps.zip us) ++ ks.zip ws).lookup p = full[j]? := fun j p e => by
      rw [List.lookup_append, zip_look hn (by omega) e]
      have hj : j < ps.length := (List.getElem?_eq_some_iff.mp e).1
      by_cases hlt : j < us.length
      · obtain ⟨e1, e2⟩ := permD_at hp j j (by rw [List.getElem?_append_left (by simpa using hlt)]; simp [hlt])
        rw [e1, List.getElem?_append_left hlt, List.getElem?_eq_getElem hlt]; rfl
      · have hd' : (ps.drop us.length)[j - us.length]? = some p := by rw [List.getElem?_drop]; rw [show us.length + (j - us.length) = j by omega]; exact e
        obtain ⟨e1, e2⟩ := permD_at hp j (us.length + ks.idxOf p) (by rw [List.getElem?_append_right (by simpa using Nat.le_of_not_lt hlt), List.length_range, List.getElem?_map, hd']; rfl)
        rw [e1, List.getElem?_eq_none (Nat.le_of_not_lt hlt), List.getElem?_append_right (by omega), Nat.add_sub_cancel_left, zip_ix hw (hks p (List.mem_of_getElem? hd'))]
        rfl
    refine .of_eq ?_
    have hkw : (ks.zip ws).map (·.1) = ks := by rw [List.map_fst_zip (by omega)]
    have hmem : ∀ x ∈ ks.zip ws, x.1 ∈ ks := fun x hx => by rw [← hkw]; exact List.mem_map_of_mem hx
    unfold bindArgs
    simp only [h1, h2, h3, h4, h5, hd, List.map_nil, List.nil_append]
    rw [kw_loop (ps := ps) (fun x st q1 q2 => by rw [if_pos (by rw [q1]; rfl), if_neg (by rw [q2]; decide)]) (ks.zip ws) _ (fun x hx => by simpa using List.mem_of_mem_drop (hsub _ (hmem x hx))) (by rw [hkw]; exact c2) (fun x hx => ?_)]
    · rw [pure_bind, show seqItems? Value.none = pure none from rfl, pure_bind]
      have g1 : ¬ us.length > ps.length := by omega
      have f2 : ∀ p ∈ ps, ((ps.zip us ++ ks.zip ws).lookup p).isNone = false := fun p hp' => by
        obtain ⟨j, hj, e⟩ := List.getElem_of_mem hp'
        rw [hslot j p (by rw [List.getElem?_eq_getElem hj, e]), List.getElem?_eq_getElem (by omega)]; rfl
      have f3 : (ps.take ps.length).filter (fun n => ((ps.zip us ++ ks.zip ws).lookup n).isNone) = [] := by
        rw [List.filter_eq_nil_iff]
        intro p hp'
        rw [f2 p (List.mem_of_mem_take hp')]; decide
      simp only [Option.getD_none, List.length_nil, Nat.zero_sub, List.drop_zero, Nat.sub_zero, decide_eq_false g1, Bool.false_and, Bool.false_eq_true, if_false, f3, List.isEmpty_nil, Bool.not_true, List.zip_nil_right, List.forIn_nil, pure_bind, List.append_nil]
      rw [fm_zip hfl hslot]
    · obtain ⟨j, hj, e⟩ := List.getElem_of_mem (hsub _ (hmem x hx))
      rw [List.getElem_drop] at e
      rw [List.length_drop] at hj
      rw [zip_look (i := us.length + j) hn (by omega) (by rw [List.getElem?_eq_getElem (by omega), e]), List.getElem?_eq_none (by omega)]
  · cases hix

/-! ### a def by the reading of its body -/
def startD (N : List Str) (ds : List D) : EnvI := ds.map some ++ List.replicate (N.length - ds.length) none
def bodyF (N ps : List Str) (m : MS) : BF := fun S ds => if ds.length = ps.length then (m (startD N ds) S).bind fun r => match r.1 with
    | .nx => some (.p .none, r.2.2)
    | .rt d => some (d, r.2.2)
    | _ => none
  else none
theorem RDs.get {K : PySem.W.Frag} {mg : Mg} {B : BT} {H : Hp} {ds : List D} {vs : List V} (r : RDs K mg B H ds vs) {i : Nat} {d : D} (h : ds[i]? = some d) : ∃ v, vs[i]? = some v ∧ RD K mg B H d v := r.at h
theorem er_start {K : PySem.W.Frag} {mg : Mg} {B : BT} {H : Hp} {N : List Str} {ds : List D} {vs : List V} (r : RDs K mg B H ds vs) : ER K mg B H (startD N ds) (L2.start N vs) := by
  have hl := r.length
  refine ⟨by unfold startD L2.start; simp [hl], fun i d h => ?_⟩
  unfold startD at h
  by_cases hi : i < ds.length
  · rw [List.getElem?_append_left (by simpa using hi), List.getElem?_map] at h
    cases e : ds[i]? with
    | none => rw [e] at h; cases h
    | some d' =>
      rw [e] at h
      cases h
      obtain ⟨v, hv, rv⟩ := r.at e
      refine ⟨v, ?_, rv⟩
      unfold L2.start
      rw [List.getElem?_append_left (by rw [List.length_map]; omega), List.getElem?_map, hv]; rfl
  · rw [List.getElem?_append_right (by simpa using Nat.le_of_not_lt hi), List.getElem?_replicate] at h
    split at h <;> cases h
/-- what the whole module tells -/
structure Txt (G : GS) (K : PySem.W.Frag) (mg : Mg) : Prop where
  gk : ∀ x d, G.gk x = some d → ∃ u v, mg x = some u ∧ RelV v u ∧ ∀ B H, RD K mg B H d v
  bl : ∀ x, G.bl x = true → mg x = none
/-- a def of the text -/
structure FT where
  ps : List Str
  N : List Str
  sc : Scope
  body : List Stmt
structure DefAt (K : PySem.W.Frag) (mg : Mg) (x : Str) (t : FT) : Prop where
  ex : ∃ (f : Addr) (oc : Value) (od : Option Addr) (kV doc pm : Value) (an : Option Addr) (cdv ct : Value) (osl : Array (Option Value)) (params : Arguments) (name qual : Str),
    K.lookup f = some ⟨oc, od, .func (PySem.W.fnOf name qual params t.body t.sc .none kV doc pm an cdv ct), osl⟩ ∧ PySem.W.codeIn K cdv qual = true ∧ PySem.W.keepIn K (.ref f) = true ∧ mg x = some (.ref f) ∧ plainPar params t.ps
  sc : FnScope t.N t.ps t.sc
/-- the meaning of a def by levels of calls -/
def fL (G : GS) (T : Str → Option FT) (dep : Nat) : Nat → FT → BF
  | 0, _ => fun _ _ => none
  | k + 1, t => bodyF t.N t.ps ((semF G (fun x => (T x).map fun u => (u.ps, fL G T dep k u)) dep).S ⟨t.N, t.sc, fun _ => true⟩ t.body)
def cfL (G : GS) (T : Str → Option FT) (dep k : Nat) : CFt := fun x => (T x).map fun u => (u.ps, fL G T dep k u)
section
variable {G : GS} {P : Program} {w : World} {K : PySem.W.Frag} {mg : Mg} {base : Heap} {T : Str → Option FT} {dep : Nat}
theorem fn_ok (tx : Txt G K mg) (sys : ∃ o, base.get? sysModules = some o) {k : Nat} {cf : CFt} {x : Str} {t : FT} (dt : DefAt K mg x t)
    (hc : ∀ y ps f, cf y = some (ps, f) → ∃ a fd, FnI P w K mg base k a fd ps (fun ds S => f S ds) ∧ mg y = some (.ref a) ∧ PySem.W.keepIn K (.ref a) = true ∧ Bnd fd ps) :
    ∃ a fd, FnI P w K mg base (k + 1) a fd t.ps (fun ds S => bodyF t.N t.ps ((semF G cf dep).S ⟨t.N, t.sc, fun _ => true⟩ t.body) S ds) ∧ mg x = some (.ref a) ∧ PySem.W.keepIn K (.ref a) = true ∧ Bnd fd t.ps := by
  obtain ⟨⟨f, oc, od, kV, doc, pm, an, cdv, ct, osl, params, name, qual, lk, hcd, kp, hm, pp⟩, S⟩ := dt
  have ndP : t.ps.Nodup := by
    have := S.nd.sublist (List.take_sublist t.ps.length t.N)
    rwa [S.pre] at this
  refine ⟨f, _, ⟨fun A outer s H args us vs B St0 ds d S' Q hr hgd e0 hb hl rv hS hd hcf q => ?_⟩, hm, kp, bnd_of (fd := PySem.W.fnOf name qual params t.body t.sc .none kV doc pm an cdv ct) pp rfl ndP⟩
  have kin : K.In s.heap := e0.mod.kin.keeps fun b o e => (e0.bs b o e).1
  have nlm : s.heap.NoLimit := e0.mod.nolimit.keeps fun b o e => (e0.bs b o e).1
  have hlv : vs.length = t.ps.length := by rw [rv.length]; exact hl
  refine Att.call_fn kin nlm lk hcd hr.depth hb (List.all_eq_true.mpr fun y hy => ?_) (fun s1 x1 => ?_) S.co S.gen S.kind
  · rcases S.par y.1 (List.of_mem_zip hy).1 with z | z <;> rw [z] <;> rfl
  · have I1 := inv_start (CX := L2.CX0) (E := L2.E0) (qual := qual) (f := f) (cd := cdv) S hr.hd e0 hlv rv x1
    have I2 := I1.wish fun _ _ => False
    have hr2 := hr.deeper (envOfC qual t.sc s.heap.objs.size f cdv)
    have g : Good G cf (cxOf L2.CX0 P w K mg base t.N qual t.sc f cdv A outer s H L2.E0).nox ⟨t.N, t.sc, fun _ => true⟩ :=
      ⟨⟨rfl, hgd, by have := hr2.un; show (A.deeper _).units + 65 < _; omega, sys⟩, rfl, rfl, S.nd, rfl, S.kind, rfl, tx.gk, tx.bl, fun y ps f' e => by
        obtain ⟨a, fd, q1, q2, q3, q4⟩ := hc y ps f' e
        exact ⟨k, a, fd, q1, hr2, q2, q3, q4⟩⟩
    have body := (sem_sound G cf dep).S _ _ g t.body
    unfold bodyF at hcf
    split at hcf
    · obtain ⟨⟨fl, ev', S2⟩, e1, hcf⟩ := bind_some hcf
      have run := body.run [] s1 (L2.start t.N vs) H { nx := fun _ H' => Q .non H', rt := Q } I2 ⟨B, startD t.N ds, St0, fl, ev', S2, hS, er_start hd, e1, fun B1 H1 x2 s2 => by
        cases fl with
        | nx => cases hcf; exact fun σ' _ => q B1 H1 .non x2 s2 Dq.non
        | rt d' => cases hcf; exact fun v r => q B1 H1 v x2 s2 r
        | bk => cases hcf
        | ct => cases hcf⟩
      refine wpAny_mono run (fun fl s' h => ?_) (fun e s' h => h.elim)
      have fin : ∀ {σ' : St} {H' : Hp} {v : V} {u : Value}, Inv (cxOf L2.CX0 P w K mg base t.N qual t.sc f cdv A outer s H L2.E0).nox [] σ' H' s' → RelV v u → Q v H' → CE outer P w H s Q u s' :=
        fun {σ' H' v u} J rv' z => ⟨v, H', J.os, J.bare, J.base, J.hok, rv', z⟩
      cases fl with
      | next =>
        obtain ⟨σ', H', J, z⟩ := h
        exact fin (v := .non) (u := .none) J rfl z
      | ret u =>
        obtain ⟨v, σ', H', J, rv', z⟩ := h
        exact fin J rv' z
      | brk =>
        obtain ⟨_, _, _, z⟩ := h
        exact z.elim
      | cont =>
        obtain ⟨_, _, _, z⟩ := h
        exact z.elim
    · cases hcf
theorem fn_no {x : Str} {t : FT} (dt : DefAt K mg x t) : ∃ a fd, FnI P w K mg base 0 a fd t.ps (fun _ _ => none) ∧ mg x = some (.ref a) ∧ PySem.W.keepIn K (.ref a) = true ∧ Bnd fd t.ps := by
  obtain ⟨⟨f, oc, od, kV, doc, pm, an, cdv, ct, osl, params, name, qual, lk, hcd, kp, hm, pp⟩, S⟩ := dt
  have ndP : t.ps.Nodup := by
    have := S.nd.sublist (List.take_sublist t.ps.length t.N)
    rwa [S.pre] at this
  exact ⟨f, _, ⟨fun A outer s H args us vs B St0 ds d S' Q hr hgd e0 hb hl rv hS hd hcf q => by cases hcf⟩, hm, kp, bnd_of (fd := PySem.W.fnOf name qual params t.body t.sc .none kV doc pm an cdv ct) pp rfl ndP⟩
theorem cf_ok (tx : Txt G K mg) (sys : ∃ o, base.get? sysModules = some o) (hT : ∀ x t, T x = some t → DefAt K mg x t) : ∀ (k : Nat) (x : Str) (ps : List Str) (f : BF), cfL G T dep k x = some (ps, f) →
    ∃ a fd, FnI P w K mg base k a fd ps (fun ds S => f S ds) ∧ mg x = some (.ref a) ∧ PySem.W.keepIn K (.ref a) = true ∧ Bnd fd ps
  | 0, x, ps, f, e => by
    obtain ⟨t, h1, e⟩ := map_some e
    cases e
    exact fn_no (hT x t h1)
  | k + 1, x, ps, f, e => by
    obtain ⟨t, h1, e⟩ := map_some e
    cases e
    exact fn_ok tx sys (hT x t h1) fun y ps f e => cf_ok tx sys hT k y ps f e
/-- a def of the text where the top has written it -/
theorem def_mk {h : Heap} {x : Str} {t : FT} {f : Addr} {oc kV doc pm cdv ct : Value} {od an : Option Addr} {osl : Array (Option Value)} {params : Arguments} {name qual : Str} (X : K.In h) (Gn : h.Ns mainGlobals mg) (a : PySem.W.nsIn K mainGlobals x = some (some (.ref f)))
    (l : K.lookup f = some ⟨oc, od, .func (PySem.W.fnOf name qual params t.body t.sc .none kV doc pm an cdv ct), osl⟩) (c : PySem.W.codeIn K cdv qual = true) (k : PySem.W.keepIn K (.ref f) = true) (pp : plainPar params t.ps) (S : FnScope t.N t.ps t.sc) : DefAt K mg x t :=
  ⟨⟨f, oc, od, kV, doc, pm, an, cdv, ct, osl, params, name, qual, l, c, k, PySem.W.mg_of X Gn a, pp⟩, S⟩
end
end PI
set_option maxHeartbeats 1000000
/-! Own text: the end of a law: its def on the script. -/
namespace PI
open PySem PySem.Spec L2
open PyProof.Rows hiding St

/-- no list stands in the written part -/
def noLst (K : PySem.W.Frag) : Bool := K.all fun p => match p.2.cls, p.2.dict, p.2.data with
  | .type n, none, .seq _ _ => n == "tuple"
  | _, _, _ => true
theorem mem_lookup {K : PySem.W.Frag} {a : Addr} {o : Obj} (h : K.lookup a = some o) : (a, o) ∈ K := by
  induction K with
  | nil => cases h
  | cons p r ih =>
    obtain ⟨b, u⟩ := p
    by_cases e : a = b
    · subst e
      simp [List.lookup] at h
      subst h
      exact List.mem_cons_self
    · have e' : (a == b) = false := beq_eq_false_iff_ne.mpr e
      simp only [List.lookup, e'] at h
      exact List.mem_cons_of_mem _ (ih h)
theorem noLst_at {K : PySem.W.Frag} (h : noLst K = true) {a : Addr} {its : Array Value} {n : Nat} (e : K.lookup a = some { cls := .type "list", data := .seq its n }) : False := by
  have q := (List.all_eq_true.mp h) _ (mem_lookup e)
  revert q
  show ¬ (("list" == "tuple") = true)
  decide
theorem numsR {K : PySem.W.Frag} {B : BT} {H : Hp} : ∀ ns : List Int, DqAll K B H (ns.map V.int) (ns.map PyData.int)
  | [] => .nil
  | n :: r => .cons (.int n) (numsR r)
/-- the law's def called on a list of numbers -/
theorem end_call {P : Program} {w : World} {K : PySem.W.Frag} {mg mb : Str → Option Value} {k : Nat} {fa a : Addr} {x : Str} {cf : List D → Store → Option (D × Store)} {s1 : Shared} {us : List Value} {ns : List Int} {S' : Store}
    (kin : K.In s1.heap) (gns : s1.heap.Ns mainGlobals mg) (bns : s1.heap.Ns builtinsNs mb) (bbt : ∀ y : Str, y ≠ "__name__" → mb y = bootBuiltins y) (nlm : s1.heap.NoLimit) (gens : s1.gens = #[]) (sys : ∃ mm, s1.heap.Ns sysModules mm) (nol : noLst K = true)
    (la : s1.heap.get? a = some { cls := .type "list", data := .seq us.toArray }) (ia : IntsAre us ns) (ll : ns.length ≤ sizeLine) (room : Room k callerA)
    (F : ∀ base : Heap, K.In base → base.Ns mainGlobals mg → (∃ o, base.get? sysModules = some o) → ∃ fd : FuncData, FnI P w K mg base k fa fd [x] cf ∧ Bnd fd [x])
    (hcf : cf [.p (.list (ns.map .int))] [] = some (.p (.bool true), S')) :
    codeAny (model P w) callerA (.call (.ref fa) ⟨[.ref a], []⟩) (fun r s' => r = .ok (.ret (.bool true)) ∧ OldK s1.heap s'.heap ∧ s'.os = s1.os ∧ AllBare s'.gens) s1 := by
  have rv := vals_ints ia
  have nK : K.lookup a = none := by
    cases e : K.lookup a with
    | none => rfl
    | some o =>
      have := kin a o e
      rw [la] at this
      cases this
      exact (noLst_at nol e).elim
  -- the script alone is tracked, as it stands
  let H : Hp := fun b => if b = a then some (.frz { cls := .type "list", data := .seq us.toArray } (.lst (ns.map V.int))) else none
  have atA : H a = some (.frz { cls := .type "list", data := .seq us.toArray } (.lst (ns.map V.int))) := if_pos rfl
  have offA : ∀ {b : Addr}, b ≠ a → H b = none := fun h => if_neg h
  have onlyA : ∀ {b : Addr} {u : HO}, H b = some u → b = a := fun {b u} h => by
    by_cases e : b = a
    · exact e
    · rw [offA e] at h; cases h
  have okH : HOk P w H s1.heap := fun b u h => by
    obtain rfl := onlyA h
    rw [atA] at h
    cases h
    exact ⟨la, by rw [List.length_map]; exact ll, us, _, rv, la⟩
  have notA : ∀ {b : Addr} {m : Str → Option Value}, s1.heap.Ns b m → b ≠ a := fun {b m} ⟨o, es, ep, e, d, _⟩ z => by
    subst z
    rw [la] at e; cases e
    cases d
  have nsH : ∀ {b : Addr} {m : Str → Option Value}, s1.heap.Ns b m → (hidT s1.heap H).Ns b m := fun {b m} n => by
    have ne := notA n
    obtain ⟨o, es, ep, e, d, r⟩ := n
    exact ⟨o, es, ep, hidT_get e (offA ne), d, r⟩
  have kinH : K.In (hidT s1.heap H) := fun b o e => hidT_get (kin b o e) (offA fun z => by subst z; rw [nK] at e; cases e)
  have modH : Mod K mg (hidT s1.heap H) := ⟨kinH, nsH gns, ⟨mb, nsH bns, bbt⟩, by obtain ⟨mc, h1, h2⟩ := nlm; exact ⟨mc, nsH h1, h2⟩⟩
  have sysH : ∃ o, (hidT s1.heap H).get? sysModules = some o := by
    obtain ⟨mm, n⟩ := sys
    obtain ⟨o, es, ep, e, _⟩ := nsH n
    exact ⟨o, e⟩
  have e0 : Env0 P w K mg (hidT s1.heap H) callerA [] s1 H := ⟨rfl, modH, fun b o e => of_hidT e, Nat.le_of_eq (hidT_size _ _), trivial, fun b hb => (List.not_mem_nil hb).elim, okH, .of_eq gens⟩
  have sr : SR K mg ⟨[], []⟩ H [] := ⟨rfl, List.nodup_nil, fun b hb => (List.not_mem_nil hb).elim, fun n c b h1 h2 => by cases h2⟩
  have rd : RDs K mg ⟨[], []⟩ H [.p (.list (ns.map .int))] [.ref a] := .cons (Dq.lst ⟨.inr ⟨_, atA⟩, List.not_mem_nil⟩ (numsR ns)) .nil
  obtain ⟨fd, fn, bind⟩ := F _ kinH (nsH gns) sysH
  have bd : BindsTo s1 fd ⟨[.ref a], []⟩ [(x, .ref a)] := bind s1 [.ref a] [] [.ref a] [] [0] (if_pos ⟨rfl, List.nodup_nil, rfl, rfl⟩) rfl rfl
  refine codeAny_mono (fn.run callerA [] s1 H ⟨[.ref a], []⟩ [.ref a] [.ref a] ⟨[], []⟩ [] _ _ _ (fun v _ => v = .bl true) room rfl e0 bd rfl (.cons rfl .nil) sr rd hcf fun B' H' v _ _ r => by cases r; rfl) fun r s' h => ?_
  cases r with
  | error e => exact h.elim
  | ok fl =>
    cases fl with
    | ret u =>
      obtain ⟨v, H', os, bare, un, hok', r', rfl⟩ := h
      cases r'
      refine ⟨rfl, OldK.of_keep fun b o e => ?_, os, bare⟩
      by_cases hb : b = a
      · subst hb
        obtain ⟨e2, _⟩ := hok' b _ (un.frzs b _ _ atA)
        rw [la] at e; cases e
        exact e2
      · exact un.keep b o e (offA hb) (fun z => (List.not_mem_nil z).elim) (fun z => (List.not_mem_nil z).elim)
    | _ => exact h.elim
/-- what is left of a row behind its head -/
theorem end_walk {l : PySem.W.OpenLaw} {n k dep : Nat} {q : Program} {loose : List Str} {XP : (Str → Option Value) → Heap → Prop} {YP : World → Heap → Prop} {d : DefRec} {K : Params → PySem.W.Frag} {x : Str} {G : GS} {T : Str → Option FT}
    (hn : l.most = some n) (hn2 : n ≤ sizeLine) (hdf : d.params.defaults = []) (hq : importsNone q = true) (hr : Room k callerA)
    (hY : ∀ (w : World) (h : Heap), YP w h → (K w.params).In h)
    (nol : ∀ w : World, noLst (K w.params) = true)
    (tx : ∀ (w : World) (mg : Str → Option Value) (h : Heap), (K w.params).In h → h.Ns mainGlobals mg → Txt G (K w.params) mg ∧ ∀ y t, T y = some t → DefAt (K w.params) mg y t)
    (hcf : ∀ ns : List Int, ns.length ≤ n → ∃ f S', cfL G T dep k d.name = some ([x], f) ∧ f [] [.p (.list (ns.map .int))] = some (.p (.bool true), S')) :
    PySem.W.WalkO q loose XP YP l.row.toRowW d [] (fun f vs => PySem.call f vs) := by
  refine Att.attach_call hn hdf fun w s₀ s₁ mg mb fa o pm cd doc a vs ns Gd Y ho hd hcd hmg hobj hints hlen hg => ?_
  have kin := hY w _ Y
  obtain ⟨t1, t2⟩ := tx w mg _ kin Gd.T.g
  obtain ⟨f, S', e1, e2⟩ := hcf ns hlen
  have F : ∀ base : Heap, (∃ o, base.get? sysModules = some o) → ∃ a fd, FnI l.prog w (K w.params) mg base k a fd [x] (fun ds S => f S ds) ∧ mg d.name = some (.ref a) ∧ PySem.W.keepIn (K w.params) (.ref a) = true ∧ Bnd fd [x] := fun base sys =>
    cf_ok t1 sys t2 k d.name [x] f e1
  refine end_call (cf := fun ds S => f S ds) (x := x) kin Gd.T.g Gd.T.b Gd.T.builtins Gd.T.nolimit hg (let ⟨mm, z, _⟩ := (Gd.T.seer hq).mods; ⟨mm, z⟩) (nol w) hobj hints (Nat.le_trans hlen hn2) hr (fun base _ _ sys => ?_) e2
  obtain ⟨a', fd, q1, q2, q3, q4⟩ := F base sys
  rw [hmg] at q2
  cases q2
  exact ⟨fd, q1, q4⟩
end PI
set_option maxHeartbeats 1000000
/-! Own text: how the reading is worked out, step by step. -/
namespace PI
open PySem PySem.Spec L2
open PyProof.Rows hiding St

/-! every continuation has a name: what is behind stays as it is until it is reached -/
abbrev RD0 := Option (D × Store)
section
variable (ev : EnvI) (S : Store) (a b c : M) (as ks : Ms) (bx : Bool) (x y z : D)
@[simp] theorem mC_e (d : D) : mC d ev S = some (d, S) := rfl
def kGet (S : Store) : Option D → RD0
  | some d => some (d, S)
  | none => none
@[simp] theorem kGet_some (d : D) : kGet S (some d) = some (d, S) := rfl
@[simp] theorem mV_e (i : Nat) : mV i ev S = (ev[i]?).bind (kGet S) := by
  unfold mV
  cases h : ev[i]? with
  | none => rfl
  | some d => cases d <;> rfl
@[simp] theorem mNo_e : mNo ev S = none := rfl
def kBin2 (bx : Bool) (op : Operator) (w : D) (r : D × Store) : RD0 := PI.binI bx op r.2 w r.1
@[simp] theorem kBin2_e (bx : Bool) (op : Operator) (w : D) (x : D) (S : Store) : kBin2 bx op w (x, S) = PI.binI bx op S w x := rfl
def kBin1 (bx : Bool) (op : Operator) (b : M) (ev : EnvI) (r : D × Store) : RD0 := (b ev r.2).bind (kBin2 bx op r.1)
@[simp] theorem kBin1_e (bx : Bool) (op : Operator) (b : M) (ev : EnvI) (x : D) (S : Store) : kBin1 bx op b ev (x, S) = (b ev S).bind (kBin2 bx op x) := rfl
@[simp] theorem mBin_e (op : Operator) : mBin bx op a b ev S = (a ev S).bind (kBin1 bx op b ev) := rfl
def kBool (S : Store) (k : Bool) : RD0 := some (.p (.bool k), S)
@[simp] theorem kBool_e (k : Bool) : kBool S k = some (.p (.bool k), S) := rfl
theorem map_kBool (S : Store) (o : Option Bool) : (o.map fun c => ((.p (.bool c), S) : D × Store)) = o.bind (kBool S) := by cases o <;> rfl
def kCmp2 (op : CmpOp) (w : D) (r : D × Store) : RD0 := (cmpI op r.2 w r.1).bind (kBool r.2)
@[simp] theorem kCmp2_e (op : CmpOp) (w : D) (x : D) (S : Store) : kCmp2 op w (x, S) = (cmpI op S w x).bind (kBool S) := rfl
def kCmp1 (op : CmpOp) (b : M) (ev : EnvI) (r : D × Store) : RD0 := (b ev r.2).bind (kCmp2 op r.1)
@[simp] theorem kCmp1_e (op : CmpOp) (b : M) (ev : EnvI) (x : D) (S : Store) : kCmp1 op b ev (x, S) = (b ev S).bind (kCmp2 op x) := rfl
@[simp] theorem mCmp_e (op : CmpOp) : mCmp op a b ev S = (a ev S).bind (kCmp1 op b ev) := by
  unfold mCmp
  congr; funext r
  unfold kCmp1
  congr; funext t
  exact map_kBool _ _
def kCh3 (op : CmpOp) (w : D) (r : D × Store) : RD0 := (cmpI op r.2 w r.1).bind (kBool r.2)
@[simp] theorem kCh3_e (op : CmpOp) (w : D) (x : D) (S : Store) : kCh3 op w (x, S) = (cmpI op S w x).bind (kBool S) := rfl
def kCh2b (op : CmpOp) (c : M) (ev : EnvI) (S : Store) (y : D) (k : Bool) : RD0 := if k then (c ev S).bind (kCh3 op y) else some (.p (.bool false), S)
@[simp] theorem kCh2b_t (op : CmpOp) (y : D) : kCh2b op c ev S y true = (c ev S).bind (kCh3 op y) := rfl
@[simp] theorem kCh2b_f (op : CmpOp) (y : D) : kCh2b op c ev S y false = some (.p (.bool false), S) := rfl
def kCh2 (op op' : CmpOp) (c : M) (ev : EnvI) (w : D) (r : D × Store) : RD0 := (cmpI op r.2 w r.1).bind (kCh2b op' c ev r.2 r.1)
@[simp] theorem kCh2_e (op op' : CmpOp) (c : M) (ev : EnvI) (w : D) (x : D) (S : Store) : kCh2 op op' c ev w (x, S) = (cmpI op S w x).bind (kCh2b op' c ev S x) := rfl
def kCh1 (op op' : CmpOp) (b c : M) (ev : EnvI) (r : D × Store) : RD0 := (b ev r.2).bind (kCh2 op op' c ev r.1)
@[simp] theorem kCh1_e (op op' : CmpOp) (b c : M) (ev : EnvI) (x : D) (S : Store) : kCh1 op op' b c ev (x, S) = (b ev S).bind (kCh2 op op' c ev x) := rfl
@[simp] theorem mChain_e (op op' : CmpOp) : mChain op op' a b c ev S = (a ev S).bind (kCh1 op op' b c ev) := by
  unfold mChain
  congr; funext r
  unfold kCh1
  congr; funext t
  unfold kCh2
  congr; funext k
  cases k
  · rfl
  · show (c ev t.2).bind _ = (c ev t.2).bind _
    congr; funext q
    exact map_kBool _ _
def kNotB (S : Store) (k : Bool) : RD0 := some (.p (.bool (!k)), S)
@[simp] theorem kNotB_e (k : Bool) : kNotB S k = some (.p (.bool (!k)), S) := rfl
def kNot  (r : D × Store) : RD0 := (isTru r.1).bind (kNotB r.2)
@[simp] theorem kNot_e  (x : D) (S : Store) : kNot  (x, S) = (isTru x).bind (kNotB S) := rfl
@[simp] theorem mNot_e : mNot a ev S = (a ev S).bind kNot := by
  unfold mNot
  congr; funext r
  unfold kNot
  cases isTru r.1 <;> rfl
def kAndB (b : M) (ev : EnvI) (S : Store) (k : Bool) : RD0 := if k then b ev S else some (.p (.bool false), S)
@[simp] theorem kAndB_t : kAndB b ev S true = b ev S := rfl
@[simp] theorem kAndB_f : kAndB b ev S false = some (.p (.bool false), S) := rfl
def kOrB (b : M) (ev : EnvI) (S : Store) (k : Bool) : RD0 := if k then some (.p (.bool true), S) else b ev S
@[simp] theorem kOrB_t : kOrB b ev S true = some (.p (.bool true), S) := rfl
@[simp] theorem kOrB_f : kOrB b ev S false = b ev S := rfl
def kIteB (a b : M) (ev : EnvI) (S : Store) (k : Bool) : RD0 := if k then a ev S else b ev S
@[simp] theorem kIteB_t : kIteB a b ev S true = a ev S := rfl
@[simp] theorem kIteB_f : kIteB a b ev S false = b ev S := rfl
theorem kAndB_d (p : Prop) [Decidable p] : kAndB b ev S (decide p) = if p then b ev S else some (.p (.bool false), S) := by
  by_cases h : p <;> simp [h]
theorem kOrB_d (p : Prop) [Decidable p] : kOrB b ev S (decide p) = if p then some (.p (.bool true), S) else b ev S := by
  by_cases h : p <;> simp [h]
theorem kIteB_d (p : Prop) [Decidable p] : kIteB a b ev S (decide p) = if p then a ev S else b ev S := by
  by_cases h : p <;> simp [h]
def kAnd (b : M) (ev : EnvI) (r : D × Store) : RD0 := (isTru r.1).bind (kAndB b ev r.2)
@[simp] theorem kAnd_e (b : M) (ev : EnvI) (x : D) (S : Store) : kAnd b ev (x, S) = (isTru x).bind (kAndB b ev S) := rfl
def kOr (b : M) (ev : EnvI) (r : D × Store) : RD0 := (isTru r.1).bind (kOrB b ev r.2)
@[simp] theorem kOr_e (b : M) (ev : EnvI) (x : D) (S : Store) : kOr b ev (x, S) = (isTru x).bind (kOrB b ev S) := rfl
def kIte (a b : M) (ev : EnvI) (r : D × Store) : RD0 := (isTru r.1).bind (kIteB a b ev r.2)
@[simp] theorem kIte_e (a b : M) (ev : EnvI) (x : D) (S : Store) : kIte a b ev (x, S) = (isTru x).bind (kIteB a b ev S) := rfl
@[simp] theorem mAnd_e : mAnd a b ev S = (a ev S).bind (kAnd b ev) := rfl
@[simp] theorem mOr_e : mOr a b ev S = (a ev S).bind (kOr b ev) := rfl
@[simp] theorem mIf_e : mIf c a b ev S = (c ev S).bind (kIte a b ev) := rfl
def kNeg (r : D × Store) : RD0 := match r.1 with
  | .p (.int i) => some (.p (.int (-i)), r.2)
  | _ => none
@[simp] theorem kNeg_e (i : Int) : kNeg (.p (.int i), S) = some (.p (.int (-i)), S) := rfl
@[simp] theorem mNeg_e : mNeg a ev S = (a ev S).bind kNeg := rfl
@[simp] theorem mNil_e : mNil ev S = some ([], S) := rfl
def kCons2 (w : D) (r : List D × Store) : Option (List D × Store) := some (w :: r.1, r.2)
@[simp] theorem kCons2_e (w : D) (l : List D) (S : Store) : kCons2 w (l, S) = some (w :: l, S) := rfl
def kCons1 (as : Ms) (ev : EnvI) (r : D × Store) : Option (List D × Store) := (as ev r.2).bind (kCons2 r.1)
@[simp] theorem kCons1_e (as : Ms) (ev : EnvI) (x : D) (S : Store) : kCons1 as ev (x, S) = (as ev S).bind (kCons2 x) := rfl
@[simp] theorem mCons_e : mCons a as ev S = (a ev S).bind (kCons1 as ev) := by
  unfold mCons
  congr; funext r
  unfold kCons1
  cases as ev r.2 <;> rfl
def kTup2 (S : Store) (xs : List PyData) : RD0 := mkT xs S
@[simp] theorem kTup2_e (xs : List PyData) : kTup2 S xs = mkT xs S := rfl
def kTup  (r : List D × Store) : RD0 := (allP r.1).bind (kTup2 r.2)
@[simp] theorem kTup_e  (l : List D) (S : Store) : kTup  (l, S) = (allP l).bind (kTup2 S) := rfl
@[simp] theorem mTup_e : mTup as ev S = (as ev S).bind kTup := rfl
def kLst (bx : Bool) (r : List D × Store) : RD0 := mkL bx r.1 r.2
@[simp] theorem kLst_e (bx : Bool) (l : List D) (S : Store) : kLst bx (l, S) = mkL bx l S := rfl
@[simp] theorem mLst_e : mLst bx as ev S = (as ev S).bind (kLst bx) := rfl
def kPut (S : Store) (d : D) : RD0 := some (d, S)
@[simp] theorem kPut_e (d : D) : kPut S d = some (d, S) := rfl
def kIx2 (w : D) (r : D × Store) : RD0 := (ixI r.2 w r.1).bind (kPut r.2)
@[simp] theorem kIx2_e (w : D) (x : D) (S : Store) : kIx2 w (x, S) = (ixI S w x).bind (kPut S) := rfl
def kIx1 (b : M) (ev : EnvI) (r : D × Store) : RD0 := (b ev r.2).bind (kIx2 r.1)
@[simp] theorem kIx1_e (b : M) (ev : EnvI) (x : D) (S : Store) : kIx1 b ev (x, S) = (b ev S).bind (kIx2 x) := rfl
@[simp] theorem mIx_e : mIx a b ev S = (a ev S).bind (kIx1 b ev) := by
  unfold mIx
  congr; funext r
  unfold kIx1
  congr; funext t
  unfold kIx2
  cases ixI t.2 r.1 t.1 <;> rfl
@[simp] theorem mONone_e : mONone ev S = some (none, S) := rfl
def kO (r : D × Store) : Option (Option Int × Store) := match r.1 with
  | .p (.int i) => some (some i, r.2)
  | _ => none
@[simp] theorem kO_e (i : Int) : kO (.p (.int i), S) = some (some i, S) := rfl
@[simp] theorem mOSome_e : mOSome a ev S = (a ev S).bind kO := rfl
def kSl3 (bx : Bool) (w : D) (lo : Option Int) (h : Option Int × Store) : RD0 := slI bx h.2 w lo h.1
@[simp] theorem kSl3_e (w : D) (lo hi : Option Int) : kSl3 bx w lo (hi, S) = slI bx S w lo hi := rfl
def kSl2 (bx : Bool) (hi : MO) (ev : EnvI) (w : D) (l : Option Int × Store) : RD0 := (hi ev l.2).bind (kSl3 bx w l.1)
@[simp] theorem kSl2_e (hi : MO) (w : D) (lo : Option Int) : kSl2 bx hi ev w (lo, S) = (hi ev S).bind (kSl3 bx w lo) := rfl
def kSl1 (bx : Bool) (lo hi : MO) (ev : EnvI) (r : D × Store) : RD0 := (lo ev r.2).bind (kSl2 bx hi ev r.1)
@[simp] theorem kSl1_e (lo hi : MO) (w : D) : kSl1 bx lo hi ev (w, S) = (lo ev S).bind (kSl2 bx hi ev w) := rfl
@[simp] theorem mSl_e (lo hi : MO) : mSl bx a lo hi ev S = (a ev S).bind (kSl1 bx lo hi ev) := rfl
def kRev2 (bx : Bool) (S : Store) (xs : List D) : RD0 := mkL bx xs.reverse S
@[simp] theorem kRev2_e (xs : List D) : kRev2 bx S xs = mkL bx xs.reverse S := rfl
def kRev (bx : Bool) (r : D × Store) : RD0 := (lstOf r.2 r.1).bind (kRev2 bx r.2)
@[simp] theorem kRev_e (bx : Bool) (x : D) (S : Store) : kRev bx (x, S) = (lstOf S x).bind (kRev2 bx S) := rfl
@[simp] theorem mRev_e : mRev bx a ev S = (a ev S).bind (kRev bx) := rfl
def kBlt (f : BF) (r : List D × Store) : RD0 := f r.2 r.1
@[simp] theorem kBlt_e (f : BF) (l : List D) (S : Store) : kBlt f (l, S) = f S l := rfl
@[simp] theorem mBlt_e (f : BF) : mBlt f as ev S = (as ev S).bind (kBlt f) := rfl
def kMet4 (f : MF) (w : D) (r : List D × Store) : RD0 := f r.2 w r.1
@[simp] theorem kMet4_e (f : MF) (w : D) (l : List D) (S : Store) : kMet4 f w (l, S) = f S w l := rfl
def kMet3 (as : Ms) (ev : EnvI) (w : D) (S : Store) (f : MF) : RD0 := (as ev S).bind (kMet4 f w)
@[simp] theorem kMet3_e (w : D) (f : MF) : kMet3 as ev w S f = (as ev S).bind (kMet4 f w) := rfl
def kMet2 (n : Str) (as : Ms) (ev : EnvI) (w : D) (S : Store) (t : Tn) : RD0 := (metF t n).bind (kMet3 as ev w S)
@[simp] theorem kMet2_e (n : Str) (w : D) (t : Tn) : kMet2 n as ev w S t = (metF t n).bind (kMet3 as ev w S) := rfl
def kMet1 (n : Str) (as : Ms) (ev : EnvI) (r : D × Store) : RD0 := (tnOf r.2 r.1).bind (kMet2 n as ev r.1 r.2)
@[simp] theorem kMet1_e (n : Str) (as : Ms) (ev : EnvI) (x : D) (S : Store) : kMet1 n as ev (x, S) = (tnOf S x).bind (kMet2 n as ev x S) := rfl
@[simp] theorem mMet_e (n : Str) : mMet n a as ev S = (a ev S).bind (kMet1 n as ev) := rfl
@[simp] theorem met_append : metF .lst "append" = some mAppend := rfl
@[simp] theorem met_pop : metF .lst "pop" = some mPop := rfl
@[simp] theorem met_upper : metF .str "upper" = some mUpper := rfl
@[simp] theorem met_get : metF .dct "get" = some mGet := rfl
def kCall3 (cf : BF) (S : Store) (l : List D) : RD0 := cf S l
@[simp] theorem kCall3_e (cf : BF) (l : List D) : kCall3 cf S l = cf S l := rfl
def kCall2 (cf : BF) (ix : List Nat) (ws : List D) (r : List D × Store) : RD0 := (permD (ws ++ r.1) ix).bind (kCall3 cf r.2)
@[simp] theorem kCall2_e (cf : BF) (ix : List Nat) (ws : List D) (l : List D) (S : Store) : kCall2 cf ix ws (l, S) = (permD (ws ++ l) ix).bind (kCall3 cf S) := rfl
def kCall1 (cf : BF) (ix : List Nat) (ks : Ms) (ev : EnvI) (r : List D × Store) : RD0 := (ks ev r.2).bind (kCall2 cf ix r.1)
@[simp] theorem kCall1_e (cf : BF) (ix : List Nat) (ks : Ms) (ev : EnvI) (l : List D) (S : Store) : kCall1 cf ix ks ev (l, S) = (ks ev S).bind (kCall2 cf ix l) := rfl
@[simp] theorem mCall_e (cf : BF) (ix : List Nat) : mCall cf ix as ks ev S = (as ev S).bind (kCall1 cf ix ks ev) := rfl
@[simp] theorem permD0 {α : Type} (l : List α) : permD l [] = some [] := rfl
def kPerm (x : D) (xs : List D) : Option (List D) := some (x :: xs)
@[simp] theorem kPerm_e (l : List D) : kPerm x l = some (x :: l) := rfl
def kPerm0 (l : List D) (r : List Nat) (x : D) : Option (List D) := (permD l r).bind (kPerm x)
@[simp] theorem kPerm0_e (l : List D) (r : List Nat) : kPerm0 l r x = (permD l r).bind (kPerm x) := rfl
@[simp] theorem permD1 (l : List D) (i : Nat) (r : List Nat) : permD l (i :: r) = (l[i]?).bind (kPerm0 l r) := by
  unfold permD
  cases l[i]? with
  | none => rfl
  | some x => show _ = (permD l r).bind _; cases permD l r <;> rfl
@[simp] theorem mpNil_e : mpNil ev S = some ([], S) := rfl
def kDic (bx : Bool) (r : List (Key × D) × Store) : RD0 := if r.1.length ≤ 15 then mkD bx (mergeD [] r.1) r.2 else none
@[simp] theorem kDic_e (l : List (Key × D)) : kDic bx (l, S) = if l.length ≤ 15 then mkD bx (mergeD [] l) S else none := rfl
@[simp] theorem mDic_e (p : Mp) : mDic bx p ev S = (p ev S).bind (kDic bx) := rfl
def kIter2 (S : Store) (f : Src) : Option (Src × Store) := some (f, S)
@[simp] theorem kIter2_e (f : Src) : kIter2 S f = some (f, S) := rfl
def kIter (r : D × Store) : Option (Src × Store) := (srcOf r.2 r.1).bind (kIter2 r.2)
@[simp] theorem kIter_e : kIter (x, S) = (srcOf S x).bind (kIter2 S) := rfl
@[simp] theorem mIter_e : mIter a ev S = (a ev S).bind kIter := by
  unfold mIter
  congr; funext r
  unfold kIter
  cases srcOf r.2 r.1 <;> rfl
abbrev RS0 := Option (Fl × EnvI × Store)
@[simp] theorem sNil_e : sNil ev S = some (.nx, ev, S) := rfl
def kSeq (w : MS) (r : Fl × EnvI × Store) : RS0 := match r.1 with
  | .nx => w r.2.1 r.2.2
  | f => some (f, r.2.1, r.2.2)
@[simp] theorem kSeq_nx (w : MS) : kSeq w (.nx, ev, S) = w ev S := rfl
@[simp] theorem kSeq_rt (w : MS) : kSeq w (.rt x, ev, S) = some (.rt x, ev, S) := rfl
@[simp] theorem kSeq_bk (w : MS) : kSeq w (.bk, ev, S) = some (.bk, ev, S) := rfl
@[simp] theorem kSeq_ct (w : MS) : kSeq w (.ct, ev, S) = some (.ct, ev, S) := rfl
@[simp] theorem sSeq_e (v w : MS) : sSeq v w ev S = (v ev S).bind (kSeq w) := rfl
def kEx (ev : EnvI) (r : D × Store) : RS0 := some (.nx, ev, r.2)
@[simp] theorem kEx_e : kEx ev (x, S) = some (.nx, ev, S) := rfl
@[simp] theorem sEx_e : sEx a ev S = (a ev S).bind (kEx ev) := by
  unfold sEx
  cases a ev S <;> rfl
def kRet (ev : EnvI) (r : D × Store) : RS0 := some (.rt r.1, ev, r.2)
@[simp] theorem kRet_e : kRet ev (x, S) = some (.rt x, ev, S) := rfl
@[simp] theorem sRet_e : sRet a ev S = (a ev S).bind (kRet ev) := by
  unfold sRet
  cases a ev S <;> rfl
@[simp] theorem sRetN_e : sRetN ev S = some (.rt (.p .none), ev, S) := rfl
@[simp] theorem sBrk_e : sBrk ev S = some (.bk, ev, S) := rfl
@[simp] theorem sCnt_e : sCnt ev S = some (.ct, ev, S) := rfl
@[simp] theorem sNo_e : sNo ev S = none := rfl
def kIfB (v w : MS) (ev : EnvI) (S : Store) (k : Bool) : RS0 := if k then v ev S else w ev S
@[simp] theorem kIfB_t (v w : MS) : kIfB v w ev S true = v ev S := rfl
@[simp] theorem kIfB_f (v w : MS) : kIfB v w ev S false = w ev S := rfl
theorem kIfB_d (v w : MS) (p : Prop) [Decidable p] : kIfB v w ev S (decide p) = if p then v ev S else w ev S := by
  by_cases h : p <;> simp [h]
def kIf (v w : MS) (ev : EnvI) (r : D × Store) : RS0 := (isTru r.1).bind (kIfB v w ev r.2)
@[simp] theorem kIf_e (v w : MS) : kIf v w ev (x, S) = (isTru x).bind (kIfB v w ev S) := rfl
@[simp] theorem sIf_e (v w : MS) : sIf c v w ev S = (c ev S).bind (kIf v w ev) := rfl
def kEnd (r : EnvI × Store) : RS0 := some (.nx, r.1, r.2)
@[simp] theorem kEnd_e : kEnd (ev, S) = some (.nx, ev, S) := rfl
def kAsg (g : MG) (ev : EnvI) (r : D × Store) : RS0 := (g r.1 ev r.2).bind kEnd
@[simp] theorem kAsg_e (g : MG) : kAsg g ev (x, S) = (g x ev S).bind kEnd := rfl
@[simp] theorem sAsg_e (g : MG) : sAsg a g ev S = (a ev S).bind (kAsg g ev) := by
  unfold sAsg
  congr; funext r
  unfold kAsg
  cases g r.1 ev r.2 <;> rfl
def kPar (g : List D → EnvI → Store → Option (EnvI × Store)) (ev : EnvI) (r : List D × Store) : RS0 := (g r.1 ev r.2).bind kEnd
@[simp] theorem kPar_e (g : List D → EnvI → Store → Option (EnvI × Store)) (l : List D) : kPar g ev (l, S) = (g l ev S).bind kEnd := rfl
@[simp] theorem sPar_e (g : List D → EnvI → Store → Option (EnvI × Store)) : sPar as g ev S = (as ev S).bind (kPar g ev) := by
  unfold sPar
  congr; funext r
  unfold kPar
  cases g r.1 ev r.2 <;> rfl
@[simp] theorem gP2_e (i j : Nat) : gP2 i j [x, y] ev S = some ((ev.set i (some x)).set j (some y), S) := rfl
@[simp] theorem gP3_e (i j l : Nat) : gP3 i j l [x, y, z] ev S = some (((ev.set i (some x)).set j (some y)).set l (some z), S) := rfl
@[simp] theorem gNm_e (i : Nat) : gNm i x ev S = some (ev.set i (some x), S) := rfl
def kSb3 (ev : EnvI) (S : Store) : Option (EnvI × Store) := some (ev, S)
@[simp] theorem kSb3_e : kSb3 ev S = some (ev, S) := rfl
def kSb2 (ev : EnvI) (w d : D) (r : D × Store) : Option (EnvI × Store) := (setI r.2 w r.1 d).bind (kSb3 ev)
@[simp] theorem kSb2_e (w d : D) : kSb2 ev w d (x, S) = (setI S w x d).bind (kSb3 ev) := rfl
def kSb1 (i : M) (ev : EnvI) (d : D) (r : D × Store) : Option (EnvI × Store) := (i ev r.2).bind (kSb2 ev r.1 d)
@[simp] theorem kSb1_e (i : M) (d : D) : kSb1 i ev d (x, S) = (i ev S).bind (kSb2 ev x d) := rfl
@[simp] theorem gSb_e (o i : M) (d : D) : gSb o i d ev S = (o ev S).bind (kSb1 i ev d) := by
  unfold gSb
  congr; funext r
  unfold kSb1
  congr; funext t
  unfold kSb2
  cases setI t.2 r.1 t.1 d <;> rfl
@[simp] theorem gTp_e (n : Nat) (r : List D → EnvI → Store → Option (EnvI × Store)) (xs : List PyData) : gTp n r (.p (.tuple xs)) ev S = if xs.length = n then r (xs.map .p) ev S else none := rfl
@[simp] theorem gsNil_e : gsNil [] ev S = some (ev, S) := rfl
def kGs (r : List D → EnvI → Store → Option (EnvI × Store)) (ds : List D) (a : EnvI × Store) : Option (EnvI × Store) := r ds a.1 a.2
@[simp] theorem kGs_e (r : List D → EnvI → Store → Option (EnvI × Store)) (ds : List D) : kGs r ds (ev, S) = r ds ev S := rfl
@[simp] theorem gsCons_e (g : MG) (r : List D → EnvI → Store → Option (EnvI × Store)) (d : D) (ds : List D) : gsCons g r (d :: ds) ev S = (g d ev S).bind (kGs r ds) := rfl
@[simp] theorem mYes_e : mYes ev S = some (.p (.bool true), S) := rfl
/-- the body of a def has ended -/
def kBody (r : Fl × EnvI × Store) : RD0 := match r.1 with
  | .nx => some (.p .none, r.2.2)
  | .rt d => some (d, r.2.2)
  | _ => none
@[simp] theorem kBody_nx : kBody (.nx, ev, S) = some (.p .none, S) := rfl
@[simp] theorem kBody_rt : kBody (.rt x, ev, S) = some (x, S) := rfl
theorem bodyF_e (N ps : List Str) (w : MS) (ds : List D) (h : ds.length = ps.length) : bodyF N ps w S ds = (w (startD N ds) S).bind kBody := by
  unfold bodyF
  rw [if_pos h]
  rfl
end
section
variable (S : Store) (bx : Bool)
@[simp] theorem isTru_e (k : Bool) : isTru (.p (.bool k)) = some k := rfl
def kInt (S : Store) (k : Int) : Option (D × Store) := some (.p (.int k), S)
@[simp] theorem kInt_e (k : Int) : kInt S k = some (.p (.int k), S) := rfl
@[simp] theorem binI_int (op : Operator) (i j : Int) : PI.binI bx op S (.p (.int i)) (.p (.int j)) = (PI.intOp op i j).bind (kInt S) := by
  show (PI.intOp op i j).map _ = _
  cases PI.intOp op i j <;> rfl
@[simp] theorem intOp_add (i j : Int) : PI.intOp .Add i j = some (i + j) := rfl
@[simp] theorem intOp_sub (i j : Int) : PI.intOp .Sub i j = some (i - j) := rfl
@[simp] theorem intOp_mul (i j : Int) : PI.intOp .Mult i j = if (-18446744073709551616 < i ∧ i < 18446744073709551616) ∨ (-18446744073709551616 < j ∧ j < 18446744073709551616) then some (i * j) else none := rfl
@[simp] theorem intOp_mod (i j : Int) : PI.intOp .Mod i j = if 0 < j then some (i % j) else none := rfl
@[simp] theorem intOp_div (i j : Int) : PI.intOp .FloorDiv i j = if 0 < j ∧ j < 1073741824 then some (i / j) else none := rfl
theorem intOp_pow (i j : Int) : PI.intOp .Pow i j = if 0 ≤ j ∧ j ≤ 1000000 ∧ i.natAbs < 18446744073709551616 then some (i ^ j.toNat) else none := rfl
@[simp] theorem pow9 : PI.intOp .Pow 10 9 = some 1000000000 := by decide +kernel
@[simp] theorem pow18 : PI.intOp .Pow 10 18 = some 1000000000000000000 := by decide +kernel
@[simp] theorem pow19 : PI.intOp .Pow 10 19 = some 10000000000000000000 := by decide +kernel
@[simp] theorem pow20 : PI.intOp .Pow 10 20 = some 100000000000000000000 := by decide +kernel
@[simp] theorem pow30 : PI.intOp .Pow 10 30 = some 1000000000000000000000000000000 := by decide +kernel
@[simp] theorem pow38 : PI.intOp .Pow 10 38 = some 100000000000000000000000000000000000000 := by decide +kernel
@[simp] theorem pow39 : PI.intOp .Pow 10 39 = some 1000000000000000000000000000000000000000 := by decide +kernel
@[simp] theorem pow40 : PI.intOp .Pow 10 40 = some 10000000000000000000000000000000000000000 := by decide +kernel
@[simp] theorem bInt_i (i : Int) : bInt S [.p (.int i)] = some (.p (.int i), S) := rfl
@[simp] theorem bInt_b (b : Bool) : bInt S [.p (.bool b)] = some (.p (.int (if b then 1 else 0)), S) := rfl
@[simp] theorem bMax_e (i j : Int) : bMax S [.p (.int i), .p (.int j)] = some (.p (.int (if j > i then j else i)), S) := rfl
@[simp] theorem cmpI_ge (i j : Int) : cmpI .GtE S (.p (.int i)) (.p (.int j)) = some (decide (j ≤ i)) := rfl
@[simp] theorem cmpI_gt (i j : Int) : cmpI .Gt S (.p (.int i)) (.p (.int j)) = some (decide (j < i)) := rfl
@[simp] theorem cmpI_le (i j : Int) : cmpI .LtE S (.p (.int i)) (.p (.int j)) = some (decide (i ≤ j)) := rfl
@[simp] theorem cmpI_lt (i j : Int) : cmpI .Lt S (.p (.int i)) (.p (.int j)) = some (decide (i < j)) := rfl
def kFlip (b : Bool) : Option Bool := some !b
@[simp] theorem kFlip_e (b : Bool) : kFlip b = some !b := rfl
@[simp] theorem cmpI_ne (x y : D) : cmpI .NotEq S x y = (eqI S x y).bind kFlip := by
  show (eqI S x y).map _ = _
  cases eqI S x y <;> rfl
@[simp] theorem cmpI_eq (x y : D) : cmpI .Eq S x y = eqI S x y := rfl
end
end PI
set_option maxHeartbeats 1000000
/-! Own text: bounds of shown texts; data that repr can tell; loops with an invariant. -/
namespace PI
open PySem PySem.Spec L2
open PyProof.Rows hiding St

mutual
/-- at most so long is what is shown -/
def wt : PyData → Nat
  | .none => 5
  | .bool _ => 5
  | .int _ => 1922
  | .str x => 10 * x.length + 2
  | .list xs => wtAll xs + 3
  | .tuple xs => wtAll xs + 3
  | .dict kvs => wtKv kvs + 3
def wtAll : List PyData → Nat
  | [] => 0
  | x :: r => wt x + 2 + wtAll r
def wtKv : List (PyData × PyData) → Nat
  | [] => 0
  | (k, x) :: r => wt k + wt x + 4 + wtKv r
end
mutual
/-- sound texts, numbers not too long -/
def okS : PyData → Bool
  | .none => true
  | .bool _ => true
  | .int i => decide (i.natAbs.log2 < 1920)
  | .str x => PyData.strOk x
  | .list xs => okAll xs
  | .tuple xs => okAll xs
  | .dict kvs => okKv kvs
def okAll : List PyData → Bool
  | [] => true
  | x :: r => okS x && okAll r
def okKv : List (PyData × PyData) → Bool
  | [] => true
  | (k, x) :: r => okS k && okS x && okKv r
end
theorem textFrom_le : ∀ (ts : List Str) (k : Nat) (acc : Str), (textFrom k acc ts).length ≤ acc.length + piled ts
  | [], k, acc => by show acc.length ≤ _; omega
  | t :: r, k, acc => by
    have ih := textFrom_le r (k + 1) (acc ++ (if k > 0 then ", " else "" : String) ++ t)
    have e : (acc ++ (if k > 0 then ", " else "" : String) ++ t).length ≤ acc.length + 2 + t.length := by
      rw [strLen_append, strLen_append]
      split
      · have : ((", " : String) : Str).length = 2 := rfl
        omega
      · have : (("" : String) : Str).length = 0 := rfl
        omega
    rw [piled_cons]
    show (textFrom (k + 1) _ r).length ≤ _
    omega
theorem listText_le (ts : List Str) : (listText ts).length ≤ piled ts + 2 := by
  have := textFrom_le ts 0 "["
  unfold listText
  rw [strLen_append]
  have h1 : (("[" : String) : Str).length = 1 := rfl
  have h2 : (("]" : String) : Str).length = 1 := rfl
  omega
theorem join_le (ts : List Str) : (Str.join ", " ts).length ≤ piled ts := by
  cases ts with
  | nil => exact Nat.le_of_eq rfl
  | cons t r =>
    have := join_length_add (t :: r) (by simp)
    omega
theorem tupleText_le (ts : List Str) : (tupleText ts).length ≤ piled ts + 3 := by
  have := join_le ts
  unfold tupleText
  rw [strLen_append, strLen_append]
  have h1 : (("(" : String) : Str).length = 1 := rfl
  have h2 : ((if ts.length == 1 then ",)" else ")" : String) : Str).length ≤ 2 := by
    split
    · exact Nat.le_of_eq rfl
    · exact Nat.le_succ_of_le (Nat.le_of_eq rfl)
  omega
theorem dictText_le (ts : List Str) : (dictText ts).length ≤ piled ts + 2 := by
  have := join_le ts
  unfold dictText
  rw [strLen_append, strLen_append]
  have h1 : (("{" : String) : Str).length = 1 := rfl
  have h2 : (("}" : String) : Str).length = 1 := rfl
  omega
theorem strOk_lt {x : Str} (h : PyData.strOk x = true) : ∀ c ∈ x.cps.toList, c < 16 ^ 8 := fun c hc => by
  unfold PyData.strOk at h
  rw [Array.all_eq_true_iff_forall_mem] at h
  have := of_decide_eq_true (h c (by simpa using hc))
  exact Nat.lt_trans this (by decide)
mutual
theorem shown_le : ∀ d : PyData, okS d = true → (PyData.shown d).length ≤ wt d
  | .none, _ => by decide
  | .bool b, _ => by cases b <;> decide
  | .int i, h => by
    have h : i.natAbs.log2 < 1920 := of_decide_eq_true h
    exact Nat.le_succ_of_le (int_text_len_1921 h)
  | .str x, h => StrLaws.reprText_len x (strOk_lt h)
  | .list xs, h => by
    have h1 := shownAll_le xs h
    have h2 := listText_le (PyData.shownAll xs)
    show (listText _).length ≤ wtAll xs + 3
    omega
  | .tuple xs, h => by
    have h1 := shownAll_le xs h
    have h2 := tupleText_le (PyData.shownAll xs)
    show (tupleText _).length ≤ wtAll xs + 3
    omega
  | .dict kvs, h => by
    have h1 := shownKv_le kvs h
    have h2 := dictText_le (PyData.shownKv kvs)
    show (dictText _).length ≤ wtKv kvs + 3
    omega
theorem shownAll_le : ∀ xs : List PyData, okAll xs = true → piled (PyData.shownAll xs) ≤ wtAll xs
  | [], _ => Nat.le_refl _
  | x :: r, h => by
    have h := (Bool.and_eq_true_iff.mp h)
    have h1 := shown_le x h.1
    have h2 := shownAll_le r h.2
    show piled (PyData.shown x :: PyData.shownAll r) ≤ wt x + 2 + wtAll r
    rw [piled_cons]
    omega
theorem shownKv_le : ∀ kvs : List (PyData × PyData), okKv kvs = true → piled (PyData.shownKv kvs) ≤ wtKv kvs
  | [], _ => Nat.le_refl _
  | (k, x) :: r, h => by
    have h := (Bool.and_eq_true_iff.mp h)
    have h0 := (Bool.and_eq_true_iff.mp h.1)
    have h1 := shown_le k h0.1
    have h3 := shown_le x h0.2
    have h2 := shownKv_le r h.2
    show piled ((PyData.shown k ++ ": " ++ PyData.shown x) :: PyData.shownKv r) ≤ wt k + wt x + 4 + wtKv r
    rw [piled_cons, strLen_append, strLen_append]
    have h4 : ((": " : String) : Str).length = 2 := rfl
    omega
end
mutual
theorem showable_of : ∀ d : PyData, okS d = true → PyData.showable d = true
  | .none, _ => rfl
  | .bool b, _ => rfl
  | .int i, h => h
  | .str x, h => rfl
  | .list xs, h => showableAll_of xs h
  | .tuple xs, h => showableAll_of xs h
  | .dict kvs, h => showableKv_of kvs h
theorem showableAll_of : ∀ xs : List PyData, okAll xs = true → PyData.showableAll xs = true
  | [], _ => rfl
  | x :: r, h => by
    have h := (Bool.and_eq_true_iff.mp h)
    exact Bool.and_eq_true_iff.mpr ⟨showable_of x h.1, showableAll_of r h.2⟩
theorem showableKv_of : ∀ kvs : List (PyData × PyData), okKv kvs = true → PyData.showableKv kvs = true
  | [], _ => rfl
  | (k, x) :: r, h => by
    have h := (Bool.and_eq_true_iff.mp h)
    have h0 := (Bool.and_eq_true_iff.mp h.1)
    exact Bool.and_eq_true_iff.mpr ⟨Bool.and_eq_true_iff.mpr ⟨showable_of k h0.1, showable_of x h0.2⟩, showableKv_of r h.2⟩
end
/-- repr tells it -/
def Fine (d : PyData) : Prop := okS d = true ∧ d.depth ≤ 64 ∧ wt d ≤ 16777216
theorem repr_fine {S : Store} {d : PyData} (h : Fine d) : bRepr S [.p d] = some (.p (.str d.shown), S) := by
  obtain ⟨h1, h2, h3⟩ := h
  show (if d.showable = true ∧ d.depth ≤ 64 ∧ d.shown.length ≤ sizeLine then some (D.p (.str d.shown), S) else none) = _
  rw [if_pos ⟨showable_of d h1, h2, Nat.le_trans (shown_le d h1) h3⟩]
theorem strOk_of (s : String) : PyData.strOk (Str.ofString s) = true := by
  unfold PyData.strOk
  rw [Array.all_eq_true_iff_forall_mem]
  intro c hc
  have hc : c ∈ (Str.ofString s).cps.toList := by simpa using hc
  rw [PyProof.Rows.signs_ofString] at hc
  obtain ⟨z, _, rfl⟩ := List.mem_map.mp hc
  have := z.valid
  rw [decide_eq_true_eq]
  rcases this with h | h
  · exact Nat.lt_trans h (by decide)
  · exact h.2
theorem log_small {i : Int} (h : i.natAbs < 2 ^ 1920) : i.natAbs.log2 < 1920 := by
  by_cases h0 : i.natAbs = 0
  · rw [h0]; decide
  · exact (Nat.log2_lt h0).mpr h

/-! ### loops with an invariant -/
def kTurn (body : MS) (r : EnvI × Store) : RS0 := body r.1 r.2
@[simp] theorem kTurn_e (body : MS) (ev : EnvI) (S : Store) : kTurn body (ev, S) = body ev S := rfl
theorem forL_inv {xs : List D} {g : MG} {body : MS} (Inv : Nat → EnvI → Store → Prop) (step : ∀ (i : Nat) (d : D) (ev : EnvI) (S : Store), xs[i]? = some d → Inv i ev S → ∃ ev2 S2, (g d ev S).bind (kTurn body) = some (.nx, ev2, S2) ∧ Inv (i + 1) ev2 S2) :
    ∀ (k i : Nat) (ev : EnvI) (S : Store), xs.length - i < k → i ≤ xs.length → Inv i ev S → ∃ ev' S', forLoop (srcL xs) g body k i ev S = some (.nx, ev', S') ∧ Inv xs.length ev' S'
  | 0, i, ev, S, h, _, _ => by omega
  | k + 1, i, ev, S, h, hi, q => by
    cases e : xs[i]? with
    | none =>
      have : xs.length ≤ i := List.getElem?_eq_none_iff.mp e
      obtain rfl : i = xs.length := by omega
      refine ⟨ev, S, ?_, q⟩
      show (some xs[xs.length]?).bind _ = _
      rw [e]; rfl
    | some d =>
      have hl : i < xs.length := (List.getElem?_eq_some_iff.mp e).1
      obtain ⟨ev2, S2, h12, h3⟩ := step i d ev S e q
      obtain ⟨⟨ev1, S1⟩, h1, h2⟩ := bind_some h12
      have h2 : body ev1 S1 = _ := h2
      obtain ⟨ev', S', h4, h5⟩ := forL_inv Inv step k (i + 1) ev2 S2 (by omega) hl h3
      refine ⟨ev', S', ?_, h5⟩
      show (some xs[i]?).bind _ = _
      rw [e]
      show (g d ev S).bind _ = _
      rw [h1]
      show (body ev1 S1).bind _ = _
      rw [h2]
      exact h4
theorem forN_inv {lo : Int} {n : Nat} {g : MG} {body : MS} (Inv : Nat → EnvI → Store → Prop) (step : ∀ (i : Nat) (ev : EnvI) (S : Store), i < n → Inv i ev S → ∃ ev2 S2, (g (.p (.int (lo + i))) ev S).bind (kTurn body) = some (.nx, ev2, S2) ∧ Inv (i + 1) ev2 S2) :
    ∀ (k i : Nat) (ev : EnvI) (S : Store), n - i < k → i ≤ n → Inv i ev S → ∃ ev' S', forLoop (srcN lo n) g body k i ev S = some (.nx, ev', S') ∧ Inv n ev' S'
  | 0, i, ev, S, h, _, _ => by omega
  | k + 1, i, ev, S, h, hi, q => by
    by_cases hl : i < n
    · obtain ⟨ev2, S2, h12, h3⟩ := step i ev S hl q
      obtain ⟨⟨ev1, S1⟩, h1, h2⟩ := bind_some h12
      have h2 : body ev1 S1 = _ := h2
      obtain ⟨ev', S', h4, h5⟩ := forN_inv Inv step k (i + 1) ev2 S2 (by omega) hl h3
      refine ⟨ev', S', ?_, h5⟩
      show (some (if i < n then some (D.p (.int (lo + i))) else none)).bind _ = _
      rw [if_pos hl]
      show (g _ ev S).bind _ = _
      rw [h1]
      show (body ev1 S1).bind _ = _
      rw [h2]
      exact h4
    · obtain rfl : i = n := by omega
      refine ⟨ev, S, ?_, q⟩
      show (some (if i < i then some (D.p (.int (lo + i))) else none)).bind _ = _
      rw [if_neg hl]; rfl
def kFor (L : Nat) (g : MG) (b : MS) (ev : EnvI) (r : Src × Store) : RS0 := forLoop r.1 g b L 0 ev r.2
@[simp] theorem kFor_e (L : Nat) (g : MG) (b : MS) (ev : EnvI) (f : Src) (S : Store) : kFor L g b ev (f, S) = forLoop f g b L 0 ev S := rfl
@[simp] theorem sFor_e (L : Nat) (mi : MIt) (g : MG) (b : MS) (ev : EnvI) (S : Store) : sFor L mi g b ev S = (mi ev S).bind (kFor L g b ev) := rfl
def kR1 (r : D × Store) : Option (Src × Store) := match r.1 with
  | .p (.int j) => if -(2 ^ 62) ≤ j ∧ j < 2 ^ 62 then some (srcN 0 j.toNat, r.2) else none
  | _ => none
@[simp] theorem kR1_e (S : Store) (j : Int) : kR1 (.p (.int j), S) = if -4611686018427387904 ≤ j ∧ j < 4611686018427387904 then some (srcN 0 j.toNat, S) else none := rfl
@[simp] theorem mRng1_e (a : M) (ev : EnvI) (S : Store) : mRng1 a ev S = (a ev S).bind kR1 := rfl
def kR3 (x : D) (r : D × Store) : Option (Src × Store) := rng2 r.2 x r.1
@[simp] theorem kR3_e (S : Store) (i j : Int) : kR3 (.p (.int i)) (.p (.int j), S) = if -4611686018427387904 ≤ i ∧ i < 4611686018427387904 ∧ -4611686018427387904 ≤ j ∧ j < 4611686018427387904 then some (srcN i (j - i).toNat, S) else none := rfl
def kR2 (b : M) (ev : EnvI) (r : D × Store) : Option (Src × Store) := (b ev r.2).bind (kR3 r.1)
@[simp] theorem kR2_e (b : M) (ev : EnvI) (S : Store) (x : D) : kR2 b ev (x, S) = (b ev S).bind (kR3 x) := rfl
@[simp] theorem mRng2_e (a b : M) (ev : EnvI) (S : Store) : mRng2 a b ev S = (a ev S).bind (kR2 b ev) := rfl
theorem cut_all {α : Type} {xs : List α} {n : Nat} (h : xs.length ≤ n) : cutD xs none (some (n : Int)) = xs := by
  unfold cutD
  rw [HT.sIx_none, HT.sIx_nat, Nat.min_eq_right h]
  simp
theorem ix_list {S : Store} {l : List PyData} {r : Int} (h0 : 0 ≤ r) (h1 : r < l.length) : ∃ x, x ∈ l ∧ ixI S (.p (.list l)) (.p (.int r)) = some (.p x) := by
  have hl : r.toNat < l.length := by omega
  refine ⟨l[r.toNat], List.getElem_mem hl, ?_⟩
  show atI (l.map D.p) r = _
  unfold atI ixN
  rw [if_pos h0, List.length_map, if_pos h1]
  show (l.map D.p)[r.toNat]? = _
  rw [List.getElem?_map, List.getElem?_eq_getElem hl]; rfl
section
variable (ev : EnvI) (S : Store) (x : D) (key : Key)
def kMp4 (key : Key) (d : D) (r : List (Key × D) × Store) : Option (List (Key × D) × Store) := some ((key, d) :: r.1, r.2)
@[simp] theorem kMp4_e (l : List (Key × D)) : kMp4 key x (l, S) = some ((key, x) :: l, S) := rfl
def kMp3 (m : Mp) (ev : EnvI) (key : Key) (r : D × Store) : Option (List (Key × D) × Store) := (m ev r.2).bind (kMp4 key r.1)
@[simp] theorem kMp3_e (m : Mp) : kMp3 m ev key (x, S) = (m ev S).bind (kMp4 key x) := rfl
def kMp2 (v : M) (m : Mp) (ev : EnvI) (S : Store) (key : Key) : Option (List (Key × D) × Store) := (v ev S).bind (kMp3 m ev key)
@[simp] theorem kMp2_e (v : M) (m : Mp) : kMp2 v m ev S key = (v ev S).bind (kMp3 m ev key) := rfl
def kMp1 (v : M) (m : Mp) (ev : EnvI) (r : D × Store) : Option (List (Key × D) × Store) := match r.1 with
  | .p y => (keyP y).bind (kMp2 v m ev r.2)
  | _ => none
@[simp] theorem kMp1_e (v : M) (m : Mp) (y : PyData) : kMp1 v m ev (.p y, S) = (keyP y).bind (kMp2 v m ev S) := rfl
@[simp] theorem mpCons_e (k v : M) (m : Mp) : mpCons k v m ev S = (k ev S).bind (kMp1 v m ev) := by
  unfold mpCons
  congr; funext r
  obtain ⟨d, S1⟩ := r
  cases d with
  | p y =>
    show (keyP y).bind _ = (keyP y).bind _
    congr; funext q
    unfold kMp2
    congr; funext t
    unfold kMp3
    cases m ev t.2 <;> rfl
  | _ => rfl
@[simp] theorem key_s (z : Str) : keyP (.str z) = some (.inr z) := rfl
@[simp] theorem key_i (z : Int) : keyP (.int z) = some (.inl z) := rfl
@[simp] theorem src_l (xs : List PyData) : srcOf S (.p (.list xs)) = some (srcL (xs.map .p)) := rfl
@[simp] theorem src_t (xs : List PyData) : srcOf S (.p (.tuple xs)) = some (srcL (xs.map .p)) := rfl
@[simp] theorem lst_l (xs : List PyData) : lstOf S (.p (.list xs)) = some (xs.map .p) := rfl
@[simp] theorem bList_l (xs : List PyData) : bList false S [.p (.list xs)] = if xs.length ≤ sizeLine then some (.p (.list xs), S) else none := by
  show mkL false (xs.map D.p) S = _
  unfold mkL
  rw [List.length_map]
  split
  · have : allP (xs.map D.p) = some xs := by
      induction xs with
      | nil => rfl
      | cons y r ih => simp only [List.map_cons, allP, ih (by simp only [List.length_cons] at *; omega)]; rfl
    simp [this]
  · rfl
@[simp] theorem len_l (xs : List PyData) : bLen S [.p (.list xs)] = some (.p (.int xs.length), S) := by
  show some (D.p (.int ((xs.map D.p).length : Nat)), S) = _
  rw [List.length_map]
@[simp] theorem len_t (xs : List PyData) : bLen S [.p (.tuple xs)] = some (.p (.int xs.length), S) := by
  show some (D.p (.int ((xs.map D.p).length : Nat)), S) = _
  rw [List.length_map]
end
@[simp] theorem isi_non_bl (S : Store)  : bIsi S [.p .none, .ty .bl] = some (.p (.bool false), S) := rfl
@[simp] theorem isi_non_int (S : Store)  : bIsi S [.p .none, .ty .int] = some (.p (.bool false), S) := rfl
@[simp] theorem isi_non_str (S : Store)  : bIsi S [.p .none, .ty .str] = some (.p (.bool false), S) := rfl
@[simp] theorem isi_non_lst (S : Store)  : bIsi S [.p .none, .ty .lst] = some (.p (.bool false), S) := rfl
@[simp] theorem isi_non_tup (S : Store)  : bIsi S [.p .none, .ty .tup] = some (.p (.bool false), S) := rfl
@[simp] theorem isi_non_dct (S : Store)  : bIsi S [.p .none, .ty .dct] = some (.p (.bool false), S) := rfl
@[simp] theorem isi_bl_bl (S : Store) (b : Bool) : bIsi S [.p (.bool b), .ty .bl] = some (.p (.bool true), S) := rfl
@[simp] theorem isi_bl_int (S : Store) (b : Bool) : bIsi S [.p (.bool b), .ty .int] = some (.p (.bool true), S) := rfl
@[simp] theorem isi_bl_str (S : Store) (b : Bool) : bIsi S [.p (.bool b), .ty .str] = some (.p (.bool false), S) := rfl
@[simp] theorem isi_bl_lst (S : Store) (b : Bool) : bIsi S [.p (.bool b), .ty .lst] = some (.p (.bool false), S) := rfl
@[simp] theorem isi_bl_tup (S : Store) (b : Bool) : bIsi S [.p (.bool b), .ty .tup] = some (.p (.bool false), S) := rfl
@[simp] theorem isi_bl_dct (S : Store) (b : Bool) : bIsi S [.p (.bool b), .ty .dct] = some (.p (.bool false), S) := rfl
@[simp] theorem isi_int_bl (S : Store) (i : Int) : bIsi S [.p (.int i), .ty .bl] = some (.p (.bool false), S) := rfl
@[simp] theorem isi_int_int (S : Store) (i : Int) : bIsi S [.p (.int i), .ty .int] = some (.p (.bool true), S) := rfl
@[simp] theorem isi_int_str (S : Store) (i : Int) : bIsi S [.p (.int i), .ty .str] = some (.p (.bool false), S) := rfl
@[simp] theorem isi_int_lst (S : Store) (i : Int) : bIsi S [.p (.int i), .ty .lst] = some (.p (.bool false), S) := rfl
@[simp] theorem isi_int_tup (S : Store) (i : Int) : bIsi S [.p (.int i), .ty .tup] = some (.p (.bool false), S) := rfl
@[simp] theorem isi_int_dct (S : Store) (i : Int) : bIsi S [.p (.int i), .ty .dct] = some (.p (.bool false), S) := rfl
@[simp] theorem isi_str_bl (S : Store) (z : Str) : bIsi S [.p (.str z), .ty .bl] = some (.p (.bool false), S) := rfl
@[simp] theorem isi_str_int (S : Store) (z : Str) : bIsi S [.p (.str z), .ty .int] = some (.p (.bool false), S) := rfl
@[simp] theorem isi_str_str (S : Store) (z : Str) : bIsi S [.p (.str z), .ty .str] = some (.p (.bool true), S) := rfl
@[simp] theorem isi_str_lst (S : Store) (z : Str) : bIsi S [.p (.str z), .ty .lst] = some (.p (.bool false), S) := rfl
@[simp] theorem isi_str_tup (S : Store) (z : Str) : bIsi S [.p (.str z), .ty .tup] = some (.p (.bool false), S) := rfl
@[simp] theorem isi_str_dct (S : Store) (z : Str) : bIsi S [.p (.str z), .ty .dct] = some (.p (.bool false), S) := rfl
@[simp] theorem isi_lst_bl (S : Store) (l : List PyData) : bIsi S [.p (.list l), .ty .bl] = some (.p (.bool false), S) := rfl
@[simp] theorem isi_lst_int (S : Store) (l : List PyData) : bIsi S [.p (.list l), .ty .int] = some (.p (.bool false), S) := rfl
@[simp] theorem isi_lst_str (S : Store) (l : List PyData) : bIsi S [.p (.list l), .ty .str] = some (.p (.bool false), S) := rfl
@[simp] theorem isi_lst_lst (S : Store) (l : List PyData) : bIsi S [.p (.list l), .ty .lst] = some (.p (.bool true), S) := rfl
@[simp] theorem isi_lst_tup (S : Store) (l : List PyData) : bIsi S [.p (.list l), .ty .tup] = some (.p (.bool false), S) := rfl
@[simp] theorem isi_lst_dct (S : Store) (l : List PyData) : bIsi S [.p (.list l), .ty .dct] = some (.p (.bool false), S) := rfl
@[simp] theorem isi_tup_bl (S : Store) (l : List PyData) : bIsi S [.p (.tuple l), .ty .bl] = some (.p (.bool false), S) := rfl
@[simp] theorem isi_tup_int (S : Store) (l : List PyData) : bIsi S [.p (.tuple l), .ty .int] = some (.p (.bool false), S) := rfl
@[simp] theorem isi_tup_str (S : Store) (l : List PyData) : bIsi S [.p (.tuple l), .ty .str] = some (.p (.bool false), S) := rfl
@[simp] theorem isi_tup_lst (S : Store) (l : List PyData) : bIsi S [.p (.tuple l), .ty .lst] = some (.p (.bool false), S) := rfl
@[simp] theorem isi_tup_tup (S : Store) (l : List PyData) : bIsi S [.p (.tuple l), .ty .tup] = some (.p (.bool true), S) := rfl
@[simp] theorem isi_tup_dct (S : Store) (l : List PyData) : bIsi S [.p (.tuple l), .ty .dct] = some (.p (.bool false), S) := rfl
@[simp] theorem isi_dct_bl (S : Store) (kv : List (PyData × PyData)) : bIsi S [.p (.dict kv), .ty .bl] = some (.p (.bool false), S) := rfl
@[simp] theorem isi_dct_int (S : Store) (kv : List (PyData × PyData)) : bIsi S [.p (.dict kv), .ty .int] = some (.p (.bool false), S) := rfl
@[simp] theorem isi_dct_str (S : Store) (kv : List (PyData × PyData)) : bIsi S [.p (.dict kv), .ty .str] = some (.p (.bool false), S) := rfl
@[simp] theorem isi_dct_lst (S : Store) (kv : List (PyData × PyData)) : bIsi S [.p (.dict kv), .ty .lst] = some (.p (.bool false), S) := rfl
@[simp] theorem isi_dct_tup (S : Store) (kv : List (PyData × PyData)) : bIsi S [.p (.dict kv), .ty .tup] = some (.p (.bool false), S) := rfl
@[simp] theorem isi_dct_dct (S : Store) (kv : List (PyData × PyData)) : bIsi S [.p (.dict kv), .ty .dct] = some (.p (.bool true), S) := rfl
@[simp] theorem cmpI_in (S : Store) (x y : D) : cmpI .In S x y = PI.memI S x y := rfl
@[simp] theorem eq_ss (S : Store) (a b : Str) : eqI S (.p (.str a)) (.p (.str b)) = some (decide (a = b)) := rfl
@[simp] theorem eq_is (S : Store) (i : Int) (b : Str) (hb : PyData.strOk b = true) : eqI S (.p (.int i)) (.p (.str b)) = some false := by
  show eqG S (.p (.int i)) (.p (.str b)) = _
  show (if SeqAt.shaped (.int i) = true ∧ SeqAt.shaped (.str b) = true then _ else none) = _
  rw [if_pos ⟨rfl, by unfold SeqAt.shaped; simp [PyData.canLay0, hb, PyData.depth]⟩]
  rfl
@[simp] theorem ok_of (s : String) : PyData.strOk (Str.ofString s) = true := strOk_of s
@[simp] theorem cat_l (S : Store) (bx : Bool) (a b : List PyData) : PI.binI bx .Add S (.p (.list a)) (.p (.list b)) = mkL bx (a.map .p ++ b.map .p) S := rfl
@[simp] theorem cat_t (S : Store) (bx : Bool) (a b : List PyData) : PI.binI bx .Add S (.p (.tuple a)) (.p (.tuple b)) = mkT (a ++ b) S := rfl
@[simp] theorem mul_l (S : Store) (bx : Bool) (a : List PyData) (k : Int) : PI.binI bx .Mult S (.p (.list a)) (.p (.int k)) = if -9223372036854775808 ≤ k ∧ k < 9223372036854775808 then mkL bx (List.replicate k.toNat (a.map .p)).flatten S else none := rfl
@[simp] theorem mul_t (S : Store) (bx : Bool) (a : List PyData) (k : Int) : PI.binI bx .Mult S (.p (.tuple a)) (.p (.int k)) = if a ≠ [] ∧ 2 ≤ k ∧ k ≤ 1000 ∧ a.length ≤ 1000 then some (.p (.tuple (List.replicate k.toNat a).flatten), S) else none := rfl
instance (d : PyData) : Decidable (Fine d) := by unfold Fine; infer_instance
end PI
/-! ### the text by places -/
namespace K26
open PySem PySem.Spec L2 PI
open PyProof.Rows hiding St
def top (i : Nat) : Stmt := PySem.Challenge.pw_howmanyslips_k26_numbers_among_any_value.main.body.getD i (.Pass ⟨0, 0, 0, 0⟩)
def DEP : Nat := 60
def G (L : Nat) : GS where
  L := L
  bx := fun p => decide (p = ⟨41, 11, 41, 72⟩) || decide (p = ⟨41, 20, 41, 43⟩)
  gk := fun x => if x = "ANY" then some (.p (.str "any")) else if x = "EVER" then some (.p (.str "ever")) else none
  bl := fun x => (["len", "int", "str", "max", "list", "tuple", "isinstance", "repr", "range", "bool"] : List Str).contains x
abbrev s__law_deck : Stmt := top 18
def ft__law_deck : FT := ⟨["script"], ["script", "mixed", "cell"], defScope s__law_deck, defBody s__law_deck⟩
abbrev s__law_draw : Stmt := top 19
def ft__law_draw : FT := ⟨["deck", "many"], ["deck", "many", "figure", "cell"], defScope s__law_draw, defBody s__law_draw⟩
abbrev s__law_pick : Stmt := top 20
def ft__law_pick : FT := ⟨["deck", "some"], ["deck", "some"], defScope s__law_pick, defBody s__law_pick⟩
abbrev s__law_any_number : Stmt := top 25
def ft__law_any_number : FT := ⟨["deck"], ["deck"], defScope s__law_any_number, defBody s__law_any_number⟩
abbrev s__law_rank : Stmt := top 23
def ft__law_rank : FT := ⟨["number"], ["number"], defScope s__law_rank, defBody s__law_rank⟩
abbrev s_is_integer : Stmt := top 4
def ft_is_integer : FT := ⟨["thing"], ["thing"], defScope s_is_integer, defBody s_is_integer⟩
abbrev s_is_from : Stmt := top 5
def ft_is_from : FT := ⟨["thing", "least"], ["thing", "least"], defScope s_is_from, defBody s_is_from⟩
abbrev s_is_word : Stmt := top 6
def ft_is_word : FT := ⟨["thing", "words"], ["thing", "words"], defScope s_is_word, defBody s_is_word⟩
abbrev s_is_number_value : Stmt := top 10
def ft_is_number_value : FT := ⟨["thing"], ["thing"], defScope s_is_number_value, defBody s_is_number_value⟩
abbrev s_need_number : Stmt := top 14
def ft_need_number : FT := ⟨["number"], ["number"], defScope s_need_number, defBody s_need_number⟩
abbrev s_rank_of : Stmt := top 11
def ft_rank_of : FT := ⟨["number"], ["number"], defScope s_rank_of, defBody s_rank_of⟩
abbrev s_is_at_most : Stmt := top 12
def ft_is_at_most : FT := ⟨["one", "other"], ["one", "other"], defScope s_is_at_most, defBody s_is_at_most⟩
abbrev s_is_less : Stmt := top 16
def ft_is_less : FT := ⟨["one", "other"], ["one", "other"], defScope s_is_less, defBody s_is_less⟩
abbrev s__law_leaf : Stmt := top 24
def ft__law_leaf : FT := ⟨["deck", "thing"], ["deck", "thing", "odd"], defScope s__law_leaf, defBody s__law_leaf⟩
abbrev s_is_number : Stmt := top 15
def ft_is_number : FT := ⟨["thing"], ["thing"], defScope s_is_number, defBody s_is_number⟩
abbrev s__law_is_int : Stmt := top 21
def ft__law_is_int : FT := ⟨["thing", "low"], ["thing", "low"], defScope s__law_is_int, defBody s__law_is_int⟩
abbrev s__law_is_number : Stmt := top 22
def ft__law_is_number : FT := ⟨["thing"], ["thing"], defScope s__law_is_number, defBody s__law_is_number⟩
abbrev s_law : Stmt := top 26
def ft_law : FT := ⟨["script"], ["script", "deck", "turn", "one", "other", "due", "told", "some", "thing", "text"], defScope s_law, defBody s_law⟩
def T (x : Str) : Option FT := if x = "_law_deck" then some ft__law_deck else if x = "_law_draw" then some ft__law_draw else if x = "_law_pick" then some ft__law_pick else if x = "_law_any_number" then some ft__law_any_number else if x = "_law_rank" then some ft__law_rank else if x = "is_integer" then some ft_is_integer else if x = "is_from" then some ft_is_from else if x = "is_word" then some ft_is_word else if x = "is_number_value" then some ft_is_number_value else if x = "need_number" then some ft_need_number else if x = "rank_of" then some ft_rank_of else if x = "is_at_most" then some ft_is_at_most else if x = "is_less" then some ft_is_less else if x = "_law_leaf" then some ft__law_leaf else if x = "is_number" then some ft_is_number else if x = "_law_is_int" then some ft__law_is_int else if x = "_law_is_number" then some ft__law_is_number else if x = "law" then some ft_law else none
/-! ### each def as a term -/
def b__law_deck_0 (L k : Nat) : MS := sSeq (sAsg (mBin false .Mod (mBlt bInt (mCons (mBin false .Add (mBin false .Add (mBin false .Mult (mV 1) (mC (.p (.int 48271)))) (mBin false .Mod (mBlt bInt (mCons (mV 2) (mNil))) (mC (.p (.int 2147483629))))) (mC (.p (.int 26)))) (mNil))) (mC (.p (.int 2147483563)))) (gNm 1)) (sNil)
theorem e__law_deck (L k : Nat) : fL (G L) T DEP (k + 1) ft__law_deck = bodyF ["script", "mixed", "cell"] ["script"] (sSeq (sAsg (mC (.p (.int 15371026))) (gNm 1)) (sSeq (sFor L (mIter (mSl false (mV 0) (mONone) (mOSome (mC (.p (.int 63)))))) (gNm 2) (b__law_deck_0 L k)) (sSeq (sRet (mDic true (mpCons (mC (.p (.str "left"))) (mRev true (mBlt (bList false) (mCons (mSl false (mV 0) (mONone) (mOSome (mC (.p (.int 63))))) (mNil)))) (mpCons (mC (.p (.str "mixed"))) (mV 1) (mpCons (mC (.p (.str "draws"))) (mC (.p (.int 0))) (mpNil)))))) (sNil)))) := by kernel_rfl
theorem e__law_draw (L k : Nat) : fL (G L) T DEP (k + 1) ft__law_draw = bodyF ["deck", "many", "figure", "cell"] ["deck", "many"] (sSeq (sAsg (mBin false .Add (mIx (mV 0) (mC (.p (.str "draws")))) (mC (.p (.int 1)))) (gSb (mV 0) (mC (.p (.str "draws"))))) (sSeq (sAsg (mBin false .Add (mIx (mV 0) (mC (.p (.str "mixed")))) (mBin false .Mult (mC (.p (.int 57041))) (mIx (mV 0) (mC (.p (.str "draws")))))) (gNm 2)) (sSeq (sIf (mCmp .NotEq (mIx (mV 0) (mC (.p (.str "left")))) (mLst false (mNil))) (sSeq (sAsg (mMet "pop" (mIx (mV 0) (mC (.p (.str "left")))) (mNil)) (gNm 3)) (sSeq (sIf (mCmp .GtE (mV 3) (mBin false .Pow (mC (.p (.int 10))) (mC (.p (.int 18))))) (sSeq (sEx (mMet "append" (mIx (mV 0) (mC (.p (.str "left")))) (mCons (mBin false .FloorDiv (mV 3) (mBlt bMax (mCons (mC (.p (.int 2))) (mCons (mV 1) (mNil))))) (mNil)))) (sSeq (sRet (mBin false .Mod (mBlt bInt (mCons (mV 3) (mNil))) (mV 1))) (sNil))) (sNil)) (sSeq (sAsg (mBin false .Add (mV 2) (mBin false .Mod (mBlt bInt (mCons (mV 3) (mNil))) (mC (.p (.int 2147483629))))) (gNm 2)) (sNil)))) (sNil)) (sSeq (sAsg (mBin false .Mod (mBlt bInt (mCons (mBin false .Add (mBin false .Mult (mV 2) (mC (.p (.int 39373)))) (mC (.p (.int 26)))) (mNil))) (mC (.p (.int 2147483647)))) (gNm 2)) (sSeq (sAsg (mBin false .Mod (mBlt bInt (mCons (mBin false .Add (mBin false .Add (mBin false .Mult (mV 2) (mV 2)) (mBin false .Mult (mC (.p (.int 63029))) (mIx (mV 0) (mC (.p (.str "draws")))))) (mC (.p (.int 26)))) (mNil))) (mC (.p (.int 2147483587)))) (gNm 2)) (sSeq (sAsg (mBin false .Mod (mBlt bInt (mCons (mBin false .Mult (mV 2) (mC (.p (.int 69621)))) (mNil))) (mC (.p (.int 2147483563)))) (gNm 2)) (sSeq (sRet (mBin false .Mod (mBlt bInt (mCons (mBin false .FloorDiv (mV 2) (mC (.p (.int 64)))) (mNil))) (mV 1))) (sNil)))))))) := by kernel_rfl
theorem e__law_pick (L k : Nat) : fL (G L) T DEP (k + 1) ft__law_pick = bodyF ["deck", "some"] ["deck", "some"] (sSeq (sRet (mIx (mV 1) (mCall (fL (G L) T DEP k ft__law_draw) [0, 1] (mCons (mV 0) (mCons (mBlt bLen (mCons (mV 1) (mNil))) (mNil))) (mNil)))) (sNil)) := by kernel_rfl
theorem e__law_any_number (L k : Nat) : fL (G L) T DEP (k + 1) ft__law_any_number = bodyF ["deck"] ["deck"] (sSeq (sRet (mCall (fL (G L) T DEP k ft__law_pick) [0, 1] (mCons (mV 0) (mCons (mLst false (mCons (mC (.p (.int 0))) (mCons (mC (.p (.int 1))) (mCons (mC (.p (.int 2))) (mCons (mCall (fL (G L) T DEP k ft__law_draw) [0, 1] (mCons (mV 0) (mCons (mC (.p (.int 60))) (mNil))) (mNil)) (mCons (mBin false .Sub (mBin false .Pow (mC (.p (.int 10))) (mC (.p (.int 39)))) (mCall (fL (G L) T DEP k ft__law_draw) [0, 1] (mCons (mV 0) (mCons (mC (.p (.int 5))) (mNil))) (mNil))) (mCons (mBin false .Pow (mC (.p (.int 10))) (mC (.p (.int 20)))) (mCons (mBin false .Pow (mC (.p (.int 10))) (mC (.p (.int 38)))) (mCons (mBin false .Pow (mC (.p (.int 10))) (mC (.p (.int 9)))) (mCons (mC (.p (.str "any"))) (mCons (mC (.p (.str "ever"))) (mCons (mC (.p (.str "any"))) (mCons (mC (.p (.str "ever"))) (mNil)))))))))))))) (mNil))) (mNil))) (sNil)) := by kernel_rfl
theorem e__law_rank (L k : Nat) : fL (G L) T DEP (k + 1) ft__law_rank = bodyF ["number"] ["number"] (sSeq (sRet (mIf (mBlt bIsi (mCons (mV 0) (mCons (mC (.ty .int)) (mNil)))) (mTup (mCons (mC (.p (.int 0))) (mCons (mV 0) (mNil)))) (mIf (mCmp .Eq (mV 0) (mC (.p (.str "any")))) (mTup (mCons (mC (.p (.int 1))) (mCons (mC (.p (.int 0))) (mNil)))) (mTup (mCons (mC (.p (.int 2))) (mCons (mC (.p (.int 0))) (mNil))))))) (sNil)) := by kernel_rfl
theorem e_is_integer (L k : Nat) : fL (G L) T DEP (k + 1) ft_is_integer = bodyF ["thing"] ["thing"] (sSeq (sRet (mAnd (mBlt bIsi (mCons (mV 0) (mCons (mC (.ty .int)) (mNil)))) (mNot (mBlt bIsi (mCons (mV 0) (mCons (mC (.ty .bl)) (mNil))))))) (sNil)) := by kernel_rfl
theorem e_is_from (L k : Nat) : fL (G L) T DEP (k + 1) ft_is_from = bodyF ["thing", "least"] ["thing", "least"] (sSeq (sRet (mAnd (mCall (fL (G L) T DEP k ft_is_integer) [0] (mCons (mV 0) (mNil)) (mNil)) (mCmp .GtE (mV 0) (mV 1)))) (sNil)) := by kernel_rfl
theorem e_is_word (L k : Nat) : fL (G L) T DEP (k + 1) ft_is_word = bodyF ["thing", "words"] ["thing", "words"] (sSeq (sRet (mAnd (mBlt bIsi (mCons (mV 0) (mCons (mC (.ty .str)) (mNil)))) (mCmp .In (mV 0) (mV 1)))) (sNil)) := by kernel_rfl
theorem e_is_number_value (L k : Nat) : fL (G L) T DEP (k + 1) ft_is_number_value = bodyF ["thing"] ["thing"] (sSeq (sRet (mOr (mCall (fL (G L) T DEP k ft_is_from) [0, 1] (mCons (mV 0) (mCons (mC (.p (.int 0))) (mNil))) (mNil)) (mCall (fL (G L) T DEP k ft_is_word) [0, 1] (mCons (mV 0) (mCons (mTup (mCons (mC (.p (.str "any"))) (mCons (mC (.p (.str "ever"))) (mNil)))) (mNil))) (mNil)))) (sNil)) := by kernel_rfl
theorem e_need_number (L k : Nat) : fL (G L) T DEP (k + 1) ft_need_number = bodyF ["number"] ["number"] (sSeq (sIf (mNot (mCall (fL (G L) T DEP k ft_is_number_value) [0] (mCons (mV 0) (mNil)) (mNil))) (sSeq (sNo) (sNil)) (sNil)) (sNil)) := by kernel_rfl
theorem e_rank_of (L k : Nat) : fL (G L) T DEP (k + 1) ft_rank_of = bodyF ["number"] ["number"] (sSeq (sIf (mCmp .Eq (mV 0) (mC (.p (.str "ever")))) (sSeq (sRet (mTup (mCons (mC (.p (.int 2))) (mCons (mC (.p (.int 0))) (mNil))))) (sNil)) (sNil)) (sSeq (sRet (mIf (mCmp .Eq (mV 0) (mC (.p (.str "any")))) (mTup (mCons (mC (.p (.int 1))) (mCons (mC (.p (.int 0))) (mNil)))) (mTup (mCons (mC (.p (.int 0))) (mCons (mV 0) (mNil)))))) (sNil))) := by kernel_rfl
theorem e_is_at_most (L k : Nat) : fL (G L) T DEP (k + 1) ft_is_at_most = bodyF ["one", "other"] ["one", "other"] (sSeq (sRet (mCmp .LtE (mCall (fL (G L) T DEP k ft_rank_of) [0] (mCons (mV 0) (mNil)) (mNil)) (mCall (fL (G L) T DEP k ft_rank_of) [0] (mCons (mV 1) (mNil)) (mNil)))) (sNil)) := by kernel_rfl
theorem e_is_less (L k : Nat) : fL (G L) T DEP (k + 1) ft_is_less = bodyF ["one", "other"] ["one", "other"] (sSeq (sEx (mCall (fL (G L) T DEP k ft_need_number) [0] (mCons (mV 0) (mNil)) (mNil))) (sSeq (sEx (mCall (fL (G L) T DEP k ft_need_number) [0] (mCons (mV 1) (mNil)) (mNil))) (sSeq (sRet (mNot (mCall (fL (G L) T DEP k ft_is_at_most) [0, 1] (mCons (mV 1) (mCons (mV 0) (mNil))) (mNil)))) (sNil)))) := by kernel_rfl
theorem e__law_leaf (L k : Nat) : fL (G L) T DEP (k + 1) ft__law_leaf = bodyF ["deck", "thing", "odd"] ["deck", "thing"] (sSeq (sAsg (mLst false (mCons (mC (.p .none)) (mCons (mC (.p (.bool true))) (mCons (mC (.p (.bool false))) (mCons (mC (.p (.int 0))) (mCons (mC (.p (.int 1))) (mCons (mC (.p (.int 2))) (mCons (mNeg (mC (.p (.int 1)))) (mCons (mC (.p (.str ""))) (mCons (mC (.p (.str "any"))) (mCons (mC (.p (.str "ever"))) (mCons (mC (.p (.str "numbers"))) (mCons (mTup (mNil)) (mCons (mLst false (mNil)) (mCons (mDic false (mpNil)) (mCons (mBin false .Pow (mC (.p (.int 10))) (mC (.p (.int 39)))) (mCons (mTup (mCons (mTup (mNil)) (mNil))) (mCons (mTup (mCons (mC (.p (.int 0))) (mNil))) (mNil))))))))))))))))))) (gNm 2)) (sSeq (sIf (mAnd (mBlt bIsi (mCons (mV 1) (mCons (mC (.ty .tup)) (mNil)))) (mCmp .Gt (mCall (fL (G L) T DEP k ft__law_draw) [0, 1] (mCons (mV 0) (mCons (mC (.p (.int 5))) (mNil))) (mNil)) (mC (.p (.int 0))))) (sSeq (sRet (mCall (fL (G L) T DEP k ft__law_pick) [0, 1] (mCons (mV 0) (mCons (mLst false (mCons (mBlt (bList false) (mCons (mV 1) (mNil))) (mCons (mRev false (mV 1)) (mCons (mSl false (mV 1) (mOSome (mC (.p (.int 1)))) (mONone)) (mCons (mBin false .Add (mV 1) (mSl false (mV 1) (mOSome (mNeg (mC (.p (.int 1))))) (mONone))) (mCons (mBin false .Add (mV 1) (mTup (mCons (mC (.p (.int 0))) (mNil)))) (mCons (mSl false (mV 1) (mONone) (mOSome (mNeg (mC (.p (.int 1)))))) (mCons (mTup (mCons (mV 1) (mNil))) (mCons (mBin false .Add (mV 1) (mTup (mCons (mC (.p .none)) (mNil)))) (mNil)))))))))) (mNil))) (mNil))) (sNil)) (sNil)) (sSeq (sIf (mAnd (mBlt bIsi (mCons (mV 1) (mCons (mC (.ty .str)) (mNil)))) (mCmp .Gt (mCall (fL (G L) T DEP k ft__law_draw) [0, 1] (mCons (mV 0) (mCons (mC (.p (.int 5))) (mNil))) (mNil)) (mC (.p (.int 0))))) (sSeq (sRet (mCall (fL (G L) T DEP k ft__law_pick) [0, 1] (mCons (mV 0) (mCons (mLst false (mCons (mBin false .Add (mV 1) (mC (.p (.str "s")))) (mCons (mSl false (mV 1) (mONone) (mOSome (mNeg (mC (.p (.int 1)))))) (mCons (mMet "upper" (mV 1) (mNil)) (mCons (mBin false .Add (mV 1) (mC (.p (.str " ")))) (mCons (mTup (mCons (mV 1) (mNil))) (mCons (mC (.p (.str "any"))) (mCons (mC (.p (.str "ever"))) (mCons (mC (.p (.int 0))) (mNil)))))))))) (mNil))) (mNil))) (sNil)) (sNil)) (sSeq (sIf (mAnd (mBlt bIsi (mCons (mV 1) (mCons (mC (.ty .int)) (mNil)))) (mCmp .Gt (mCall (fL (G L) T DEP k ft__law_draw) [0, 1] (mCons (mV 0) (mCons (mC (.p (.int 5))) (mNil))) (mNil)) (mC (.p (.int 0))))) (sSeq (sRet (mCall (fL (G L) T DEP k ft__law_pick) [0, 1] (mCons (mV 0) (mCons (mLst false (mCons (mBin false .Add (mV 1) (mC (.p (.int 1)))) (mCons (mBin false .Sub (mV 1) (mC (.p (.int 1)))) (mCons (mCmp .Eq (mV 1) (mC (.p (.int 1)))) (mCons (mBlt bStr (mCons (mV 1) (mNil))) (mCons (mTup (mCons (mV 1) (mNil))) (mCons (mBin false .Add (mV 1) (mC (.p (.int 2)))) (mCons (mC (.p (.str "any"))) (mCons (mC (.p (.str "ever"))) (mNil)))))))))) (mNil))) (mNil))) (sNil)) (sNil)) (sSeq (sRet (mCall (fL (G L) T DEP k ft__law_pick) [0, 1] (mCons (mV 0) (mCons (mV 2) (mNil))) (mNil))) (sNil)))))) := by kernel_rfl
theorem e_is_number (L k : Nat) : fL (G L) T DEP (k + 1) ft_is_number = bodyF ["thing"] ["thing"] (sSeq (sRet (mCall (fL (G L) T DEP k ft_is_number_value) [0] (mCons (mV 0) (mNil)) (mNil))) (sNil)) := by kernel_rfl
theorem e__law_is_int (L k : Nat) : fL (G L) T DEP (k + 1) ft__law_is_int = bodyF ["thing", "low"] ["thing", "low"] (sSeq (sRet (mAnd (mBlt bIsi (mCons (mV 0) (mCons (mC (.ty .int)) (mNil)))) (mAnd (mNot (mBlt bIsi (mCons (mV 0) (mCons (mC (.ty .bl)) (mNil))))) (mCmp .GtE (mV 0) (mV 1))))) (sNil)) := by kernel_rfl
theorem e__law_is_number (L k : Nat) : fL (G L) T DEP (k + 1) ft__law_is_number = bodyF ["thing"] ["thing"] (sSeq (sRet (mOr (mCall (fL (G L) T DEP k ft__law_is_int) [0, 1] (mCons (mV 0) (mCons (mC (.p (.int 0))) (mNil))) (mNil)) (mAnd (mBlt bIsi (mCons (mV 0) (mCons (mC (.ty .str)) (mNil)))) (mCmp .In (mV 0) (mTup (mCons (mC (.p (.str "any"))) (mCons (mC (.p (.str "ever"))) (mNil)))))))) (sNil)) := by kernel_rfl
def b_law_0 (L k : Nat) : MS := sSeq (sPar (mCons (mCall (fL (G L) T DEP k ft__law_any_number) [0] (mCons (mV 1) (mNil)) (mNil)) (mCons (mCall (fL (G L) T DEP k ft__law_any_number) [0] (mCons (mV 1) (mNil)) (mNil)) (mNil))) (gP2 3 4)) (sSeq (sAsg (mCmp .Lt (mCall (fL (G L) T DEP k ft__law_rank) [0] (mCons (mV 3) (mNil)) (mNil)) (mCall (fL (G L) T DEP k ft__law_rank) [0] (mCons (mV 4) (mNil)) (mNil))) (gNm 5)) (sSeq (sAsg (mTup (mCons (mCall (fL (G L) T DEP k ft_is_less) [0, 1] (mCons (mV 3) (mCons (mV 4) (mNil))) (mNil)) (mCons (mCall (fL (G L) T DEP k ft_is_less) [1, 0] (mNil) (mCons (mV 4) (mCons (mV 3) (mNil)))) (mCons (mCall (fL (G L) T DEP k ft_is_less) [0, 1] (mCons (mV 4) (mCons (mV 3) (mNil))) (mNil)) (mNil))))) (gNm 6)) (sSeq (sIf (mCmp .NotEq (mBlt bRepr (mCons (mV 6) (mNil))) (mBlt bRepr (mCons (mTup (mCons (mV 5) (mCons (mV 5) (mCons (mCmp .Lt (mCall (fL (G L) T DEP k ft__law_rank) [0] (mCons (mV 4) (mNil)) (mNil)) (mCall (fL (G L) T DEP k ft__law_rank) [0] (mCons (mV 3) (mNil)) (mNil))) (mNil))))) (mNil)))) (sSeq (sRet (mC (.p (.bool false)))) (sNil)) (sNil)) (sSeq (sAsg (mBin false .Add (mBin false .Add (mBin false .Mult (mLst false (mCons (mV 3) (mNil))) (mC (.p (.int 4)))) (mBin false .Mult (mLst false (mCons (mCall (fL (G L) T DEP k ft__law_leaf) [0, 1] (mCons (mV 1) (mCons (mV 3) (mNil))) (mNil)) (mNil))) (mC (.p (.int 3))))) (mLst false (mCons (mNeg (mC (.p (.int 1)))) (mCons (mC (.p (.bool true))) (mCons (mC (.p (.bool false))) (mCons (mC (.p (.str "Any"))) (mCons (mC (.p (.str "any "))) (mCons (mC (.p (.str "1"))) (mCons (mC (.p (.str ""))) (mCons (mC (.p .none)) (mCons (mTup (mNil)) (mCons (mLst false (mNil)) (mCons (mDic false (mpNil)) (mCons (mTup (mCons (mV 3) (mNil))) (mCons (mLst false (mCons (mV 3) (mNil))) (mCons (mTup (mCons (mC (.p (.str "any"))) (mNil))) (mCons (mC (.p (.str "never"))) (mCons (mNeg (mBin false .Pow (mC (.p (.int 10))) (mC (.p (.int 39))))) (mNil))))))))))))))))))) (gNm 7)) (sSeq (sAsg (mCall (fL (G L) T DEP k ft__law_pick) [0, 1] (mCons (mV 1) (mCons (mV 7) (mNil))) (mNil)) (gNm 8)) (sSeq (sAsg (mBlt bRepr (mCons (mV 8) (mNil))) (gNm 9)) (sSeq (sAsg (mTup (mCons (mCall (fL (G L) T DEP k ft_is_number) [0] (mCons (mV 8) (mNil)) (mNil)) (mCons (mCall (fL (G L) T DEP k ft_is_number) [0] (mNil) (mCons (mV 8) (mNil))) (mNil)))) (gNm 6)) (sSeq (sIf (mOr (mCmp .NotEq (mBlt bRepr (mCons (mV 6) (mNil))) (mBlt bRepr (mCons (mBin false .Mult (mTup (mCons (mCall (fL (G L) T DEP k ft__law_is_number) [0] (mCons (mV 8) (mNil)) (mNil)) (mNil))) (mC (.p (.int 2)))) (mNil)))) (mCmp .NotEq (mBlt bRepr (mCons (mV 8) (mNil))) (mV 9))) (sSeq (sRet (mC (.p (.bool false)))) (sNil)) (sNil)) (sNil)))))))))
theorem e_law (L k : Nat) : fL (G L) T DEP (k + 1) ft_law = bodyF ["script", "deck", "turn", "one", "other", "due", "told", "some", "thing", "text"] ["script"] (sSeq (sAsg (mCall (fL (G L) T DEP k ft__law_deck) [0] (mCons (mV 0) (mNil)) (mNil)) (gNm 1)) (sSeq (sFor L (mRng1 (mC (.p (.int 8)))) (gNm 2) (b_law_0 L k)) (sSeq (sRet (mCmp .Eq (mBlt bRepr (mCons (mTup (mCons (mCall (fL (G L) T DEP k ft_is_less) [0, 1] (mCons (mC (.p (.int 0))) (mCons (mC (.p (.int 0))) (mNil))) (mNil)) (mCons (mCall (fL (G L) T DEP k ft_is_less) [0, 1] (mCons (mC (.p (.str "any"))) (mCons (mC (.p (.str "any"))) (mNil))) (mNil)) (mCons (mCall (fL (G L) T DEP k ft_is_less) [0, 1] (mCons (mC (.p (.str "ever"))) (mCons (mC (.p (.str "ever"))) (mNil))) (mNil)) (mNil))))) (mNil))) (mC (.p (.str "(False, False, False)"))))) (sNil)))) := by kernel_rfl
/-! ### what the top has written -/
theorem sc__law_deck : FnScope ft__law_deck.N ft__law_deck.ps ft__law_deck.sc := ⟨rfl, rfl, rfl, by decide +kernel, rfl, by decide +kernel, by decide +kernel⟩
theorem sc__law_draw : FnScope ft__law_draw.N ft__law_draw.ps ft__law_draw.sc := ⟨rfl, rfl, rfl, by decide +kernel, rfl, by decide +kernel, by decide +kernel⟩
theorem sc__law_pick : FnScope ft__law_pick.N ft__law_pick.ps ft__law_pick.sc := ⟨rfl, rfl, rfl, by decide +kernel, rfl, by decide +kernel, by decide +kernel⟩
theorem sc__law_any_number : FnScope ft__law_any_number.N ft__law_any_number.ps ft__law_any_number.sc := ⟨rfl, rfl, rfl, by decide +kernel, rfl, by decide +kernel, by decide +kernel⟩
theorem sc__law_rank : FnScope ft__law_rank.N ft__law_rank.ps ft__law_rank.sc := ⟨rfl, rfl, rfl, by decide +kernel, rfl, by decide +kernel, by decide +kernel⟩
theorem sc_is_integer : FnScope ft_is_integer.N ft_is_integer.ps ft_is_integer.sc := ⟨rfl, rfl, rfl, by decide +kernel, rfl, by decide +kernel, by decide +kernel⟩
theorem sc_is_from : FnScope ft_is_from.N ft_is_from.ps ft_is_from.sc := ⟨rfl, rfl, rfl, by decide +kernel, rfl, by decide +kernel, by decide +kernel⟩
theorem sc_is_word : FnScope ft_is_word.N ft_is_word.ps ft_is_word.sc := ⟨rfl, rfl, rfl, by decide +kernel, rfl, by decide +kernel, by decide +kernel⟩
theorem sc_is_number_value : FnScope ft_is_number_value.N ft_is_number_value.ps ft_is_number_value.sc := ⟨rfl, rfl, rfl, by decide +kernel, rfl, by decide +kernel, by decide +kernel⟩
theorem sc_need_number : FnScope ft_need_number.N ft_need_number.ps ft_need_number.sc := ⟨rfl, rfl, rfl, by decide +kernel, rfl, by decide +kernel, by decide +kernel⟩
theorem sc_rank_of : FnScope ft_rank_of.N ft_rank_of.ps ft_rank_of.sc := ⟨rfl, rfl, rfl, by decide +kernel, rfl, by decide +kernel, by decide +kernel⟩
theorem sc_is_at_most : FnScope ft_is_at_most.N ft_is_at_most.ps ft_is_at_most.sc := ⟨rfl, rfl, rfl, by decide +kernel, rfl, by decide +kernel, by decide +kernel⟩
theorem sc_is_less : FnScope ft_is_less.N ft_is_less.ps ft_is_less.sc := ⟨rfl, rfl, rfl, by decide +kernel, rfl, by decide +kernel, by decide +kernel⟩
theorem sc__law_leaf : FnScope ft__law_leaf.N ft__law_leaf.ps ft__law_leaf.sc := ⟨rfl, rfl, rfl, by decide +kernel, rfl, by decide +kernel, by decide +kernel⟩
theorem sc_is_number : FnScope ft_is_number.N ft_is_number.ps ft_is_number.sc := ⟨rfl, rfl, rfl, by decide +kernel, rfl, by decide +kernel, by decide +kernel⟩
theorem sc__law_is_int : FnScope ft__law_is_int.N ft__law_is_int.ps ft__law_is_int.sc := ⟨rfl, rfl, rfl, by decide +kernel, rfl, by decide +kernel, by decide +kernel⟩
theorem sc__law_is_number : FnScope ft__law_is_number.N ft__law_is_number.ps ft__law_is_number.sc := ⟨rfl, rfl, rfl, by decide +kernel, rfl, by decide +kernel, by decide +kernel⟩
theorem sc_law : FnScope ft_law.N ft_law.ps ft_law.sc := ⟨rfl, rfl, rfl, by decide +kernel, rfl, by decide +kernel, by decide +kernel⟩
theorem txt {L : Nat} {K : PySem.W.Frag} {mg : Mg} {h : Heap} (X : K.In h) (Gn : h.Ns mainGlobals mg) {t0 : Tok} (g0 : PySem.W.nsIn K mainGlobals "ANY" = some (some (.str "any" t0))) {t1 : Tok} (g1 : PySem.W.nsIn K mainGlobals "EVER" = some (some (.str "ever" t1))) (b0 : PySem.W.nsIn K mainGlobals "len" = some none) (b1 : PySem.W.nsIn K mainGlobals "int" = some none) (b2 : PySem.W.nsIn K mainGlobals "str" = some none) (b3 : PySem.W.nsIn K mainGlobals "max" = some none) (b4 : PySem.W.nsIn K mainGlobals "list" = some none) (b5 : PySem.W.nsIn K mainGlobals "tuple" = some none) (b6 : PySem.W.nsIn K mainGlobals "isinstance" = some none) (b7 : PySem.W.nsIn K mainGlobals "repr" = some none) (b8 : PySem.W.nsIn K mainGlobals "range" = some none) (b9 : PySem.W.nsIn K mainGlobals "bool" = some none) : Txt (G L) K mg := by
  refine ⟨fun x d e => ?_, fun x e => ?_⟩
  · replace e : (if x = "ANY" then some (.p (.str "any")) else if x = "EVER" then some (.p (.str "ever")) else none : Option D) = some d := e
    by_cases h0 : x = "ANY"
    · rw [if_pos h0] at e; cases e; rw [h0]; exact ⟨_, .str "any", PySem.W.mg_of X Gn g0, ⟨_, rfl⟩, fun B H => .str _⟩
    rw [if_neg h0] at e
    by_cases h1 : x = "EVER"
    · rw [if_pos h1] at e; cases e; rw [h1]; exact ⟨_, .str "ever", PySem.W.mg_of X Gn g1, ⟨_, rfl⟩, fun B H => .str _⟩
    rw [if_neg h1] at e
    cases e
  · have e : x ∈ (["len", "int", "str", "max", "list", "tuple", "isinstance", "repr", "range", "bool"] : List Str) := by simpa using (show (["len", "int", "str", "max", "list", "tuple", "isinstance", "repr", "range", "bool"] : List Str).contains x = true from e)
    rcases List.mem_cons.mp e with rfl | e
    · exact PySem.W.mg_none_of X Gn b0
    rcases List.mem_cons.mp e with rfl | e
    · exact PySem.W.mg_none_of X Gn b1
    rcases List.mem_cons.mp e with rfl | e
    · exact PySem.W.mg_none_of X Gn b2
    rcases List.mem_cons.mp e with rfl | e
    · exact PySem.W.mg_none_of X Gn b3
    rcases List.mem_cons.mp e with rfl | e
    · exact PySem.W.mg_none_of X Gn b4
    rcases List.mem_cons.mp e with rfl | e
    · exact PySem.W.mg_none_of X Gn b5
    rcases List.mem_cons.mp e with rfl | e
    · exact PySem.W.mg_none_of X Gn b6
    rcases List.mem_cons.mp e with rfl | e
    · exact PySem.W.mg_none_of X Gn b7
    rcases List.mem_cons.mp e with rfl | e
    · exact PySem.W.mg_none_of X Gn b8
    rcases List.mem_cons.mp e with rfl | e
    · exact PySem.W.mg_none_of X Gn b9
    exact (List.not_mem_nil e).elim
theorem T_all {K : PySem.W.Frag} {mg : Mg} (d0 : DefAt K mg "_law_deck" ft__law_deck) (d1 : DefAt K mg "_law_draw" ft__law_draw) (d2 : DefAt K mg "_law_pick" ft__law_pick) (d3 : DefAt K mg "_law_any_number" ft__law_any_number) (d4 : DefAt K mg "_law_rank" ft__law_rank) (d5 : DefAt K mg "is_integer" ft_is_integer) (d6 : DefAt K mg "is_from" ft_is_from) (d7 : DefAt K mg "is_word" ft_is_word) (d8 : DefAt K mg "is_number_value" ft_is_number_value) (d9 : DefAt K mg "need_number" ft_need_number) (d10 : DefAt K mg "rank_of" ft_rank_of) (d11 : DefAt K mg "is_at_most" ft_is_at_most) (d12 : DefAt K mg "is_less" ft_is_less) (d13 : DefAt K mg "_law_leaf" ft__law_leaf) (d14 : DefAt K mg "is_number" ft_is_number) (d15 : DefAt K mg "_law_is_int" ft__law_is_int) (d16 : DefAt K mg "_law_is_number" ft__law_is_number) (d17 : DefAt K mg "law" ft_law) : ∀ x t, T x = some t → DefAt K mg x t := by
  intro x t e
  unfold T at e
  by_cases h0 : x = "_law_deck"
  · rw [if_pos h0] at e; cases e; rw [h0]; exact d0
  rw [if_neg h0] at e
  by_cases h1 : x = "_law_draw"
  · rw [if_pos h1] at e; cases e; rw [h1]; exact d1
  rw [if_neg h1] at e
  by_cases h2 : x = "_law_pick"
  · rw [if_pos h2] at e; cases e; rw [h2]; exact d2
  rw [if_neg h2] at e
  by_cases h3 : x = "_law_any_number"
  · rw [if_pos h3] at e; cases e; rw [h3]; exact d3
  rw [if_neg h3] at e
  by_cases h4 : x = "_law_rank"
  · rw [if_pos h4] at e; cases e; rw [h4]; exact d4
  rw [if_neg h4] at e
  by_cases h5 : x = "is_integer"
  · rw [if_pos h5] at e; cases e; rw [h5]; exact d5
  rw [if_neg h5] at e
  by_cases h6 : x = "is_from"
  · rw [if_pos h6] at e; cases e; rw [h6]; exact d6
  rw [if_neg h6] at e
  by_cases h7 : x = "is_word"
  · rw [if_pos h7] at e; cases e; rw [h7]; exact d7
  rw [if_neg h7] at e
  by_cases h8 : x = "is_number_value"
  · rw [if_pos h8] at e; cases e; rw [h8]; exact d8
  rw [if_neg h8] at e
  by_cases h9 : x = "need_number"
  · rw [if_pos h9] at e; cases e; rw [h9]; exact d9
  rw [if_neg h9] at e
  by_cases h10 : x = "rank_of"
  · rw [if_pos h10] at e; cases e; rw [h10]; exact d10
  rw [if_neg h10] at e
  by_cases h11 : x = "is_at_most"
  · rw [if_pos h11] at e; cases e; rw [h11]; exact d11
  rw [if_neg h11] at e
  by_cases h12 : x = "is_less"
  · rw [if_pos h12] at e; cases e; rw [h12]; exact d12
  rw [if_neg h12] at e
  by_cases h13 : x = "_law_leaf"
  · rw [if_pos h13] at e; cases e; rw [h13]; exact d13
  rw [if_neg h13] at e
  by_cases h14 : x = "is_number"
  · rw [if_pos h14] at e; cases e; rw [h14]; exact d14
  rw [if_neg h14] at e
  by_cases h15 : x = "_law_is_int"
  · rw [if_pos h15] at e; cases e; rw [h15]; exact d15
  rw [if_neg h15] at e
  by_cases h16 : x = "_law_is_number"
  · rw [if_pos h16] at e; cases e; rw [h16]; exact d16
  rw [if_neg h16] at e
  by_cases h17 : x = "law"
  · rw [if_pos h17] at e; cases e; rw [h17]; exact d17
  rw [if_neg h17] at e
  cases e
end K26
set_option maxHeartbeats 1000000
namespace K26
open PySem PySem.Spec L2 PI
open PyProof.Rows hiding St
def DS (xs : List Int) (mx dr : Int) : Store := [.lst (xs.map fun i => .p (.int i)), .dct [(.inr "left", .ref 0), (.inr "mixed", .p (.int mx)), (.inr "draws", .p (.int dr))]]
theorem allP_int : ∀ xs : List Int, allP (xs.map fun i => D.p (.int i)) = some (xs.map PyData.int)
  | [] => rfl
  | x :: r => by simp [allP, allP_int r]
section
variable (xs : List Int) (mx dr i : Int)
@[simp] theorem ds_left : ixI (DS xs mx dr) (.ref 1) (.p (.str "left")) = some (.ref 0) := rfl
@[simp] theorem ds_mixed : ixI (DS xs mx dr) (.ref 1) (.p (.str "mixed")) = some (.p (.int mx)) := rfl
@[simp] theorem ds_draws : ixI (DS xs mx dr) (.ref 1) (.p (.str "draws")) = some (.p (.int dr)) := rfl
@[simp] theorem ds_set : setI (DS xs mx dr) (.ref 1) (.p (.str "draws")) (.p (.int i)) = some (DS xs mx i) := by
  have h : (3 : Nat) < sizeLine := by decide
  show (if 3 < sizeLine then _ else none) = _
  rw [if_pos h]; rfl
@[simp] theorem ds_empty : eqI (DS [] mx dr) (.ref 0) (.p (.list [])) = some true := rfl
theorem mod_lo (m : Int) (x : Int) (h : 0 < m) : (-18446744073709551616 < x % m) = True := eq_true (by have := Int.emod_nonneg x (Int.ne_of_gt h); omega)
theorem mod_hi (m : Int) (x : Int) (h : 0 < m) (h2 : m < 18446744073709551616) : (x % m < 18446744073709551616) = True := eq_true (by have := Int.emod_lt_of_pos x h; omega)
@[simp] theorem mod_lo1 (x : Int) : (-18446744073709551616 < x % 2147483647) = True := mod_lo _ x (by decide)
@[simp] theorem mod_hi1 (x : Int) : (x % 2147483647 < 18446744073709551616) = True := mod_hi _ x (by decide) (by decide)
end
theorem startD2 (a b : Str) (c d : Str) (x y : D) : startD [a, b, c, d] [x, y] = [some x, some y, none, none] := rfl
section
variable (xs : List Int) (mx dr i : Int)
@[simp] theorem ds_tn : tnOf (DS xs mx dr) (.ref 0) = some .lst := rfl
@[simp] theorem ds_pop : mPop (DS (xs ++ [i]) mx dr) (.ref 0) [] = some (.p (.int i), DS xs mx dr) := by
  unfold mPop DS
  simp
theorem ds_app (h : xs.length < 64) : mAppend (DS xs mx dr) (.ref 0) [.p (.int i)] = some (.p .none, DS (xs ++ [i]) mx dr) := by
  have : xs.length < sizeLine := Nat.lt_trans h (by decide)
  unfold mAppend DS
  simp [this]
omit xs mx dr i in
theorem can_ints : ∀ l : List Int, PyData.canLayAll0 (l.map PyData.int) = true
  | [] => rfl
  | x :: r => by simp [PyData.canLayAll0, PyData.canLay0, can_ints r]
omit xs mx dr i in
theorem depth_ints : ∀ l : List Int, PyData.depthAll (l.map PyData.int) ≤ 1
  | [] => by simp [PyData.depthAll]
  | x :: r => by have := depth_ints r; simp [PyData.depthAll, PyData.depth]; omega
omit xs mx dr i in
theorem shaped_ints (l : List Int) : SeqAt.shaped (.list (l.map PyData.int)) = true := by
  have := depth_ints l
  unfold SeqAt.shaped
  rw [Bool.and_eq_true, decide_eq_true_eq]
  refine ⟨can_ints l, ?_⟩
  simp only [PyData.depth]
  omega
@[simp] theorem ds_some : eqI (DS (xs ++ [i]) mx dr) (.ref 0) (.p (.list [])) = some false := by
  have h : viewP (DS (xs ++ [i]) mx dr) (.ref 0) = some (.list ((xs ++ [i]).map .int)) := by
    show (allP _).map _ = _
    rw [allP_int]; rfl
  show eqG (DS (xs ++ [i]) mx dr) (.ref 0) (.p (.list [])) = _
  unfold eqG
  rw [h]
  show (if SeqAt.shaped _ = true ∧ SeqAt.shaped (.list []) = true then some (PyData.eqv _ _) else none) = _
  rw [if_pos ⟨shaped_ints _, rfl⟩, List.map_append]
  cases xs <;> rfl
end
theorem draw (L k : Nat) (xs : List Int) (hx : xs.length ≤ 63) (mx dr many : Int) (h0 : 0 < many) (h1 : many < 1073741824) : ∃ (r : Int) (xs' : List Int) (dr' : Int), fL (G L) T DEP (k + 1) ft__law_draw (DS xs mx dr) [.ref 1, .p (.int many)] = some (.p (.int r), DS xs' mx dr') ∧ (0 ≤ r ∧ r < many) ∧ xs'.length ≤ 63 := by
  have em (x : Int) : 0 ≤ x % many ∧ x % many < many := ⟨Int.emod_nonneg _ (by omega), Int.emod_lt_of_pos _ h0⟩
  rcases List.eq_nil_or_concat xs with rfl | ⟨ys, c, rfl⟩
  · have e : ∃ r, fL (G L) T DEP (k + 1) ft__law_draw (DS [] mx dr) [.ref 1, .p (.int many)] = some (.p (.int r), DS [] mx (dr + 1)) ∧ (0 ≤ r ∧ r < many) := by
      rw [e__law_draw, bodyF_e (h := rfl)]
      simp [startD, mkL, allP, h0, em]
    obtain ⟨r, e1, e2⟩ := e
    exact ⟨r, [], dr + 1, e1, e2, hx⟩
  · rw [List.concat_eq_append, List.length_append, List.length_singleton] at hx
    rw [List.concat_eq_append]
    by_cases hc : 1000000000000000000 ≤ c
    · have hd : (if many > 2 then many else 2) < 1073741824 ∧ 0 < (if many > 2 then many else 2) := by split <;> omega
      have e : ∃ r, ∃ j, fL (G L) T DEP (k + 1) ft__law_draw (DS (ys ++ [c]) mx dr) [.ref 1, .p (.int many)] = some (.p (.int r), DS (ys ++ [j]) mx (dr + 1)) ∧ (0 ≤ r ∧ r < many) := by
        refine ⟨c % many, c / (if many > 2 then many else 2), ?_, em c⟩
        rw [e__law_draw, bodyF_e (h := rfl)]
        simp [startD, mkL, allP, h0, em, hc, hd, ds_app ys mx (dr + 1) (c / (if many > 2 then many else 2)) (by omega)]
      obtain ⟨r, j, e1, e2⟩ := e
      exact ⟨r, _, dr + 1, e1, e2, by rw [List.length_append, List.length_singleton]; exact hx⟩
    · have e : ∃ r, fL (G L) T DEP (k + 1) ft__law_draw (DS (ys ++ [c]) mx dr) [.ref 1, .p (.int many)] = some (.p (.int r), DS ys mx (dr + 1)) ∧ (0 ≤ r ∧ r < many) := by
        rw [e__law_draw, bodyF_e (h := rfl)]
        simp [startD, mkL, allP, h0, em, hc]
      obtain ⟨r, e1, e2⟩ := e
      exact ⟨r, ys, dr + 1, e1, e2, by omega⟩

theorem pick (L k : Nat) (xs : List Int) (hx : xs.length ≤ 63) (mx dr : Int) (l : List PyData) (hl : 0 < l.length) (hz : l.length < 1073741824) : ∃ (x : PyData) (xs' : List Int) (dr' : Int), fL (G L) T DEP (k + 2) ft__law_pick (DS xs mx dr) [.ref 1, .p (.list l)] = some (.p x, DS xs' mx dr') ∧ x ∈ l ∧ xs'.length ≤ 63 := by
  obtain ⟨r, xs', dr', e1, ⟨h1, h2⟩, h3⟩ := draw L k xs hx mx dr l.length (by omega) (by omega)
  obtain ⟨x, hm, e2⟩ := ix_list (S := DS xs' mx dr') (l := l) h1 h2
  refine ⟨x, xs', dr', ?_, hm, h3⟩
  rw [e__law_pick, bodyF_e (h := rfl)]
  simp [startD, e1, e2]
theorem deck (L k : Nat) (hL : 1000 ≤ L) (ns : List Int) (hn : ns.length ≤ 63) : ∃ (xs : List Int) (mx : Int), fL (G L) T DEP (k + 1) ft__law_deck [] [.p (.list (ns.map .int))] = some (.ref 1, DS xs mx 0) ∧ xs.length ≤ 63 := by
  have cut1 : cutD (ns.map fun i => D.p (.int i)) none (some 63) = ns.map fun i => D.p (.int i) := cut_all (by rw [List.length_map]; exact hn)
  obtain ⟨ev', S', h1, m, c, rfl, rfl⟩ := forL_inv (xs := ns.map fun i => D.p (.int i)) (g := gNm 2) (body := b__law_deck_0 L k)
    (fun _ ev S => ∃ (m : Int) (c : Option D), ev = [some (.p (.list (ns.map .int))), some (.p (.int m)), c] ∧ S = []) (fun i d ev S hd ⟨m, c, e1, e2⟩ => by
      subst e1 e2
      obtain ⟨j, hj, rfl⟩ : ∃ j : Int, ns[i]? = some j ∧ d = .p (.int j) := by
        rw [List.getElem?_map] at hd
        cases e : ns[i]? with
        | none => rw [e] at hd; cases hd
        | some j => rw [e] at hd; cases hd; exact ⟨j, rfl, rfl⟩
      simp [b__law_deck_0]) L 0 [some (.p (.list (ns.map .int))), some (.p (.int 15371026)), none] [] (by rw [List.length_map]; show ns.length - 0 < L; omega) (Nat.zero_le _) ⟨_, _, rfl, rfl⟩
  rw [e__law_deck, bodyF_e (h := rfl)]
  have hz : ns.length ≤ sizeLine := Nat.le_trans hn (by decide)
  have e : mergeD [] [(Sum.inr (Str.ofString "left"), D.ref 0), (Sum.inr (Str.ofString "mixed"), D.p (.int m)), (Sum.inr (Str.ofString "draws"), D.p (.int 0))] = [(Sum.inr (Str.ofString "left"), D.ref 0), (Sum.inr (Str.ofString "mixed"), D.p (.int m)), (Sum.inr (Str.ofString "draws"), D.p (.int 0))] := rfl
  have h3 : 3 ≤ sizeLine := by decide
  simp [startD, slI, cut1, mkL, allP_int, hz, h1, Function.comp_def, e, mkD, h3]
  refine ⟨ns.reverse, ⟨m, ?_⟩, by rw [List.length_reverse]; exact hn⟩
  unfold DS
  rw [List.map_reverse]
end K26
set_option maxHeartbeats 1000000
namespace K26
open PySem PySem.Spec L2 PI
open PyProof.Rows hiding St
def isI : PyData → Bool
  | .int _ => true
  | _ => false
def okP : PyData → Bool
  | .str s => PyData.strOk s
  | _ => true
def numB : PyData → Bool
  | .int i => decide (0 ≤ i)
  | .str s => [PyData.str "any", .str "ever"].any fun z => PyData.eqv z (.str s)
  | _ => false
section
variable (L k : Nat) (S : Store) (x : PyData)
theorem isint_ok : fL (G L) T DEP (k + 1) ft_is_integer S [.p x] = some (.p (.bool (isI x)), S) := by
  rw [e_is_integer, bodyF_e (h := rfl)]
  cases x <;> rfl
theorem mem_words {s : Str} (h : PyData.strOk s = true) : PI.memI S (.p (.str s)) (.p (.tuple [.str "any", .str "ever"])) = some (numB (.str s)) := by
  show (if SeqAt.shaped (.str s) = true ∧ PyData.canLayAll0 [.str "any", .str "ever"] = true then _ else none) = _
  rw [if_pos ⟨by unfold SeqAt.shaped; simp [PyData.canLay0, h, PyData.depth], by decide +kernel⟩]
  rfl
theorem from_ok : fL (G L) T DEP (k + 2) ft_is_from S [.p x, .p (.int 0)] = some (.p (.bool (match x with | .int i => decide (0 ≤ i) | _ => false)), S) := by
  rw [e_is_from, bodyF_e (h := rfl)]
  cases x <;> simp [startD, isint_ok, isI]
theorem word_ok (h : okP x = true) : fL (G L) T DEP (k + 1) ft_is_word S [.p x, .p (.tuple [.str "any", .str "ever"])] = some (.p (.bool (match x with | .str s => numB (.str s) | _ => false)), S) := by
  rw [e_is_word, bodyF_e (h := rfl)]
  cases x with
  | str s => simp [startD, mem_words S h]
  | _ => simp [startD]
theorem numval_ok (h : okP x = true) : fL (G L) T DEP (k + 3) ft_is_number_value S [.p x] = some (.p (.bool (numB x)), S) := by
  rw [e_is_number_value, bodyF_e (h := rfl)]
  cases x with
  | int i =>
    by_cases hi : 0 ≤ i
    · simp [startD, from_ok, hi, numB]
    · simp [startD, from_ok, hi, numB, word_ok L (k + 1) S _ h, allP, mkT, sizeLine]
  | str s =>
    have h : PyData.strOk s = true := h
    simp [startD, from_ok, word_ok, okP, allP, mkT, sizeLine, h]
  | _ => simp [startD, from_ok, word_ok L (k + 1) S _ h, allP, mkT, numB, sizeLine]
theorem isnum_ok (h : okP x = true) : fL (G L) T DEP (k + 4) ft_is_number S [.p x] = some (.p (.bool (numB x)), S) := by
  rw [e_is_number, bodyF_e (h := rfl)]
  simp [startD, numval_ok L k S x h]
theorem lawint_ok : fL (G L) T DEP (k + 1) ft__law_is_int S [.p x, .p (.int 0)] = some (.p (.bool (match x with | .int i => decide (0 ≤ i) | _ => false)), S) := by
  rw [e__law_is_int, bodyF_e (h := rfl)]
  cases x <;> simp [startD]
theorem lawnum_ok (h : okP x = true) : fL (G L) T DEP (k + 2) ft__law_is_number S [.p x] = some (.p (.bool (numB x)), S) := by
  rw [e__law_is_number, bodyF_e (h := rfl)]
  cases x with
  | int i =>
    by_cases hi : 0 ≤ i
    · simp [startD, lawint_ok, hi, numB]
    · simp [startD, lawint_ok, hi, numB]
  | str s =>
    have h : PyData.strOk s = true := h
    simp [startD, lawint_ok, allP, mkT, sizeLine, mem_words S h]
  | _ => simp [startD, lawint_ok, numB]
/-- a number of the law -/
inductive IsNum : PyData → Prop
  | n (i : Int) (h0 : 0 ≤ i) (h1 : i ≤ 10 ^ 40) : IsNum (.int i)
  | any : IsNum (.str "any")
  | ever : IsNum (.str "ever")
def rk : PyData → Int × Int
  | .int i => (0, i)
  | .str s => if s = "any" then (1, 0) else (2, 0)
  | _ => (2, 0)
def rkP (x : PyData) : PyData := .tuple [.int (rk x).1, .int (rk x).2]
theorem ae : ("any" : Str) ≠ "ever" := by decide +kernel
variable {x}
theorem num_true (h : IsNum x) : okP x = true ∧ numB x = true := by
  cases h with
  | n i h0 h1 => exact ⟨rfl, decide_eq_true h0⟩
  | any => exact ⟨strOk_of _, by decide +kernel⟩
  | ever => exact ⟨strOk_of _, by decide +kernel⟩
theorem need_ok (h : IsNum x) : fL (G L) T DEP (k + 4) ft_need_number S [.p x] = some (.p .none, S) := by
  rw [e_need_number, bodyF_e (h := rfl)]
  simp [startD, numval_ok L k S x (num_true h).1, (num_true h).2]
theorem lawrank_ok (h : IsNum x) : fL (G L) T DEP (k + 1) ft__law_rank S [.p x] = some (.p (rkP x), S) := by
  rw [e__law_rank, bodyF_e (h := rfl)]
  cases h <;> simp [startD, allP, mkT, sizeLine, rkP, rk, ae, ae.symm]
theorem rank_ok (h : IsNum x) : fL (G L) T DEP (k + 1) ft_rank_of S [.p x] = some (.p (rkP x), S) := by
  rw [e_rank_of, bodyF_e (h := rfl)]
  cases h <;> simp [startD, allP, mkT, sizeLine, rkP, rk, ae, ae.symm]
/-- one is at most the other -/
def leB (x y : PyData) : Bool := leT [(rk x).1, (rk x).2] [(rk y).1, (rk y).2]
theorem cmp_rk (x y : PyData) : cmpI .LtE S (.p (rkP x)) (.p (rkP y)) = some (leB x y) := rfl
theorem cmp_rkl (x y : PyData) : cmpI .Lt S (.p (rkP x)) (.p (rkP y)) = some (HT.lexLt [(rk x).1, (rk x).2] [(rk y).1, (rk y).2]) := rfl
variable {y : PyData}
theorem atmost_ok (hx : IsNum x) (hy : IsNum y) : fL (G L) T DEP (k + 2) ft_is_at_most S [.p x, .p y] = some (.p (.bool (leB x y)), S) := by
  rw [e_is_at_most, bodyF_e (h := rfl)]
  simp [startD, rank_ok L k S hx, rank_ok L k S hy, cmp_rk]
theorem less_ok (hx : IsNum x) (hy : IsNum y) : fL (G L) T DEP (k + 5) ft_is_less S [.p x, .p y] = some (.p (.bool (!leB y x)), S) := by
  rw [e_is_less, bodyF_e (h := rfl)]
  simp [startD, need_ok L k S hx, need_ok L k S hy, atmost_ok L (k + 2) S hy hx]
end
end K26
set_option maxHeartbeats 1000000
namespace K26
open PySem PySem.Spec L2 PI
open PyProof.Rows hiding St
def Lf (x : PyData) : Prop := okP x = true ∧ okS x = true ∧ x.depth ≤ 64 ∧ wt x ≤ 16777216
instance (x : PyData) : Decidable (Lf x) := by unfold Lf; infer_instance
theorem lf_int {i : Int} (h : i.natAbs < 10 ^ 41) : Lf (.int i) :=
  ⟨rfl, decide_eq_true (log_small (Nat.lt_trans h (by decide +kernel))), Nat.zero_le _, by show (1922 : Nat) ≤ 16777216; decide⟩
theorem lf_num {x : PyData} (h : IsNum x) : Lf x := by
  cases h with
  | n i h0 h1 => exact lf_int (by omega)
  | any => decide +kernel
  | ever => decide +kernel
def odds : List PyData := [.none, .bool true, .bool false, .int 0, .int 1, .int 2, .int (-1), .str "", .str "any", .str "ever", .str "numbers", .tuple [], .list [], .dict [], .int 1000000000000000000000000000000000000000, .tuple [.tuple []], .tuple [.int 0]]
theorem odds_lf : ∀ x ∈ odds, Lf x := by decide +kernel
section
variable (L k : Nat) (xs : List Int) (hx : xs.length ≤ 63) (mx dr : Int)
include hx
theorem anynum : ∃ (x : PyData) (xs' : List Int) (dr' : Int), fL (G L) T DEP (k + 3) ft__law_any_number (DS xs mx dr) [.ref 1] = some (.p x, DS xs' mx dr') ∧ IsNum x ∧ xs'.length ≤ 63 := by
  obtain ⟨r1, xs1, dr1, e1, ⟨h1, h1'⟩, hx1⟩ := draw L (k + 1) xs hx mx dr 60 (by decide) (by decide)
  obtain ⟨r2, xs2, dr2, e2, ⟨h2, h2'⟩, hx2⟩ := draw L (k + 1) xs1 hx1 mx dr1 5 (by decide) (by decide)
  obtain ⟨x, xs3, dr3, e3, hm, hx3⟩ := pick L k xs2 hx2 mx dr2 [.int 0, .int 1, .int 2, .int r1, .int (1000000000000000000000000000000000000000 - r2), .int 100000000000000000000, .int 100000000000000000000000000000000000000, .int 1000000000, .str "any", .str "ever", .str "any", .str "ever"] (by simp) (by simp)
  refine ⟨x, xs3, dr3, ?_, ?_, hx3⟩
  · rw [e__law_any_number, bodyF_e (h := rfl)]
    simp [startD, e1, e2, e3, mkL, allP, sizeLine]
  · simp only [List.mem_cons, List.not_mem_nil, or_false] at hm
    rcases hm with rfl | rfl | rfl | rfl | rfl | rfl | rfl | rfl | rfl | rfl | rfl | rfl
    all_goals first | exact .any | exact .ever | exact .n _ (by omega) (by omega)
end
theorem leaf_odd (L k : Nat) (mx : Int) (xs1 : List Int) (hx1 : xs1.length ≤ 63) (dr1 : Int) : ∃ (x : PyData) (xs' : List Int) (dr' : Int), fL (G L) T DEP (k + 2) ft__law_pick (DS xs1 mx dr1) [.ref 1, .p (.list odds)] = some (.p x, DS xs' mx dr') ∧ Lf x ∧ xs'.length ≤ 63 := by
  obtain ⟨x, xs3, dr3, e3, hm, hx3⟩ := pick L k xs1 hx1 mx dr1 odds (by decide) (by decide)
  exact ⟨x, xs3, dr3, e3, odds_lf x hm, hx3⟩
section
variable (S : Store)
theorem a1 : PI.binI false .Add S (.p (.str "any")) (.p (.str "s")) = some (.p (.str "anys"), S) := rfl
theorem a2 : slI false S (.p (.str "any")) none (some (-1)) = some (.p (.str "an"), S) := rfl
theorem a3 : mUpper S (.p (.str "any")) [] = some (.p (.str "ANY"), S) := rfl
theorem a4 : PI.binI false .Add S (.p (.str "any")) (.p (.str " ")) = some (.p (.str "any "), S) := rfl
theorem b1 : PI.binI false .Add S (.p (.str "ever")) (.p (.str "s")) = some (.p (.str "evers"), S) := rfl
theorem b2 : slI false S (.p (.str "ever")) none (some (-1)) = some (.p (.str "eve"), S) := rfl
theorem b3 : mUpper S (.p (.str "ever")) [] = some (.p (.str "EVER"), S) := rfl
theorem b4 : PI.binI false .Add S (.p (.str "ever")) (.p (.str " ")) = some (.p (.str "ever "), S) := rfl
@[simp] theorem tn_s (z : Str) : tnOf S (.p (.str z)) = some .str := rfl
end
section
variable (L k : Nat) (xs : List Int) (hx : xs.length ≤ 63) (mx dr : Int)
include hx
theorem leaf {x : PyData} (h : IsNum x) : ∃ (z : PyData) (xs' : List Int) (dr' : Int), fL (G L) T DEP (k + 3) ft__law_leaf (DS xs mx dr) [.ref 1, .p x] = some (.p z, DS xs' mx dr') ∧ Lf z ∧ xs'.length ≤ 63 := by
  obtain ⟨r1, xs1, dr1, e1, ⟨h1, h1'⟩, hx1⟩ := draw L (k + 1) xs hx mx dr 5 (by decide) (by decide)
  have oe : [PyData.none, .bool true, .bool false, .int 0, .int 1, .int 2, .int (-1), .str "", .str "any", .str "ever", .str "numbers", .tuple [], .list [], .dict [], .int 1000000000000000000000000000000000000000, .tuple [.tuple []], .tuple [.int 0]] = odds := rfl
  by_cases hr : 0 < r1
  · cases h with
    | n i h0 h1 =>
      have hi : i.natAbs.log2 < 1920 := log_small (by omega)
      have eb : eqI (DS xs1 mx dr1) (.p (.int i)) (.p (.int 1)) = some (PyData.eqv (.int i) (.int 1)) := rfl
      obtain ⟨zs, hzs⟩ : ∃ zs : Str, zs = Str.ofString (toString i) := ⟨_, rfl⟩
      obtain ⟨z, xs2, dr2, e2, hm, hx2⟩ := pick L k xs1 hx1 mx dr1 [.int (i + 1), .int (i - 1), .bool (PyData.eqv (.int i) (.int 1)), .str zs, .tuple [.int i], .int (i + 2), .str "any", .str "ever"] (by simp) (by simp)
      refine ⟨z, xs2, dr2, ?_, ?_, hx2⟩
      · rw [e__law_leaf, bodyF_e (h := rfl)]
        have eb2 : bStr (DS xs1 mx dr1) [.p (.int i)] = some (.p (.str zs), DS xs1 mx dr1) := by rw [hzs]; exact if_pos hi
        simp [startD, mkL, allP, sizeLine, mkT, mkD, mergeD, allKV, e1, hr, eb, eb2, e2]
      · simp only [List.mem_cons, List.not_mem_nil, or_false] at hm
        rcases hm with rfl | rfl | rfl | rfl | rfl | rfl | rfl | rfl
        · exact lf_int (by omega)
        · exact lf_int (by omega)
        · cases PyData.eqv (.int i) (.int 1) <;> decide
        · have hz := int_text_len_1921 hi
          rw [← hzs] at hz
          refine ⟨by rw [hzs]; exact strOk_of _, by rw [hzs]; exact strOk_of _, Nat.zero_le _, ?_⟩
          show 10 * zs.length + 2 ≤ 16777216
          omega
        · have q := lf_int (i := i) (by omega)
          exact ⟨rfl, by show (okS (.int i) && true) = true; rw [q.2.1]; rfl, by show max 0 0 + 1 ≤ 64; decide, by show (1922 + 2 + 0 + 3 : Nat) ≤ 16777216; decide⟩
        · exact lf_int (by omega)
        · decide +kernel
        · decide +kernel
    | any =>
      obtain ⟨z, xs2, dr2, e2, hm, hx2⟩ := pick L k xs1 hx1 mx dr1 [.str "anys", .str "an", .str "ANY", .str "any ", .tuple [.str "any"], .str "any", .str "ever", .int 0] (by simp) (by simp)
      refine ⟨z, xs2, dr2, ?_, ?_, hx2⟩
      · rw [e__law_leaf, bodyF_e (h := rfl)]
        simp [startD, mkL, allP, sizeLine, mkT, mkD, mergeD, allKV, e1, hr, a1, a2, a3, a4, e2]
      · revert z
        have : ∀ z ∈ [PyData.str "anys", .str "an", .str "ANY", .str "any ", .tuple [.str "any"], .str "any", .str "ever", .int 0], Lf z := by decide +kernel
        exact fun z _ hm => this z hm
    | ever =>
      obtain ⟨z, xs2, dr2, e2, hm, hx2⟩ := pick L k xs1 hx1 mx dr1 [.str "evers", .str "eve", .str "EVER", .str "ever ", .tuple [.str "ever"], .str "any", .str "ever", .int 0] (by simp) (by simp)
      refine ⟨z, xs2, dr2, ?_, ?_, hx2⟩
      · rw [e__law_leaf, bodyF_e (h := rfl)]
        simp [startD, mkL, allP, sizeLine, mkT, mkD, mergeD, allKV, e1, hr, b1, b2, b3, b4, e2]
      · have : ∀ z ∈ [PyData.str "evers", .str "eve", .str "EVER", .str "ever ", .tuple [.str "ever"], .str "any", .str "ever", .int 0], Lf z := by decide +kernel
        exact this z hm
  · obtain ⟨z, xs2, dr2, e2, hz, hx2⟩ := leaf_odd L k mx xs1 hx1 dr1
    refine ⟨z, xs2, dr2, ?_, hz, hx2⟩
    rw [← oe] at e2
    rw [e__law_leaf, bodyF_e (h := rfl)]
    cases h <;> simp [startD, mkL, allP, sizeLine, mkT, mkD, mergeD, allKV, e1, hr, e2]
end
end K26
set_option maxHeartbeats 1000000
namespace K26
open PySem PySem.Spec L2 PI
open PyProof.Rows hiding St
theorem lt_le (x y : PyData) : HT.lexLt [(rk x).1, (rk x).2] [(rk y).1, (rk y).2] = !leB y x := by
  unfold leB leT
  generalize (rk x).1 = a
  generalize (rk x).2 = b
  generalize (rk y).1 = c
  generalize (rk y).2 = d
  simp [HT.lexLt, Ob.lexAt]
  by_cases h : a = c
  · subst h
    by_cases h2 : b = d
    · subst h2; simp
    · simp [h2, Ne.symm h2]
      rw [Bool.eq_iff_iff]
      simp
      try omega
  · simp [h, Ne.symm h]
    rw [Bool.eq_iff_iff]
    simp
    try omega
instance (d : PyData) : Decidable (Fine d) := by unfold Fine; infer_instance
theorem fine3 (a b c : Bool) : Fine (.tuple [.bool a, .bool b, .bool c]) := by
  cases a <;> cases b <;> cases c <;> decide +kernel
theorem fine2 (a b : Bool) : Fine (.tuple [.bool a, .bool b]) := by
  cases a <;> cases b <;> decide +kernel

theorem lf_fine {x : PyData} (h : Lf x) : Fine x := h.2
def others (x z : PyData) : List PyData := [x, x, x, x, z, z, z, .int (-1), .bool true, .bool false, .str "Any", .str "any ", .str "1", .str "", .none, .tuple [], .list [], .dict [], .tuple [x], .list [x], .tuple [.str "any"], .str "never", .int (-1000000000000000000000000000000000000000)]
theorem others_lf {x z : PyData} (hx : IsNum x) (hz : Lf z) : ∀ t ∈ others x z, Lf t := by
  have lx := lf_num hx
  have hd : x.depth = 0 ∧ wt x ≤ 1922 := by
    cases hx with
    | n i h0 h1 => exact ⟨rfl, Nat.le_refl _⟩
    | any => decide +kernel
    | ever => decide +kernel
  have l1 : Lf (.tuple [x]) := ⟨rfl, by show (okS x && true) = true; rw [lx.2.1]; rfl, by show max x.depth 0 + 1 ≤ 64; rw [hd.1]; decide, by show wt x + 2 + 0 + 3 ≤ 16777216; omega⟩
  have l2 : Lf (.list [x]) := ⟨rfl, by show (okS x && true) = true; rw [lx.2.1]; rfl, by show max x.depth 0 + 1 ≤ 64; rw [hd.1]; decide, by show wt x + 2 + 0 + 3 ≤ 16777216; omega⟩
  intro t ht
  unfold others at ht
  simp only [List.mem_cons, List.not_mem_nil, or_false] at ht
  rcases ht with rfl | rfl | rfl | rfl | rfl | rfl | rfl | rfl | rfl | rfl | rfl | rfl | rfl | rfl | rfl | rfl | rfl | rfl | rfl | rfl | rfl | rfl | rfl
  all_goals first | exact lx | exact hz | exact l1 | exact l2 | decide +kernel
section
variable (L k : Nat)
theorem turn (sc : Option D) (a c d e f g h i : Option D) (xs : List Int) (hx : xs.length ≤ 63) (mx dr : Int) : ∃ (c' d' e' f' g' h' i' : Option D) (xs' : List Int) (dr' : Int), b_law_0 L (k + 6) [sc, some (.ref 1), a, c, d, e, f, g, h, i] (DS xs mx dr) = some (.nx, [sc, some (.ref 1), a, c', d', e', f', g', h', i'], DS xs' mx dr') ∧ xs'.length ≤ 63 := by
  obtain ⟨x, xs1, dr1, e1, n1, hx1⟩ := anynum L (k + 3) xs hx mx dr
  obtain ⟨y, xs2, dr2, e2, n2, hx2⟩ := anynum L (k + 3) xs1 hx1 mx dr1
  obtain ⟨z, xs3, dr3, e3, lz, hx3⟩ := leaf L (k + 3) xs2 hx2 mx dr2 n1
  obtain ⟨t, xs4, dr4, e4, ht, hx4⟩ := pick L (k + 4) xs3 hx3 mx dr3 (others x z) (by show 0 < 23; decide) (by show 23 < 1073741824; decide)
  have lt := others_lf n1 lz t ht
  have r1 := lawrank_ok L (k + 5) (DS xs2 mx dr2) n1
  have r2 := lawrank_ok L (k + 5) (DS xs2 mx dr2) n2
  have l1 := less_ok L (k + 1) (DS xs2 mx dr2) n1 n2
  have l2 := less_ok L (k + 1) (DS xs2 mx dr2) n2 n1
  have c1 := cmp_rkl (DS xs2 mx dr2) x y
  have c2 := cmp_rkl (DS xs2 mx dr2) y x
  rw [lt_le] at c1 c2
  have f3 := repr_fine (S := DS xs2 mx dr2) (fine3 (!leB y x) (!leB y x) (!leB x y))
  have f2 := repr_fine (S := DS xs4 mx dr4) (fine2 (numB t) (numB t))
  have ft := repr_fine (S := DS xs4 mx dr4) (lf_fine lt)
  have m1 := isnum_ok L (k + 2) (DS xs4 mx dr4) t lt.1
  have m2 := lawnum_ok L (k + 4) (DS xs4 mx dr4) t lt.1
  unfold others at e4
  refine ⟨some (.p x), some (.p y), some (.p (.bool (!leB y x))), some (.p (.tuple [.bool (numB t), .bool (numB t)])), some (.p (.list (others x z))), some (.p t), some (.p (.str t.shown)), xs4, dr4, ?_, hx4⟩
  unfold b_law_0 others
  simp [e1, e2, r1, r2, l1, l2, c1, c2, f3, mkT, mkL, allP, sizeLine, mkD, mergeD, allKV, e3, List.replicate, e4, ft, m1, m2, f2]
theorem law_holds1 (hL : 1000 ≤ L) (ns : List Int) (hn : ns.length ≤ 63) : ∃ S' : Store, fL (G L) T DEP (k + 7) ft_law [] [.p (.list (ns.map .int))] = some (.p (.bool true), S') := by
  obtain ⟨xs, mx, e1, hx⟩ := deck L (k + 5) hL ns hn
  obtain ⟨ev', S', h1, h2⟩ := forN_inv (lo := 0) (n := 8) (g := gNm 2) (body := b_law_0 L (k + 6))
    (fun _ ev S => ∃ (a c d e f g h i : Option D) (xs : List Int) (dr : Int), ev = [some (.p (.list (ns.map .int))), some (.ref 1), a, c, d, e, f, g, h, i] ∧ S = DS xs mx dr ∧ xs.length ≤ 63) (fun j ev S hj ⟨a, c, d, e, f, g, h, i, xs, dr, q1, q2, q3⟩ => by
      subst q1 q2
      obtain ⟨c', d', e', f', g', h', i', xs', dr', t1, t2⟩ := turn L k (some (.p (.list (ns.map .int)))) (some (.p (.int (0 + j)))) c d e f g h i xs q3 mx dr
      exact ⟨_, _, t1, _, _, _, _, _, _, _, _, _, _, rfl, rfl, t2⟩) L 0 [some (.p (.list (ns.map .int))), some (.ref 1), none, none, none, none, none, none, none, none] (DS xs mx 0) (by omega) (Nat.zero_le _) ⟨_, _, _, _, _, _, _, _, xs, 0, rfl, rfl, hx⟩
  obtain ⟨a, c, d, e, f, g, h, i, xs', dr', rfl, rfl, hx'⟩ := h2
  have l1 := less_ok L (k + 1) (DS xs' mx dr') (.n 0 (by decide) (by decide)) (.n 0 (by decide) (by decide))
  have l2 := less_ok L (k + 1) (DS xs' mx dr') .any .any
  have l3 := less_ok L (k + 1) (DS xs' mx dr') .ever .ever
  have z1 : (!leB (.int 0) (.int 0)) = false := by decide
  have z2 : (!leB (.str "any") (.str "any")) = false := by decide +kernel
  have z3 : (!leB (.str "ever") (.str "ever")) = false := by decide +kernel
  rw [z1] at l1
  rw [z2] at l2
  rw [z3] at l3
  have f3 := repr_fine (S := DS xs' mx dr') (fine3 false false false)
  have sh : PyData.shown (.tuple [.bool false, .bool false, .bool false]) = ("(False, False, False)" : Str) := by decide +kernel
  rw [sh] at f3
  refine ⟨DS xs' mx dr', ?_⟩
  rw [e_law, bodyF_e (h := rfl)]
  simp [startD, e1, h1, l1, l2, l3, f3, mkT, allP, sizeLine]
theorem law_holds : ∀ ns : List Int, ns.length ≤ 63 → ∃ (f : BF) (S' : Store), cfL (G 1000000) T DEP 12 ("law" : Str) = some ([("script" : Str)], f) ∧ f [] [.p (.list (ns.map .int))] = some (.p (.bool true), S') := by
  intro ns hn
  obtain ⟨S', h⟩ := law_holds1 1000000 5 (by decide) ns hn
  exact ⟨fL (G 1000000) T DEP 12 ft_law, S', by kernel_rfl, h⟩
end
end K26
namespace K26
abbrev LEV : Nat := 12
end K26
open PySem PySem.W PyProof.Rows in
set_option maxRecDepth 100000 in
set_option maxHeartbeats 0 in
theorem PySem.Challenge.cw_howmanyslips_k26_numbers_among_any_value_holds : PySem.Challenge.rw_howmanyslips_k26_numbers_among_any_value.Holds := by
  w_on; o_law; k_head; (case hw => w_witness2)
  k_fill
  refine PI.end_walk (l := PySem.Challenge.rw_howmanyslips_k26_numbers_among_any_value) (n := 63) (k := K26.LEV) (dep := K26.DEP) (x := "script") (G := K26.G 1000000) (T := K26.T) rfl (by decide) rfl ?hq ⟨rfl, by decide, by decide⟩ (fun w h Y => PySem.W.kIn_of Y) ?nol ?tx K26.law_holds
  case hq => first | rfl | decide +kernel
  case nol => intro w; first | rfl | kernel_rfl | decide +kernel
  case tx =>
    intro w mg h X Gn
    refine' ⟨K26.txt X Gn ?zg0 ?zg1 ?zb0 ?zb1 ?zb2 ?zb3 ?zb4 ?zb5 ?zb6 ?zb7 ?zb8 ?zb9, K26.T_all (PI.def_mk (t := K26.ft__law_deck) (name := "_law_deck") (qual := "_law_deck") (params := L2.defArgs K26.s__law_deck) X Gn ?za0 ?zl0 ?zc0 ?zk0 ⟨rfl, rfl, rfl, rfl, rfl⟩ K26.sc__law_deck) (PI.def_mk (t := K26.ft__law_draw) (name := "_law_draw") (qual := "_law_draw") (params := L2.defArgs K26.s__law_draw) X Gn ?za1 ?zl1 ?zc1 ?zk1 ⟨rfl, rfl, rfl, rfl, rfl⟩ K26.sc__law_draw) (PI.def_mk (t := K26.ft__law_pick) (name := "_law_pick") (qual := "_law_pick") (params := L2.defArgs K26.s__law_pick) X Gn ?za2 ?zl2 ?zc2 ?zk2 ⟨rfl, rfl, rfl, rfl, rfl⟩ K26.sc__law_pick) (PI.def_mk (t := K26.ft__law_any_number) (name := "_law_any_number") (qual := "_law_any_number") (params := L2.defArgs K26.s__law_any_number) X Gn ?za3 ?zl3 ?zc3 ?zk3 ⟨rfl, rfl, rfl, rfl, rfl⟩ K26.sc__law_any_number) (PI.def_mk (t := K26.ft__law_rank) (name := "_law_rank") (qual := "_law_rank") (params := L2.defArgs K26.s__law_rank) X Gn ?za4 ?zl4 ?zc4 ?zk4 ⟨rfl, rfl, rfl, rfl, rfl⟩ K26.sc__law_rank) (PI.def_mk (t := K26.ft_is_integer) (name := "is_integer") (qual := "is_integer") (params := L2.defArgs K26.s_is_integer) X Gn ?za5 ?zl5 ?zc5 ?zk5 ⟨rfl, rfl, rfl, rfl, rfl⟩ K26.sc_is_integer) (PI.def_mk (t := K26.ft_is_from) (name := "is_from") (qual := "is_from") (params := L2.defArgs K26.s_is_from) X Gn ?za6 ?zl6 ?zc6 ?zk6 ⟨rfl, rfl, rfl, rfl, rfl⟩ K26.sc_is_from) (PI.def_mk (t := K26.ft_is_word) (name := "is_word") (qual := "is_word") (params := L2.defArgs K26.s_is_word) X Gn ?za7 ?zl7 ?zc7 ?zk7 ⟨rfl, rfl, rfl, rfl, rfl⟩ K26.sc_is_word) (PI.def_mk (t := K26.ft_is_number_value) (name := "is_number_value") (qual := "is_number_value") (params := L2.defArgs K26.s_is_number_value) X Gn ?za8 ?zl8 ?zc8 ?zk8 ⟨rfl, rfl, rfl, rfl, rfl⟩ K26.sc_is_number_value) (PI.def_mk (t := K26.ft_need_number) (name := "need_number") (qual := "need_number") (params := L2.defArgs K26.s_need_number) X Gn ?za9 ?zl9 ?zc9 ?zk9 ⟨rfl, rfl, rfl, rfl, rfl⟩ K26.sc_need_number) (PI.def_mk (t := K26.ft_rank_of) (name := "rank_of") (qual := "rank_of") (params := L2.defArgs K26.s_rank_of) X Gn ?za10 ?zl10 ?zc10 ?zk10 ⟨rfl, rfl, rfl, rfl, rfl⟩ K26.sc_rank_of) (PI.def_mk (t := K26.ft_is_at_most) (name := "is_at_most") (qual := "is_at_most") (params := L2.defArgs K26.s_is_at_most) X Gn ?za11 ?zl11 ?zc11 ?zk11 ⟨rfl, rfl, rfl, rfl, rfl⟩ K26.sc_is_at_most) (PI.def_mk (t := K26.ft_is_less) (name := "is_less") (qual := "is_less") (params := L2.defArgs K26.s_is_less) X Gn ?za12 ?zl12 ?zc12 ?zk12 ⟨rfl, rfl, rfl, rfl, rfl⟩ K26.sc_is_less) (PI.def_mk (t := K26.ft__law_leaf) (name := "_law_leaf") (qual := "_law_leaf") (params := L2.defArgs K26.s__law_leaf) X Gn ?za13 ?zl13 ?zc13 ?zk13 ⟨rfl, rfl, rfl, rfl, rfl⟩ K26.sc__law_leaf) (PI.def_mk (t := K26.ft_is_number) (name := "is_number") (qual := "is_number") (params := L2.defArgs K26.s_is_number) X Gn ?za14 ?zl14 ?zc14 ?zk14 ⟨rfl, rfl, rfl, rfl, rfl⟩ K26.sc_is_number) (PI.def_mk (t := K26.ft__law_is_int) (name := "_law_is_int") (qual := "_law_is_int") (params := L2.defArgs K26.s__law_is_int) X Gn ?za15 ?zl15 ?zc15 ?zk15 ⟨rfl, rfl, rfl, rfl, rfl⟩ K26.sc__law_is_int) (PI.def_mk (t := K26.ft__law_is_number) (name := "_law_is_number") (qual := "_law_is_number") (params := L2.defArgs K26.s__law_is_number) X Gn ?za16 ?zl16 ?zc16 ?zk16 ⟨rfl, rfl, rfl, rfl, rfl⟩ K26.sc__law_is_number) (PI.def_mk (t := K26.ft_law) (name := "law") (qual := "law") (params := L2.defArgs K26.s_law) X Gn ?za17 ?zl17 ?zc17 ?zk17 ⟨rfl, rfl, rfl, rfl, rfl⟩ K26.sc_law)⟩
    (case zg0 => k_is)
    (case zg1 => k_is)
    (case zb0 => k_is)
    (case zb1 => k_is)
    (case zb2 => k_is)
    (case zb3 => k_is)
    (case zb4 => k_is)
    (case zb5 => k_is)
    (case zb6 => k_is)
    (case zb7 => k_is)
    (case zb8 => k_is)
    (case zb9 => k_is)
    (case za0 => k_is)
    (case zl0 => k_is)
    (case zc0 => k_is)
    (case zk0 => k_is)
    (case za1 => k_is)
    (case zl1 => k_is)
    (case zc1 => k_is)
    (case zk1 => k_is)
    (case za2 => k_is)
    (case zl2 => k_is)
    (case zc2 => k_is)
    (case zk2 => k_is)
    (case za3 => k_is)
    (case zl3 => k_is)
    (case zc3 => k_is)
    (case zk3 => k_is)
    (case za4 => k_is)
    (case zl4 => k_is)
    (case zc4 => k_is)
    (case zk4 => k_is)
    (case za5 => k_is)
    (case zl5 => k_is)
    (case zc5 => k_is)
    (case zk5 => k_is)
    (case za6 => k_is)
    (case zl6 => k_is)
    (case zc6 => k_is)
    (case zk6 => k_is)
    (case za7 => k_is)
    (case zl7 => k_is)
    (case zc7 => k_is)
    (case zk7 => k_is)
    (case za8 => k_is)
    (case zl8 => k_is)
    (case zc8 => k_is)
    (case zk8 => k_is)
    (case za9 => k_is)
    (case zl9 => k_is)
    (case zc9 => k_is)
    (case zk9 => k_is)
    (case za10 => k_is)
    (case zl10 => k_is)
    (case zc10 => k_is)
    (case zk10 => k_is)
    (case za11 => k_is)
    (case zl11 => k_is)
    (case zc11 => k_is)
    (case zk11 => k_is)
    (case za12 => k_is)
    (case zl12 => k_is)
    (case zc12 => k_is)
    (case zk12 => k_is)
    (case za13 => k_is)
    (case zl13 => k_is)
    (case zc13 => k_is)
    (case zk13 => k_is)
    (case za14 => k_is)
    (case zl14 => k_is)
    (case zc14 => k_is)
    (case zk14 => k_is)
    (case za15 => k_is)
    (case zl15 => k_is)
    (case zc15 => k_is)
    (case zk15 => k_is)
    (case za16 => k_is)
    (case zl16 => k_is)
    (case zc16 => k_is)
    (case zk16 => k_is)
    (case za17 => k_is)
    (case zl17 => k_is)
    (case zc17 => k_is)
    (case zk17 => k_is)
