import PyProof.Rows.All
import Wide.All
import OpenK.AllK
import Wide.FinOn
import HandS.ForMost
import HandS.Flow
import HandS.Style
import HandS.FStr
import HandS.TupAny
import HandS.TupMul
import HandS.TupLe
import HandS.IsInst
import HandS.Deep
import HandS.Text
import KE.SortData
import HandS.WordsDict
import HandS.RaiseMore
import PyProof.ListRange
import HandS.SetFor
import HandS.Strs
import HandS.Iter
import HandS.Zip
import KE.GoesEnum
import PyProof.StrLawsRepr
import PyProof.Rows.ReprOcc
import PySem.Challenge.RW_howmanyslips_k55_controllers_of_any_valu
set_option Elab.async false
set_option linter.all false
set_option maxRecDepth 100000
set_option autoImplicit false
/-! Own text: pure data, boxed objects, and how they stand in the abstract heap. -/
namespace PI
open PySem L2

/-- built-in classes -/
inductive Tn where
  | non | bl | int | str | lst | tup | dct | set | obj
  deriving DecidableEq
def Tn.nm : Tn → String
  | .non => "NoneType" | .bl => "bool" | .int => "int" | .str => "str" | .lst => "list" | .tup => "tuple" | .dct => "dict" | .set => "set" | .obj => "object"
/-- a value of the small language: a datum, a boxed object, a def, a class, a built-in class -/
inductive D where
  | p (x : PyData)
  | ref (n : Nat)
  | fn (x : Str)
  | ty (t : Tn)

/-- a boxed object -/
inductive Cell where
  | lst (xs : List D)
  | dct (kvs : List (Key × D))
  | dead

/-- where the boxes stand (b), and what is being made meanwhile (t) -/
structure BT where
  b : List Addr
  t : List Addr
def BT.all (B : BT) : List Addr := B.b ++ B.t
def BT.nil : BT := ⟨[], []⟩
def BT.add (B : BT) (p : Addr) : BT := ⟨B.b ++ [p], B.t⟩
def BT.push (B : BT) (p : Addr) : BT := ⟨B.b, p :: B.t⟩
theorem BT.no_nil (a : Addr) : a ∉ BT.nil.all := by simp [BT.nil, BT.all]
abbrev Store := List Cell
abbrev EnvI := List (Option D)

/-! ### lists and tuples that no box owns -/
def SqLB (_K : PySem.W.Frag) (B : BT) (H : Hp) (a : Addr) (xs : List V) : Prop := Rd H a (.lst xs) ∧ a ∉ B.all
def SqTB (K : PySem.W.Frag) (B : BT) (H : Hp) (a : Addr) (xs : List V) : Prop :=
  (Rd H a (.tup xs) ∧ a ∉ B.all) ∨
    ∃ (o : Obj) (its : Array Value) (n : Nat), K.lookup a = some o ∧ o.cls = .type "tuple" ∧ o.data = .seq its n ∧ its.size ≤ sizeLine ∧ Vals xs its.toList
theorem SqLB.sq {K : PySem.W.Frag} {B : BT} {H : Hp} {a : Addr} {xs : List V} (h : SqLB K B H a xs) : SqL K H a xs := .inl h.1
theorem SqTB.sq {K : PySem.W.Frag} {B : BT} {H : Hp} {a : Addr} {xs : List V} (h : SqTB K B H a xs) : SqT K H a xs := h.imp (·.1) id

def kP : Key → PyData
  | .inl i => .int i
  | .inr x => .str x

mutual
/-- v is the datum d, read off objects that no box owns -/
inductive Dq (K : PySem.W.Frag) (B : BT) (H : Hp) : V → PyData → Prop
  | non : Dq K B H .non .none
  | bl (b : Bool) : Dq K B H (.bl b) (.bool b)
  | int (i : Int) : Dq K B H (.int i) (.int i)
  | str (x : Str) : Dq K B H (.str x) (.str x)
  | lst {a : Addr} {xs : List V} {ds : List PyData} : SqLB K B H a xs → DqAll K B H xs ds → Dq K B H (.ref a) (.list ds)
  | tup {a : Addr} {xs : List V} {ds : List PyData} : SqTB K B H a xs → DqAll K B H xs ds → Dq K B H (.ref a) (.tuple ds)
  | dct {a : Addr} {kvs : List (Key × V)} {ds : List (PyData × PyData)} : Rd H a (.dK kvs) → a ∉ B.all → DqKV K B H kvs ds → Dq K B H (.ref a) (.dict ds)
inductive DqAll (K : PySem.W.Frag) (B : BT) (H : Hp) : List V → List PyData → Prop
  | nil : DqAll K B H [] []
  | cons {v : V} {vs : List V} {d : PyData} {ds : List PyData} : Dq K B H v d → DqAll K B H vs ds → DqAll K B H (v :: vs) (d :: ds)
inductive DqKV (K : PySem.W.Frag) (B : BT) (H : Hp) : List (Key × V) → List (PyData × PyData) → Prop
  | nil : DqKV K B H [] []
  | cons {k : Key} {v : V} {vs : List (Key × V)} {d : PyData} {ds : List (PyData × PyData)} : Dq K B H v d → DqKV K B H vs ds → DqKV K B H ((k, v) :: vs) ((kP k, d) :: ds)
end

/-- what values lean on stays -/
structure Ex0 (B : BT) (H : Hp) (B' : BT) (H' : Hp) : Prop where
  keep : ∀ a o, a ∉ B.all → H a = some o → H' a = some o ∧ a ∉ B'.all
  pre : ∀ (n : Nat) a, B.b[n]? = some a → B'.b[n]? = some a
theorem Ex0.rd {B B' : BT} {H H' : Hp} (e : Ex0 B H B' H') {a : Addr} {u : HO} (h : Rd H a u) (n : a ∉ B.all) : Rd H' a u ∧ a ∉ B'.all := by
  rcases h with h | ⟨o, h⟩
  · exact ⟨.inl (e.keep _ _ n h).1, (e.keep _ _ n h).2⟩
  · exact ⟨.inr ⟨o, (e.keep _ _ n h).1⟩, (e.keep _ _ n h).2⟩
mutual
theorem Dq.ex {K : PySem.W.Frag} {B B' : BT} {H H' : Hp} (e : Ex0 B H B' H') : ∀ {v : V} {d : PyData}, Dq K B H v d → Dq K B' H' v d
  | _, _, .non => .non
  | _, _, .bl b => .bl b
  | _, _, .int i => .int i
  | _, _, .str x => .str x
  | _, _, .lst h1 h2 => .lst (e.rd h1.1 h1.2) (DqAll.ex e h2)
  | _, _, .tup h1 h2 => .tup (h1.imp (fun z => e.rd z.1 z.2) id) (DqAll.ex e h2)
  | _, _, .dct h1 h2 h3 => .dct (e.rd h1 h2).1 (e.rd h1 h2).2 (DqKV.ex e h3)
theorem DqAll.ex {K : PySem.W.Frag} {B B' : BT} {H H' : Hp} (e : Ex0 B H B' H') : ∀ {v : List V} {d : List PyData}, DqAll K B H v d → DqAll K B' H' v d
  | _, _, .nil => .nil
  | _, _, .cons h1 h2 => .cons (Dq.ex e h1) (DqAll.ex e h2)
theorem DqKV.ex {K : PySem.W.Frag} {B B' : BT} {H H' : Hp} (e : Ex0 B H B' H') : ∀ {v : List (Key × V)} {d : List (PyData × PyData)}, DqKV K B H v d → DqKV K B' H' v d
  | _, _, .nil => .nil
  | _, _, .cons h1 h2 => .cons (Dq.ex e h1) (DqKV.ex e h2)
end
/-- the globals that values speak of -/
abbrev Mg := Str → Option Value
def RD (K : PySem.W.Frag) (mg : Mg) (B : BT) (H : Hp) : D → V → Prop
  | .p x, v => Dq K B H v x
  | .ref n, v => ∃ a, B.b[n]? = some a ∧ v = .ref a
  | .fn x, v => ∃ f, mg x = some (.ref f) ∧ v = .ref f
  | .ty t, v => v = .ty t.nm
theorem RD.ex {K : PySem.W.Frag} {mg : Mg} {B B' : BT} {H H' : Hp} (e : Ex0 B H B' H') {d : D} {v : V} (h : RD K mg B H d v) : RD K mg B' H' d v := by
  cases d with
  | p x => exact Dq.ex e h
  | ref n =>
    obtain ⟨a, h1, h2⟩ := h
    exact ⟨a, e.pre n a h1, h2⟩
  | fn x => exact h
  | ty n => exact h
abbrev RDs (K : PySem.W.Frag) (mg : Mg) (B : BT) (H : Hp) : List D → List V → Prop := Paired (RD K mg B H)
theorem RDs.ex {K : PySem.W.Frag} {mg : Mg} {B B' : BT} {H H' : Hp} (e : Ex0 B H B' H') {d : List D} {v : List V} (h : RDs K mg B H d v) : RDs K mg B' H' d v := Paired.mapP h fun _ _ r => RD.ex e r
abbrev RKV (K : PySem.W.Frag) (mg : Mg) (B : BT) (H : Hp) : List (Key × D) → List (Key × V) → Prop := Paired fun p q => p.1 = q.1 ∧ RD K mg B H p.2 q.2
theorem RKV.ex {K : PySem.W.Frag} {mg : Mg} {B B' : BT} {H H' : Hp} (e : Ex0 B H B' H') {d : List (Key × D)} {v : List (Key × V)} (h : RKV K mg B H d v) : RKV K mg B' H' d v := Paired.mapP h fun _ _ r => ⟨r.1, RD.ex e r.2⟩

def CRl (K : PySem.W.Frag) (mg : Mg) (B : BT) (H : Hp) (a : Addr) : Cell → Prop
  | .lst ds => ∃ vs, H a = some (.lst vs) ∧ RDs K mg B H ds vs
  | .dct ds => ∃ kvs, H a = some (.dK kvs) ∧ RKV K mg B H ds kvs
  | .dead => True
theorem CRl.ex {K : PySem.W.Frag} {mg : Mg} {B B' : BT} {H H' : Hp} {a : Addr} {c : Cell} (e : Ex0 B H B' H') (hk : ∀ o, H a = some o → H' a = some o) (h : CRl K mg B H a c) : CRl K mg B' H' a c := by
  cases c with
  | lst ds =>
    obtain ⟨vs, h1, h2⟩ := h
    exact ⟨vs, hk _ h1, RDs.ex e h2⟩
  | dct ds =>
    obtain ⟨vs, h1, h2⟩ := h
    exact ⟨vs, hk _ h1, RKV.ex e h2⟩
  | dead => trivial
/-- the boxes as they stand in the heap -/
structure SR (K : PySem.W.Frag) (mg : Mg) (B : BT) (H : Hp) (S : Store) : Prop where
  len : B.b.length = S.length
  nd : B.all.Nodup
  al : ∀ a ∈ B.all, ∃ o, H a = some o
  cell : ∀ (n : Nat) (c : Cell) (a : Addr), S[n]? = some c → B.b[n]? = some a → CRl K mg B H a c
/-- the slots -/
structure ER (K : PySem.W.Frag) (mg : Mg) (B : BT) (H : Hp) (ev : EnvI) (σ : St) : Prop where
  len : ev.length = σ.length
  at_ : ∀ (i : Nat) d, ev[i]? = some (some d) → ∃ v, σ[i]? = some (some v) ∧ RD K mg B H d v
theorem ER.ex {K : PySem.W.Frag} {mg : Mg} {B B' : BT} {H H' : Hp} {ev : EnvI} {σ : St} (e : Ex0 B H B' H') (h : ER K mg B H ev σ) : ER K mg B' H' ev σ :=
  ⟨h.len, fun i d q => let ⟨v, a, b⟩ := h.at_ i d q; ⟨v, a, RD.ex e b⟩⟩
theorem ER.set {K : PySem.W.Frag} {mg : Mg} {B : BT} {H : Hp} {ev : EnvI} {σ : St} (h : ER K mg B H ev σ) (i : Nat) {d : D} {v : V} (r : RD K mg B H d v) : ER K mg B H (ev.set i (some d)) (σ.set i (some v)) := by
  refine ⟨by simp [h.len], fun j d' q => ?_⟩
  by_cases hj : i = j
  · subst hj
    by_cases hl : i < ev.length
    · rw [List.getElem?_set_self hl] at q
      cases q
      exact ⟨v, by rw [List.getElem?_set_self (by rw [← h.len]; exact hl)], r⟩
    · rw [List.getElem?_eq_none (by simpa using hl)] at q; cases q
  · rw [List.getElem?_set_ne hj] at q ⊢
    exact h.at_ j d' q

/-- from one state of the boxes and the heap to a later one -/
structure Ext (B : BT) (H : Hp) (B' : BT) (H' : Hp) : Prop where
  more : ∃ m, B'.b = B.b ++ m ∧ ∀ a ∈ m, H a = none
  same : B'.t = B.t
  keep : ∀ a o, a ∉ B.all → H a = some o → H' a = some o
  tmp : ∀ a ∈ B.t, H' a = H a
  al : ∀ a ∈ B'.all, ∃ o, H' a = some o
theorem Ext.not_mem {B B' : BT} {H H' : Hp} (e : Ext B H B' H') {a : Addr} {o : HO} (h : H a = some o) (n : a ∉ B.all) : a ∉ B'.all := by
  obtain ⟨m, e1, hm⟩ := e.more
  intro q
  unfold BT.all at q n
  rw [e1, e.same, List.append_assoc] at q
  rcases List.mem_append.mp q with q | q
  · exact n (List.mem_append_left _ q)
  · rcases List.mem_append.mp q with q | q
    · rw [hm a q] at h; cases h
    · exact n (List.mem_append_right _ q)
theorem Ext.ex {B B' : BT} {H H' : Hp} (e : Ext B H B' H') : Ex0 B H B' H' :=
  ⟨fun a o n h => ⟨e.keep a o n h, e.not_mem h n⟩, fun n a h => by
    obtain ⟨m, e1, _⟩ := e.more
    rw [e1, List.getElem?_append_left (List.getElem?_eq_some_iff.mp h).1]; exact h⟩
theorem Ext.mem {B B' : BT} {H H' : Hp} (e : Ext B H B' H') {a : Addr} (h : a ∈ B.all) : a ∈ B'.all := by
  obtain ⟨m, e1, _⟩ := e.more
  unfold BT.all at *
  rw [e1, e.same]
  rcases List.mem_append.mp h with z | z
  · exact List.mem_append_left _ (List.mem_append_left _ z)
  · exact List.mem_append_right _ z
theorem Ext.none {B B' : BT} {H H' : Hp} (e : Ext B H B' H') {a : Addr} (h : H' a = none) : H a = none := by
  cases q : H a with
  | none => rfl
  | some o =>
    by_cases hb : a ∈ B.all
    · obtain ⟨u, hu⟩ := e.al a (e.mem hb)
      rw [h] at hu; cases hu
    · rw [e.keep a o hb q] at h; cases h
theorem Ext.refl {B : BT} {H : Hp} (al : ∀ a ∈ B.all, ∃ o, H a = some o) : Ext B H B H := ⟨⟨[], by simp, by simp⟩, rfl, fun _ _ _ h => h, fun _ _ => rfl, al⟩
theorem Ext.trans {B B1 B2 : BT} {H H1 H2 : Hp} (a : Ext B H B1 H1) (b : Ext B1 H1 B2 H2) : Ext B H B2 H2 := by
  obtain ⟨m1, e1, n1⟩ := a.more
  obtain ⟨m2, e2, n2⟩ := b.more
  refine ⟨⟨m1 ++ m2, by rw [e2, e1, List.append_assoc], fun x hx => ?_⟩, b.same.trans a.same, fun x o n h => b.keep x o (a.not_mem h n) (a.keep x o n h), fun x hx => (b.tmp x (by rw [a.same]; exact hx)).trans (a.tmp x hx), b.al⟩
  rcases List.mem_append.mp hx with q | q
  · exact n1 x q
  · exact a.none (n2 x q)
theorem Dq.ext {K : PySem.W.Frag} {B B' : BT} {H H' : Hp} (e : Ext B H B' H') {v : V} {d : PyData} (h : Dq K B H v d) : Dq K B' H' v d := Dq.ex e.ex h
theorem DqAll.ext {K : PySem.W.Frag} {B B' : BT} {H H' : Hp} (e : Ext B H B' H') {v : List V} {d : List PyData} (h : DqAll K B H v d) : DqAll K B' H' v d := DqAll.ex e.ex h
theorem RD.ext {K : PySem.W.Frag} {mg : Mg} {B B' : BT} {H H' : Hp} (e : Ext B H B' H') {d : D} {v : V} (h : RD K mg B H d v) : RD K mg B' H' d v := RD.ex e.ex h
theorem RDs.ext {K : PySem.W.Frag} {mg : Mg} {B B' : BT} {H H' : Hp} (e : Ext B H B' H') {d : List D} {v : List V} (h : RDs K mg B H d v) : RDs K mg B' H' d v := RDs.ex e.ex h
theorem RKV.ext {K : PySem.W.Frag} {mg : Mg} {B B' : BT} {H H' : Hp} (e : Ext B H B' H') {d : List (Key × D)} {v : List (Key × V)} (h : RKV K mg B H d v) : RKV K mg B' H' d v := RKV.ex e.ex h
theorem ER.ext {K : PySem.W.Frag} {mg : Mg} {B B' : BT} {H H' : Hp} {ev : EnvI} {σ : St} (e : Ext B H B' H') (h : ER K mg B H ev σ) : ER K mg B' H' ev σ := ER.ex e.ex h

theorem BT.mem_add {B : BT} {p a : Addr} (h : a ∈ (B.add p).all) : a ∈ B.all ∨ a = p := by
  unfold BT.add BT.all at *
  rw [List.append_assoc] at h
  rcases List.mem_append.mp h with h | h
  · exact .inl (List.mem_append_left _ h)
  · rcases List.mem_append.mp h with h | h
    · exact .inr (List.mem_singleton.mp h)
    · exact .inl (List.mem_append_right _ h)
theorem BT.nodup_add {B : BT} {p : Addr} (h : B.all.Nodup) (n : p ∉ B.all) : (B.add p).all.Nodup := by
  unfold BT.add BT.all at *
  have : (B.b ++ [p] ++ B.t).Perm (p :: (B.b ++ B.t)) := by
    rw [List.append_assoc]
    exact List.perm_middle
  exact this.nodup_iff.mpr (List.nodup_cons.mpr ⟨n, h⟩)
theorem BT.mem_push {B : BT} {p a : Addr} : a ∈ (B.push p).all ↔ a = p ∨ a ∈ B.all := by
  unfold BT.push BT.all
  simp only [List.mem_append, List.mem_cons]
  constructor
  · rintro (h | h | h)
    · exact .inr (.inl h)
    · exact .inl h
    · exact .inr (.inr h)
  · rintro (h | h | h)
    · exact .inr (.inl h)
    · exact .inl h
    · exact .inr (.inr h)
theorem BT.add_push {B : BT} {p a : Addr} (h : a ∈ (B.add p).all) : a ∈ (B.push p).all := by
  rcases BT.mem_add h with h | h
  · exact BT.mem_push.mpr (.inr h)
  · exact BT.mem_push.mpr (.inl h)
theorem BT.mem_b {B : BT} {a : Addr} {n : Nat} (h : B.b[n]? = some a) : a ∈ B.all := List.mem_append_left _ (List.mem_of_getElem? h)
theorem BT.perm_push (B : BT) (p : Addr) : (B.push p).all.Perm (p :: B.all) := List.perm_middle

section
variable {K : PySem.W.Frag} {mg : Mg} {B : BT} {H : Hp} {S : Store}
theorem SR.refl (h : SR K mg B H S) : Ext B H B H := Ext.refl h.al
theorem SR.fresh (h : SR K mg B H S) {p : Addr} (hp : H p = none) : p ∉ B.all := fun q => by
  obtain ⟨o, e⟩ := h.al p q
  rw [hp] at e; cases e
/-- a new object beside the boxes -/
theorem SR.ext_new (h : SR K mg B H S) {p : Addr} (hp : H p = none) (o : HO) : Ext B H B (upd H p o) :=
  ⟨⟨[], by simp, by simp⟩, rfl, fun a u _ e => by rw [upd_ne (ne_of_none e hp)]; exact e, fun a ha => upd_ne fun q => h.fresh hp (by rw [← q]; exact List.mem_append_right _ ha), fun a ha => by
    obtain ⟨u, e⟩ := h.al a ha
    exact ⟨u, by rw [upd_ne (ne_of_none e hp)]; exact e⟩⟩
theorem SR.new (h : SR K mg B H S) {p : Addr} (hp : H p = none) (o : HO) : SR K mg B (upd H p o) S :=
  ⟨h.len, h.nd, (h.ext_new hp o).al, fun n c a h1 h2 => (h.cell n c a h1 h2).ex (h.ext_new hp o).ex fun u e => by rw [upd_ne (ne_of_none e hp)]; exact e⟩
/-- a new box -/
theorem SR.ext_box (h : SR K mg B H S) {p : Addr} (hp : H p = none) (o : HO) : Ext B H (B.add p) (upd H p o) :=
  ⟨⟨[p], rfl, fun a ha => by rw [List.mem_singleton.mp ha]; exact hp⟩, rfl, fun a u _ e => by rw [upd_ne (ne_of_none e hp)]; exact e, (h.ext_new hp o).tmp, fun a ha => by
    rcases BT.mem_add ha with ha | ha
    · obtain ⟨u, e⟩ := h.al a ha
      exact ⟨u, by rw [upd_ne (ne_of_none e hp)]; exact e⟩
    · rw [ha]
      exact ⟨o, upd_same⟩⟩
theorem add_get {b : List Addr} {S : Store} {p a : Addr} {n : Nat} {c c' : Cell} (hl : b.length = S.length) (h1 : (S ++ [c])[n]? = some c') (h2 : (b ++ [p])[n]? = some a) : (S[n]? = some c' ∧ b[n]? = some a) ∨ (c' = c ∧ a = p) := by
  by_cases hn : n < S.length
  · rw [List.getElem?_append_left hn] at h1
    rw [List.getElem?_append_left (by rw [hl]; exact hn)] at h2
    exact .inl ⟨h1, h2⟩
  · have hn' : n = S.length := by
      have := (List.getElem?_eq_some_iff.mp h1).1
      simp at this
      omega
    subst hn'
    rw [List.getElem?_append_right (Nat.le_refl _)] at h1
    rw [List.getElem?_append_right (by rw [hl]; exact Nat.le_refl _), hl] at h2
    simp at h1 h2
    exact .inr ⟨h1.symm, h2.symm⟩
theorem SR.box (h : SR K mg B H S) {p : Addr} (hp : H p = none) {o : HO} {c : Cell} (hc : CRl K mg (B.add p) (upd H p o) p c) : SR K mg (B.add p) (upd H p o) (S ++ [c]) := by
  have e := h.ext_box hp o
  refine ⟨by simp [BT.add, h.len], BT.nodup_add h.nd (h.fresh hp), e.al, fun n c' a h1 h2 => ?_⟩
  rcases add_get h.len h1 h2 with ⟨h1, h2⟩ | ⟨rfl, rfl⟩
  · exact (h.cell n c' a h1 h2).ex e.ex fun u q => by rw [upd_ne (ne_of_none q hp)]; exact q
  · exact hc
theorem nodup_get {B : List Addr} (hB : B.Nodup) {i j : Nat} {x : Addr} (a : B[i]? = some x) (b : B[j]? = some x) : i = j := by
  obtain ⟨h1, e1⟩ := List.getElem?_eq_some_iff.mp a
  obtain ⟨h2, e2⟩ := List.getElem?_eq_some_iff.mp b
  exact (List.getElem_inj hB).mp (e1.trans e2.symm)
theorem SR.ndb (h : SR K mg B H S) : B.b.Nodup := (List.nodup_append.mp h.nd).1
/-- a box is written -/
theorem SR.ext_write (h : SR K mg B H S) {n : Nat} {a : Addr} (ha : B.b[n]? = some a) (o : HO) : Ext B H B (upd H a o) := by
  have hm := BT.mem_b ha
  refine ⟨⟨[], by simp, by simp⟩, rfl, fun b u hb e => by rw [upd_ne (fun q : b = a => hb (by rw [q]; exact hm))]; exact e, fun b hb => upd_ne fun q => (List.nodup_append.mp h.nd).2.2 a (List.mem_of_getElem? ha) b hb q.symm, fun b hb => ?_⟩
  by_cases q : b = a
  · subst q; exact ⟨o, upd_same⟩
  · obtain ⟨u, e⟩ := h.al b hb
    exact ⟨u, by rw [upd_ne q]; exact e⟩
theorem SR.write (h : SR K mg B H S) {n : Nat} {a : Addr} (ha : B.b[n]? = some a) {o : HO} {c : Cell} (hc : CRl K mg B (upd H a o) a c) : SR K mg B (upd H a o) (S.set n c) := by
  have e := h.ext_write ha o
  refine ⟨by simp [h.len], h.nd, e.al, fun m c' b h1 h2 => ?_⟩
  by_cases hm : n = m
  · subst hm
    rw [ha] at h2; cases h2
    have hl : n < S.length := by
      have := (List.getElem?_eq_some_iff.mp h1).1
      simpa using this
    rw [List.getElem?_set_self hl] at h1
    cases h1
    exact hc
  · rw [List.getElem?_set_ne hm] at h1
    have hb : b ≠ a := fun q => hm (nodup_get h.ndb ha (q ▸ h2))
    exact (h.cell m c' b h1 h2).ex e.ex fun u q => by rw [upd_ne hb]; exact q

/-! something new is being made: p is set aside, is written, and comes back -/
theorem ex_push {p : Addr} (hp : H p = none) (o : HO) : Ex0 B H (B.push p) (upd H p o) :=
  ⟨fun a u n h => ⟨by rw [upd_ne (ne_of_none h hp)]; exact h, fun q => (BT.mem_push.mp q).elim (ne_of_none h hp) n⟩, fun _ _ h => h⟩
theorem ex_pop {p : Addr} : Ex0 (B.push p) H B H := ⟨fun a u n h => ⟨h, fun q => n (BT.mem_push.mpr (.inr q))⟩, fun _ _ h => h⟩
theorem ex_kept {p : Addr} : Ex0 (B.push p) H (B.add p) H :=
  ⟨fun a u n h => ⟨h, fun q => n (BT.add_push q)⟩, fun n a h => by
    have h : B.b[n]? = some a := h
    show (B.b ++ [p])[n]? = some a
    rw [List.getElem?_append_left (List.getElem?_eq_some_iff.mp h).1]; exact h⟩
theorem ex_temp {p : Addr} (hp : p ∈ B.t) (o : HO) : Ex0 B H B (upd H p o) :=
  ⟨fun a u n h => ⟨by rw [upd_ne (fun q => n (by rw [q]; exact List.mem_append_right _ hp))]; exact h, n⟩, fun _ _ h => h⟩
theorem SR.push (h : SR K mg B H S) {p : Addr} (hp : H p = none) (o : HO) : SR K mg (B.push p) (upd H p o) S := by
  have ne : ∀ a ∈ B.all, a ≠ p := fun a ha q => h.fresh hp (q ▸ ha)
  refine ⟨h.len, (B.perm_push p).nodup_iff.mpr (List.nodup_cons.mpr ⟨h.fresh hp, h.nd⟩), fun a ha => ?_, fun n c a h1 h2 => (h.cell n c a h1 h2).ex (ex_push hp o) fun u e => by rw [upd_ne (ne_of_none e hp)]; exact e⟩
  rcases BT.mem_push.mp ha with rfl | ha
  · exact ⟨o, upd_same⟩
  · obtain ⟨u, e⟩ := h.al a ha
    exact ⟨u, by rw [upd_ne (ne a ha)]; exact e⟩
theorem SR.pop {p : Addr} (h : SR K mg (B.push p) H S) : SR K mg B H S :=
  ⟨h.len, (List.nodup_cons.mp ((B.perm_push p).nodup_iff.mp h.nd)).2, fun a ha => h.al a (BT.mem_push.mpr (.inr ha)), fun n c a h1 h2 => (h.cell n c a h1 h2).ex ex_pop fun _ z => z⟩
theorem SR.popped {p : Addr} (h : SR K mg (B.push p) H S) : p ∉ B.all := (List.nodup_cons.mp ((B.perm_push p).nodup_iff.mp h.nd)).1
/-- what is being made is written -/
theorem SR.temp (h : SR K mg B H S) {p : Addr} (hp : p ∈ B.t) (o : HO) : SR K mg B (upd H p o) S := by
  refine ⟨h.len, h.nd, fun a ha => ?_, fun m c' b h1 h2 => (h.cell m c' b h1 h2).ex (ex_temp hp o) fun u q => ?_⟩
  · by_cases q : a = p
    · subst q; exact ⟨o, upd_same⟩
    · obtain ⟨u, e⟩ := h.al a ha
      exact ⟨u, by rw [upd_ne q]; exact e⟩
  · rw [upd_ne fun q : b = p => (List.nodup_append.mp h.nd).2.2 b (List.mem_of_getElem? h2) p hp q]; exact q
/-- what was being made becomes a box -/
theorem SR.keepBox {p : Addr} (h : SR K mg (B.push p) H S) {c : Cell} (hc : CRl K mg (B.add p) H p c) : SR K mg (B.add p) H (S ++ [c]) := by
  have hl : B.b.length = S.length := h.len
  refine ⟨by simp [BT.add, hl], BT.nodup_add h.pop.nd h.popped, fun a ha => h.al a (BT.add_push ha), fun n c' a h1 h2 => ?_⟩
  rcases add_get hl h1 h2 with ⟨h1, h2⟩ | ⟨rfl, rfl⟩
  · exact (h.cell n c' a h1 h2).ex ex_kept fun _ z => z
  · exact hc
theorem Ext.keepBox {B0 : BT} {H0 : Hp} {p : Addr} (x : Ext B0 H0 B H) (hp : H0 p = Option.none) {o : HO} (ho : H p = some o) : Ext B0 H0 (B.add p) H := by
  obtain ⟨m, e1, hm⟩ := x.more
  refine ⟨⟨m ++ [p], by show B.b ++ [p] = _; rw [e1, List.append_assoc], fun a ha => ?_⟩, x.same, fun a u n h => x.keep a u n h, x.tmp, fun a ha => ?_⟩
  · rcases List.mem_append.mp ha with q | q
    · exact hm a q
    · rw [List.mem_singleton.mp q]; exact hp
  · rcases BT.mem_add ha with q | q
    · exact x.al a q
    · rw [q]; exact ⟨o, ho⟩
/-- a step that goes on while p is set aside -/
theorem Ext.inner {B0 B1 : BT} {H0 H1 : Hp} {p : Addr} (x : Ext B0 H0 B H) (hp : H0 p = Option.none) (y : Ext (B.push p) H (B1.push p) H1) : Ext B0 H0 B1 H1 := by
  obtain ⟨m1, e1, n1⟩ := x.more
  obtain ⟨m2, e2, n2⟩ := y.more
  have e2 : B1.b = B.b ++ m2 := e2
  have e3 : p :: B1.t = p :: B.t := y.same
  have e3 := (List.cons.inj e3).2
  refine ⟨⟨m1 ++ m2, by rw [e2, e1, List.append_assoc], fun a ha => ?_⟩, e3.trans x.same, fun a o n h => y.keep a o (fun q => (BT.mem_push.mp q).elim (ne_of_none h hp) (x.not_mem h n)) (x.keep a o n h), fun a ha => (y.tmp a (List.mem_cons_of_mem _ (by rw [x.same]; exact ha))).trans (x.tmp a ha), fun a ha => y.al a (BT.mem_push.mpr (.inr ha))⟩
  rcases List.mem_append.mp ha with q | q
  · exact n1 a q
  · exact x.none (n2 a q)
/-- what is set aside is written -/
theorem Ext.aside {B0 : BT} {H0 : Hp} {p : Addr} (x : Ext B0 H0 B H) (hp : H0 p = Option.none) (np : p ∉ B.all) (o : HO) : Ext B0 H0 B (upd H p o) := by
  refine ⟨x.more, x.same, fun a u n h => by rw [upd_ne (ne_of_none h hp)]; exact x.keep a u n h, fun a ha => ?_, fun a ha => ?_⟩
  · rw [upd_ne fun q => np (by rw [← q]; exact List.mem_append_right _ (by rw [x.same]; exact ha))]
    exact x.tmp a ha
  · obtain ⟨u, e⟩ := x.al a ha
    exact ⟨u, by rw [upd_ne fun q => np (by rw [← q]; exact ha)]; exact e⟩
theorem Ext.pushed {B1 : BT} {H1 : Hp} {p : Addr} (x : Ext (B.push p) H B1 H1) : ∃ B2 : BT, B1 = B2.push p := by
  obtain ⟨b, t⟩ := B1
  have e : t = p :: B.t := x.same
  subst e
  exact ⟨⟨b, B.t⟩, rfl⟩
end

/-! ### the meaning of a piece of syntax -/
abbrev M := EnvI → Store → Option (D × Store)
abbrev Ms := EnvI → Store → Option (List D × Store)
/-- how a statement ends -/
inductive Fl where
  | nx | rt (d : D) | bk | ct
abbrev MS := EnvI → Store → Option (Fl × EnvI × Store)
/-- a target -/
abbrev MG := D → EnvI → Store → Option (EnvI × Store)
/-- what is walked: all its items -/
abbrev MI := EnvI → Store → Option (List D × Store)

section
variable (K : PySem.W.Frag) (mg : Mg)
/-- ahead: the boxes and slots stand as ev, S -/
def At (B : BT) (H : Hp) (ev : EnvI) (σ : St) (S : Store) : Prop := SR K mg B H S ∧ ER K mg B H ev σ
def tM (m : M) : TE := fun σ H Q => ∃ B ev S d S', SR K mg B H S ∧ ER K mg B H ev σ ∧ m ev S = some (d, S') ∧
  ∀ B' H' v, Ext B H B' H' → SR K mg B' H' S' → RD K mg B' H' d v → Q v H'
def tMs (m : Ms) : TA := fun σ H Q => ∃ B ev S d S', SR K mg B H S ∧ ER K mg B H ev σ ∧ m ev S = some (d, S') ∧
  ∀ B' H' v, Ext B H B' H' → SR K mg B' H' S' → RDs K mg B' H' d v → Q v H'
/-- a test -/
def tMt (m : M) : TT := fun σ H Q => ∃ B ev S b S', SR K mg B H S ∧ ER K mg B H ev σ ∧ m ev S = some (.p (.bool b), S') ∧
  ∀ B' H', Ext B H B' H' → SR K mg B' H' S' → Q b H'
def tMS (m : MS) : TS := fun D σ H => ∃ B ev S f ev' S', SR K mg B H S ∧ ER K mg B H ev σ ∧ m ev S = some (f, ev', S') ∧
  ∀ B' H', Ext B H B' H' → SR K mg B' H' S' →
    match f with
    | .nx => ∀ σ', ER K mg B' H' ev' σ' → D.nx σ' H'
    | .bk => ∀ σ', ER K mg B' H' ev' σ' → D.bk σ' H'
    | .ct => ∀ σ', ER K mg B' H' ev' σ' → D.ct σ' H'
    | .rt d => ∀ v, RD K mg B' H' d v → D.rt v H'
def tMG (m : MG) : TG := fun v σ H Q => ∃ B ev S d ev' S', SR K mg B H S ∧ ER K mg B H ev σ ∧ RD K mg B H d v ∧ m d ev S = some (ev', S') ∧
  ∀ B' H' σ', Ext B H B' H' → SR K mg B' H' S' → ER K mg B' H' ev' σ' → Q σ' H'
end
end PI
set_option maxHeartbeats 1000000
/-! Own text: operators of the small language, and that they are the model's. -/
namespace PI
open PySem L2

/-! ### looking at values -/
def lstOf (S : Store) : D → Option (List D)
  | .p (.list xs) => some (xs.map .p)
  | .ref n => match S[n]? with
    | some (.lst ys) => some ys
    | _ => none
  | _ => none
def allP : List D → Option (List PyData)
  | [] => some []
  | .p x :: r => (allP r).map (x :: ·)
  | _ :: _ => none
theorem allP_eq : ∀ {xs : List D} {ys : List PyData}, allP xs = some ys → xs = ys.map .p
  | [], ys, h => by simp [allP] at h; subst h; rfl
  | .p x :: r, ys, h => by
    simp only [allP] at h
    cases e : allP r with
    | none => rw [e] at h; cases h
    | some zs =>
      rw [e] at h
      simp at h
      subst h
      rw [List.map_cons, ← allP_eq e]
  | .ref _ :: _, _, h => by simp [allP] at h
  | .fn _ :: _, _, h => by simp [allP] at h
  | .ty _ :: _, _, h => by simp [allP] at h
theorem allP_map : ∀ ys : List PyData, allP (ys.map .p) = some ys
  | [] => rfl
  | y :: ys => by simp [allP, allP_map ys]
/-- a new list; bx: boxed -/
def mkL (bx : Bool) (xs : List D) (S : Store) : Option (D × Store) :=
  if xs.length ≤ sizeLine then
    (if bx then some (.ref S.length, S ++ [.lst xs]) else (allP xs).map fun ys => (.p (.list ys), S))
  else none
def mkT (xs : List PyData) (S : Store) : Option (D × Store) := if xs.length ≤ sizeLine then some (.p (.tuple xs), S) else none
def isTru : D → Option Bool
  | .p (.bool b) => some b
  | _ => none
def keyP : PyData → Option Key
  | .int i => some (.inl i)
  | .str x => some (.inr x)
  | _ => none
theorem keyP_eq {x : PyData} {k : Key} (h : keyP x = some k) : x = kP k := by
  cases x <;> simp [keyP] at h <;> subst h <;> rfl

section
variable {K : PySem.W.Frag} {mg : Mg} {B : BT} {H : Hp} {S : Store}
theorem dqAll_map : ∀ {vs : List V} {ds : List PyData}, DqAll K B H vs ds ↔ RDs K mg B H (ds.map .p) vs
  | [], [] => ⟨fun _ => .nil, fun _ => .nil⟩
  | [], _ :: _ => ⟨fun h => (by cases h), fun h => (by cases h)⟩
  | _ :: _, [] => ⟨fun h => (by cases h), fun h => (by cases h)⟩
  | v :: vs, d :: ds => ⟨fun h => by
      cases h with
      | cons h1 h2 => exact .cons h1 (dqAll_map.mp h2), fun h => by
      cases h with
      | cons h1 h2 => exact .cons h1 (dqAll_map.mpr h2)⟩
theorem lst_ok (h : SR K mg B H S) {d : D} {v : V} {xs : List D} (r : RD K mg B H d v) (e : lstOf S d = some xs) : ∃ a vs, v = .ref a ∧ Rd H a (.lst vs) ∧ RDs K mg B H xs vs := by
  cases d with
  | p x =>
    cases x with
    | list ys =>
      simp only [lstOf, Option.some.injEq] at e
      subst e
      cases r with
      | lst h1 h2 => exact ⟨_, _, rfl, h1.1, dqAll_map.mp h2⟩
    | _ => simp [lstOf] at e
  | ref n =>
    obtain ⟨a, h1, rfl⟩ := r
    simp only [lstOf] at e
    cases q : S[n]? with
    | none => rw [q] at e; cases e
    | some c =>
      rw [q] at e
      cases c with
      | lst ys =>
        simp only [Option.some.injEq] at e
        subst e
        obtain ⟨vs, h2, h3⟩ := h.cell n _ a q h1
        exact ⟨a, vs, rfl, .inl h2, h3⟩
      | _ => cases e
  | fn _ => cases e
  | ty _ => cases e
theorem mkL_ok (h : SR K mg B H S) {bx : Bool} {xs : List D} {vs : List V} {d : D} {S' : Store} (r : RDs K mg B H xs vs) (e : mkL bx xs S = some (d, S')) {p : Addr} (hp : H p = none) :
    vs.length ≤ sizeLine ∧ ∃ B', Ext B H B' (upd H p (.lst vs)) ∧ SR K mg B' (upd H p (.lst vs)) S' ∧ RD K mg B' (upd H p (.lst vs)) d (.ref p) := by
  unfold mkL at e
  have hl := Paired.length r
  split at e
  · rename_i hz
    refine ⟨by rw [← hl]; exact hz, ?_⟩
    cases bx with
    | true =>
      simp only [if_true, Option.some.injEq, Prod.mk.injEq] at e
      obtain ⟨rfl, rfl⟩ := e
      have x := h.ext_box hp (.lst vs)
      exact ⟨B.add p, x, h.box hp ⟨vs, upd_same, RDs.ext x r⟩, p, (by show (B.b ++ [p])[S.length]? = some p; rw [← h.len]; simp), rfl⟩
    | false =>
      simp only [Bool.false_eq_true, if_false] at e
      cases q : allP xs with
      | none => rw [q] at e; cases e
      | some ys =>
        rw [q] at e
        simp only [Option.map_some, Option.some.injEq, Prod.mk.injEq] at e
        obtain ⟨rfl, rfl⟩ := e
        have hx := allP_eq q
        subst hx
        have x := h.ext_new hp (.lst vs)
        exact ⟨B, x, h.new hp _, .lst ⟨.inl upd_same, h.fresh hp⟩ (dqAll_map.mpr (RDs.ext x r))⟩
  · cases e
theorem mkT_ok (h : SR K mg B H S) {xs : List PyData} {vs : List V} {d : D} {S' : Store} (r : DqAll K B H vs xs) (e : mkT xs S = some (d, S')) {p : Addr} (hp : H p = none) :
    vs.length ≤ sizeLine ∧ Ext B H B (upd H p (.tup vs)) ∧ SR K mg B (upd H p (.tup vs)) S' ∧ RD K mg B (upd H p (.tup vs)) d (.ref p) := by
  unfold mkT at e
  have hl := Paired.length (dqAll_map (mg := mg).mp r)
  rw [List.length_map] at hl
  split at e
  · rename_i hz
    simp only [Option.some.injEq, Prod.mk.injEq] at e
    obtain ⟨rfl, rfl⟩ := e
    have x := h.ext_new hp (.tup vs)
    exact ⟨by rw [← hl]; exact hz, x, h.new hp _, .tup (.inl ⟨.inl upd_same, h.fresh hp⟩) (DqAll.ext x r)⟩
  · cases e
end

/-! ### the model's rules over lists that are read -/
section
variable {X : Cx} {pins : List (Addr × Obj)} {σ : St} {H : Hp} {s : Shared}
theorem lstR (I : Inv X pins σ H s) {l : Addr} {xs : List V} (hH : Rd H l (.lst xs)) : xs.length ≤ sizeLine ∧ ∃ (its : List Value) (n : Nat), Vals xs its ∧ xs.length = its.length ∧ s.heap.get? l = some { cls := .type "list", data := .seq its.toArray n } := by
  rcases hH.ok I.hok with ⟨small, us, m, same, there⟩
  exact ⟨small, us, m, same, same.length, there⟩
def rCatR : R2 := fun x y H Q => ∃ l b xs zs, x = .ref l ∧ y = .ref b ∧ Rd H l (.lst xs) ∧ Rd H b (.lst zs) ∧ xs.length + zs.length ≤ sizeLine ∧ ∀ p, H p = none → Q (.ref p) (upd H p (.lst (xs ++ zs)))
theorem op_catR : OpR X (binaryOp .Add) rCatR := fun pins s σ H x y v u Q I rx ry hh => by
  rcases hh with ⟨a, b, as, bs, ex, ey, ra, rb, room, q⟩
  subst ex ey
  obtain rfl : v = .ref a := rx
  obtain rfl : u = .ref b := ry
  rcases lstR I ra with ⟨_, va, na, pa, la, ga⟩
  rcases lstR I rb with ⟨_, vb, nb, pb, lb, gb⟩
  have small : va.toArray.size + vb.toArray.size ≤ sizeLine := by simpa [← la, ← lb] using room
  refine PySem.P.add_list ga gb ?_ small
  rw [show va.toArray ++ vb.toArray = (va ++ vb).toArray by simp]
  refine ⟨.ref _, _, I.lnew (t' := s.toks) (pa.append pb) ?_, rfl, q _ I.fresh⟩
  simpa using room
def rRepR : R2 := fun x y H Q => ∃ a m as, x = .ref a ∧ y = .int m ∧ Rd H a (.lst as) ∧ (-(2 ^ 63) ≤ m ∧ m < 2 ^ 63) ∧ as.length * m.toNat ≤ sizeLine ∧ ∀ p, H p = none → Q (.ref p) (upd H p (.lst (List.replicate m.toNat as).flatten))
/-- the folds that the rule tells -/
theorem fold_times (m : Nat) (us : List Value) : List.foldl (fun a b => a ++ b) #[] (List.replicate (if us.toArray.isEmpty = true then 0 else m) us.toArray) = (List.replicate m us).flatten.toArray := by
  have go : ∀ k : Nat, List.foldl (fun a b => a ++ b) #[] (List.replicate k us.toArray) = (List.replicate k us).flatten.toArray := fun k => by simpa using foldl_rep us k []
  by_cases h : us = []
  · subst h; rw [go]; simp
  · rw [go, if_neg (by simpa using h)]
theorem op_repR : OpR X (binaryOp .Mult) rRepR := fun pins s σ H x y v u Q I rx ry hh => by
  rcases hh with ⟨a, m, as, ex, ey, ra, ⟨lo, hi⟩, room, q⟩
  subst ex ey
  obtain rfl : v = .ref a := rx
  obtain ⟨t, rfl⟩ : ∃ t, u = .int m t := ry
  rcases lstR I ra with ⟨_, va, na, pa, la, ga⟩
  have small : va.toArray.size * m.toNat ≤ sizeLine := by simpa [← la] using room
  have cap : ¬ va.toArray.size * m.toNat > (2 ^ 63 - 1) / 8 := Nat.not_lt.mpr (Nat.le_trans small (by decide))
  have fit : ¬ (!Builtin.List.listFitsIndex m) = true := by simp [fitsIndex_both lo hi]
  have long : ¬ Builtin.List.listTooLong (va.toArray.size * m.toNat) = true := by rw [notLongL small]; decide
  have isL : s.TypeIs (.ref a) "list" := ⟨_, ga, rfl⟩
  refine wpAny_binaryOp_repeat_ref (T := "list") (U := "int") (by decide) isL (fun r => typeIs_int r m t) noFill_list_mul F.fills_int_mul F.slot_int_rmul repeat_list F.slot_int_index.lookup ?_
  refine call_meets F.slot_int_rmul (typeIs_int s m t) F.entry_int_rmul (F.args_int_rmul_2 _ _) (int___rmul___int_list m t a va.toArray na) ⟨ga, rfl, isL, ?_⟩
  refine call_meets F.slot_list_mul isL F.entry_list_mul (F.args_list_mul_2 _ _) (AutoListH.list___mul___list_int_3 a va.toArray na m t fit cap long) ⟨ga, ?_⟩
  rw [fold_times]
  refine ⟨.ref _, _, I.lnew (t' := s.toks) (pa.rep m.toNat) ?_, rfl, q _ I.fresh⟩
  rw [PyProof.Rows.lm_len_rep_flat, Nat.mul_comm]
  exact room
end

/-! ### binary operators -/
def intOp (op : Operator) (i j : Int) : Option Int := match op with
  | .Add => some (i + j)
  | .Sub => some (i - j)
  | .Mult => if (-(2 ^ 64) < i ∧ i < 2 ^ 64) ∨ (-(2 ^ 64) < j ∧ j < 2 ^ 64) then some (i * j) else none
  | .Mod => if 0 < j then some (i % j) else none
  | .FloorDiv => if 0 < j ∧ j < 1073741824 then some (i / j) else none
  | .Pow => if 0 ≤ j ∧ j ≤ 1000000 ∧ i.natAbs < 2 ^ 64 then some (i ^ j.toNat) else none
  | .LShift => if 0 ≤ j ∧ j ≤ 1000000 ∧ i.natAbs < 2 ^ 64 then some (i * 2 ^ j.toNat) else none
  | .RShift => if 0 ≤ j then some (i / 2 ^ j.toNat) else none
  | .BitAnd => some (Builtin.bitAnd i j)
  | .BitOr => some (Builtin.bitOr i j)
  | .BitXor => some (Builtin.bitXor i j)
  | _ => none
def seqOp (bx : Bool) (op : Operator) (S : Store) (x y : D) : Option (D × Store) := match op with
  | .Add => (match x, y with
    | .p (.str a), .p (.str b) => if a.length + b.length ≤ sizeLine then some (.p (.str (a ++ b)), S) else none
    | .p (.tuple a), .p (.tuple b) => mkT (a ++ b) S
    | _, _ => (match lstOf S x, lstOf S y with
      | some xs, some ys => mkL bx (xs ++ ys) S
      | _, _ => none))
  | .Mult => (match x, y with
    | .p (.tuple a), .p (.int k) => if a ≠ [] ∧ 2 ≤ k ∧ k ≤ 1000 ∧ a.length ≤ 1000 then some (.p (.tuple (List.replicate k.toNat a).flatten), S) else none
    | _, .p (.int k) => (match lstOf S x with
      | some xs => if -(2 ^ 63) ≤ k ∧ k < 2 ^ 63 then mkL bx (List.replicate k.toNat xs).flatten S else none
      | none => none)
    | _, _ => none)
  | _ => none
def binI (bx : Bool) (op : Operator) (S : Store) (x y : D) : Option (D × Store) := match x, y with
  | .p (.int i), .p (.int j) => (intOp op i j).map fun k => (.p (.int k), S)
  | _, _ => seqOp bx op S x y

/-- the wish: whatever stands behind -/
def Post (K : PySem.W.Frag) (mg : Mg) (B : BT) (H : Hp) (d : D) (S' : Store) (Q : VK) : Prop := ∀ B' H' v, Ext B H B' H' → SR K mg B' H' S' → RD K mg B' H' d v → Q v H'

section
variable {X : Cx} {pins : List (Addr × Obj)} {σ : St} {H : Hp} {s : Shared} {B : BT} {S S' : Store} {d dx dy : D} {vx vy : V} {v u : Value} {Q : VK}
theorem Post.same (h : SR X.K X.mg B H S) (p : Post X.K X.mg B H d S Q) {w : V} (r : RD X.K X.mg B H d w) : Q w H := p B H w h.refl h r
theorem intOp_ok (op : Operator) {i j k : Int} (I : Inv X pins σ H s) (rx : RelV (.int i) v) (ry : RelV (.int j) u) (e : intOp op i j = some k) (q : Q (.int k) H) :
    wpAny (model X.prog X.w) X.A (binaryOp op v u) (EP X pins σ Q) X.xe s := by
  cases op <;> simp only [intOp] at e
  case Add => cases e; exact op_add pins s σ H _ _ v u Q I rx ry ⟨_, _, rfl, rfl, q⟩
  case Sub => cases e; exact op_sub pins s σ H _ _ v u Q I rx ry ⟨_, _, rfl, rfl, q⟩
  case Mult =>
    split at e
    · cases e; exact op_mul pins s σ H _ _ v u Q I rx ry ⟨_, _, rfl, rfl, (by assumption), q⟩
    · cases e
  case Mod =>
    split at e
    · cases e; exact op_mod pins s σ H _ _ v u Q I rx ry ⟨_, _, rfl, rfl, (by assumption), q⟩
    · cases e
  case Pow =>
    split at e
    · cases e; exact op_pow pins s σ H _ _ v u Q I rx ry ⟨_, _, rfl, rfl, (by assumption), q⟩
    · cases e
  case LShift =>
    split at e
    · cases e; exact op_shl pins s σ H _ _ v u Q I rx ry ⟨_, _, rfl, rfl, (by assumption), q⟩
    · cases e
  case RShift =>
    split at e
    · cases e; exact op_shr pins s σ H _ _ v u Q I rx ry ⟨_, _, rfl, rfl, (by assumption), q⟩
    · cases e
  case BitOr => cases e; exact op_or pins s σ H _ _ v u Q I rx ry ⟨_, _, rfl, rfl, q⟩
  case BitXor => cases e; exact op_xor pins s σ H _ _ v u Q I rx ry ⟨_, _, rfl, rfl, q⟩
  case BitAnd => cases e; exact op_and pins s σ H _ _ v u Q I rx ry ⟨_, _, rfl, rfl, q⟩
  case FloorDiv =>
    split at e
    · cases e; exact op_fdiv pins s σ H _ _ v u Q I rx ry ⟨_, _, rfl, rfl, (by assumption), q⟩
    · cases e
  all_goals cases e

theorem dq_tup {K : PySem.W.Frag} {x : V} {ds : List PyData} (h : Dq K B H x (.tuple ds)) : ∃ a vs, x = .ref a ∧ SqTB K B H a vs ∧ DqAll K B H vs ds := by
  cases h with
  | tup h1 h2 => exact ⟨_, _, rfl, h1, h2⟩
theorem dq_str {K : PySem.W.Frag} {x : V} {z : Str} (h : Dq K B H x (.str z)) : x = .str z := by cases h; rfl
theorem dq_int {K : PySem.W.Frag} {x : V} {z : Int} (h : Dq K B H x (.int z)) : x = .int z := by cases h; rfl
theorem DqAll.append {K : PySem.W.Frag} : ∀ {xs ys : List V} {ds es : List PyData}, DqAll K B H xs ds → DqAll K B H ys es → DqAll K B H (xs ++ ys) (ds ++ es)
  | _, _, _, _, .nil, h => h
  | _, _, _, _, .cons h t, h2 => .cons h (DqAll.append t h2)
theorem DqAll.rep {K : PySem.W.Frag} {xs : List V} {ds : List PyData} (h : DqAll K B H xs ds) : ∀ k : Nat, DqAll K B H (List.replicate k xs).flatten (List.replicate k ds).flatten
  | 0 => by simp; exact .nil
  | k + 1 => by simp only [List.replicate_succ, List.flatten_cons]; exact DqAll.append h (DqAll.rep h k)
theorem DqAll.length {K : PySem.W.Frag} : ∀ {xs : List V} {ds : List PyData}, DqAll K B H xs ds → xs.length = ds.length
  | _, _, .nil => rfl
  | _, _, .cons _ t => by simp [DqAll.length t]
theorem RDs.append {K : PySem.W.Frag} {mg : Mg} : ∀ {xs ys : List D} {ds es : List V}, RDs K mg B H xs ds → RDs K mg B H ys es → RDs K mg B H (xs ++ ys) (ds ++ es)
  | _, _, _, _, .nil, h => h
  | _, _, _, _, .cons h t, h2 => .cons h (RDs.append t h2)
theorem RDs.rep {K : PySem.W.Frag} {mg : Mg} {xs : List D} {ds : List V} (h : RDs K mg B H xs ds) : ∀ k : Nat, RDs K mg B H (List.replicate k xs).flatten (List.replicate k ds).flatten
  | 0 => by simp; exact .nil
  | k + 1 => by simp only [List.replicate_succ, List.flatten_cons]; exact RDs.append h (RDs.rep h k)
theorem flat_rep {α : Type} (xs : List α) (k : Nat) : (List.replicate k xs).flatten.length = xs.length * k := by
  rw [PyProof.Rows.lm_len_rep_flat, Nat.mul_comm]

theorem cat_ok (bx : Bool) {xs ys : List D} (hS : SR X.K X.mg B H S) (I : Inv X pins σ H s) (rvx : RelV vx v) (rvy : RelV vy u) (rx : RD X.K X.mg B H dx vx) (ry : RD X.K X.mg B H dy vy)
    (e1 : lstOf S dx = some xs) (e2 : lstOf S dy = some ys) (e : mkL bx (xs ++ ys) S = some (d, S')) (q : Post X.K X.mg B H d S' Q) :
    wpAny (model X.prog X.w) X.A (binaryOp .Add v u) (EP X pins σ Q) X.xe s := by
  obtain ⟨a, xs', rfl, ha, r1⟩ := lst_ok hS rx e1
  obtain ⟨b, ys', rfl, hb, r2⟩ := lst_ok hS ry e2
  have hz : xs'.length + ys'.length ≤ sizeLine := by
    have z := (mkL_ok hS (RDs.append r1 r2) e (p := s.heap.objs.size) (I.hok.fresh (Nat.le_refl _))).1
    rw [List.length_append] at z
    exact z
  refine op_catR pins s σ H _ _ v u Q I rvx rvy ⟨a, b, xs', ys', rfl, rfl, ha, hb, hz, fun p hp => ?_⟩
  obtain ⟨_, B', x1, x2, x3⟩ := mkL_ok hS (RDs.append r1 r2) e hp
  exact q B' _ _ x1 x2 x3

theorem seqOp_ok (bx : Bool) (op : Operator) (hS : SR X.K X.mg B H S) (I : Inv X pins σ H s) (rvx : RelV vx v) (rvy : RelV vy u) (rx : RD X.K X.mg B H dx vx) (ry : RD X.K X.mg B H dy vy)
    (e : seqOp bx op S dx dy = some (d, S')) (q : Post X.K X.mg B H d S' Q) : wpAny (model X.prog X.w) X.A (binaryOp op v u) (EP X pins σ Q) X.xe s := by
  cases op <;> simp only [seqOp] at e
  case Add =>
    split at e
    · rename_i a b
      obtain rfl := dq_str rx
      obtain rfl := dq_str ry
      split at e
      · rename_i hz
        cases e
        exact op_add_str pins s σ H _ _ v u Q I rvx rvy ⟨_, _, rfl, rfl, hz, q.same hS (.str _)⟩
      · cases e
    · rename_i a b
      obtain ⟨x1, vs1, rfl, h1, g1⟩ := dq_tup rx
      obtain ⟨x2, vs2, rfl, h2, g2⟩ := dq_tup ry
      have hz : vs1.length + vs2.length ≤ sizeLine := by
        have z := (mkT_ok hS (DqAll.append g1 g2) e (p := s.heap.objs.size) (I.hok.fresh (Nat.le_refl _))).1
        rw [List.length_append] at z
        exact z
      refine op_catA pins s σ H _ _ v u Q I rvx rvy ⟨x1, x2, vs1, vs2, rfl, rfl, h1.sq, h2.sq, hz, fun n1 => ?_, fun _ n2 => ?_, fun _ n2 p hp => ?_⟩
      · subst n1
        cases g1
        unfold mkT at e
        split at e
        · cases e
          exact q.same hS ry
        · cases e
      · subst n2
        cases g2
        unfold mkT at e
        split at e
        · cases e
          rw [List.append_nil] at q
          exact q.same hS rx
        · cases e
      · obtain ⟨_, y1, y2, y3⟩ := mkT_ok hS (DqAll.append g1 g2) e hp
        exact q B _ _ y1 y2 y3
    · split at e
      · exact cat_ok bx hS I rvx rvy rx ry (by assumption) (by assumption) e q
      · cases e
  case Mult =>
    split at e
    · rename_i a k
      obtain ⟨x1, vs1, rfl, h1, g1⟩ := dq_tup rx
      obtain rfl := dq_int ry
      split at e
      · rename_i hc
        cases e
        have hl := g1.length
        refine op_repT pins s σ H _ _ v u Q I rvx rvy ⟨x1, k, vs1, rfl, rfl, h1.sq, fun z => hc.1 (List.eq_nil_of_length_eq_zero (by rw [← hl, z]; rfl)), hc.2.1, hc.2.2.1, by rw [hl]; exact hc.2.2.2, fun p hp => ?_⟩
        have x := hS.ext_new hp (.tup (List.replicate k.toNat vs1).flatten)
        exact q B _ _ x (hS.new hp _) (.tup (.inl ⟨.inl upd_same, hS.fresh hp⟩) (DqAll.ext x (g1.rep _)))
      · cases e
    · rename_i k _
      obtain rfl := dq_int ry
      split at e
      · rename_i xs e1
        obtain ⟨a, xs', rfl, ha, r1⟩ := lst_ok hS rx e1
        split at e
        · rename_i hc
          refine op_repR pins s σ H _ _ v u Q I rvx rvy ⟨a, k, xs', rfl, rfl, ha, hc, ?_, fun p hp => ?_⟩
          · have z := (mkL_ok hS (r1.rep k.toNat) e (p := s.heap.objs.size) (I.hok.fresh (Nat.le_refl _))).1
            rw [flat_rep] at z
            exact z
          · obtain ⟨_, B', x1, x2, x3⟩ := mkL_ok hS (r1.rep k.toNat) e hp
            exact q B' _ _ x1 x2 x3
        · cases e
      · cases e
    · cases e
  all_goals cases e
end
end PI
set_option maxHeartbeats 1000000
/-! Own text: comparisons, membership, subscripts, slices of the small language. -/
namespace PI
open PySem L2

/-- a value as one datum -/
def viewP (S : Store) : D → Option PyData
  | .p x => some x
  | .ref n => match S[n]? with
    | some (.lst ys) => (allP ys).map .list
    | _ => none
  | _ => none
/-- what a list or tuple holds -/
def seqP (S : Store) : D → Option (List PyData)
  | .p (.tuple xs) => some xs
  | d => (lstOf S d).bind allP
/-- a dict's entries -/
def keysP : List (PyData × PyData) → Option (List (Key × D))
  | [] => some []
  | (k, x) :: r => match keyP k, keysP r with
    | some k', some r' => some ((k', .p x) :: r')
    | _, _ => none
def dctOf (S : Store) : D → Option (List (Key × D))
  | .p (.dict kvs) => keysP kvs
  | .ref n => match S[n]? with
    | some (.dct kvs) => some kvs
    | _ => none
  | _ => none
def valD (kvs : List (Key × D)) (k : Key) : Option D := (kvs.find? fun kv => decide (kv.1 = k)).map (·.2)

section
variable {K : PySem.W.Frag} {mg : Mg} {B : BT} {H : Hp} {S : Store}
mutual
theorem Dq.weak : ∀ {v : V} {d : PyData}, Dq K B H v d → Dq K BT.nil H v d
  | _, _, .non => .non
  | _, _, .bl b => .bl b
  | _, _, .int i => .int i
  | _, _, .str x => .str x
  | _, _, .lst h1 h2 => .lst ⟨h1.1, BT.no_nil _⟩ (DqAll.weak h2)
  | _, _, .tup h1 h2 => .tup (h1.imp (fun z => ⟨z.1, BT.no_nil _⟩) id) (DqAll.weak h2)
  | _, _, .dct h1 h2 h3 => .dct h1 (BT.no_nil _) (DqKV.weak h3)
theorem DqAll.weak : ∀ {v : List V} {d : List PyData}, DqAll K B H v d → DqAll K BT.nil H v d
  | _, _, .nil => .nil
  | _, _, .cons h1 h2 => .cons (Dq.weak h1) (DqAll.weak h2)
theorem DqKV.weak : ∀ {v : List (Key × V)} {d : List (PyData × PyData)}, DqKV K B H v d → DqKV K BT.nil H v d
  | _, _, .nil => .nil
  | _, _, .cons h1 h2 => .cons (Dq.weak h1) (DqKV.weak h2)
end
theorem view_ok (h : SR K mg B H S) {d : D} {v : V} {x : PyData} (r : RD K mg B H d v) (e : viewP S d = some x) : Dq K BT.nil H v x := by
  cases d with
  | p y =>
    simp only [viewP, Option.some.injEq] at e
    subst e
    exact Dq.weak r
  | ref n =>
    obtain ⟨a, h1, rfl⟩ := r
    simp only [viewP] at e
    cases q : S[n]? with
    | none => rw [q] at e; cases e
    | some c =>
      rw [q] at e
      cases c with
      | lst ys =>
        simp only at e
        cases q2 : allP ys with
        | none => rw [q2] at e; cases e
        | some zs =>
          rw [q2] at e
          simp at e
          subst e
          have := allP_eq q2
          subst this
          obtain ⟨vs, h2, h3⟩ := h.cell n _ a q h1
          exact .lst ⟨.inl h2, BT.no_nil _⟩ (DqAll.weak (dqAll_map.mpr h3))
      | _ => cases e
  | fn _ => cases e
  | ty _ => cases e
theorem seqP_ok (h : SR K mg B H S) {d : D} {v : V} {xs : List PyData} (r : RD K mg B H d v) (e : seqP S d = some xs) : ∃ a vs, v = .ref a ∧ (SqL K H a vs ∨ SqT K H a vs) ∧ DqAll K B H vs xs := by
  have go : (lstOf S d).bind allP = some xs → ∃ a vs, v = .ref a ∧ (SqL K H a vs ∨ SqT K H a vs) ∧ DqAll K B H vs xs := fun e => by
    cases q : lstOf S d with
    | none => rw [q] at e; cases e
    | some zs =>
      rw [q] at e
      obtain ⟨a, vs, rfl, h1, h2⟩ := lst_ok h r q
      have := allP_eq e
      subst this
      exact ⟨a, vs, rfl, .inl (.inl h1), dqAll_map.mpr h2⟩
  cases d with
  | p x =>
    cases x with
    | tuple ys =>
      simp only [seqP, Option.some.injEq] at e
      subst e
      obtain ⟨a, vs, rfl, h1, h2⟩ := dq_tup r
      exact ⟨a, vs, rfl, .inr h1.sq, h2⟩
    | _ => exact go e
  | _ => exact go e
theorem keysP_ok : ∀ {kvs : List (Key × V)} {ds : List (PyData × PyData)} {es : List (Key × D)}, DqKV K B H kvs ds → keysP ds = some es → RKV K mg B H es kvs
  | _, _, es, .nil, e => by
    simp [keysP] at e
    subst e
    exact .nil
  | _, _, es, .cons (k := k) (d := d) (ds := ds) h1 h2, e => by
    have hk : keyP (kP k) = some k := by cases k <;> rfl
    simp only [keysP, hk] at e
    cases q : keysP ds with
    | none => rw [q] at e; cases e
    | some r =>
      rw [q] at e
      simp at e
      subst e
      exact .cons ⟨rfl, h1⟩ (keysP_ok h2 q)
theorem dct_ok (h : SR K mg B H S) {d : D} {v : V} {xs : List (Key × D)} (r : RD K mg B H d v) (e : dctOf S d = some xs) : ∃ a vs, v = .ref a ∧ Rd H a (.dK vs) ∧ RKV K mg B H xs vs := by
  cases d with
  | p x =>
    cases x with
    | dict ys =>
      cases r with
      | dct h1 h2 h3 => exact ⟨_, _, rfl, h1, keysP_ok h3 e⟩
    | _ => simp [dctOf] at e
  | ref n =>
    obtain ⟨a, h1, rfl⟩ := r
    simp only [dctOf] at e
    cases q : S[n]? with
    | none => rw [q] at e; cases e
    | some c =>
      rw [q] at e
      cases c with
      | dct ys =>
        simp only [Option.some.injEq] at e
        subst e
        obtain ⟨vs, h2, h3⟩ := h.cell n _ a q h1
        exact ⟨a, vs, rfl, .inl h2, h3⟩
      | _ => cases e
  | fn _ => cases e
  | ty _ => cases e
theorem RKV.val : ∀ {es : List (Key × D)} {kvs : List (Key × V)}, RKV K mg B H es kvs → ∀ k : Key,
    (valD es k = none ∧ valV kvs k = none) ∨ ∃ d v, valD es k = some d ∧ valV kvs k = some v ∧ RD K mg B H d v
  | _, _, .nil, k => .inl ⟨rfl, rfl⟩
  | (j, d) :: es, (j', v) :: kvs, .cons h1 h2, k => by
    obtain ⟨rfl, h1⟩ := h1
    by_cases hk : j = k
    · exact .inr ⟨d, v, by simp [valD, List.find?_cons, hk], by simp [valV, List.find?_cons, hk], h1⟩
    · have e1 : valD ((j, d) :: es) k = valD es k := by simp [valD, List.find?_cons, hk]
      have e2 : valV ((j, v) :: kvs) k = valV kvs k := by simp [valV, List.find?_cons, hk]
      rw [e1, e2]
      exact RKV.val h2 k
end


section
variable {X : Cx} {pins : List (Addr × Obj)} {σ : St} {H : Hp} {s : Shared} {B : BT}
theorem key_reads {h : Heap} {k : Key} {v : Value} (e : keyIs k v = true) : Reads h v (kP k) [] := by
  rcases keyIs_shape e with ⟨i, t, rfl, rfl⟩ | ⟨x, t, rfl, rfl⟩
  · exact .int i t
  · exact .str x t
theorem pairs_keys {P : Program} {w : World} {h : Heap} : ∀ {es : List DictEntry} {kvs : List (Key × Value)}, PySem.Pairs (mixKind P w) es kvs → ReadsAll h (es.map (·.key)) (kvs.map fun q => kP q.1) []
  | _, _, .nil => .nil
  | _, _, .cons h1 _ t => ReadsAll.cons (as := []) (bs := []) (key_reads h1) (pairs_keys t)
theorem pairs_vals {P : Program} {w : World} : ∀ {es : List DictEntry} {kvs : List (Key × Value)}, PySem.Pairs (mixKind P w) es kvs → es.map (·.val) = kvs.map (·.2)
  | _, _, .nil => rfl
  | _, _, .cons _ h2 t => by simp [h2, pairs_vals t]
/-- the modules' table is no object of ours -/
def NoSys (X : Cx) : Prop := ∃ o, X.base.get? sysModules = some o
theorem NoSys.rd (n : NoSys X) (I : Inv X pins σ H s) {a : Addr} {u : HO} (r : Rd H a u) : a ≠ sysModules := fun e => by
  obtain ⟨o, ho⟩ := n
  have z := (I.bs _ _ ho).2
  subst e
  rcases r with r | ⟨ob, r⟩ <;> rw [z] at r <;> cases r
mutual
theorem Dq.reads (I : Inv X pins σ H s) (n : NoSys X) : ∀ {d : PyData} {v : V} {u : Value}, Dq X.K B H v d → RelV v u → ∃ as, Reads s.heap u d as ∧ sysModules ∉ as
  | .none, _, _, h, r => by
    cases h; cases r
    exact ⟨_, .none, by simp⟩
  | .bool b, _, _, h, r => by
    cases h; cases r
    exact ⟨_, .bool b, by simp⟩
  | .int i, _, _, h, r => by
    cases h
    obtain ⟨t, rfl⟩ := r
    exact ⟨_, .int i t, by simp⟩
  | .str x, _, _, h, r => by
    cases h
    obtain ⟨t, rfl⟩ := r
    exact ⟨_, .str x t, by simp⟩
  | .list ds, _, _, h, r => by
    cases h with
    | lst hs ha =>
      cases r
      obtain ⟨z, its, k, rv, hl, e⟩ := lstR I hs.1
      obtain ⟨as, hr, na⟩ := DqAll.reads I n ha rv
      refine ⟨_, .list e rfl rfl hr, ?_⟩
      rw [List.mem_cons, not_or]
      exact ⟨fun q => n.rd I hs.1 q.symm, na⟩
  | .tuple ds, _, _, h, r => by
    cases h with
    | tup hs ha =>
      cases r
      obtain ⟨its, rv, ⟨o, ho, hc, k, hd⟩, _⟩ := I.tuple hs.sq
      obtain ⟨as, hr, na⟩ := DqAll.reads I n ha rv
      exact ⟨_, .tuple ho hc hd hr, na⟩
  | .dict kvs, _, _, h, r => by
    cases h with
    | dct h1 h2 h3 =>
      cases r
      obtain ⟨z, hd, vs, rel, ⟨o, es, ep, ho, hx, hdt, hk, hp, nd⟩⟩ := dk_rd I.hok h1
      obtain ⟨as, hr, na, ek⟩ := DqKV.reads I n h3 rel
      have e1 := pairs_keys (h := s.heap) hp
      have e2 := pairs_vals hp
      rw [ek] at e1
      rw [← e2] at hr
      refine ⟨_, .dict ho hx.1 hdt e1 hr, ?_⟩
      intro q
      rcases List.mem_append.mp q with q | q
      · exact n.rd I h1 (List.mem_singleton.mp q).symm
      · exact na q
theorem DqAll.reads (I : Inv X pins σ H s) (n : NoSys X) : ∀ {ds : List PyData} {vs : List V} {us : List Value}, DqAll X.K B H vs ds → Vals vs us → ∃ as, ReadsAll s.heap us ds as ∧ sysModules ∉ as
  | [], _, _, h, r => by
    cases h; cases r
    exact ⟨_, .nil, by simp⟩
  | d :: ds, _, _, h, r => by
    cases h with
    | cons h1 h2 =>
      cases r with
      | cons r1 r2 =>
        obtain ⟨as, q1, n1⟩ := Dq.reads I n h1 r1
        obtain ⟨bs, q2, n2⟩ := DqAll.reads I n h2 r2
        refine ⟨_, .cons q1 q2, ?_⟩
        rw [List.mem_append, not_or]
        exact ⟨n1, n2⟩
theorem DqKV.reads (I : Inv X pins σ H s) (n : NoSys X) : ∀ {ds : List (PyData × PyData)} {kvs : List (Key × V)} {vs : List (Key × Value)}, DqKV X.K B H kvs ds → KV kvs vs → ∃ as, ReadsAll s.heap (vs.map (·.2)) (ds.map (·.2)) as ∧ sysModules ∉ as ∧ (vs.map fun q => kP q.1) = ds.map (·.1)
  | [], _, _, h, r => by
    cases h; cases r
    exact ⟨_, .nil, by simp, rfl⟩
  | (k, d) :: ds, _, _, h, r => by
    cases h with
    | cons h1 h2 =>
      cases r with
      | cons r1 r2 =>
        obtain ⟨e, r1⟩ := r1
        obtain ⟨as, q1, n1⟩ := Dq.reads I n h1 r1
        obtain ⟨bs, q2, n2, n3⟩ := DqKV.reads I n h2 r2
        refine ⟨_, .cons q1 q2, ?_, ?_⟩
        · rw [List.mem_append, not_or]
          exact ⟨n1, n2⟩
        · simp only [List.map_cons, n3]
          rw [← e]
end
end

/-! ### comparisons -/
def ordI (op : CmpOp) (i j : Int) : Option Bool := match op with
  | .Lt => some (decide (i < j))
  | .LtE => some (decide (i ≤ j))
  | .Gt => some (decide (j < i))
  | .GtE => some (decide (j ≤ i))
  | _ => none
def isI (x y : PyData) : Option Bool := match y, x with
  | .none, .none => some true
  | .none, _ => some false
  | .bool b, .bool c => some (decide (c = b))
  | _, _ => none
/-- is None, is True: of any value -/
def isD (x y : D) : Option Bool := match x, y with
  | .p a, .p b => isI a b
  | .ref _, .p .none => some false
  | _, _ => none
def intsP : List PyData → Option (List Int)
  | [] => some []
  | .int i :: r => (intsP r).map (i :: ·)
  | _ :: _ => none
theorem intsP_eq : ∀ {xs : List PyData} {ns : List Int}, intsP xs = some ns → xs = ns.map .int
  | [], ns, h => by simp [intsP] at h; subst h; rfl
  | .int i :: r, ns, h => by
    simp only [intsP] at h
    cases e : intsP r with
    | none => rw [e] at h; cases h
    | some ms =>
      rw [e] at h
      simp at h
      subst h
      rw [List.map_cons, ← intsP_eq e]
  | .none :: _, _, h => by simp [intsP] at h
  | .bool _ :: _, _, h => by simp [intsP] at h
  | .str _ :: _, _, h => by simp [intsP] at h
  | .list _ :: _, _, h => by simp [intsP] at h
  | .tuple _ :: _, _, h => by simp [intsP] at h
  | .dict _ :: _, _, h => by simp [intsP] at h
def leT (ns ms : List Int) : Bool := Ob.lexAt (fun j => decide (ns.getD j 0 = ms.getD j 0)) (fun j => decide (ns.getD j 0 ≤ ms.getD j 0)) (decide (ns.length ≤ ms.length)) 0 (min ns.length ms.length)
def tupOrd (op : CmpOp) (ns ms : List Int) : Option Bool := match op with
  | .Lt => some (HT.lexLt ns ms)
  | .LtE => some (leT ns ms)
  | _ => none
/-- x in y -/
def memI (S : Store) (x y : D) : Option Bool := match y with
  | .p (.str z) => (match x with
    | .p (.str c) => (match c.cps.toList with
      | [n] => some (decide (n ∈ z.cps.toList))
      | _ => none)
    | _ => none)
  | _ => (match dctOf S y with
    | some kvs => (match x with
      | .p a => (keyP a).map fun k => (valD kvs k).isSome
      | _ => none)
    | none => (match seqP S y, viewP S x with
      | some xs, some a => if SeqAt.shaped a = true ∧ PyData.canLayAll0 xs = true then some (xs.any fun z => PyData.eqv z a) else none
      | _, _ => none))
def eqG (S : Store) (x y : D) : Option Bool := match viewP S x, viewP S y with
  | some a, some b => if SeqAt.shaped a = true ∧ SeqAt.shaped b = true then some (PyData.eqv a b) else none
  | _, _ => none
/-- x == [], x == () -/
def eqZ (S : Store) (x y : D) : Option Bool := match y with
  | .p (.list []) => (lstOf S x).map (·.isEmpty)
  | .p (.tuple []) => (match x with
    | .p (.tuple xs) => some xs.isEmpty
    | _ => none)
  | _ => none
def eqY (S : Store) (x y : D) : Option Bool := match eqZ S x y with
  | some c => some c
  | none => eqG S x y
/-- x == y: texts by themselves, with nothing by the length, all else as data -/
def eqI (S : Store) (x y : D) : Option Bool := match x, y with
  | .p (.str a), .p (.str b) => some (decide (a = b))
  | x, y => eqY S x y
theorem eqI_cases {S : Store} {x y : D} {c : Bool} (h : eqI S x y = some c) : (∃ a b, x = .p (.str a) ∧ y = .p (.str b) ∧ c = decide (a = b)) ∨ eqZ S x y = some c ∨ eqG S x y = some c := by
  unfold eqI at h
  split at h
  · cases h
    exact .inl ⟨_, _, rfl, rfl, rfl⟩
  · unfold eqY at h
    split at h
    · rename_i q
      cases h
      exact .inr (.inl q)
    · exact .inr (.inr h)
def ordD (op : CmpOp) (x y : D) : Option Bool := match x, y with
  | .p (.int i), .p (.int j) => ordI op i j
  | .p (.tuple xs), .p (.tuple ys) => (match intsP xs, intsP ys with
    | some ns, some ms => tupOrd op ns ms
    | _, _ => none)
  | _, _ => none
def cmpI (op : CmpOp) (S : Store) (x y : D) : Option Bool := match op with
  | .Eq => eqI S x y
  | .NotEq => (eqI S x y).map (!·)
  | .Is => isD x y
  | .IsNot => (isD x y).map (!·)
  | .In => memI S x y
  | .NotIn => (memI S x y).map (!·)
  | _ => ordD op x y

section
variable {X : Cx} {pins : List (Addr × Obj)} {σ : St} {H : Hp} {s : Shared} {B : BT} {S : Store} {dx dy : D} {vx vy : V} {v u : Value} {Q : VK} {b : Bool}
theorem dq_ints {K : PySem.W.Frag} : ∀ {ns : List Int} {vs : List V}, DqAll K B H vs (ns.map .int) → vs = ns.map V.int
  | [], _, h => by cases h; rfl
  | n :: ns, _, h => by
    cases h with
    | cons h1 h2 =>
      cases h1
      rw [dq_ints h2]; rfl
theorem isI_ok {K : PySem.W.Frag} {a c : PyData} (ra : Dq K B H vx a) (rc : Dq K B H vy c) (e : isI a c = some b) : (vy = .non ∧ b = decide (vx = .non)) ∨ ∃ k l, vx = .bl k ∧ vy = .bl l ∧ b = decide (k = l) := by
  cases rc <;> cases ra <;> simp [isI] at e <;> subst e <;> first | (exact .inl ⟨rfl, by simp⟩) | exact .inr ⟨_, _, rfl, rfl, rfl⟩
theorem isD_ok {K : PySem.W.Frag} {mg : Mg} (rx : RD K mg B H dx vx) (ry : RD K mg B H dy vy) (e : isD dx dy = some b) : (vy = .non ∧ b = decide (vx = .non)) ∨ ∃ k l, vx = .bl k ∧ vy = .bl l ∧ b = decide (k = l) := by
  cases dx with
  | p a =>
    cases dy with
    | p c => exact isI_ok rx ry e
    | _ => simp [isD] at e
  | ref n =>
    cases dy with
    | p c =>
      cases c <;> simp [isD] at e
      subst e
      obtain ⟨a, _, rfl⟩ := rx
      cases ry
      exact .inl ⟨rfl, by simp⟩
    | _ => simp [isD] at e
  | _ => simp [isD] at e
theorem lt_dim {A : Around} {n m : Nat} (h : m ≤ 64) (hu : A.units + 65 < cLine) : A.units + 1 + min n m < cLine := by
  have : min n m ≤ m := Nat.min_le_right _ _
  omega
theorem shaped_depth {d : PyData} (h : SeqAt.shaped d = true) : d.canLay0 = true ∧ d.depth ≤ 64 := by
  unfold SeqAt.shaped at h
  rw [Bool.and_eq_true] at h
  exact ⟨h.1, of_decide_eq_true h.2⟩

theorem one_sign {c : Str} {n : Nat} (h : c.cps.toList = [n]) : c = ⟨#[n]⟩ := by
  obtain ⟨a⟩ := c
  have : a = #[n] := by
    apply Array.toList_inj.mp
    exact h
  rw [this]
theorem memI_ok (neg : Bool) (hu : X.A.units + 65 < cLine) (n : NoSys X) (hS : SR X.K X.mg B H S) (I : Inv X pins σ H s) (rvx : RelV vx v) (rvy : RelV vy u) (rx : RD X.K X.mg B H dx vx) (ry : RD X.K X.mg B H dy vy)
    (e : memI S dx dy = some b) (q : Q (.bl (if neg then !b else b)) H) : wpAny (model X.prog X.w) X.A (compareOp (if neg then .NotIn else .In) v u) (EP X pins σ Q) X.xe s := by
  have hu1 : X.A.units + 1 < cLine := by omega
  unfold memI at e
  split at e
  · rename_i z
    obtain rfl := dq_str ry
    split at e
    · rename_i c
      obtain rfl := dq_str rx
      split at e
      · rename_i m hm
        have := one_sign hm
        subst this
        cases e
        cases neg with
        | false => exact op_in_sign pins s σ H _ _ v u Q I rvx rvy ⟨_, _, rfl, rfl, q⟩
        | true => exact op_notIn_sign pins s σ H _ _ v u Q I rvx rvy ⟨_, _, rfl, rfl, q⟩
      · cases e
    · cases e
  · split at e
    · rename_i kvs hk
      split at e
      · rename_i a
        cases hka : keyP a with
        | none => rw [hka] at e; cases e
        | some k =>
          rw [hka] at e
          simp only [Option.map_some, Option.some.injEq] at e
          subst e
          have ea := keyP_eq hka
          subst ea
          obtain ⟨p, vs, rfl, hp, rel⟩ := dct_ok hS ry hk
          cases rvy
          have ex : vx = kV k := by
            cases k with
            | inl i => exact dq_int rx
            | inr x => exact dq_str rx
          subst ex
          have g : DGet H p (kV k) (valV vs k) := .inl ⟨vs, k, hp, rfl, rfl⟩
          have eo : (valV vs k).isSome = (valD kvs k).isSome := by
            rcases rel.val k with ⟨h1, h2⟩ | ⟨d, v, h1, h2, _⟩ <;> rw [h1, h2] <;> rfl
          cases neg with
          | false => exact d_in hu1 I g rvx fun s' I' => ⟨.bl _, H, I', rfl, by rw [eo]; exact q⟩
          | true => exact d_notIn hu1 I g rvx fun s' I' => ⟨.bl _, H, I', rfl, by rw [eo]; exact q⟩
      · cases e
    · split at e
      · rename_i xs a h1 h2
        split at e
        · rename_i hc
          cases e
          obtain ⟨ca, da⟩ := shaped_depth hc.1
          obtain ⟨p, vs, rfl, hp, hd⟩ := seqP_ok hS ry h1
          obtain ⟨as, r1, _⟩ := Dq.reads I n (view_ok hS rx h2) rvx
          cases rvy
          rcases hp with hp | hp
          · obtain ⟨its, rv, ⟨o, k, e1, e2, _, e4⟩, _⟩ := I.list hp
            obtain ⟨bs, r2, _⟩ := DqAll.reads I n hd rv
            have r3 : Reads s.heap (.ref p) (.list xs) (p :: bs) := .list e1 e2 e4 r2
            cases neg with
            | false => exact SeqAt.in_list_reads r3 r1 hc.2 ca (lt_dim da hu) ⟨.bl _, H, I, rfl, q⟩
            | true => exact SeqAt.notIn_list_reads r3 r1 hc.2 ca (lt_dim da hu) ⟨.bl _, H, I, rfl, q⟩
          · obtain ⟨its, rv, ⟨o, e1, e2, k, e4⟩, _⟩ := I.tuple hp
            obtain ⟨bs, r2, _⟩ := DqAll.reads I n hd rv
            have r3 : Reads s.heap (.ref p) (.tuple xs) bs := .tuple e1 e2 e4 r2
            cases neg with
            | false => exact SeqAt.in_tuple_reads r3 r1 hc.2 ca (lt_dim da hu) ⟨.bl _, H, I, rfl, q⟩
            | true => exact SeqAt.notIn_tuple_reads r3 r1 hc.2 ca (lt_dim da hu) ⟨.bl _, H, I, rfl, q⟩
        · cases e
      · cases e

theorem ordD_ok (op : CmpOp) (hu0 : X.A.units < cLine) (I : Inv X pins σ H s) (rvx : RelV vx v) (rvy : RelV vy u) (rx : RD X.K X.mg B H dx vx) (ry : RD X.K X.mg B H dy vy)
    (e : ordD op dx dy = some b) (q : Q (.bl b) H) : wpAny (model X.prog X.w) X.A (compareOp op v u) (EP X pins σ Q) X.xe s := by
  unfold ordD at e
  split at e
  · obtain rfl := dq_int rx
    obtain rfl := dq_int ry
    cases op <;> simp only [ordI] at e <;> cases e
    · exact op_lt pins s σ H _ _ v u Q I rvx rvy ⟨_, _, rfl, rfl, q⟩
    · exact op_le pins s σ H _ _ v u Q I rvx rvy ⟨_, _, rfl, rfl, q⟩
    · exact op_gt pins s σ H _ _ v u Q I rvx rvy ⟨_, _, rfl, rfl, q⟩
    · exact op_ge pins s σ H _ _ v u Q I rvx rvy ⟨_, _, rfl, rfl, q⟩
  · rename_i xs ys
    split at e
    · rename_i ns ms h1 h2
      have e1 := intsP_eq h1
      have e2 := intsP_eq h2
      subst e1 e2
      obtain ⟨a, vs, rfl, ha, ga⟩ := dq_tup rx
      obtain ⟨c, ws, rfl, hc, gc⟩ := dq_tup ry
      have e3 := dq_ints ga
      have e4 := dq_ints gc
      subst e3 e4
      cases op <;> simp only [tupOrd] at e <;> cases e
      · exact op_ltT hu0 pins s σ H _ _ v u Q I rvx rvy ⟨a, c, ns, ms, rfl, rfl, ha.sq, hc.sq, q⟩
      · exact op_leT hu0 pins s σ H _ _ v u Q I rvx rvy ⟨a, c, ns, ms, rfl, rfl, ha.sq, hc.sq, q⟩
    · cases e
  · cases e
theorem eqZ_ok {c : Bool} (hu : X.A.units < cLine) (hS : SR X.K X.mg B H S) (I : Inv X pins σ H s) (rvx : RelV vx v) (rvy : RelV vy u) (rx : RD X.K X.mg B H dx vx) (ry : RD X.K X.mg B H dy vy) (e : eqZ S dx dy = some c) :
    SeqAt.RcAt X.A s v u c ∧ SeqAt.RcNeAt X.A s v u (!c) := by
  unfold eqZ at e
  split at e
  · cases hx : lstOf S dx with
    | none => rw [hx] at e; cases e
    | some xs =>
      rw [hx] at e
      cases e
      obtain ⟨a, ws, rfl, ha, r2⟩ := lst_ok hS rx hx
      obtain rfl : v = Value.ref a := rvx
      obtain ⟨its, rv, pl, _⟩ := I.list (.inl ha)
      cases ry with
      | lst h1 h2 =>
        rename_i b ys
        obtain rfl : u = Value.ref b := rvy
        obtain ⟨its2, rv2, pl2, _⟩ := I.list h1.sq
        cases h2
        cases rv2
        have hl := r2.length
        have hl2 := rv.length
        cases xs with
        | nil =>
          have e0 : its = [] := List.eq_nil_of_length_eq_zero (by rw [← hl2, ← hl]; rfl)
          subst e0
          exact ⟨SeqAt.RcAt.lists (e := fun _ => true) pl.isList pl2.isList rfl hu fun j h1 => absurd h1 (by simp), SeqAt.RcNeAt.lists (e := fun _ => true) pl.isList pl2.isList rfl hu fun j h1 => absurd h1 (by simp)⟩
        | cons x xs =>
          have ne : (its.toArray.size != ([] : List Value).toArray.size) = true := by
            rw [List.length_cons] at hl
            simp only [List.size_toArray, List.length_nil, bne_iff_ne, ne_eq]
            omega
          exact ⟨SeqAt.RcAt.lists_lengths pl.isList pl2.isList ne hu, SeqAt.RcNeAt.lists_lengths pl.isList pl2.isList ne hu⟩
  · split at e
    · rename_i xs
      cases e
      obtain ⟨a, ws, rfl, h1, h2⟩ := dq_tup rx
      obtain ⟨b, ys, rfl, h3, h4⟩ := dq_tup ry
      obtain rfl : v = Value.ref a := rvx
      obtain rfl : u = Value.ref b := rvy
      obtain ⟨its, rv, pl, _⟩ := I.tuple h1.sq
      obtain ⟨its2, rv2, pl2, _⟩ := I.tuple h3.sq
      cases h4
      cases rv2
      have hl := DqAll.length h2
      have hl2 := rv.length
      have t1 := SeqAt.RcAt.tuples (A := X.A) (s := s) (l := a) (b := b) (items := its.toArray) (items2 := ([] : List Value).toArray) (e := fun _ => true) pl pl2 hu fun j h1 h2 => absurd h2 (by simp)
      have t2 := SeqAt.RcNeAt.tuples (A := X.A) (s := s) (l := a) (b := b) (items := its.toArray) (items2 := ([] : List Value).toArray) (e := fun _ => true) pl pl2 hu fun j h1 h2 => absurd h2 (by simp)
      have es : ((List.range (min its.toArray.size ([] : List Value).toArray.size)).all (fun _ => true) && its.toArray.size == ([] : List Value).toArray.size) = xs.isEmpty := by
        cases xs with
        | nil =>
          have e0 : its = [] := List.eq_nil_of_length_eq_zero (by rw [← hl2, hl]; rfl)
          subst e0
          rfl
        | cons x xs =>
          cases its with
          | nil => rw [List.length_nil, hl] at hl2; simp at hl2
          | cons i its => simp
      rw [es] at t1 t2
      exact ⟨t1, t2⟩
    · cases e
  · cases e
theorem cmpI_ok (op : CmpOp) (hu : X.A.units + 65 < cLine) (n : NoSys X) (hS : SR X.K X.mg B H S) (I : Inv X pins σ H s) (rvx : RelV vx v) (rvy : RelV vy u) (rx : RD X.K X.mg B H dx vx) (ry : RD X.K X.mg B H dy vy)
    (e : cmpI op S dx dy = some b) (q : Q (.bl b) H) : wpAny (model X.prog X.w) X.A (compareOp op v u) (EP X pins σ Q) X.xe s := by
  have hu0 : X.A.units < cLine := by omega
  have hEq : ∀ {c : Bool}, eqG S dx dy = some c → ∃ a b as bs, Reads s.heap v a as ∧ Reads s.heap u b bs ∧ SeqAt.shaped a = true ∧ SeqAt.shaped b = true ∧ c = PyData.eqv a b := fun {c} e => by
    unfold eqG at e
    split at e
    · rename_i a b h1 h2
      split at e
      · rename_i hc
        cases e
        obtain ⟨as, r1, _⟩ := Dq.reads I n (view_ok hS rx h1) rvx
        obtain ⟨bs, r2, _⟩ := Dq.reads I n (view_ok hS ry h2) rvy
        exact ⟨a, b, as, bs, r1, r2, hc.1, hc.2, rfl⟩
      · cases e
    · cases e
  cases op with
  | Eq =>
    rcases eqI_cases e with ⟨a, c, rfl, rfl, rfl⟩ | e | e
    · obtain rfl := dq_str rx
      obtain rfl := dq_str ry
      exact op_eq pins s σ H _ _ v u Q I rvx rvy ⟨rfl, by rw [show decide (V.str a = V.str c) = decide (a = c) from decide_eq_decide.mpr ⟨fun z => V.str.inj z, fun z => by rw [z]⟩]; exact q⟩
    · exact (eqZ_ok hu0 hS I rvx rvy rx ry e).1 _ _ _ _ ⟨.bl _, H, I, rfl, q⟩
    obtain ⟨a, c, as, bs, r1, r2, s1, s2, rfl⟩ := hEq e
    exact SeqAt.compareEq_shaped r1 r2 s1 s2 (by omega) ⟨.bl _, H, I, rfl, q⟩
  | NotEq =>
    simp only [cmpI] at e
    cases e' : eqI S dx dy with
    | none => rw [e'] at e; cases e
    | some c =>
      rw [e'] at e
      cases e
      rcases eqI_cases e' with ⟨a, d, rfl, rfl, rfl⟩ | e' | e'
      · obtain rfl := dq_str rx
        obtain rfl := dq_str ry
        exact op_ne pins s σ H _ _ v u Q I rvx rvy ⟨rfl, by rw [show decide (V.str a = V.str d) = decide (a = d) from decide_eq_decide.mpr ⟨fun z => V.str.inj z, fun z => by rw [z]⟩]; exact q⟩
      · exact (eqZ_ok hu0 hS I rvx rvy rx ry e').2 _ _ _ _ ⟨.bl _, H, I, rfl, q⟩
      obtain ⟨a, c, as, bs, r1, r2, s1, s2, rfl⟩ := hEq e'
      exact SeqAt.compareNe_shaped r1 r2 s1 s2 (by omega) ⟨.bl _, H, I, rfl, q⟩
  | Is =>
    rcases isD_ok rx ry e with ⟨rfl, rfl⟩ | ⟨k, l, rfl, rfl, rfl⟩
    · exact op_isN pins s σ H _ _ v u Q I rvx rvy ⟨rfl, q⟩
    · exact op_isBl pins s σ H _ _ v u Q I rvx rvy ⟨_, _, rfl, rfl, q⟩
  | IsNot =>
    simp only [cmpI] at e
    cases e' : isD dx dy with
    | none => rw [e'] at e; cases e
    | some c =>
      rw [e'] at e
      cases e
      rcases isD_ok rx ry e' with ⟨rfl, rfl⟩ | ⟨k, l, rfl, rfl, rfl⟩
      · exact op_notN pins s σ H _ _ v u Q I rvx rvy ⟨rfl, q⟩
      · exact op_notBl pins s σ H _ _ v u Q I rvx rvy ⟨_, _, rfl, rfl, q⟩
  | In => exact memI_ok false hu n hS I rvx rvy rx ry e q
  | NotIn =>
    simp only [cmpI] at e
    cases e' : memI S dx dy with
    | none => rw [e'] at e; cases e
    | some c =>
      rw [e'] at e
      cases e
      exact memI_ok true hu n hS I rvx rvy rx ry e' q
  | Lt => exact ordD_ok _ hu0 I rvx rvy rx ry e q
  | LtE => exact ordD_ok _ hu0 I rvx rvy rx ry e q
  | Gt => exact ordD_ok _ hu0 I rvx rvy rx ry e q
  | GtE => exact ordD_ok _ hu0 I rvx rvy rx ry e q
end

/-! ### subscripts -/
def atD {α : Type} (xs : List α) (i : Int) : Option α := atI xs i
def ixI (S : Store) (x y : D) : Option D := match x, y with
  | .p (.tuple xs), .p (.int i) => (atI xs i).map .p
  | .p (.str z), .p (.int i) => if z.length ≤ sizeLine then (atI z.cps.toList i).map fun c => .p (.str ⟨#[c]⟩) else none
  | _, .p y => (match dctOf S x with
    | some kvs => (keyP y).bind (valD kvs)
    | none => (match y with
      | .int i => (lstOf S x).bind fun xs => atI xs i
      | _ => none))
  | _, _ => none
/-- x[lo:hi] -/
def cutD {α : Type} (xs : List α) (lo hi : Option Int) : List α := (xs.drop (HT.sIx xs.length 0 lo)).take (HT.sIx xs.length xs.length hi - HT.sIx xs.length 0 lo)
def slI (bx : Bool) (S : Store) (x : D) (lo hi : Option Int) : Option (D × Store) := match x with
  | .p (.tuple xs) => some (.p (.tuple (cutD xs lo hi)), S)
  | .p (.str z) => if z.length ≤ sizeLine then some (.p (.str (cutS z lo hi)), S) else none
  | _ => (lstOf S x).bind fun xs => mkL bx (cutD xs lo hi) S
theorem cutV_eq (xs : List V) (lo hi : Option Int) : cutV xs lo hi = cutD xs lo hi := rfl

theorem RDs.length {K : PySem.W.Frag} {mg : Mg} {B : BT} {H : Hp} {ds : List D} {vs : List V} (h : RDs K mg B H ds vs) : ds.length = vs.length := Paired.length h
theorem RDs.at {K : PySem.W.Frag} {mg : Mg} {B : BT} {H : Hp} : ∀ {ds : List D} {vs : List V} {i : Nat} {d : D}, RDs K mg B H ds vs → ds[i]? = some d → ∃ v, vs[i]? = some v ∧ RD K mg B H d v
  | _, _, _, _, .nil, e => by simp at e
  | _, _, 0, _, .cons r _, e => by simp at e; subst e; exact ⟨_, rfl, r⟩
  | _, _, i + 1, d, .cons _ t, e => by
    obtain ⟨v, h1, h2⟩ := RDs.at (i := i) (d := d) t (by simpa using e)
    exact ⟨v, by simpa using h1, h2⟩
theorem RDs.drop {K : PySem.W.Frag} {mg : Mg} {B : BT} {H : Hp} : ∀ {ds : List D} {vs : List V} (n : Nat), RDs K mg B H ds vs → RDs K mg B H (ds.drop n) (vs.drop n)
  | _, _, 0, r => r
  | _, _, _ + 1, .nil => .nil
  | _, _, n + 1, .cons _ t => RDs.drop n t
theorem RDs.take {K : PySem.W.Frag} {mg : Mg} {B : BT} {H : Hp} : ∀ {ds : List D} {vs : List V} (n : Nat), RDs K mg B H ds vs → RDs K mg B H (ds.take n) (vs.take n)
  | _, _, 0, _ => .nil
  | _, _, _ + 1, .nil => .nil
  | _, _, n + 1, .cons r t => .cons r (RDs.take n t)
theorem RDs.cut {K : PySem.W.Frag} {mg : Mg} {B : BT} {H : Hp} {ds : List D} {vs : List V} (h : RDs K mg B H ds vs) (lo hi : Option Int) : RDs K mg B H (cutD ds lo hi) (cutV vs lo hi) := by
  rw [cutV_eq]
  unfold cutD
  rw [h.length]
  exact (h.drop _).take _
theorem RDs.atI {K : PySem.W.Frag} {mg : Mg} {B : BT} {H : Hp} {ds : List D} {vs : List V} {i : Int} {d : D} (h : RDs K mg B H ds vs) (e : atI ds i = some d) : ∃ v, L2.atI vs i = some v ∧ RD K mg B H d v := by
  unfold L2.atI at e ⊢
  rw [h.length] at e
  cases q : ixN vs.length i with
  | none => rw [q] at e; cases e
  | some j =>
    rw [q] at e
    exact h.at e
theorem atI_map {α β : Type} (f : α → β) (xs : List α) (i : Int) : L2.atI (xs.map f) i = (L2.atI xs i).map f := by
  unfold L2.atI
  rw [List.length_map]
  cases ixN xs.length i with
  | none => rfl
  | some j => simp

section
variable {X : Cx} {pins : List (Addr × Obj)} {σ : St} {H : Hp} {s : Shared} {B : BT} {S S' : Store} {d dx dy : D} {vx vy : V} {v u : Value} {Q : VK}
/-- any subscript, by values -/
def rIxA (K : PySem.W.Frag) : R2 := fun x y H Q => rIx K x y H Q ∨ ∃ a v, x = .ref a ∧ DGet H a y (some v) ∧ Q v H
theorem ix_any (hu : X.A.units + 1 < cLine) : IxR X (rIxA X.K) := by
  intro value slice pins s σ H x y v u Q I rx ry h hs
  rcases h with h | ⟨a, w, rfl, g, q⟩
  · exact ix_seq value slice pins s σ H x y v u Q I rx ry h hs
  · cases rx
    exact PyProof.Rows.tail_any (dict_typeIs I g) PySem.F.slot_dict_getitem.lookup (d_getItem hu I g ry fun w' s3 I3 rw' => ⟨w, H, I3, rw', q⟩) hs
theorem ixI_ok (hS : SR X.K X.mg B H S) (rx : RD X.K X.mg B H dx vx) (ry : RD X.K X.mg B H dy vy) (e : ixI S dx dy = some d) (q : Post X.K X.mg B H d S Q) : rIxA X.K vx vy H Q := by
  unfold ixI at e
  split at e
  · rename_i xs i
    obtain ⟨a, vs, rfl, ha, ga⟩ := dq_tup rx
    obtain rfl := dq_int ry
    cases h : L2.atI xs i with
    | none => rw [h] at e; cases e
    | some z =>
      rw [h] at e
      cases e
      have r := dqAll_map (mg := X.mg).mp ga
      obtain ⟨w, h1, h2⟩ := RDs.atI (i := i) (d := .p z) r (by rw [atI_map, h]; rfl)
      exact .inl (.inr (.inl ⟨a, vs, i, w, rfl, rfl, ha.sq, h1, q.same hS h2⟩))
  · rename_i z i
    obtain rfl := dq_str rx
    obtain rfl := dq_int ry
    split at e
    · rename_i hz
      cases h : L2.atI z.cps.toList i with
      | none => rw [h] at e; cases e
      | some c =>
        rw [h] at e
        cases e
        exact .inl (.inr (.inr ⟨z, i, c, rfl, rfl, hz, h, q.same hS (.str _)⟩))
    · cases e
  · rename_i y _ _
    split at e
    · rename_i kvs hk
      obtain ⟨a, vs, rfl, ha, rel⟩ := dct_ok hS rx hk
      cases h : keyP y with
      | none => rw [h] at e; cases e
      | some k =>
        rw [h] at e
        have ey := keyP_eq h
        subst ey
        have ex : vy = kV k := by
          cases k with
          | inl i => exact dq_int ry
          | inr x => exact dq_str ry
        subst ex
        rcases rel.val k with ⟨h1, h2⟩ | ⟨d', w, h1, h2, h3⟩
        · rw [Option.bind_some, h1] at e
          cases e
        · rw [Option.bind_some, h1] at e
          cases e
          exact .inr ⟨a, w, rfl, .inl ⟨vs, k, ha, rfl, h2.symm⟩, q.same hS h3⟩
    · split at e
      · rename_i hne i hk
        obtain rfl := dq_int ry
        cases h : lstOf S dx with
        | none => rw [h] at e; cases e
        | some xs =>
          rw [h] at e
          obtain ⟨a, vs, rfl, ha, r⟩ := lst_ok hS rx h
          obtain ⟨w, h1, h2⟩ := RDs.atI r e
          exact .inl (.inl ⟨a, vs, _, w, rfl, rfl, .inl ha, h1, q.same hS h2⟩)
      · cases e
  · cases e
/-- any slice, by values -/
def rSlAny (K : PySem.W.Frag) : V → Option Int → Option Int → Hp → VK → Prop := fun x lo hi H Q => rSlL K x lo hi H Q ∨ (rSlA K x lo hi H Q ∨ rSlS x lo hi H Q)
theorem sl_any : SlR X (rSlAny X.K) := sl_list.or (sl_tupA.or sl_str)
theorem DqAll.cut {K : PySem.W.Frag} {ds : List PyData} {vs : List V} (h : DqAll K B H vs ds) (lo hi : Option Int) : DqAll K B H (cutV vs lo hi) (cutD ds lo hi) := by
  have r := RDs.cut (dqAll_map (mg := fun _ => none).mp h) lo hi
  have e : cutD (ds.map D.p) lo hi = (cutD ds lo hi).map D.p := by
    unfold cutD
    rw [List.length_map, List.map_take, List.map_drop]
  rw [e] at r
  exact dqAll_map.mpr r
theorem whole_cut {α : Type} {xs : List α} {lo hi : Option Int} (h : HT.sIx xs.length 0 lo = 0 ∧ HT.sIx xs.length xs.length hi = xs.length) : cutD xs lo hi = xs := by
  unfold cutD
  rw [h.1, h.2]
  simp
theorem slI_ok (bx : Bool) {lo hi : Option Int} (hS : SR X.K X.mg B H S) (rx : RD X.K X.mg B H dx vx) (e : slI bx S dx lo hi = some (d, S')) (q : Post X.K X.mg B H d S' Q) : rSlAny X.K vx lo hi H Q := by
  unfold slI at e
  split at e
  · rename_i xs
    obtain ⟨a, vs, rfl, ha, ga⟩ := dq_tup rx
    cases e
    have hl := ga.length
    refine .inr (.inl ⟨a, vs, rfl, ha.sq, fun hw => ?_, fun _ p hp => ?_⟩)
    · rw [hl] at hw
      rw [whole_cut hw] at q
      exact q.same hS rx
    · have x := hS.ext_new hp (.tup (cutV vs lo hi))
      exact q B _ _ x (hS.new hp _) (.tup (.inl ⟨.inl upd_same, hS.fresh hp⟩) (DqAll.ext x (ga.cut lo hi)))
  · rename_i z
    obtain rfl := dq_str rx
    split at e
    · rename_i hz
      cases e
      exact .inr (.inr ⟨z, rfl, hz, q.same hS (.str _)⟩)
    · cases e
  · cases h : lstOf S dx with
    | none => rw [h] at e; cases e
    | some xs =>
      rw [h] at e
      obtain ⟨a, vs, rfl, ha, r⟩ := lst_ok hS rx h
      refine .inl ⟨a, vs, rfl, .inl ha, fun p hp => ?_⟩
      obtain ⟨_, B', x1, x2, x3⟩ := mkL_ok hS (r.cut lo hi) e hp
      exact q B' _ _ x1 x2 x3
end
end PI
set_option maxHeartbeats 1000000
/-! Own text: built-in functions and methods of the small language. -/
namespace PI
open PySem L2

abbrev BF := Store → List D → Option (D × Store)
/-- a built-in, by values: what f says is what the model does -/
def BR (X : Cx) (val : Value) (f : BF) : Prop :=
  ∀ (pins : List (Addr × Obj)) (s : Shared) (σ : St) (H : Hp) (B : BT) (S : Store) (ds : List D) (d : D) (S' : Store) (vs : List V) (us : List Value) (Q : VK),
    Inv X pins σ H s → SR X.K X.mg B H S → RDs X.K X.mg B H ds vs → Vals vs us → f S ds = some (d, S') → Post X.K X.mg B H d S' Q → wpAny (model X.prog X.w) X.A (call val us) (EP X pins σ Q) X.xe s

section
variable {K : PySem.W.Frag} {mg : Mg} {B : BT} {H : Hp} {S : Store}
theorem rds_nil {vs : List V} (r : RDs K mg B H [] vs) : vs = [] := by cases r; rfl
theorem rds1 {d : D} {vs : List V} (r : RDs K mg B H [d] vs) : ∃ v, vs = [v] ∧ RD K mg B H d v := by
  cases r with
  | cons h t => cases t; exact ⟨_, rfl, h⟩
theorem rds2 {d e : D} {vs : List V} (r : RDs K mg B H [d, e] vs) : ∃ v w, vs = [v, w] ∧ RD K mg B H d v ∧ RD K mg B H e w := by
  cases r with
  | cons h t =>
    obtain ⟨w, rfl, h2⟩ := rds1 t
    exact ⟨_, w, rfl, h, h2⟩
/-- list or tuple, its items as values -/
def seqD (S : Store) : D → Option (List D)
  | .p (.tuple xs) => some (xs.map .p)
  | d => lstOf S d
theorem seqD_ok (h : SR K mg B H S) {d : D} {v : V} {xs : List D} (r : RD K mg B H d v) (e : seqD S d = some xs) : ∃ a vs, v = .ref a ∧ (SqL K H a vs ∨ SqT K H a vs) ∧ RDs K mg B H xs vs := by
  have go : lstOf S d = some xs → ∃ a vs, v = .ref a ∧ (SqL K H a vs ∨ SqT K H a vs) ∧ RDs K mg B H xs vs := fun e => by
    obtain ⟨a, vs, rfl, h1, h2⟩ := lst_ok h r e
    exact ⟨a, vs, rfl, .inl (.inl h1), h2⟩
  cases d with
  | p x =>
    cases x with
    | tuple ys =>
      simp only [seqD, Option.some.injEq] at e
      subst e
      obtain ⟨a, vs, rfl, h1, h2⟩ := dq_tup r
      exact ⟨a, vs, rfl, .inr h1.sq, dqAll_map.mp h2⟩
    | _ => exact go e
  | _ => exact go e
end

/-! ### len, int, str, bool, max, min -/
def bLen : BF := fun S ds => match ds with
  | [.p (.str z)] => if z.length ≤ sizeLine then some (.p (.int z.length), S) else none
  | [x] => (match dctOf S x with
    | some kvs => some (.p (.int kvs.length), S)
    | none => (seqD S x).map fun xs => (.p (.int xs.length), S))
  | _ => none
theorem RKV.length {K : PySem.W.Frag} {mg : Mg} {B : BT} {H : Hp} {a : List (Key × D)} {b : List (Key × V)} (r : RKV K mg B H a b) : a.length = b.length := Paired.length r
theorem len_ok {X : Cx} : BR X (.builtin "len") bLen := by
  intro pins s σ H B S ds d S' vs us Q I hS r rv e q
  unfold bLen at e
  split at e
  · rename_i z
    obtain ⟨v, rfl, h⟩ := rds1 r
    obtain rfl := dq_str h
    split at e
    · rename_i hz
      cases e
      exact call_len pins s σ H _ us Q I rv ⟨_, _, rfl, ⟨hz, rfl⟩, q.same hS (.int _)⟩
    · cases e
  · rename_i x _
    obtain ⟨v, rfl, h⟩ := rds1 r
    split at e
    · rename_i kvs hk
      cases e
      obtain ⟨a, ws, rfl, ha, rel⟩ := dct_ok hS h hk
      obtain ⟨u, rfl, ru⟩ := vals1 rv
      cases ru
      exact d_len I ha fun t s' I' => ⟨.int kvs.length, H, I', by rw [rel.length]; exact ⟨t, rfl⟩, q.same hS (.int _)⟩
    · cases hx : seqD S x with
      | none => rw [hx] at e; cases e
      | some xs =>
        rw [hx] at e
        cases e
        obtain ⟨a, ws, rfl, ha, r2⟩ := seqD_ok hS h hx
        refine call_len pins s σ H _ us Q I rv ⟨_, ws.length, rfl, ?_, ?_⟩
        · rcases ha with ha | ha
          · exact .inl ⟨ws, ha, rfl⟩
          · exact .inr ⟨ws, ha, rfl⟩
        · rw [← r2.length]
          exact q.same hS (.int _)
  · cases e
def bInt : BF := fun S ds => match ds with
  | [.p (.int i)] => some (.p (.int i), S)
  | [.p (.bool b)] => some (.p (.int (if b then 1 else 0)), S)
  | [.p (.str z)] => if z.length ≤ 640 then (intText? z).map fun n => (.p (.int n), S) else none
  | _ => none
theorem dq_bl {K : PySem.W.Frag} {B : BT} {H : Hp} {x : V} {z : Bool} (h : Dq K B H x (.bool z)) : x = .bl z := by cases h; rfl
theorem int_ok {X : Cx} : BR X (.type "int") bInt := by
  intro pins s σ H B S ds d S' vs us Q I hS r rv e q
  unfold bInt at e
  split at e
  · obtain ⟨v, rfl, h⟩ := rds1 r
    obtain rfl := dq_int h
    cases e
    exact call_int1 pins s σ H _ us Q I rv (.inl ⟨_, rfl, q.same hS (.int _)⟩)
  · obtain ⟨v, rfl, h⟩ := rds1 r
    obtain rfl := dq_bl h
    cases e
    exact call_int1 pins s σ H _ us Q I rv (.inr ⟨_, rfl, q.same hS (.int _)⟩)
  · rename_i z
    obtain ⟨v, rfl, h⟩ := rds1 r
    obtain rfl := dq_str h
    split at e
    · rename_i hz
      cases h2 : intText? z with
      | none => rw [h2] at e; cases e
      | some n =>
        rw [h2] at e
        cases e
        exact call_int_str pins s σ H _ us Q I rv ⟨z, n, rfl, h2, hz, q.same hS (.int _)⟩
    · cases e
  · cases e
def bStr : BF := fun S ds => match ds with
  | [.p (.int i)] => if i.natAbs.log2 < 1920 then some (.p (.str (toString i)), S) else none
  | _ => none
theorem str_ok {X : Cx} : BR X (.type "str") bStr := by
  intro pins s σ H B S ds d S' vs us Q I hS r rv e q
  unfold bStr at e
  split at e
  · obtain ⟨v, rfl, h⟩ := rds1 r
    obtain rfl := dq_int h
    split at e
    · rename_i hz
      cases e
      exact call_str_int pins s σ H _ us Q I rv ⟨_, rfl, hz, q.same hS (.str _)⟩
    · cases e
  · cases e
def bMax : BF := fun S ds => match ds with
  | [.p (.int i), .p (.int j)] => some (.p (.int (if j > i then j else i)), S)
  | _ => none
theorem max_ok {X : Cx} (hc : X.calm = true) : BR X (.builtin "max") bMax := by
  intro pins s σ H B S ds d S' vs us Q I hS r rv e q
  unfold bMax at e
  split at e
  · obtain ⟨v, w, rfl, h1, h2⟩ := rds2 r
    obtain rfl := dq_int h1
    obtain rfl := dq_int h2
    cases e
    exact call_max2 hc pins s σ H _ us Q I rv ⟨_, _, rfl, q.same hS (.int _)⟩
  · cases e
def bMin : BF := fun S ds => match ds with
  | [.p (.int i), .p (.int j)] => some (.p (.int (if j < i then j else i)), S)
  | _ => none
theorem min_ok {X : Cx} (hc : X.calm = true) : BR X (.builtin "min") bMin := by
  intro pins s σ H B S ds d S' vs us Q I hS r rv e q
  unfold bMin at e
  split at e
  · obtain ⟨v, w, rfl, h1, h2⟩ := rds2 r
    obtain rfl := dq_int h1
    obtain rfl := dq_int h2
    cases e
    exact call_min2 hc pins s σ H _ us Q I rv ⟨_, _, rfl, q.same hS (.int _)⟩
  · cases e

/-! ### list, tuple -/
def bList (bx : Bool) : BF := fun S ds => match ds with
  | [x] => (seqD S x).bind fun xs => mkL bx xs S
  | _ => none
theorem list_ok {X : Cx} (bx : Bool) : BR X (.type "list") (bList bx) := by
  intro pins s σ H B S ds d S' vs us Q I hS r rv e q
  unfold bList at e
  split at e
  · rename_i x
    obtain ⟨v, rfl, h⟩ := rds1 r
    cases hx : seqD S x with
    | none => rw [hx] at e; cases e
    | some xs =>
      rw [hx] at e
      obtain ⟨a, ws, rfl, ha, r2⟩ := seqD_ok hS h hx
      refine call_list_of pins s σ H _ us Q I rv ⟨a, ws, rfl, ha, fun l hl => ?_⟩
      obtain ⟨_, B', x1, x2, x3⟩ := mkL_ok hS r2 e hl
      exact q B' _ _ x1 x2 x3
  · cases e
def bTuple : BF := fun S ds => match ds with
  | [.p (.tuple xs)] => some (.p (.tuple xs), S)
  | [x] => (lstOf S x).bind fun xs => (allP xs).bind fun ys => mkT ys S
  | _ => none
theorem tuple_ok {X : Cx} : BR X (.type "tuple") bTuple := by
  intro pins s σ H B S ds d S' vs us Q I hS r rv e q
  unfold bTuple at e
  split at e
  · obtain ⟨v, rfl, h⟩ := rds1 r
    cases e
    obtain ⟨a, ws, rfl, h1, h2⟩ := dq_tup h
    exact call_tuple_of pins s σ H _ us Q I rv ⟨a, ws, rfl, .inr ⟨h1.sq, q.same hS h⟩⟩
  · rename_i x _
    obtain ⟨v, rfl, h⟩ := rds1 r
    cases hx : lstOf S x with
    | none => rw [hx] at e; cases e
    | some xs =>
      rw [hx, Option.bind_some] at e
      cases hy : allP xs with
      | none => rw [hy] at e; cases e
      | some ys =>
        rw [hy, Option.bind_some] at e
        have := allP_eq hy
        subst this
        obtain ⟨a, ws, rfl, ha, r2⟩ := lst_ok hS h hx
        refine call_tuple_of pins s σ H _ us Q I rv ⟨a, ws, rfl, .inl ⟨.inl ha, fun l hl => ?_⟩⟩
        obtain ⟨_, x1, x2, x3⟩ := mkT_ok hS (dqAll_map.mpr r2) e hl
        exact q B _ _ x1 x2 x3
  · cases e

/-! ### isinstance -/
def tnOf (S : Store) : D → Option Tn
  | .p .none => some .non
  | .p (.bool _) => some .bl
  | .p (.int _) => some .int
  | .p (.str _) => some .str
  | .p (.list _) => some .lst
  | .p (.tuple _) => some .tup
  | .p (.dict _) => some .dct
  | .ref n => match S[n]? with
    | some (.lst _) => some .lst
    | some (.dct _) => some .dct
    | _ => none
  | _ => none
def isSub (a b : Tn) : Bool := a == b || (a == .bl && b == .int) || b == .obj
def bIsi : BF := fun S ds => match ds with
  | [x, .ty t] => (tnOf S x).map fun u => (.p (.bool (isSub u t)), S)
  | _ => none
theorem kit_all (a b : Tn) : kitB a.nm b.nm = some (isSub a b) := by
  cases a <;> cases b <;> decide +kernel
theorem rd_lst {K : PySem.W.Frag} {H : Hp} {a : Addr} {xs : List V} (h : Rd H a (.lst xs)) : TyX K H (.ref a) (.type "list") := by
  rcases h with h | ⟨o, h⟩
  · exact .base (.lst h)
  · exact .base (.frz h)
theorem rd_dct {K : PySem.W.Frag} {H : Hp} {a : Addr} {xs : List (Key × V)} (h : Rd H a (.dK xs)) : TyX K H (.ref a) (.type "dict") := by
  rcases h with h | ⟨o, h⟩
  · exact .base (.dK h)
  · exact .fDict h
theorem tn_ok {K : PySem.W.Frag} {mg : Mg} {B : BT} {H : Hp} {S : Store} (h : SR K mg B H S) {d : D} {v : V} {t : Tn} (r : RD K mg B H d v) (e : tnOf S d = some t) : TyX K H v (.type t.nm) := by
  cases d with
  | p x =>
    cases x with
    | none => cases e; cases r; exact .base .non
    | bool b => cases e; cases r; exact .base (.bl b)
    | int b => cases e; cases r; exact .base (.int b)
    | str b => cases e; cases r; exact .base (.str b)
    | list b =>
      cases e
      cases r with
      | lst h1 _ => exact rd_lst h1.1
    | tuple b =>
      cases e
      obtain ⟨a, vs, rfl, h1, h2⟩ := dq_tup r
      rcases h1 with ⟨⟨h1⟩ | ⟨o, h1⟩, _⟩ | ⟨o, its, n, hk, hc, _⟩
      · rename_i h1; exact .base (.tup h1)
      · exact .fTuple h1
      · exact .kTuple hk hc
    | dict b =>
      cases e
      cases r with
      | dct h1 _ => exact rd_dct h1
  | ref n =>
    obtain ⟨a, h1, rfl⟩ := r
    simp only [tnOf] at e
    cases q : S[n]? with
    | none => rw [q] at e; cases e
    | some c =>
      rw [q] at e
      cases c with
      | lst ys =>
        cases e
        obtain ⟨vs, h2, _⟩ := h.cell n _ a q h1
        exact rd_lst (.inl h2)
      | dct ys =>
        cases e
        obtain ⟨vs, h2, _⟩ := h.cell n _ a q h1
        exact rd_dct (.inl h2)
      | dead => cases e
  | fn _ => cases e
  | ty _ => cases e
theorem isi_ok {X : Cx} : BR X (.builtin "isinstance") bIsi := by
  intro pins s σ H B S ds d S' vs us Q I hS r rv e q
  unfold bIsi at e
  split at e
  · rename_i x t
    obtain ⟨v, w, rfl, h1, h2⟩ := rds2 r
    cases ht : tnOf S x with
    | none => rw [ht] at e; cases e
    | some u =>
      rw [ht] at e
      cases e
      obtain rfl : w = .ty t.nm := h2
      exact call_isi pins s σ H _ us Q I rv ⟨v, _, _, _, isSub u t, rfl, .ty _, tn_ok hS h1 ht, kit_ty (kit_all u t), q.same hS (.bl _)⟩
  · cases e

/-! ### repr -/
def bRepr : BF := fun S ds => match ds with
  | [x] => (viewP S x).bind fun a => if a.showable = true ∧ a.depth ≤ 64 ∧ a.shown.length ≤ sizeLine then some (.p (.str a.shown), S) else none
  | _ => none
theorem repr_ok {X : Cx} (hg : X.A.guards = some []) (hu : X.A.units + 65 < cLine) (n : NoSys X) : BR X (.builtin "repr") bRepr := by
  intro pins s σ H B S ds d S' vs us Q I hS r rv e q
  unfold bRepr at e
  split at e
  · rename_i x
    obtain ⟨v, rfl, h⟩ := rds1 r
    obtain ⟨u, rfl, ru⟩ := vals1 rv
    cases hx : viewP S x with
    | none => rw [hx] at e; cases e
    | some a =>
      rw [hx, Option.bind_some] at e
      split at e
      · rename_i hc
        obtain ⟨c1, c2, c3⟩ := hc
        cases e
        have dq := view_ok hS h hx
        have fin : ∀ (h' : Heap) (t : Tok) (tk : Nat), (∀ b o, s.heap.get? b = some o → h'.get? b = some o) → EP X pins σ Q (.str a.shown t) { s with heap := h', toks := tk } :=
          fun h' t tk k => ⟨.str _, H, I.kept k, ⟨t, rfl⟩, q.same hS (.str _)⟩
        obtain ⟨as, rr, na⟩ := Dq.reads I n dq ru
        cases rr with
        | none => exact PySem.P.repr_of_none (fin _ _ _ fun _ _ z => z)
        | bool b => exact PySem.P.repr_of_bool (fin _ _ _ fun _ _ z => z)
        | int i t =>
          have hz : i.natAbs.log2 < 1920 := of_decide_eq_true c1
          exact PySem.P.repr_of_int hz (fin _ _ _ fun _ _ z => z)
        | str x t => exact PySem.P.repr_of_str (hsz := c3) (fin _ _ _ fun _ _ z => z)
        | list h1 h2 h3 h4 => exact PySem.repr_of_reads' (.list h1 h2 h3 h4) c1 (fun _ => na) hg (by omega) (fun _ _ z => z) (fun h' u tk k => fin h' u tk k) c3
        | tuple h1 h2 h3 h4 => exact PySem.repr_of_reads' (.tuple h1 h2 h3 h4) c1 (fun _ => na) hg (by omega) (fun _ _ z => z) (fun h' u tk k => fin h' u tk k) c3
        | dict h1 h2 h3 h4 h5 => exact PySem.repr_of_reads' (.dict h1 h2 h3 h4 h5) c1 (fun _ => na) hg (by omega) (fun _ _ z => z) (fun h' u tk k => fin h' u tk k) c3
      · cases e
  · cases e
end PI
set_option maxHeartbeats 1000000
/-! Own text: sorted. -/
namespace PI
open PySem PySem.Spec L2

/-- may be sorted: alike, all filled tuples or none of them a tuple, not too deep -/
def sortOk (xs : List PyData) : Bool := (xs.all fun a => xs.all fun b => PySem.W.alike a b) && ((xs.all fun a => match a with
  | .tuple (_ :: _) => true
  | _ => false) || (xs.all fun a => match a with
  | .none => false
  | .tuple _ => false
  | _ => true)) && (xs.all fun a => decide (a.depth ≤ 60))
def sortP (xs : List PyData) : List PyData := xs.mergeSort (PySem.W.dataLe false id)
theorem sortOk_of {xs : List PyData} (h : sortOk xs = true) : PySem.W.AllAlike xs ∧ PySem.W.Sortable xs ∧ ∀ d ∈ xs, d.depth ≤ 60 := by
  unfold sortOk at h
  rw [Bool.and_eq_true, Bool.and_eq_true, Bool.or_eq_true] at h
  obtain ⟨⟨h1, h2⟩, h3⟩ := h
  refine ⟨fun d hd e he => List.all_eq_true.mp (List.all_eq_true.mp h1 d hd) e he, ?_, fun d hd => of_decide_eq_true (List.all_eq_true.mp h3 d hd)⟩
  rcases h2 with h2 | h2
  · refine .inl fun d hd => ?_
    have q := List.all_eq_true.mp h2 d hd
    split at q
    · exact ⟨_, _, rfl⟩
    · cases q
  · refine .inr fun d hd => ?_
    have q := List.all_eq_true.mp h2 d hd
    split at q
    · cases q
    · cases q
    · rename_i z1 z2
      exact ⟨fun e => z1 e, fun ys e => z2 ys e⟩
section
variable {X : Cx}
/-- values, with what they stand for -/
def Std (K : PySem.W.Frag) (B : BT) (H : Hp) (u : Value) (b : V × PyData) : Prop := RelV b.1 u ∧ Dq K B H b.1 b.2
theorem std_of {K : PySem.W.Frag} {B : BT} {H : Hp} : ∀ {vs : List V} {ds : List PyData} {its : List Value}, DqAll K B H vs ds → Vals vs its → PySem.W.EachIs (Std K B H) its (vs.zip ds)
  | [], [], its, _, r => by cases r; exact .nil
  | v :: vs, d :: ds, its, h, r => by
    cases h with
    | cons h1 h2 =>
      cases r with
      | cons r1 r2 => exact .cons ⟨r1, h1⟩ (std_of h2 r2)
  | [], _ :: _, _, h, _ => by cases h
  | _ :: _, [], _, h, _ => by cases h
theorem std_back {K : PySem.W.Frag} {B : BT} {H : Hp} : ∀ {bs : List (V × PyData)} {out : List Value}, PySem.W.EachIs (Std K B H) out bs → DqAll K B H (bs.map (·.1)) (bs.map (·.2)) ∧ Vals (bs.map (·.1)) out
  | [], out, h => by cases h; exact ⟨.nil, .nil⟩
  | b :: bs, out, h => by
    cases h with
    | cons h1 h2 =>
      obtain ⟨q1, q2⟩ := std_back h2
      exact ⟨.cons h1.2 q1, .cons h1.1 q2⟩
def bSorted (bx : Bool) : BF := fun S ds => match ds with
  | [x] => (lstOf S x).bind fun xs => (allP xs).bind fun ys => if sortOk ys then mkL bx ((sortP ys).map .p) S else none
  | _ => none
theorem sorted_ok (hu : X.A.units + 65 < cLine) (n : NoSys X) (bx : Bool) : BR X (.builtin "sorted") (bSorted bx) := by
  intro pins s σ H B S ds d S' vs us Q I hS r rv e q
  unfold bSorted at e
  split at e
  · rename_i x
    obtain ⟨v, rfl, h⟩ := rds1 r
    cases hx : lstOf S x with
    | none => rw [hx] at e; cases e
    | some xs =>
      rw [hx] at e
      cases hy : allP xs with
      | none =>
        rw [show (some xs).bind (fun xs => (allP xs).bind fun ys => if sortOk ys then mkL bx ((sortP ys).map .p) S else none) = none by show (allP xs).bind _ = _; rw [hy]; rfl] at e
        cases e
      | some ys =>
        replace e : (if sortOk ys then mkL bx ((sortP ys).map .p) S else none) = some (d, S') := by
          rw [← e]
          show _ = (allP xs).bind _
          rw [hy]; rfl
        split at e
        · rename_i hok
          obtain ⟨a, ws, rfl, ha, r2⟩ := lst_ok hS h hx
          obtain rfl := allP_eq hy
          have dq : DqAll X.K B H ws ys := dqAll_map.mpr r2
          obtain ⟨its, rvl, hl, hz⟩ := I.list (.inl ha)
          obtain ⟨q1, q2, q3⟩ := sortOk_of hok
          have hlen := DqAll.length dq
          have hsnd : (ws.zip ys).map (·.2) = ys := List.map_snd_zip (by omega)
          have st := std_of dq rvl
          have rd : PySem.W.EachIs (fun v b => ∃ as, Reads s.heap v ((·.2) b) as) its (ws.zip ys) := st.mono fun u b ⟨z1, z2⟩ => by
            obtain ⟨as, r, _⟩ := Dq.reads I n z2 z1
            exact ⟨as, r⟩
          rw [Vals.ref1 rv]
          refine PySem.W.sorted_data (enc := (·.2)) hl.isList st rd (by rw [hsnd]; exact q1) (by rw [hsnd]; exact q2) (by rw [List.length_zip]; omega) (fun b hb => ?_) fun out hol ho => ?_
          · have hm : b.2 ∈ ys := by rw [← hsnd]; exact List.mem_map_of_mem hb
            have := q3 _ hm
            omega
          · obtain ⟨d1, v1⟩ := std_back ho
            have es : ((ws.zip ys).mergeSort (PySem.W.dataLe false (·.2))).map (·.2) = sortP ys := by
              unfold sortP
              refine (List.map_mergeSort (f := fun b : V × PyData => b.2) (r := PySem.W.dataLe false fun b : V × PyData => b.2) (s := PySem.W.dataLe false id) fun a _ b _ => rfl).trans ?_
              rw [hsnd]
            rw [es] at d1
            obtain ⟨ep, he'⟩ := PyProof.Rows.sortedAll_at s.heap its out.toArray
            have fr : H (s.heap.objs.size + 1) = none := I.hok.fresh (Nat.le_succ _)
            obtain ⟨hz2, B', x1, x2, x3⟩ := mkL_ok hS (dqAll_map.mp d1) e fr
            exact ⟨.ref _, upd H (s.heap.objs.size + 1) (.lst _), I.laid (t' := s.toks) (fun _ _ => PyProof.Rows.sortedAll_old) (Nat.le_succ _) ⟨hz2, out, ep, v1, he'⟩, rfl, q B' _ _ x1 x2 x3⟩
        · cases e
  · cases e
/-- a list's numbers -/
def numsOf (S : Store) (x : D) : Option (List Int) := (lstOf S x).bind fun xs => (allP xs).bind intsP
theorem numsOf_ok {K : PySem.W.Frag} {mg : Mg} {B : BT} {H : Hp} {S : Store} (hS : SR K mg B H S) {x : D} {v : V} {ns : List Int} (h : RD K mg B H x v) (e : numsOf S x = some ns) : ∃ a, v = .ref a ∧ SqL K H a (ns.map V.int) := by
  unfold numsOf at e
  cases hx : lstOf S x with
  | none => rw [hx] at e; cases e
  | some xs =>
    rw [hx] at e
    replace e : (allP xs).bind intsP = some ns := e
    cases hy : allP xs with
    | none => rw [hy] at e; cases e
    | some ys =>
      rw [hy] at e
      replace e : intsP ys = some ns := e
      obtain ⟨a, ws, rfl, ha, r2⟩ := lst_ok hS h hx
      obtain rfl := allP_eq hy
      obtain rfl := intsP_eq e
      have dq : DqAll K B H ws (ns.map .int) := dqAll_map.mpr r2
      have := dq_ints dq
      subst this
      exact ⟨a, rfl, .inl ha⟩
def bSum : BF := fun S ds => match ds with
  | [x] => (numsOf S x).map fun ns => (.p (.int ns.sum), S)
  | _ => none
theorem sum_ok {X : Cx} (hc : X.calm = true) : BR X (.builtin "sum") bSum := by
  intro pins s σ H B S ds d S' vs us Q I hS r rv e q
  unfold bSum at e
  split at e
  · rename_i x
    obtain ⟨v, rfl, h⟩ := rds1 r
    cases hx : numsOf S x with
    | none => rw [hx] at e; cases e
    | some ns =>
      rw [hx] at e
      cases e
      obtain ⟨a, rfl, hl⟩ := numsOf_ok hS h hx
      exact cr_sum hc pins s σ H _ us Q I rv ⟨a, ns, rfl, hl, q.same hS (.int _)⟩
  · cases e
def bBool : BF := fun S ds => match ds with
  | [.p (.int i)] => some (.p (.bool (i != 0)), S)
  | [.p (.bool b)] => some (.p (.bool b), S)
  | _ => none
theorem bool_ok {X : Cx} : BR X (.type "bool") bBool := by
  intro pins s σ H B S ds d S' vs us Q I hS r rv e q
  unfold bBool at e
  split at e
  · obtain ⟨v, rfl, h⟩ := rds1 r
    cases e
    obtain rfl := dq_int h
    exact call_bool1 pins s σ H _ us Q I rv (.inl ⟨_, rfl, q.same hS (.bl _)⟩)
  · obtain ⟨v, rfl, h⟩ := rds1 r
    cases e
    obtain rfl := dq_bl h
    exact call_bool1 pins s σ H _ us Q I rv (.inr ⟨_, rfl, q.same hS (.bl _)⟩)
  · cases e
end
end PI
set_option maxHeartbeats 1000000
/-! Own text: methods of built-in objects; the names of built-ins. -/
namespace PI
open PySem L2

def blsP : List D → Option (List Bool)
  | [] => some []
  | .p (.bool b) :: r => (blsP r).map (b :: ·)
  | _ :: _ => none
theorem blsP_ok {K : PySem.W.Frag} {mg : Mg} {B : BT} {H : Hp} : ∀ {xs : List D} {bs : List Bool} {vs : List V}, blsP xs = some bs → RDs K mg B H xs vs → vs = bs.map V.bl
  | [], bs, _, h, r => by simp [blsP] at h; subst h; cases r; rfl
  | x :: r, bs, _, h, .cons h1 h2 => by
    cases x with
    | p y =>
      cases y with
      | bool b =>
        simp only [blsP] at h
        cases e : blsP r with
        | none => rw [e] at h; cases h
        | some ms =>
          rw [e] at h
          simp at h
          subst h
          cases h1
          rw [blsP_ok e h2]; rfl
      | _ => simp [blsP] at h
    | _ => simp [blsP] at h
def bAny : BF := fun S ds => match ds with
  | [x] => (lstOf S x).bind fun xs => (blsP xs).map fun bs => (.p (.bool (bs.any id)), S)
  | _ => none
def bAll : BF := fun S ds => match ds with
  | [x] => (lstOf S x).bind fun xs => (blsP xs).map fun bs => (.p (.bool (bs.all id)), S)
  | _ => none
theorem any_ok {X : Cx} (hc : X.calm = true) : BR X (.builtin "any") bAny := by
  intro pins s σ H B S ds d S' vs us Q I hS r rv e q
  unfold bAny at e
  split at e
  · rename_i x
    obtain ⟨v, rfl, h⟩ := rds1 r
    cases hx : lstOf S x with
    | none => rw [hx] at e; cases e
    | some xs =>
      rw [hx, Option.bind_some] at e
      cases hb : blsP xs with
      | none => rw [hb] at e; cases e
      | some bs =>
        rw [hb] at e
        cases e
        obtain ⟨a, ws, rfl, ha, r2⟩ := lst_ok hS h hx
        have := blsP_ok hb r2
        subst this
        exact cr_any hc pins s σ H _ us Q I rv ⟨a, bs, rfl, .inl ha, q.same hS (.bl _)⟩
  · cases e
theorem all_ok {X : Cx} (hc : X.calm = true) : BR X (.builtin "all") bAll := by
  intro pins s σ H B S ds d S' vs us Q I hS r rv e q
  unfold bAll at e
  split at e
  · rename_i x
    obtain ⟨v, rfl, h⟩ := rds1 r
    cases hx : lstOf S x with
    | none => rw [hx] at e; cases e
    | some xs =>
      rw [hx, Option.bind_some] at e
      cases hb : blsP xs with
      | none => rw [hb] at e; cases e
      | some bs =>
        rw [hb] at e
        cases e
        obtain ⟨a, ws, rfl, ha, r2⟩ := lst_ok hS h hx
        have := blsP_ok hb r2
        subst this
        exact cr_all hc pins s σ H _ us Q I rv ⟨a, bs, rfl, .inl ha, q.same hS (.bl _)⟩
  · cases e

/-! ### the built-ins by name -/
structure BK (X : Cx) : Prop where
  calm : X.calm = true
  gd : X.A.guards = some []
  hu : X.A.units + 65 < cLine
  sys : NoSys X
def IsB (v : Value) : Prop := (∃ id, v = .builtin id) ∨ ∃ T, v = .type T
/-- more of them -/
def bltF2 (bx : Bool) (x : Str) : Option BF :=
  if x = "sorted" then some (bSorted bx) else if x = "sum" then some bSum else if x = "bool" then some bBool else none
theorem blt2_ok {X : Cx} (h : BK X) {bx : Bool} {x : Str} {f : BF} (e : bltF2 bx x = some f) : ∃ v, bootBuiltins x = some v ∧ IsB v ∧ x ≠ "__name__" ∧ (x == ("__debug__" : Str)) = false ∧ BR X v f := by
  unfold bltF2 at e
  repeat' split at e
  all_goals first | (rename_i hx; cases e; subst hx) | (cases e)
  case _ => exact ⟨.builtin "sorted", by decide +kernel, .inl ⟨_, rfl⟩, by decide, by decide, sorted_ok h.hu h.sys bx⟩
  case _ => exact ⟨.builtin "sum", by decide +kernel, .inl ⟨_, rfl⟩, by decide, by decide, sum_ok h.calm⟩
  case _ => exact ⟨.type "bool", by decide +kernel, .inr ⟨_, rfl⟩, by decide, by decide, bool_ok⟩
def bltF (bx : Bool) (x : Str) : Option BF :=
  if x = "len" then some bLen else if x = "int" then some bInt else if x = "str" then some bStr else if x = "max" then some bMax else if x = "min" then some bMin else
  if x = "list" then some (bList bx) else if x = "tuple" then some bTuple else if x = "isinstance" then some bIsi else if x = "repr" then some bRepr else
  if x = "any" then some bAny else if x = "all" then some bAll else bltF2 bx x
/-- the value that a built-in's name has -/
theorem blt_ok {X : Cx} (h : BK X) {bx : Bool} {x : Str} {f : BF} (e : bltF bx x = some f) : ∃ v, bootBuiltins x = some v ∧ IsB v ∧ x ≠ "__name__" ∧ (x == ("__debug__" : Str)) = false ∧ BR X v f := by
  unfold bltF at e
  repeat' split at e
  all_goals first | (rename_i hx; cases e; subst hx) | (cases e) | exact blt2_ok h e
  case _ => exact ⟨.builtin "len", by decide +kernel, .inl ⟨_, rfl⟩, by decide, by decide, len_ok⟩
  case _ => exact ⟨.type "int", by decide +kernel, .inr ⟨_, rfl⟩, by decide, by decide, int_ok⟩
  case _ => exact ⟨.type "str", by decide +kernel, .inr ⟨_, rfl⟩, by decide, by decide, str_ok⟩
  case _ => exact ⟨.builtin "max", by decide +kernel, .inl ⟨_, rfl⟩, by decide, by decide, max_ok h.calm⟩
  case _ => exact ⟨.builtin "min", by decide +kernel, .inl ⟨_, rfl⟩, by decide, by decide, min_ok h.calm⟩
  case _ => exact ⟨.type "list", by decide +kernel, .inr ⟨_, rfl⟩, by decide, by decide, list_ok bx⟩
  case _ => exact ⟨.type "tuple", by decide +kernel, .inr ⟨_, rfl⟩, by decide, by decide, tuple_ok⟩
  case _ => exact ⟨.builtin "isinstance", by decide +kernel, .inl ⟨_, rfl⟩, by decide, by decide, isi_ok⟩
  case _ => exact ⟨.builtin "repr", by decide +kernel, .inl ⟨_, rfl⟩, by decide, by decide, repr_ok h.gd h.hu h.sys⟩
  case _ => exact ⟨.builtin "any", by decide +kernel, .inl ⟨_, rfl⟩, by decide, by decide, any_ok h.calm⟩
  case _ => exact ⟨.builtin "all", by decide +kernel, .inl ⟨_, rfl⟩, by decide, by decide, all_ok h.calm⟩
/-- built-in classes as values -/
def tyF (x : Str) : Option Tn :=
  if x = "int" then some .int else if x = "bool" then some .bl else if x = "str" then some .str else if x = "list" then some .lst else if x = "tuple" then some .tup else if x = "dict" then some .dct else none
theorem ty_ok {x : Str} {t : Tn} (e : tyF x = some t) : bootBuiltins x = some (.type t.nm) ∧ x ≠ "__name__" ∧ (x == ("__debug__" : Str)) = false := by
  unfold tyF at e
  repeat' split at e
  all_goals first | (rename_i hx; cases e; subst hx; exact ⟨by decide +kernel, by decide, by decide⟩) | (cases e)

/-! ### methods -/
abbrev MF := Store → D → List D → Option (D × Store)
/-- a method of the built-in class T by values -/
def MtS (X : Cx) (T : Tn) (name : Str) (f : MF) : Prop := ∃ id, PlainAttrs T.nm ∧ Slot T.nm name id ∧ typeOf (.builtin id) = pure (.type "method_descriptor") ∧
  ∀ (pins : List (Addr × Obj)) (s : Shared) (σ : St) (H : Hp) (B : BT) (S : Store) (dx : D) (ds : List D) (d : D) (S' : Store) (vx : V) (vs : List V) (v : Value) (us : List Value) (Q : VK),
    Inv X pins σ H s → SR X.K X.mg B H S → RD X.K X.mg B H dx vx → RDs X.K X.mg B H ds vs → RelV vx v → Vals vs us → f S dx ds = some (d, S') → Post X.K X.mg B H d S' Q →
    wpAny (model X.prog X.w) X.A (call (.builtin id) (v :: us)) (EP X pins σ Q) X.xe s
def mAppend : MF := fun S x ds => match x, ds with
  | .ref n, [y] => (match S[n]? with
    | some (.lst xs) => if xs.length < sizeLine then some (.p .none, S.set n (.lst (xs ++ [y]))) else none
    | _ => none)
  | _, _ => none
theorem append_ok {X : Cx} : MtS X .lst "append" mAppend := by
  refine ⟨_, PySem.F.plainAttrs_list, PySem.F.slot_list_append, PySem.F.type_list_append, ?_⟩
  intro pins s σ H B S dx ds d S' vx vs v us Q I hS rx r rvx rv e q
  unfold mAppend at e
  split at e
  · rename_i n y
    obtain ⟨a, ha, rfl⟩ := rx
    obtain ⟨w, rfl, ry⟩ := rds1 r
    split at e
    · rename_i xs hx
      split at e
      · rename_i hz
        cases e
        obtain ⟨ws, h1, h2⟩ := hS.cell n _ a hx ha
        refine mt_append pins s σ H _ _ v us Q I rvx rv ⟨a, ws, w, rfl, rfl, h1, by rw [← h2.length]; exact hz, ?_⟩
        have x := hS.ext_write ha (.lst (ws ++ [w]))
        exact q B _ .non x (hS.write ha ⟨_, upd_same, RDs.ext x (h2.append (.cons ry .nil))⟩) .non
      · cases e
    · cases e
  · cases e
def mPop : MF := fun S x ds => match x, ds with
  | .ref n, [] => (match S[n]? with
    | some (.lst xs) => (xs[xs.length - 1]?).map fun y => (y, S.set n (.lst xs.dropLast))
    | _ => none)
  | .ref n, [.p (.int i)] => (match S[n]? with
    | some (.lst xs) => if -(2 ^ 63) ≤ i ∧ i < 2 ^ 63 then (match seqIndex? i xs.length with
      | some k => (xs[k]?).map fun y => (y, S.set n (.lst (xs.eraseIdx k)))
      | none => none) else none
    | _ => none)
  | _, _ => none
theorem RDs.dropLast {K : PySem.W.Frag} {mg : Mg} {B : BT} {H : Hp} {ds : List D} {vs : List V} (h : RDs K mg B H ds vs) : RDs K mg B H ds.dropLast vs.dropLast := by
  rw [List.dropLast_eq_take, List.dropLast_eq_take, h.length]
  exact h.take _
theorem RDs.erase {K : PySem.W.Frag} {mg : Mg} {B : BT} {H : Hp} : ∀ {ds : List D} {vs : List V} (i : Nat), RDs K mg B H ds vs → RDs K mg B H (ds.eraseIdx i) (vs.eraseIdx i)
  | _, _, _, .nil => .nil
  | _, _, 0, .cons _ t => t
  | _, _, i + 1, .cons q t => .cons q (RDs.erase i t)
theorem pop_ok {X : Cx} : MtS X .lst "pop" mPop := by
  refine ⟨_, PySem.F.plainAttrs_list, PySem.F.slot_list_pop, PySem.F.type_list_pop, ?_⟩
  intro pins s σ H B S dx ds d S' vx vs v us Q I hS rx r rvx rv e q
  unfold mPop at e
  split at e
  · rename_i n
    obtain ⟨a, ha, rfl⟩ := rx
    obtain rfl := rds_nil r
    split at e
    · rename_i xs hx
      obtain ⟨ws, h1, h2⟩ := hS.cell n _ a hx ha
      cases hy : xs[xs.length - 1]? with
      | none => rw [hy] at e; cases e
      | some y =>
        rw [hy] at e
        cases e
        obtain ⟨w, hw, ry⟩ := h2.at hy
        refine mt_pop pins s σ H _ _ v us Q I rvx rv ⟨a, ws, w, rfl, rfl, h1, by rw [← h2.length]; exact hw, ?_⟩
        have x := hS.ext_write ha (.lst ws.dropLast)
        exact q B _ w x (hS.write ha ⟨_, upd_same, RDs.ext x h2.dropLast⟩) (RD.ext x ry)
    · cases e
  · rename_i n i
    obtain ⟨a, ha, rfl⟩ := rx
    obtain ⟨w0, rfl, ri⟩ := rds1 r
    obtain rfl := dq_int ri
    split at e
    · rename_i xs hx
      obtain ⟨ws, h1, h2⟩ := hS.cell n _ a hx ha
      split at e
      · rename_i hc
        split at e
        · rename_i k hk
          cases hy : xs[k]? with
          | none => rw [hy] at e; cases e
          | some y =>
            rw [hy] at e
            cases e
            obtain ⟨w, hw, ry⟩ := h2.at hy
            refine mt_popAt pins s σ H _ _ v us Q I rvx rv ⟨a, ws, i, k, w, rfl, rfl, h1, hc.1, hc.2, by rw [← h2.length]; exact hk, hw, ?_⟩
            have x := hS.ext_write ha (.lst (ws.eraseIdx k))
            exact q B _ w x (hS.write ha ⟨_, upd_same, RDs.ext x (h2.erase k)⟩) (RD.ext x ry)
        · cases e
      · cases e
    · cases e
  · cases e
def mUpper : MF := fun S x ds => match x, ds with
  | .p (.str z), [] => if z.length ≤ 5592405 then some (.p (.str (Txt.upper z)), S) else none
  | _, _ => none
theorem upper_ok {X : Cx} : MtS X .str "upper" mUpper := by
  refine ⟨_, PySem.F.plainAttrs_str, PySem.F.slot_str_upper, PySem.F.type_str_upper, ?_⟩
  intro pins s σ H B S dx ds d S' vx vs v us Q I hS rx r rvx rv e q
  unfold mUpper at e
  split at e
  · obtain rfl := dq_str rx
    obtain rfl := rds_nil r
    split at e
    · rename_i hz
      cases e
      exact mt_upper pins s σ H _ _ v us Q I rvx rv ⟨_, rfl, rfl, hz, q.same hS (.str _)⟩
    · cases e
  · cases e
def mGet : MF := fun S x ds => match ds with
  | [.p k] => (match dctOf S x, keyP k with
    | some kvs, some k' => some ((valD kvs k').getD (.p .none), S)
    | _, _ => none)
  | [.p k, z] => (match dctOf S x, keyP k with
    | some kvs, some k' => some ((valD kvs k').getD z, S)
    | _, _ => none)
  | _ => none
theorem kv_dq {K : PySem.W.Frag} {B : BT} {H : Hp} {k : Key} {x : V} (h : Dq K B H x (kP k)) : x = kV k := by
  cases k with
  | inl i => exact dq_int h
  | inr s => exact dq_str h
theorem get_ok {X : Cx} (hu : X.A.units + 1 < cLine) : MtS X .dct "get" mGet := by
  refine ⟨_, PySem.F.plainAttrs_dict, PySem.F.slot_dict_get, PySem.F.type_dict_get, ?_⟩
  intro pins s σ H B S dx ds d S' vx vs v us Q I hS rx r rvx rv e q
  unfold mGet at e
  split at e
  · obtain ⟨w, rfl, ry⟩ := rds1 r
    split at e
    · rename_i kvs k' hk hk'
      cases e
      have := keyP_eq hk'
      subst this
      obtain rfl := kv_dq ry
      obtain ⟨a, ws, rfl, ha, rel⟩ := dct_ok hS rx hk
      cases rvx
      obtain ⟨u, rfl, ru⟩ := vals1 rv
      have g : DGet H a (kV k') (valV ws k') := .inl ⟨ws, k', ha, rfl, rfl⟩
      refine d_get1 hu I g ru fun w' s' I' rw' => ⟨_, H, I', rw', ?_⟩
      rcases rel.val k' with ⟨h1, h2⟩ | ⟨d', v', h1, h2, h3⟩
      · rw [h1] at q
        rw [h2]
        exact q.same hS (.non)
      · rw [h1] at q
        rw [h2]
        exact q.same hS h3
    · cases e
  · rename_i z
    obtain ⟨w, w2, rfl, ry, rz⟩ := rds2 r
    split at e
    · rename_i kvs k' hk hk'
      cases e
      have := keyP_eq hk'
      subst this
      obtain rfl := kv_dq ry
      obtain ⟨a, ws, rfl, ha, rel⟩ := dct_ok hS rx hk
      cases rvx
      obtain ⟨u, u2, rfl, ru, ru2⟩ := vals2 rv
      have g : DGet H a (kV k') (valV ws k') := .inl ⟨ws, k', ha, rfl, rfl⟩
      refine d_get2 hu I g ru ru2 fun w' s' I' rw' => ⟨_, H, I', rw', ?_⟩
      rcases rel.val k' with ⟨h1, h2⟩ | ⟨d', v', h1, h2, h3⟩
      · rw [h1] at q
        rw [h2]
        exact q.same hS rz
      · rw [h1] at q
        rw [h2]
        exact q.same hS h3
    · cases e
  · cases e
def metF (t : Tn) (x : Str) : Option MF := match t with
  | .lst => if x = "append" then some mAppend else if x = "pop" then some mPop else none
  | .str => if x = "upper" then some mUpper else none
  | .dct => if x = "get" then some mGet else none
  | _ => none
theorem met_ok {X : Cx} (h : BK X) {t : Tn} {x : Str} {f : MF} (e : metF t x = some f) : MtS X t x f := by
  have hu : X.A.units + 1 < cLine := by have := h.hu; omega
  cases t <;> simp only [metF] at e
  all_goals repeat' split at e
  all_goals first | (rename_i hx; cases e; subst hx) | (cases e)
  · exact upper_ok
  · exact append_ok
  · exact pop_ok
  · exact get_ok hu
end PI
set_option maxHeartbeats 1000000
/-! Own text: what a piece of syntax means (M ..), and that the model does it: expressions. -/
namespace PI
open PySem PySem.Spec L2
open PyProof.Rows hiding St

/-! ### meanings put together -/
def mC (d : D) : M := fun _ S => some (d, S)
def mV (i : Nat) : M := fun ev S => match ev[i]? with
  | some (some d) => some (d, S)
  | _ => none
def mNo : M := fun _ _ => none
def mBin (bx : Bool) (op : Operator) (a b : M) : M := fun ev S => (a ev S).bind fun r => (b ev r.2).bind fun t => binI bx op t.2 r.1 t.1
def mCmp (op : CmpOp) (a b : M) : M := fun ev S => (a ev S).bind fun r => (b ev r.2).bind fun t => (cmpI op t.2 r.1 t.1).map fun c => (.p (.bool c), t.2)
def mChain (op op' : CmpOp) (a b c : M) : M := fun ev S => (a ev S).bind fun r => (b ev r.2).bind fun t => (cmpI op t.2 r.1 t.1).bind fun k =>
  if k then (c ev t.2).bind fun q => (cmpI op' q.2 t.1 q.1).map fun z => (.p (.bool z), q.2) else some (.p (.bool false), t.2)
def mNot (a : M) : M := fun ev S => (a ev S).bind fun r => (isTru r.1).map fun b => (.p (.bool (!b)), r.2)
def mAnd (a b : M) : M := fun ev S => (a ev S).bind fun r => (isTru r.1).bind fun k => if k then b ev r.2 else some (.p (.bool false), r.2)
def mOr (a b : M) : M := fun ev S => (a ev S).bind fun r => (isTru r.1).bind fun k => if k then some (.p (.bool true), r.2) else b ev r.2
def mIf (c a b : M) : M := fun ev S => (c ev S).bind fun r => (isTru r.1).bind fun k => if k then a ev r.2 else b ev r.2
def mNeg (a : M) : M := fun ev S => (a ev S).bind fun r => match r.1 with
  | .p (.int i) => some (.p (.int (-i)), r.2)
  | _ => none
def mNil : Ms := fun _ S => some ([], S)
def mCons (a : M) (b : Ms) : Ms := fun ev S => (a ev S).bind fun r => (b ev r.2).map fun t => (r.1 :: t.1, t.2)
def mTup (a : Ms) : M := fun ev S => (a ev S).bind fun r => (allP r.1).bind fun xs => mkT xs r.2
def mLst (bx : Bool) (a : Ms) : M := fun ev S => (a ev S).bind fun r => mkL bx r.1 r.2
def mIx (a b : M) : M := fun ev S => (a ev S).bind fun r => (b ev r.2).bind fun t => (ixI t.2 r.1 t.1).map fun d => (d, t.2)
abbrev MO := EnvI → Store → Option (Option Int × Store)
def mONone : MO := fun _ S => some (none, S)
def mOSome (a : M) : MO := fun ev S => (a ev S).bind fun r => match r.1 with
  | .p (.int i) => some (some i, r.2)
  | _ => none
def mSl (bx : Bool) (a : M) (lo hi : MO) : M := fun ev S => (a ev S).bind fun r => (lo ev r.2).bind fun l => (hi ev l.2).bind fun h => slI bx h.2 r.1 l.1 h.1
/-- x[::-1] -/
def revI (bx : Bool) (S : Store) (x : D) : Option (D × Store) := match x with
  | .p (.tuple xs) => mkT xs.reverse S
  | x => (lstOf S x).bind fun xs => mkL bx xs.reverse S
def mRev (bx : Bool) (a : M) : M := fun ev S => (a ev S).bind fun r => revI bx r.2 r.1
def mBlt (f : BF) (a : Ms) : M := fun ev S => (a ev S).bind fun r => f r.2 r.1
def mMet (x : Str) (o : M) (a : Ms) : M := fun ev S => (o ev S).bind fun r => (tnOf r.2 r.1).bind fun t => (metF t x).bind fun f => (a ev r.2).bind fun q => f q.2 r.1 q.1
def permD {α : Type} (l : List α) : List Nat → Option (List α)
  | [] => some []
  | i :: r => match l[i]?, permD l r with
    | some x, some xs => some (x :: xs)
    | _, _ => none
def mCall (cf : BF) (ix : List Nat) (a k : Ms) : M := fun ev S => (a ev S).bind fun r => (k ev r.2).bind fun t => (permD (r.1 ++ t.1) ix).bind fun full => cf t.2 full

/-! ### the model does it -/
section
variable (X : Cx)
/-- behind an expression -/
def RM (pins : List (Addr × Obj)) (σ : St) (B : BT) (H : Hp) (d : D) (S' : Store) (u : Value) (s' : Shared) : Prop :=
  ∃ v H' B', Inv X pins σ H' s' ∧ RelV v u ∧ Ext B H B' H' ∧ SR X.K X.mg B' H' S' ∧ RD X.K X.mg B' H' d v
def RMs (pins : List (Addr × Obj)) (σ : St) (B : BT) (H : Hp) (ds : List D) (S' : Store) (us : List Value) (s' : Shared) : Prop :=
  ∃ vs H' B', Inv X pins σ H' s' ∧ Vals vs us ∧ Ext B H B' H' ∧ SR X.K X.mg B' H' S' ∧ RDs X.K X.mg B' H' ds vs
def RT (pins : List (Addr × Obj)) (σ : St) (B : BT) (H : Hp) (k : Bool) (S' : Store) (b : Bool) (s' : Shared) : Prop :=
  b = k ∧ ∃ H' B', Inv X pins σ H' s' ∧ Ext B H B' H' ∧ SR X.K X.mg B' H' S'
def EM (e : Expr) (m : M) : Prop := ∀ (pins : List (Addr × Obj)) (s : Shared) (σ : St) (H : Hp) (B : BT) (ev : EnvI) (S : Store) (d : D) (S' : Store), Inv X pins σ H s → SR X.K X.mg B H S → ER X.K X.mg B H ev σ → m ev S = some (d, S') →
  wpAny (model X.prog X.w) X.A (eval e X.env) (RM X pins σ B H d S') X.xe s
def TM (e : Expr) (m : M) : Prop := ∀ (pins : List (Addr × Obj)) (s : Shared) (σ : St) (H : Hp) (B : BT) (ev : EnvI) (S : Store) (d : D) (S' : Store) (k : Bool), Inv X pins σ H s → SR X.K X.mg B H S → ER X.K X.mg B H ev σ → m ev S = some (d, S') → isTru d = some k →
  wpAny (model X.prog X.w) X.A (isTrue e X.env (eval e X.env)) (RT X pins σ B H k S') X.xe s
def AM (es : List Expr) (m : Ms) : Prop := ∀ (pos : Pos) (pins : List (Addr × Obj)) (s : Shared) (σ : St) (H : Hp) (B : BT) (ev : EnvI) (S : Store) (ds : List D) (S' : Store), Inv X pins σ H s → SR X.K X.mg B H S → ER X.K X.mg B H ev σ → m ev S = some (ds, S') →
  wpAny (model X.prog X.w) X.A (spliced (backTo pos (starEach es X.env))) (RMs X pins σ B H ds S') X.xe s
def KM (kws : List Keyword) (m : Ms) : Prop := ∀ (pos : Pos) (pins : List (Addr × Obj)) (s : Shared) (σ : St) (H : Hp) (B : BT) (ev : EnvI) (S : Store) (ds : List D) (S' : Store), Inv X pins σ H s → SR X.K X.mg B H S → ER X.K X.mg B H ev σ → m ev S = some (ds, S') →
  wpAny (model X.prog X.w) X.A (evalAll ((backToKw pos (keywordEach kws X.env)).map (·.2))) (RMs X pins σ B H ds S') X.xe s
end

section
variable {X : Cx} {a b c e : Expr} {ma mb mc : M} {pos : Pos}
theorem RM.post {pins : List (Addr × Obj)} {σ : St} {B B1 : BT} {H H1 : Hp} {d : D} {S' : Store} {u : Value} {s' : Shared} (x : Ext B H B1 H1) (h : RM X pins σ B1 H1 d S' u s') : RM X pins σ B H d S' u s' := by
  obtain ⟨v, H', B', h1, h2, h3, h4, h5⟩ := h
  exact ⟨v, H', B', h1, h2, x.trans h3, h4, h5⟩
/-- what a value must be behind: for the rules that speak of Post -/
def QM (X : Cx) (B : BT) (H : Hp) (d : D) (S' : Store) : VK := fun v H' => ∃ B', Ext B H B' H' ∧ SR X.K X.mg B' H' S' ∧ RD X.K X.mg B' H' d v
theorem post_QM {B : BT} {H : Hp} {d : D} {S' : Store} : Post X.K X.mg B H d S' (QM X B H d S') := fun B' _ _ x1 x2 x3 => ⟨B', x1, x2, x3⟩
theorem RM.of_EP {pins : List (Addr × Obj)} {σ : St} {B B1 : BT} {H H1 : Hp} {d : D} {S' : Store} {u : Value} {s' : Shared} (x : Ext B H B1 H1) (h : EP X pins σ (QM X B1 H1 d S') u s') : RM X pins σ B H d S' u s' := by
  obtain ⟨v, H', h1, h2, B', h3, h4, h5⟩ := h
  exact ⟨v, H', B', h1, h2, x.trans h3, h4, h5⟩
/-- EM as the layer's PE, and back -/
theorem EM.pe (h : EM X e ma) : PE X e (tM X.K X.mg ma) := ⟨fun pins s σ H Q I ⟨B, ev, S, d, S', hS, hE, em, q⟩ =>
  thn (h pins s σ H B ev S d S' I hS hE em) fun u s1 ⟨v, H1, B1, I1, r1, x1, S1, d1⟩ => ⟨v, H1, I1, r1, q B1 H1 v x1 S1 d1⟩⟩
theorem EM.of_pe {t : TE} (h : PE X e t) (g : ∀ σ H B ev S d S', SR X.K X.mg B H S → ER X.K X.mg B H ev σ → ma ev S = some (d, S') → t σ H (QM X B H d S')) : EM X e ma :=
  fun pins s σ H B ev S d S' I hS hE em => thn (h.run pins s σ H _ I (g σ H B ev S d S' hS hE em)) fun u s1 q => RM.of_EP hS.refl q
theorem RT.of {pins : List (Addr × Obj)} {σ : St} {B B1 : BT} {H H1 : Hp} {k : Bool} {S' : Store} {u : Bool} {s' : Shared} (x : Ext B H B1 H1) (h : RT X pins σ B1 H1 k S' u s') : RT X pins σ B H k S' u s' := by
  obtain ⟨h0, H', B', h1, h3, h4⟩ := h
  exact ⟨h0, H', B', h1, x.trans h3, h4⟩

theorem bind_some {α β : Type} {x : Option α} {f : α → Option β} {b : β} (h : x.bind f = some b) : ∃ a, x = some a ∧ f a = some b := by
  cases x with
  | none => cases h
  | some a => exact ⟨a, rfl, h⟩
theorem map_some {α β : Type} {x : Option α} {f : α → β} {b : β} (h : x.map f = some b) : ∃ a, x = some a ∧ f a = b := by
  cases x with
  | none => cases h
  | some a => exact ⟨a, rfl, Option.some.inj h⟩

theorem em_const {d : D} {v : V} (h : PE X e (tC v)) (r : ∀ B H, RD X.K X.mg B H d v) : EM X e (mC d) :=
  EM.of_pe h fun σ H B ev S d' S' hS hE em => by
    cases em
    exact ⟨B, hS.refl, hS, r B H⟩
theorem em_var {i : Nat} {x : Str} (hN : X.N[i]? = some x) (hv : Vis X.env.scope x) (hd : (x == ("__debug__" : Str)) = false) (hcd : (x == ("__classdict__" : Str)) = false) : EM X (.Name x pos) (mV i) :=
  EM.of_pe (pe_var hN hv hd hcd) fun σ H B ev S d S' hS hE em => by
    unfold mV at em
    split at em
    · rename_i d' h
      cases em
      obtain ⟨v, h1, h2⟩ := hE.at_ i _ h
      exact ⟨v, h1, B, hS.refl, hS, h2⟩
    · cases em
theorem binI_ok (bx : Bool) (op : Operator) {pins : List (Addr × Obj)} {σ : St} {H : Hp} {s : Shared} {B : BT} {S S' : Store} {d dx dy : D} {vx vy : V} {v u : Value} {Q : VK}
    (hS : SR X.K X.mg B H S) (I : Inv X pins σ H s) (rvx : RelV vx v) (rvy : RelV vy u) (rx : RD X.K X.mg B H dx vx) (ry : RD X.K X.mg B H dy vy)
    (e : binI bx op S dx dy = some (d, S')) (q : Post X.K X.mg B H d S' Q) : wpAny (model X.prog X.w) X.A (binaryOp op v u) (EP X pins σ Q) X.xe s := by
  unfold binI at e
  split at e
  · obtain rfl := dq_int rx
    obtain rfl := dq_int ry
    obtain ⟨k, h1, h2⟩ := map_some e
    cases h2
    exact intOp_ok op I rvx rvy h1 (q.same hS (.int _))
  · exact seqOp_ok bx op hS I rvx rvy rx ry e q
/-- two expressions in a row -/
theorem two (ha : EM X a ma) (hb : EM X b mb) {pins : List (Addr × Obj)} {s : Shared} {σ : St} {H : Hp} {B : BT} {ev : EnvI} {S S1 S2 : Store} {x y : D} (I : Inv X pins σ H s) (hS : SR X.K X.mg B H S) (hE : ER X.K X.mg B H ev σ)
    (e1 : ma ev S = some (x, S1)) (e2 : mb ev S1 = some (y, S2)) {α : Type} {Q : α → Shared → Prop} {f : Value → Value → Sem α}
    (hf : ∀ v u s2 vx vy H2 B2, Inv X pins σ H2 s2 → RelV vx v → RelV vy u → Ext B H B2 H2 → SR X.K X.mg B2 H2 S2 → RD X.K X.mg B2 H2 x vx → RD X.K X.mg B2 H2 y vy → wpAny (model X.prog X.w) X.A (f v u) Q X.xe s2) :
    wpAny (model X.prog X.w) X.A (eval a X.env) (fun v s₁ => wpAny (model X.prog X.w) X.A (eval b X.env) (fun u s₂ => wpAny (model X.prog X.w) X.A (f v u) Q X.xe s₂) X.xe s₁) X.xe s := by
  refine thn (ha pins s σ H B ev S x S1 I hS hE e1) fun v s1 ⟨vx, H1, B1, I1, r1, x1, hS1, d1⟩ => ?_
  refine thn (hb pins s1 σ H1 B1 ev S1 y S2 I1 hS1 (hE.ext x1) e2) fun u s2 ⟨vy, H2, B2, I2, r2, x2, hS2, d2⟩ => ?_
  exact hf v u s2 vx vy H2 B2 I2 r1 r2 (x1.trans x2) hS2 (RD.ext x2 d1) d2
theorem em_bin (bx : Bool) {op : Operator} (ha : EM X a ma) (hb : EM X b mb) : EM X (.BinOp a op b pos) (mBin bx op ma mb) := by
  intro pins s σ H B ev S d S' I hS hE em
  obtain ⟨⟨x, S1⟩, e1, em⟩ := bind_some em
  obtain ⟨⟨y, S2⟩, e2, em⟩ := bind_some em
  refine wpAny_BinOp (two ha hb I hS hE e1 e2 fun v u s2 vx vy H2 B2 I2 r1 r2 x2 hS2 d1 d2 => ?_)
  exact thn (binI_ok bx op hS2 I2 r1 r2 d1 d2 em post_QM) fun u s3 q => RM.of_EP x2 q
theorem isTru_p {d : D} {k : Bool} (h : isTru d = some k) : d = .p (.bool k) := by
  cases d with
  | p x => cases x <;> simp [isTru] at h; subst h; rfl
  | _ => cases h
theorem em_cmp (K : BK X) {op : CmpOp} (ha : EM X a ma) (hb : EM X b mb) (hm : behindInMarks op b = false) : EM X (.Compare a [op] [b] pos) (mCmp op ma mb) := by
  intro pins s σ H B ev S d S' I hS hE em
  obtain ⟨⟨x, S1⟩, e1, em⟩ := bind_some em
  obtain ⟨⟨y, S2⟩, e2, em⟩ := bind_some em
  obtain ⟨k, e3, em⟩ := map_some em
  cases em
  refine wpAny_Compare1 (two ha hb I hS hE e1 e2 fun v u s2 vx vy H2 B2 I2 r1 r2 x2 hS2 d1 d2 => ?_) hm
  exact thn (cmpI_ok op K.hu K.sys hS2 I2 r1 r2 d1 d2 e3 (Q := QM X B2 H2 (.p (.bool k)) S2) ⟨B2, hS2.refl, hS2, .bl k⟩) fun u s3 q => RM.of_EP x2 q
theorem tm_cmp (K : BK X) {op : CmpOp} (ha : EM X a ma) (hb : EM X b mb) (hm : behindInMarks op b = false) : TM X (.Compare a [op] [b] pos) (mCmp op ma mb) := by
  intro pins s σ H B ev S d S' k I hS hE em hk
  obtain rfl := isTru_p hk
  obtain ⟨⟨x, S1⟩, e1, em⟩ := bind_some em
  obtain ⟨⟨y, S2⟩, e2, em⟩ := bind_some em
  obtain ⟨k', e3, em⟩ := map_some em
  cases em
  refine wpAny_isTrue_Compare1 (thn (ha pins s σ H B ev S x S1 I hS hE e1) fun v s1 ⟨vx, H1, B1, I1, r1, x1, hS1, d1⟩ => thn (hb pins s1 σ H1 B1 ev S1 y S2 I1 hS1 (hE.ext x1) e2) fun u s2 ⟨vy, H2, B2, I2, r2, x2, hS2, d2⟩ =>
    thn (cmpI_ok op K.hu K.sys hS2 I2 r1 r2 (RD.ext x2 d1) d2 e3 (Q := QM X B2 H2 (.p (.bool k)) S2) ⟨B2, hS2.refl, hS2, .bl k⟩) fun c s3 q => ?_) hm
  obtain ⟨w, H3, I3, r3, B3, x3, hS3, d3⟩ := q
  cases d3
  cases r3
  exact wpAny_truthy_bool ⟨rfl, H3, B3, I3, (x1.trans x2).trans x3, hS3⟩
/-- a value that is a truth value, as a test -/
theorem tm_val (h : EM X e ma) (he : ∀ whole, isTrue e X.env whole = (do let v ← whole; standAt e.pos; holding [v] (truthy v))) : TM X e ma := by
  intro pins s σ H B ev S d S' k I hS hE em hk
  obtain rfl := isTru_p hk
  refine isTrue_plain (thn (h pins s σ H B ev S _ S' I hS hE em) fun v s1 ⟨x, H1, B1, I1, r1, x1, hS1, d1⟩ => ?_) (he _)
  cases d1
  cases r1
  exact wpAny_truthy_bool ⟨rfl, H1, B1, I1, x1, hS1⟩

theorem cmp_at (K : BK X) {op : CmpOp} {pins : List (Addr × Obj)} {σ : St} {H H2 : Hp} {s : Shared} {B B2 : BT} {S2 : Store} {x y : D} {vx vy : V} {v u : Value} {k : Bool} (x2 : Ext B H B2 H2) (hS : SR X.K X.mg B2 H2 S2) (I : Inv X pins σ H2 s)
    (r1 : RelV vx v) (r2 : RelV vy u) (d1 : RD X.K X.mg B2 H2 x vx) (d2 : RD X.K X.mg B2 H2 y vy) (e : cmpI op S2 x y = some k) :
    wpAny (model X.prog X.w) X.A (compareOp op v u) (fun c s3 => c = .bool k ∧ ∃ H3 B3, Inv X pins σ H3 s3 ∧ Ext B H B3 H3 ∧ Ext B2 H2 B3 H3 ∧ SR X.K X.mg B3 H3 S2) X.xe s := by
  refine thn (cmpI_ok op K.hu K.sys hS I r1 r2 d1 d2 e (Q := QM X B2 H2 (.p (.bool k)) S2) ⟨B2, hS.refl, hS, .bl k⟩) fun c s3 q => ?_
  obtain ⟨w, H3, I3, r3, B3, x3, hS3, d3⟩ := q
  cases d3
  cases r3
  exact ⟨rfl, H3, B3, I3, x2.trans x3, x3, hS3⟩
theorem em_chain (K : BK X) {op op' : CmpOp} (ha : EM X a ma) (hb : EM X b mb) (hc : EM X c mc) (hm : lastMarks [op, op'] [b, c] = false) : EM X (.Compare a [op, op'] [b, c] pos) (mChain op op' ma mb mc) := by
  intro pins s σ H B ev S d S' I hS hE em
  obtain ⟨⟨x, S1⟩, e1, em⟩ := bind_some em
  obtain ⟨⟨y, S2⟩, e2, em⟩ := bind_some em
  obtain ⟨k, e3, em⟩ := bind_some em
  refine Compare_chain (thn (ha pins s σ H B ev S x S1 I hS hE e1) fun v s1 ⟨vx, H1, B1, I1, r1, x1, hS1, d1⟩ => chain_link (thn (hb pins s1 σ H1 B1 ev S1 y S2 I1 hS1 (hE.ext x1) e2) fun u s2 ⟨vy, H2, B2, I2, r2, x2, hS2, d2⟩ =>
    thn (cmp_at K (x1.trans x2) hS2 I2 r1 r2 (RD.ext x2 d1) d2 e3) fun w s3 ⟨hw, H3, B3, I3, x3, y3, hS3⟩ => ?_)) hm
  subst hw
  refine wpAny_truthy_bool ?_
  cases k with
  | false =>
    cases em
    exact ite_ff ⟨.bl false, H3, B3, I3, rfl, x3, hS3, .bl false⟩
  | true =>
    obtain ⟨⟨z, S4⟩, e4, em⟩ := bind_some em
    obtain ⟨k2, e5, em⟩ := map_some em
    cases em
    refine ite_tt (chain_last (thn (hc pins s3 σ H3 B3 ev S2 z S4 I3 hS3 (hE.ext x3) e4) fun w' s4 ⟨vz, H4, B4, I4, r4, x4, hS4, d4⟩ => ?_))
    refine thn (cmp_at K (x3.trans x4) hS4 I4 r2 r4 (RD.ext x4 (RD.ext y3 d2)) d4 e5) fun w s5 ⟨hw, H5, B5, I5, x5, _, hS5⟩ => ?_
    subst hw
    exact ⟨.bl k2, H5, B5, I5, rfl, x5, hS5, .bl k2⟩
theorem tm_chain (K : BK X) {op op' : CmpOp} (ha : EM X a ma) (hb : EM X b mb) (hc : EM X c mc) (hm : lastMarks [op, op'] [b, c] = false) : TM X (.Compare a [op, op'] [b, c] pos) (mChain op op' ma mb mc) := by
  intro pins s σ H B ev S d S' kk I hS hE em hk
  obtain rfl := isTru_p hk
  obtain ⟨⟨x, S1⟩, e1, em⟩ := bind_some em
  obtain ⟨⟨y, S2⟩, e2, em⟩ := bind_some em
  obtain ⟨k, e3, em⟩ := bind_some em
  refine isTrue_chain (thn (ha pins s σ H B ev S x S1 I hS hE e1) fun v s1 ⟨vx, H1, B1, I1, r1, x1, hS1, d1⟩ => test_link (thn (hb pins s1 σ H1 B1 ev S1 y S2 I1 hS1 (hE.ext x1) e2) fun u s2 ⟨vy, H2, B2, I2, r2, x2, hS2, d2⟩ =>
    thn (cmp_at K (x1.trans x2) hS2 I2 r1 r2 (RD.ext x2 d1) d2 e3) fun w s3 ⟨hw, H3, B3, I3, x3, y3, hS3⟩ => ?_)) hm
  subst hw
  refine wpAny_truthy_bool ?_
  cases k with
  | false =>
    simp only [Bool.false_eq_true, if_false, Option.some.injEq, Prod.mk.injEq, D.p.injEq, PyData.bool.injEq] at em
    obtain ⟨rfl, rfl⟩ := em
    exact ite_ff ⟨rfl, H3, B3, I3, x3, hS3⟩
  | true =>
    obtain ⟨⟨z, S4⟩, e4, em⟩ := bind_some em
    obtain ⟨k2, e5, em⟩ := map_some em
    cases em
    refine ite_tt (test_last (thn (hc pins s3 σ H3 B3 ev S2 z S4 I3 hS3 (hE.ext x3) e4) fun w' s4 ⟨vz, H4, B4, I4, r4, x4, hS4, d4⟩ => ?_))
    refine thn (cmp_at K (x3.trans x4) hS4 I4 r2 r4 (RD.ext x4 (RD.ext y3 d2)) d4 e5) fun w s5 ⟨hw, H5, B5, I5, x5, _, hS5⟩ => ?_
    subst hw
    exact wpAny_truthy_bool ⟨rfl, H5, B5, I5, x5, hS5⟩

/-! not, and, or, if -/
theorem em_not (ha : EM X a ma) : EM X (.UnaryOp .Not a pos) (mNot ma) :=
  EM.of_pe (pe_not ha.pe) fun σ H B ev S d S' hS hE em => by
    obtain ⟨⟨x, S1⟩, e1, em⟩ := bind_some em
    obtain ⟨k, e2, em⟩ := map_some em
    cases em
    obtain rfl := isTru_p e2
    refine ⟨B, ev, S, _, _, hS, hE, e1, fun B' H' v x1 s1 d1 => ?_⟩
    cases d1
    exact ⟨k, rfl, B', x1, s1, .bl _⟩
theorem tm_not (ha : TM X a ma) : TM X (.UnaryOp .Not a pos) (mNot ma) := by
  intro pins s σ H B ev S d S' k I hS hE em hk
  obtain ⟨⟨x, S1⟩, e1, em⟩ := bind_some em
  obtain ⟨k2, e2, em⟩ := map_some em
  cases em
  obtain rfl : (!k2) = k := by simpa [isTru] using hk
  refine isTrue_not (thn (ha pins s σ H B ev S _ _ k2 I hS hE e1 e2) fun b s1 ⟨hb, q⟩ => ?_)
  subst hb
  exact ⟨rfl, q⟩
/-- one more conjunct -/
theorem em_one {op : BoolOp} (ha : EM X a ma) : EM X (.BoolOp op [a] pos) ma :=
  EM.of_pe (pe_one ha.pe) fun σ H B ev S d S' hS hE em => ⟨B, ev, S, d, S', hS, hE, em, fun B' H' v x1 s1 d1 => ⟨B', x1, s1, d1⟩⟩
theorem em_and {rest : List Expr} (ha : EM X a ma) (hb : EM X (.BoolOp .And (b :: rest) pos) mb) : EM X (.BoolOp .And (a :: b :: rest) pos) (mAnd ma mb) :=
  EM.of_pe (pe_and ha.pe hb.pe) fun σ H B ev S d S' hS hE em => by
    obtain ⟨⟨x, S1⟩, e1, em⟩ := bind_some em
    obtain ⟨k, e2, em⟩ := bind_some em
    obtain rfl := isTru_p e2
    refine ⟨B, ev, S, _, _, hS, hE, e1, fun B' H' v x1 s1 d1 => ?_⟩
    cases d1
    refine ⟨k, rfl, ?_⟩
    cases k with
    | false =>
      cases em
      exact ⟨B', x1, s1, .bl false⟩
    | true => exact ⟨B', ev, S1, d, S', s1, hE.ext x1, em, fun B2 H2 v x2 s2 d2 => ⟨B2, x1.trans x2, s2, d2⟩⟩
theorem em_or {rest : List Expr} (ha : EM X a ma) (hb : EM X (.BoolOp .Or (b :: rest) pos) mb) : EM X (.BoolOp .Or (a :: b :: rest) pos) (mOr ma mb) :=
  EM.of_pe (pe_or ha.pe hb.pe) fun σ H B ev S d S' hS hE em => by
    obtain ⟨⟨x, S1⟩, e1, em⟩ := bind_some em
    obtain ⟨k, e2, em⟩ := bind_some em
    obtain rfl := isTru_p e2
    refine ⟨B, ev, S, _, _, hS, hE, e1, fun B' H' v x1 s1 d1 => ?_⟩
    cases d1
    refine ⟨k, rfl, ?_⟩
    cases k with
    | true =>
      cases em
      exact ⟨B', x1, s1, .bl true⟩
    | false => exact ⟨B', ev, S1, d, S', s1, hE.ext x1, em, fun B2 H2 v x2 s2 d2 => ⟨B2, x1.trans x2, s2, d2⟩⟩
/-- a conjunction as a test, whatever its whole is -/
def WM (X : Cx) (e : Expr) (m : M) : Prop := ∀ (whole : Sem Value) (pins : List (Addr × Obj)) (s : Shared) (σ : St) (H : Hp) (B : BT) (ev : EnvI) (S : Store) (d : D) (S' : Store) (k : Bool), Inv X pins σ H s → SR X.K X.mg B H S → ER X.K X.mg B H ev σ → m ev S = some (d, S') → isTru d = some k →
  wpAny (model X.prog X.w) X.A (isTrue e X.env whole) (RT X pins σ B H k S') X.xe s
theorem WM.tm (h : WM X e ma) : TM X e ma := h _
theorem wm_and1 (ha : TM X a ma) : WM X (.BoolOp .And [a] pos) ma := by
  intro wh pins s σ H B ev S d S' k I hS hE em hk
  refine isTrue_and (thn (ha pins s σ H B ev S d S' k I hS hE em hk) fun c s1 q => ?_)
  cases c with
  | true => exact isTrue_and_nil q
  | false => exact q
theorem wm_or1 (ha : TM X a ma) : WM X (.BoolOp .Or [a] pos) ma := by
  intro wh pins s σ H B ev S d S' k I hS hE em hk
  refine isTrue_or (thn (ha pins s σ H B ev S d S' k I hS hE em hk) fun c s1 q => ?_)
  cases c with
  | false => exact isTrue_or_nil q
  | true => exact q
theorem wm_and {rest : List Expr} (ha : TM X a ma) (hb : WM X (.BoolOp .And (b :: rest) pos) mb) : WM X (.BoolOp .And (a :: b :: rest) pos) (mAnd ma mb) := by
  intro wh pins s σ H B ev S d S' k I hS hE em hk
  obtain ⟨⟨x, S1⟩, e1, em⟩ := bind_some em
  obtain ⟨k1, e2, em⟩ := bind_some em
  refine isTrue_and (thn (ha pins s σ H B ev S x S1 k1 I hS hE e1 e2) fun c s1 ⟨hc, H1, B1, I1, x1, hS1⟩ => ?_)
  subst hc
  cases c with
  | false =>
    cases em
    cases hk
    exact ⟨rfl, H1, B1, I1, x1, hS1⟩
  | true => exact thn (hb wh pins s1 σ H1 B1 ev S1 d S' k I1 hS1 (hE.ext x1) em hk) fun _ _ q => q.of x1
theorem wm_or {rest : List Expr} (ha : TM X a ma) (hb : WM X (.BoolOp .Or (b :: rest) pos) mb) : WM X (.BoolOp .Or (a :: b :: rest) pos) (mOr ma mb) := by
  intro wh pins s σ H B ev S d S' k I hS hE em hk
  obtain ⟨⟨x, S1⟩, e1, em⟩ := bind_some em
  obtain ⟨k1, e2, em⟩ := bind_some em
  refine isTrue_or (thn (ha pins s σ H B ev S x S1 k1 I hS hE e1 e2) fun c s1 ⟨hc, H1, B1, I1, x1, hS1⟩ => ?_)
  subst hc
  cases c with
  | true =>
    cases em
    cases hk
    exact ⟨rfl, H1, B1, I1, x1, hS1⟩
  | false => exact thn (hb wh pins s1 σ H1 B1 ev S1 d S' k I1 hS1 (hE.ext x1) em hk) fun _ _ q => q.of x1
theorem em_if (hc : TM X c mc) (ha : EM X a ma) (hb : EM X b mb) : EM X (.IfExp c a b pos) (mIf mc ma mb) := by
  intro pins s σ H B ev S d S' I hS hE em
  obtain ⟨⟨x, S1⟩, e1, em⟩ := bind_some em
  obtain ⟨k, e2, em⟩ := bind_some em
  refine wpAny_IfExp (thn (hc pins s σ H B ev S x S1 k I hS hE e1 e2) fun k' s1 ⟨hk, H1, B1, I1, x1, hS1⟩ => ?_)
  subst hk
  cases k' with
  | true => exact thn (ha pins s1 σ H1 B1 ev S1 d S' I1 hS1 (hE.ext x1) em) fun _ _ q => q.post x1
  | false => exact thn (hb pins s1 σ H1 B1 ev S1 d S' I1 hS1 (hE.ext x1) em) fun _ _ q => q.post x1
theorem tm_if (hc : TM X c mc) (ha : TM X a ma) (hb : TM X b mb) : TM X (.IfExp c a b pos) (mIf mc ma mb) := by
  intro pins s σ H B ev S d S' kk I hS hE em hkk
  obtain ⟨⟨x, S1⟩, e1, em⟩ := bind_some em
  obtain ⟨k, e2, em⟩ := bind_some em
  unfold PySem.isTrue
  refine wpAny_bind (thn (hc pins s σ H B ev S x S1 k I hS hE e1 e2) fun k' s1 ⟨hk, H1, B1, I1, x1, hS1⟩ => ?_)
  subst hk
  cases k' with
  | true => exact thn (ha pins s1 σ H1 B1 ev S1 d S' kk I1 hS1 (hE.ext x1) em hkk) fun _ _ q => q.of x1
  | false => exact thn (hb pins s1 σ H1 B1 ev S1 d S' kk I1 hS1 (hE.ext x1) em hkk) fun _ _ q => q.of x1
theorem em_neg (ha : EM X a ma) : EM X (.UnaryOp .USub a pos) (mNeg ma) :=
  EM.of_pe (pe_un un_neg ha.pe) fun σ H B ev S d S' hS hE em => by
    obtain ⟨⟨x, S1⟩, e1, em⟩ := bind_some em
    simp only at em
    split at em
    · rename_i i
      cases em
      refine ⟨B, ev, S, _, _, hS, hE, e1, fun B' H' v x1 s1 d1 => ?_⟩
      obtain rfl := dq_int d1
      exact ⟨i, rfl, B', x1, s1, .int _⟩
    · cases em

/-! argument lists, displays -/
def notStar : Expr → Bool
  | .Starred .. => false
  | _ => true
theorem star_cons {e : Expr} {es : List Expr} {env : Env} (h : notStar e = true) : starEach (e :: es) env = (false, eval e env) :: starEach es env := by
  cases e <;> first | rfl | cases h
theorem star_plain {env : Env} : ∀ {es : List Expr}, es.all notStar = true → (backTo pos (starEach es env)).any (·.1) = false
  | [], _ => rfl
  | e :: es, h => by
    rw [List.all_cons, Bool.and_eq_true] at h
    rw [star_cons h.1]
    show (false || (backTo pos (starEach es env)).any (·.1)) = false
    rw [star_plain h.2]; rfl
theorem star_few {env : Env} : ∀ {es : List Expr}, es.all notStar = true → (backTo pos (starEach es env)).all (fun x => !x.1) = true
  | [], _ => rfl
  | e :: es, h => by
    rw [List.all_cons, Bool.and_eq_true] at h
    rw [star_cons h.1]
    show (true && (backTo pos (starEach es env)).all (fun x => !x.1)) = true
    rw [star_few h.2]; rfl
theorem am_nil : AM X [] mNil := by
  intro pos pins s σ H B ev S ds S' I hS hE em
  cases em
  exact Calls.spliced_nil ⟨[], H, B, I, .nil, hS.refl, hS, .nil⟩
theorem am_cons {es : List Expr} {m : Ms} (ha : EM X a ma) (hr : AM X es m) (hs : notStar a = true) : AM X (a :: es) (mCons ma m) := by
  intro pos pins s σ H B ev S ds S' I hS hE em
  obtain ⟨⟨x, S1⟩, e1, em⟩ := bind_some em
  obtain ⟨⟨xs, S2⟩, e2, em⟩ := map_some em
  cases em
  rw [star_cons hs]
  show wpAny _ _ (spliced ((false, eval a X.env) :: backTo pos (starEach es X.env))) _ _ s
  refine Calls.spliced_cons (thn (ha pins s σ H B ev S x S1 I hS hE e1) fun u s1 ⟨vx, H1, B1, I1, r1, x1, hS1, d1⟩ => ?_)
  refine thn (hr pos pins s1 σ H1 B1 ev S1 xs _ I1 hS1 (hE.ext x1) e2) fun us s2 ⟨vs, H2, B2, I2, r2, x2, hS2, d2⟩ => ?_
  exact ⟨vx :: vs, H2, B2, I2, .cons r1 r2, x1.trans x2, hS2, .cons (RD.ext x2 d1) d2⟩
theorem AM.pa {es : List Expr} {m : Ms} (h : AM X es m) : PA X es (tMs X.K X.mg m) := ⟨fun pos pins s σ H Q I ⟨B, ev, S, d, S', hS, hE, em, q⟩ =>
  thn (h pos pins s σ H B ev S d S' I hS hE em) fun u s1 ⟨v, H1, B1, I1, r1, x1, S1, d1⟩ => ⟨v, H1, I1, r1, q B1 H1 v x1 S1 d1⟩⟩
theorem em_tup {es : List Expr} {m : Ms} {k : Nat} (h : AM X es m) : EM X (.Tuple es k pos) (mTup m) :=
  EM.of_pe (pe_tup h.pa) fun σ H B ev S d S' hS hE em => by
    obtain ⟨⟨xs, S1⟩, e1, em⟩ := bind_some em
    obtain ⟨ys, e2, em⟩ := bind_some em
    have := allP_eq e2
    simp only at this
    subst this
    refine ⟨B, ev, S, _, _, hS, hE, e1, fun B' H' v x1 s1 d1 => ?_⟩
    have hl : v.length ≤ sizeLine := by
      have q := em
      unfold mkT at q
      split at q
      · rename_i hz
        rw [← d1.length, List.length_map]; exact hz
      · cases q
    refine ⟨hl, fun p hp => ?_⟩
    obtain ⟨_, y1, y2, y3⟩ := mkT_ok s1 (dqAll_map.mpr d1) em hp
    exact ⟨B', x1.trans y1, y2, y3⟩
theorem em_lst (bx : Bool) {es : List Expr} {m : Ms} (h : AM X es m) : EM X (.List es pos) (mLst bx m) :=
  EM.of_pe (pe_lst h.pa) fun σ H B ev S d S' hS hE em => by
    obtain ⟨⟨xs, S1⟩, e1, em⟩ := bind_some em
    refine ⟨B, ev, S, _, _, hS, hE, e1, fun B' H' v x1 s1 d1 => ?_⟩
    have hl : v.length ≤ sizeLine := by
      have q := em
      unfold mkL at q
      split at q
      · rename_i hz
        rw [← d1.length]; exact hz
      · cases q
    refine ⟨hl, fun p hp => ?_⟩
    obtain ⟨_, B2, y1, y2, y3⟩ := mkL_ok s1 d1 em hp
    exact ⟨B2, x1.trans y1, y2, y3⟩

/-! subscripts, slices -/
def notSlice : Expr → Bool
  | .Slice .. => false
  | _ => true
theorem plainIx {b : Expr} (h : notSlice b = true) : PlainIx b := by
  intro o i
  cases b <;> first | rfl | cases h
theorem em_ix (K : BK X) (ha : EM X a ma) (hb : EM X b mb) (hs : notSlice b = true) : EM X (.Subscript a b pos) (mIx ma mb) :=
  EM.of_pe (pe_ix (ix_any (by have := K.hu; omega)) ha.pe hb.pe (plainIx hs)) fun σ H B ev S d S' hS hE em => by
    obtain ⟨⟨x, S1⟩, e1, em⟩ := bind_some em
    obtain ⟨⟨y, S2⟩, e2, em⟩ := bind_some em
    obtain ⟨z, e3, em⟩ := map_some em
    cases em
    refine ⟨B, ev, S, _, _, hS, hE, e1, fun B1 H1 v1 x1 s1 d1 => ⟨B1, ev, S1, _, _, s1, hE.ext x1, e2, fun B2 H2 v2 x2 s2 d2 => ?_⟩⟩
    exact ixI_ok s2 (RD.ext x2 d1) d2 e3 fun B3 H3 v3 x3 s3 d3 => ⟨B3, (x1.trans x2).trans x3, s3, d3⟩
/-- a part of a slice -/
def OM (X : Cx) (e : Option Expr) (m : MO) : Prop := PO X e fun σ H Q => ∃ B ev S o S', SR X.K X.mg B H S ∧ ER X.K X.mg B H ev σ ∧ m ev S = some (o, S') ∧ ∀ B' H', Ext B H B' H' → SR X.K X.mg B' H' S' → Q o H'
theorem om_none : OM X none mONone := ⟨fun pins s σ H Q I ⟨B, ev, S, o, S', hS, hE, em, q⟩ => by
  cases em
  exact (po_none (X := X)).run pins s σ H Q I (q B H hS.refl hS)⟩
theorem om_some (ha : EM X a ma) : OM X (some a) (mOSome ma) := ⟨fun pins s σ H Q I ⟨B, ev, S, o, S', hS, hE, em, q⟩ => by
  obtain ⟨⟨x, S1⟩, e1, em⟩ := bind_some em
  simp only at em
  split at em
  · rename_i i
    cases em
    refine (po_some ha.pe).run pins s σ H Q I ⟨B, ev, S, _, _, hS, hE, e1, fun B1 H1 v1 x1 s1 d1 => ?_⟩
    obtain rfl := dq_int d1
    exact ⟨i, rfl, q B1 H1 x1 s1⟩
  · cases em⟩
theorem em_sl (bx : Bool) {lo hi : Option Expr} {ml mh : MO} {p2 : Pos} (ha : EM X a ma) (hl : OM X lo ml) (hh : OM X hi mh) : EM X (.Subscript a (.Slice lo hi none p2) pos) (mSl bx ma ml mh) := by
  intro pins s σ H B ev S d S' I hS hE em
  obtain ⟨⟨x, S1⟩, e1, em⟩ := bind_some em
  obtain ⟨⟨l, S2⟩, e2, em⟩ := bind_some em
  obtain ⟨⟨h, S3⟩, e3, em⟩ := bind_some em
  refine thn ((pe_slice (r := rSlAny X.K) sl_any ha.pe hl hh).run pins s σ H (QM X B H d S') I ?_) fun u s1 q => RM.of_EP hS.refl q
  refine ⟨B, ev, S, _, _, hS, hE, e1, fun B1 H1 v1 x1 s1 d1 => ⟨B1, ev, S1, _, _, s1, hE.ext x1, e2, fun B2 H2 x2 s2 => ⟨B2, ev, S2, _, _, s2, hE.ext (x1.trans x2), e3, fun B3 H3 x3 s3 => ?_⟩⟩⟩
  exact slI_ok bx s3 (RD.ext x3 (RD.ext x2 d1)) em fun B4 H4 v4 x4 s4 d4 => ⟨B4, ((x1.trans x2).trans x3).trans x4, s4, d4⟩
theorem RDs.reverse {K : PySem.W.Frag} {mg : Mg} {B : BT} {H : Hp} : ∀ {ds : List D} {vs : List V}, RDs K mg B H ds vs → RDs K mg B H ds.reverse vs.reverse
  | _, _, .nil => .nil
  | _, _, .cons r t => by
    simp only [List.reverse_cons]
    exact RDs.append (RDs.reverse t) (.cons r .nil)
/-! a tuple's slice with the step -1 (own) -/
section
variable {prog : Program} {w : World} {A : Around} {E : Value → Shared → Prop} {s : Shared}
/-- the parts of [::-1], looked up -/
theorem parts_back {z : Addr} {p1 p2 p3 : Value} {k : Nat} {R : Int × Int × Nat → Shared → Prop} (hz : s.heap.IsSliceOf z p1 p2 p3) (h1 : IsPart p1 none) (h2 : IsPart p2 none) (h3 : IsPart p3 (some (-1))) (hR : R ((k : Int) - 1, -1, k) s) :
    wpAny (model prog w) A (Builtin.Slice.sliceApplied (.ref z) (pure (k : Int))) R E s := by
  have hb : Builtin.Slice.slicePlaces ((k : Int) - 1) (-1) (-1) = k := by
    unfold Builtin.Slice.slicePlaces
    rw [if_neg (show ¬ ((-1 : Int) > 0) by decide), show (- -1 : Int) = 1 by decide, Int.ediv_one]
    by_cases hk : (k : Int) - 1 > -1
    · rw [if_pos hk]; omega
    · rw [if_neg hk]; omega
  obtain ⟨ob, e1, _, e2⟩ := hz
  unfold Builtin.Slice.sliceApplied Builtin.Slice.sliceFields
  refine wpAny_bind (wpAny_bind (wpAny_field e1 e2 (x := p1) rfl (wpAny_bind (wpAny_field e1 e2 (x := p2) rfl (wpAny_bind (wpAny_field e1 e2 (x := p3) rfl (wpAny_pure (wpAny_bind (HT.slicePart_ h3 ?_)))))))))
  show wpAny _ _ (if ((-1 : Int) == 0) = true then _ else _) _ _ s
  rw [if_neg (by decide)]
  refine wpAny_bind (HT.slicePart_ h1 (wpAny_bind (HT.slicePart_ h2 (wpAny_bind (wpAny_pure ?_)))))
  show wpAny _ _ (pure ((k : Int) - 1, (-1 : Int), Builtin.Slice.slicePlaces ((k : Int) - 1) (-1) (-1))) _ _ s
  rw [hb]; exact wpAny_pure hR
theorem back_items (xs : Array Value) : ((List.range xs.size).filterMap fun (m : Nat) => xs[((xs.size : Int) - 1 + (m : Int) * -1).toNat]?).toArray = xs.toList.reverse.toArray := by
  have e : (fun (m : Nat) => xs[((xs.size : Int) - 1 + (m : Int) * -1).toNat]?) = (fun i => xs[i]?) ∘ fun k => xs.size - 1 - k := by
    funext m
    have : ((xs.size : Int) - 1 + (m : Int) * -1).toNat = xs.size - 1 - m := by omega
    show xs[_]? = xs[xs.size - 1 - m]?
    rw [this]
  rw [e, ← List.filterMap_map, PySem.W.krv_range, List.filterMap_reverse, PySem.W.krv_all]
/-- t[::-1], a new tuple -/
theorem tuple_back {t z : Addr} {xs : Array Value} {p1 p2 p3 : Value} {Q : Value → Shared → Prop} (ht : IsTup s.heap t xs) (hz : s.heap.IsSliceOf z p1 p2 p3) (h1 : IsPart p1 none) (h2 : IsPart p2 none) (h3 : IsPart p3 (some (-1))) (hs : xs.size ≤ sizeLine)
    (hQ : Q (.ref s.heap.objs.size) { s with heap := s.heap.push { cls := .type "tuple", data := .seq xs.toList.reverse.toArray } }) : wpAny (model prog w) A (getItem (.ref t) (.ref z)) Q E s := by
  have room : sizeOk (.seq xs.toList.reverse.toArray) := by show xs.toList.reverse.toArray.size ≤ _; simpa using hs
  have kind : s.TypeIs (.ref z) "slice" := let ⟨ob, e1, e2, _⟩ := hz; ⟨ob, e1, e2⟩
  have step : (((xs.size : Int) - 1 == 0) && ((-1 : Int) == 1) && (xs.size == xs.size)) = false := by rw [show ((-1 : Int) == 1) = false by decide, Bool.and_false, Bool.false_and]
  unfold getItem
  refine wpAny_holding (wpAny_bind (wpAny_sequenceKey ht.typeIs (by decide) (wpAny_bind (wpAny_callSpecial?_slot (name := Str.ofString "__getitem__") ht.typeIs PyProof.Rows.slot_tuple_getitem (wpAny_call_entry PyProof.Rows.slot_tuple_getitem ht.typeIs PyProof.Rows.entry_tuple_getitem ?_ (PyProof.Rows.args_tuple_getitem _ _))))))
  show wpAny _ _ (Builtin.Tuple.tupleItemsOf (.ref t) >>= _) _ _ s
  refine wpAny_bind (PyProof.Rows.tupleItemsOf_ ht (wpAny_bind (wpAny_typeOf kind ?_)))
  rw [if_pos (by decide)]
  refine wpAny_bind (parts_back hz h1 h2 h3 ?_)
  show wpAny _ _ (if (((xs.size : Int) - 1 == 0) && ((-1 : Int) == 1) && (xs.size == xs.size)) = true then _ else _) _ _ s
  rw [step, if_neg Bool.false_ne_true, back_items]
  exact wpAny_bind (wpAny_newObj_type (wpAny_pure ⟨_, rfl, wpAny_pure hQ⟩) room)
end
def tBack (K : PySem.W.Frag) (te : TE) : TE := fun σ H Q => te σ H fun x H1 => ∃ a xs, x = .ref a ∧ SqT K H1 a xs ∧ ∀ p, H1 p = none → Q (.ref p) (upd H1 p (.tup xs.reverse))
theorem pe_back {e : Expr} {te : TE} {k : Nat} {p1 p2 p3 pos : Pos} (he : PE X e te) : PE X (.Subscript e (.Slice none none (some (.UnaryOp .USub (.Constant (.int 1) k p1) p2)) p3) pos) (tBack X.K te) := by
  have minus : PO X (some (.UnaryOp .USub (.Constant (.int 1) k p1) p2)) (tPart (tUn (rU fun i => .int (-i)) (tC (.int 1)))) := po_some (pe_un un_neg pe_int)
  refine ⟨fun pins s σ H Q I h => Subscript_ (thn (he.run pins s σ H _ I h) ?_)⟩
  rintro v t ⟨_, H1, I1, r1, a, xs, rfl, hx, q⟩
  obtain rfl : v = .ref a := r1
  refine wpAny_Slice (thn (po_none.run pins t σ H1 (fun o H2 => o = none ∧ H2 = H1) I1 ⟨rfl, rfl⟩) ?_)
  rintro lo t2 ⟨_, _, I2, plo, rfl, rfl⟩
  refine thn (po_none.run pins t2 σ _ (fun o H3 => o = none ∧ H3 = _) I2 ⟨rfl, rfl⟩) ?_
  rintro hi t3 ⟨_, _, I3, phi, rfl, rfl⟩
  refine thn (minus.run pins t3 σ _ (fun o H4 => o = some (-1) ∧ H4 = _) I3 ⟨1, rfl, -1, rfl, rfl, rfl⟩) ?_
  rintro st t4 ⟨_, _, I4, pst, rfl, rfl⟩
  have I5 := I4.kept (h' := t4.heap.push { cls := .type "slice", data := .fields #[lo, hi, st] }) (t' := t4.toks) fun b ob e => Heap.get?_push_of_some _ e
  obtain ⟨its, r, ht, hz⟩ := I5.tuple hx
  have hl : its.toArray.size ≤ sizeLine := by rw [List.size_toArray, ← r.length]; exact hz
  refine tail_any (ops := [.ref a, .ref t4.heap.objs.size]) ht.typeIs (PyProof.Rows.slot_tuple_getitem.lookup) ?_ (by with_unfolding_all rfl)
  refine tuple_back ht (Heap.IsSliceOf.new _ lo hi st) plo phi pst hl ⟨.ref _, _, I5.laid (o := .tup xs.reverse) (fun b ob e => Heap.get?_push_of_some _ e) (Nat.le_refl _) ⟨?_, _, r.reverse, IsTup.new _ _⟩, rfl, q _ (I5.hok.fresh (Nat.le_refl _))⟩
  rw [List.length_reverse]; exact hz
theorem pe_either {e : Expr} {t1 t2 : TE} (h1 : PE X e t1) (h2 : PE X e t2) : PE X e fun σ H Q => t1 σ H Q ∨ t2 σ H Q := ⟨fun pins s σ H Q I h => h.elim (h1.run pins s σ H Q I) (h2.run pins s σ H Q I)⟩
theorem revR {pins : List (Addr × Obj)} {σ : St} {H : Hp} {s : Shared} {k : Nat} {p1 p2 p3 : Pos} (bx : Bool) (ha : EM X a ma) : EM X (.Subscript a (.Slice none none (some (.UnaryOp .USub (.Constant (.int 1) k p1) p2)) p3) pos) (mRev bx ma) :=
  EM.of_pe (pe_either (pe_revL ha.pe) (pe_back ha.pe)) fun σ H B ev S d S' hS hE em => by
    obtain ⟨⟨x, S1⟩, e1, em⟩ := bind_some em
    replace em : revI bx S1 x = some (d, S') := em
    unfold revI at em
    split at em
    · rename_i xs
      refine .inr ⟨B, ev, S, _, _, hS, hE, e1, fun B1 H1 v1 x1 s1 d1 => ?_⟩
      obtain ⟨l, vs, rfl, hl, r⟩ := dq_tup d1
      refine ⟨l, vs, rfl, hl.sq, fun p hp => ?_⟩
      obtain ⟨_, y1, y2, y3⟩ := mkT_ok s1 (dqAll_map (mg := X.mg).mpr (by rw [List.map_reverse]; exact RDs.reverse (dqAll_map (mg := X.mg).mp r))) em hp
      exact ⟨B1, x1.trans y1, y2, y3⟩
    · obtain ⟨xs, e2, em⟩ := bind_some em
      refine .inl ⟨B, ev, S, _, _, hS, hE, e1, fun B1 H1 v1 x1 s1 d1 => ?_⟩
      obtain ⟨l, vs, rfl, hl, r⟩ := lst_ok s1 d1 e2
      refine ⟨l, vs, rfl, .inl hl, fun p hp => ?_⟩
      have rr := RDs.reverse r
      obtain ⟨_, B2, y1, y2, y3⟩ := mkL_ok s1 rr em hp
      exact ⟨B2, x1.trans y1, y2, y3⟩

/-! calls of built-ins, of methods -/
theorem em_blt {es : List Expr} {m : Ms} {x : Str} {f : BF} {p : Pos} {val : Value} (hc : BR X val f) (hB : IsB val) (hg : Gl X x) (hm : X.mg x = none) (hv : bootBuiltins x = some val) (hn : x ≠ "__name__") (hdb : (x == ("__debug__" : Str)) = false)
    (ha : AM X (a :: es) m) (hs : (a :: es).all notStar = true) : EM X (.Call (.Name x p) (a :: es) [] pos) (mBlt f m) := by
  intro pins s σ H B ev S d S' I hS hE em
  obtain ⟨⟨xs, S1⟩, e1, em⟩ := bind_some em
  have hs2 := hs
  rw [List.all_cons, Bool.and_eq_true] at hs2
  refine wpAny_Call_Name_kw (ld_blt I hg hm hv ?_ hn hdb)
  have go : wpAny (model X.prog X.w) X.A (spliced (backTo pos (starEach (a :: es) X.env))) (fun us s₁ => wpAny (model X.prog X.w) X.A (call val us) (RM X pins σ B H d S') X.xe s₁) X.xe s :=
    thn (ha pos pins s σ H B ev S xs S1 I hS hE e1) fun us s1 ⟨vs, H1, B1, I1, r1, x1, hS1, d1⟩ =>
      thn (hc pins s1 σ H1 B1 S1 xs d S' vs us (QM X B1 H1 d S') I1 hS1 d1 r1 em post_QM) fun u s2 q => RM.of_EP x1 q
  rcases hB with ⟨id, rfl⟩ | ⟨T, rfl⟩
  · exact PyProof.Rows.callWith_builtin1 go (star_cons hs2.1) (star_plain hs2.2)
  · exact PyProof.Rows.callWith_type1 go (star_cons hs2.1) (star_plain hs2.2)
/-- the receiver is written so that super() is not meant -/
def plainRecv : Expr → Bool
  | .Call (.Name _ _) [] [] _ => false
  | _ => true
theorem recv_base {o : Expr} {x : Str} {env : Env} (h : plainRecv o = true) : attributeBase o x env (eval o env) = eval o env := by
  unfold attributeBase
  split
  · cases h
  · rfl
theorem tyIs {pins : List (Addr × Obj)} {σ : St} {B : BT} {H : Hp} {S : Store} {s : Shared} {r : D} {vr : V} {v : Value} {t : Tn} {x : Str} {f : MF} (I : Inv X pins σ H s) (hS : SR X.K X.mg B H S) (d1 : RD X.K X.mg B H r vr) (r1 : RelV vr v)
    (e2 : tnOf S r = some t) (e3 : metF t x = some f) : s.TypeIs v t.nm ∧ ∀ l, v = .ref l → ∃ ob, s.heap.get? l = some ob ∧ ob.dict = none := by
  have hl : ∀ {a : Addr} {vs : List V}, Rd H a (.lst vs) → s.TypeIs (.ref a) "list" ∧ ∀ l, Value.ref a = .ref l → ∃ ob, s.heap.get? l = some ob ∧ ob.dict = none := fun {a vs} h => by
    obtain ⟨_, its, n, _, _, e⟩ := lstR I h
    exact ⟨⟨_, e, rfl⟩, fun l q => by cases q; exact ⟨_, e, rfl⟩⟩
  have hd : ∀ {a : Addr} {vs : List (Key × V)}, Rd H a (.dK vs) → s.TypeIs (.ref a) "dict" ∧ ∀ l, Value.ref a = .ref l → ∃ ob, s.heap.get? l = some ob ∧ ob.dict = none := fun {a vs} h => by
    obtain ⟨_, _, _, _, ⟨o, es, ep, e, ex, _⟩⟩ := dk_rd I.hok h
    exact ⟨⟨_, e, ex.1⟩, fun l q => by cases q; exact ⟨_, e, ex.2.1⟩⟩
  cases r with
  | p y =>
    cases y <;> simp only [tnOf, Option.some.injEq] at e2 <;> subst e2 <;> simp only [metF] at e3 <;> try (cases e3)
    · obtain rfl := dq_str d1
      obtain ⟨tk, rfl⟩ := r1
      exact ⟨typeIs_str s _ tk, fun _ q => nomatch q⟩
    · cases d1 with
      | lst h1 _ => cases r1; exact hl h1.1
    · cases d1 with
      | dct h1 _ => cases r1; exact hd h1
  | ref n =>
    obtain ⟨a, h1, rfl⟩ := d1
    cases r1
    simp only [tnOf] at e2
    cases q : S[n]? with
    | none => rw [q] at e2; cases e2
    | some c =>
      rw [q] at e2
      cases c with
      | lst ys =>
        cases e2
        obtain ⟨vs, h2, _⟩ := hS.cell n _ a q h1
        exact hl (.inl h2)
      | dct ys =>
        cases e2
        obtain ⟨vs, h2, _⟩ := hS.cell n _ a q h1
        exact hd (.inl h2)
      | dead => cases e2
  | fn _ => cases e2
  | ty _ => cases e2
theorem em_met (K : BK X) {o : Expr} {mo : M} {es : List Expr} {m : Ms} {x : Str} {apos : Pos} (ho : EM X o mo) (ha : AM X (a :: es) m) (hs : (a :: es).all notStar = true) (hl : es.length < 29) (hp : plainRecv o = true) (hline : (apos.endLine == pos.line) = true) :
    EM X (.Call (.Attribute o x apos) (a :: es) [] pos) (mMet x mo m) := by
  intro pins s σ H B ev S d S' I hS hE em
  obtain ⟨⟨r, S1⟩, e1, em⟩ := bind_some em
  obtain ⟨t, e2, em⟩ := bind_some em
  obtain ⟨f, e3, em⟩ := bind_some em
  obtain ⟨⟨xs, S2⟩, e4, em⟩ := bind_some em
  refine wpAny_Call_method_late (recv_base hp) ?_ hline rfl (thn (ho pins s σ H B ev S r S1 I hS hE e1) fun v s1 ⟨vr, H1, B1, I1, r1, x1, hS1, d1⟩ => ?_)
  · rw [star_few hs]
    show (true && true && decide _) = true
    simp only [List.length_cons, List.length_nil, Nat.add_zero, List.isEmpty_nil, if_true, Bool.true_and, decide_eq_true_eq]
    omega
  · obtain ⟨id, pa, slot, hty, rule⟩ := met_ok K e3
    have ty := tyIs I1 hS1 d1 r1 e2 e3
    refine ⟨t.nm, id, pa, slot, hty, ty.1, ty.2, ?_⟩
    have hA := ha pos pins s1 σ H1 B1 ev S1 xs S2 I1 hS1 (hE.ext x1) e4
    rw [List.all_cons, Bool.and_eq_true] at hs
    rw [star_cons hs.1] at hA ⊢
    refine Calls.callWith_builtin (by show (false || (backTo pos (starEach es X.env)).any (·.1)) = false; rw [star_plain hs.2] <;> rfl) (Calls.evalArgs_plain ?_)
    exact thn hA fun us s2 ⟨vs, H2, B2, I2, r2, x2, hS2, d2⟩ =>
      thn (rule pins s2 σ H2 B2 S2 r xs d S' vr vs v us (QM X B2 H2 d S') I2 hS2 (RD.ext x2 d1) d2 r1 r2 em post_QM) fun u s3 q => RM.of_EP (x1.trans x2) q
theorem em_met0 (K : BK X) {o : Expr} {mo : M} {x : Str} {apos : Pos} (ho : EM X o mo) (hp : plainRecv o = true) (hline : (apos.endLine == pos.line) = true) :
    EM X (.Call (.Attribute o x apos) [] [] pos) (mMet x mo mNil) := by
  intro pins s σ H B ev S d S' I hS hE em
  obtain ⟨⟨r, S1⟩, e1, em⟩ := bind_some em
  obtain ⟨t, e2, em⟩ := bind_some em
  obtain ⟨f, e3, em⟩ := bind_some em
  obtain ⟨⟨xs, S2⟩, e4, em⟩ := bind_some em
  cases e4
  refine wpAny_Call_method0_late (recv_base hp) hline (thn (ho pins s σ H B ev S r S1 I hS hE e1) fun v s1 ⟨vr, H1, B1, I1, r1, x1, hS1, d1⟩ => ?_)
  obtain ⟨id, pa, slot, hty, rule⟩ := met_ok K e3
  have ty := tyIs I1 hS1 d1 r1 e2 e3
  refine ⟨t.nm, id, pa, slot, hty, ty.1, ty.2, Calls.callWith_builtin rfl (PySem.evalArgs_none ?_)⟩
  exact thn (rule pins s1 σ H1 B1 S1 r [] d S' vr [] v [] (QM X B1 H1 d S') I1 hS1 d1 .nil r1 .nil em post_QM) fun u s3 q => RM.of_EP x1 q

/-! ### own defs -/
/-- a def keeps what cf says of it, for all arguments; no exception leaves it -/
structure FnI (P : Program) (w : World) (K : PySem.W.Frag) (mg : Mg) (base : Heap) (k : Nat) (f : Addr) (fd : FuncData) (ps : List Str) (cf : List D → Store → Option (D × Store)) : Prop where
  run : ∀ (A : Around) (outer : List Env) (s : Shared) (H : Hp) (args : Args) (us : List Value) (vs : List V) (B : BT) (S : Store) (ds : List D) (d : D) (S' : Store) (Q : VK), Room k A → A.guards = some [] → Env0 P w K mg base A outer s H →
    BindsTo s fd args (ps.zip us) → us.length = ps.length → Vals vs us → SR K mg B H S → RDs K mg B H ds vs → cf ds S = some (d, S') → Post K mg B H d S' Q → codeAny (model P w) A (.call (.ref f) args) (L2.CR CX0 outer P w H s Q E0) s
/-- where the parameters stand among the positional values and the keywords' -/
def argIx (ps ks : List Str) (n : Nat) : Option (List Nat) :=
  if n + ks.length = ps.length ∧ ks.Nodup ∧ (ks.all fun k => (ps.drop n).contains k) = true ∧ ((ps.drop n).all fun k => ks.contains k) = true then some (List.range n ++ (ps.drop n).map fun p => n + ks.idxOf p) else none
/-- how the parameters bind -/
def Bnd (fd : FuncData) (ps : List Str) : Prop := ∀ (s : Shared) (us ws full : List Value) (ks : List Str) (ix : List Nat), argIx ps ks us.length = some ix → ws.length = ks.length → permD (us ++ ws) ix = some full → BindsTo s fd ⟨us, ks.zip ws⟩ (ps.zip full)
theorem permD_vals : ∀ {ix : List Nat} {vs vs' : List V} {us : List Value}, Vals vs us → permD vs ix = some vs' → ∃ us', permD us ix = some us' ∧ Vals vs' us'
  | [], _, _, _, _, h => by simp [permD] at h; subst h; exact ⟨[], rfl, .nil⟩
  | i :: ix, vs, vs', us, r, h => by
    simp only [permD] at h
    cases h1 : vs[i]? with
    | none => rw [h1] at h; cases h
    | some x =>
      cases h2 : permD vs ix with
      | none => rw [h1, h2] at h; cases h
      | some xs =>
        rw [h1, h2] at h
        cases h
        obtain ⟨u, e1, r1⟩ := r.get h1
        obtain ⟨us', e2, r2⟩ := permD_vals r h2
        exact ⟨u :: us', by simp only [permD, e1, e2], .cons r1 r2⟩
theorem permD_rds {K : PySem.W.Frag} {mg : Mg} {B : BT} {H : Hp} : ∀ {ix : List Nat} {ds ds' : List D} {vs : List V}, RDs K mg B H ds vs → permD ds ix = some ds' → ∃ vs', permD vs ix = some vs' ∧ RDs K mg B H ds' vs'
  | [], _, _, _, _, h => by simp [permD] at h; subst h; exact ⟨[], rfl, .nil⟩
  | i :: ix, ds, ds', vs, r, h => by
    simp only [permD] at h
    cases h1 : ds[i]? with
    | none => rw [h1] at h; cases h
    | some x =>
      cases h2 : permD ds ix with
      | none => rw [h1, h2] at h; cases h
      | some xs =>
        rw [h1, h2] at h
        cases h
        obtain ⟨v, e1, r1⟩ := r.at h1
        obtain ⟨vs', e2, r2⟩ := permD_rds r h2
        exact ⟨v :: vs', by simp only [permD, e1, e2], .cons r1 r2⟩
theorem permD_len {α : Type} : ∀ {ix : List Nat} {l l' : List α}, permD l ix = some l' → l'.length = ix.length
  | [], _, _, h => by simp [permD] at h; subst h; rfl
  | i :: ix, l, l', h => by
    simp only [permD] at h
    cases h1 : l[i]? with
    | none => rw [h1] at h; cases h
    | some x =>
      cases h2 : permD l ix with
      | none => rw [h1, h2] at h; cases h
      | some xs => rw [h1, h2] at h; cases h; simp [permD_len h2]
theorem argIx_len {ps ks : List Str} {n : Nat} {ix : List Nat} (h : argIx ps ks n = some ix) : ix.length = ps.length ∧ n + ks.length = ps.length := by
  unfold argIx at h
  split at h
  · rename_i hc
    cases h
    refine ⟨?_, hc.1⟩
    simp
    omega
  · cases h
theorem run_own {pins : List (Addr × Obj)} {σ : St} {H : Hp} {s : Shared} {B : BT} {S S' : Store} {ds : List D} {d : D} {us us' : List Value} {vs' : List V} {kw : List (Str × Value)} {k : Nat} {f : Addr} {fd : FuncData} {ps : List Str} {cf : List D → Store → Option (D × Store)} {Q : VK}
    (F : FnI X.prog X.w X.K X.mg X.base k f fd ps cf) (hr : Room k X.A) (hg : X.A.guards = some []) (hx : X.xe = fun _ _ => False) (I : Inv X pins σ H s) (hb : BindsTo s fd ⟨us, kw⟩ (ps.zip us')) (hl : us'.length = ps.length) (rv : Vals vs' us') (hS : SR X.K X.mg B H S)
    (rd : RDs X.K X.mg B H ds vs') (e : cf ds S = some (d, S')) (q : Post X.K X.mg B H d S' Q) : wpAny (model X.prog X.w) X.A (call (.ref f) us kw) (EP X pins σ Q) X.xe s := by
  refine wpAny_call (codeAny_mono (F.run X.A X.stack s H ⟨us, kw⟩ us' vs' B S ds d S' Q hr hg I.env0 hb hl rv hS rd e q) fun r s' hq => ?_)
  cases r with
  | error e => exact hq.elim
  | ok fl =>
    cases fl with
    | ret u => exact I.after hq
    | next => exact False.elim hq
    | brk => exact False.elim hq
    | cont => exact False.elim hq
theorem km_nil : KM X [] mNil := by
  intro pos pins s σ H B ev S ds S' I hS hE em
  cases em
  exact wpAny_evalAll_nil ⟨[], H, B, I, .nil, hS.refl, hS, .nil⟩
theorem km_cons {kws : List Keyword} {m : Ms} {nm : Option Str} {kpos : Pos} (ha : EM X a ma) (hr : KM X kws m) : KM X (⟨nm, a, kpos⟩ :: kws) (mCons ma m) := by
  intro pos pins s σ H B ev S ds S' I hS hE em
  obtain ⟨⟨x, S1⟩, e1, em⟩ := bind_some em
  obtain ⟨⟨xs, S2⟩, e2, em⟩ := map_some em
  cases em
  show wpAny _ _ (evalAll ((do let v ← eval a X.env; standAt pos; pure v) :: (backToKw pos (keywordEach kws X.env)).map (·.2))) _ _ s
  refine wpAny_evalAll_cons (wpAny_bind (thn (ha pins s σ H B ev S x S1 I hS hE e1) fun u s1 ⟨vx, H1, B1, I1, r1, x1, hS1, d1⟩ => wpAny_bind (wpAny_standAt (wpAny_pure ?_))))
  refine thn (hr pos pins s1 σ H1 B1 ev S1 xs _ I1 hS1 (hE.ext x1) e2) fun us s2 ⟨vs, H2, B2, I2, r2, x2, hS2, d2⟩ => ?_
  exact ⟨vx :: vs, H2, B2, I2, .cons r1 r2, x1.trans x2, hS2, .cons (RD.ext x2 d1) d2⟩
def kwNames : List Keyword → Option (List Str)
  | [] => some []
  | ⟨some n, _, _⟩ :: r => (kwNames r).map (n :: ·)
  | ⟨none, _, _⟩ :: _ => none
theorem kw_all {env : Env} : ∀ {kws : List Keyword} {ks : List Str}, kwNames kws = some ks → (backToKw pos (keywordEach kws env)).all (·.1.isSome) = true ∧ (backToKw pos (keywordEach kws env)).filterMap (·.1) = ks ∧ (backToKw pos (keywordEach kws env)).any (·.1.isNone) = false
  | [], ks, h => by simp [kwNames] at h; subst h; exact ⟨rfl, rfl, rfl⟩
  | ⟨some n, v, p⟩ :: r, ks, h => by
    simp only [kwNames] at h
    obtain ⟨ms, e, rfl⟩ := map_some h
    obtain ⟨h1, h2, h3⟩ := kw_all (env := env) e
    refine ⟨?_, ?_, ?_⟩
    · show (true && (backToKw pos (keywordEach r env)).all (·.1.isSome)) = true
      rw [h1]; rfl
    · show n :: (backToKw pos (keywordEach r env)).filterMap (·.1) = n :: ms
      rw [h2]
    · show (false || (backToKw pos (keywordEach r env)).any (·.1.isNone)) = false
      rw [h3]; rfl
  | ⟨none, v, p⟩ :: r, ks, h => by cases h
theorem em_call {es : List Expr} {kws : List Keyword} {m mk : Ms} {x : Str} {p : Pos} {ks : List Str} {ix : List Nat} {k : Nat} {f : Addr} {fd : FuncData} {ps : List Str} {cf : BF}
    (F : FnI X.prog X.w X.K X.mg X.base k f fd ps (fun ds S => cf S ds)) (hr : Room k X.A) (hgd : X.A.guards = some []) (hx : X.xe = fun _ _ => False) (hb : Bnd fd ps) (hg : Gl X x) (hm : X.mg x = some (.ref f)) (hk : PySem.W.keepIn X.K (.ref f) = true) (hdb : (x == ("__debug__" : Str)) = false)
    (ha : AM X es m) (hs : es.all notStar = true) (hkw : KM X kws mk) (hks : kwNames kws = some ks) (hix : argIx ps ks es.length = some ix) (hm0 : es = [] → m = mNil) (hml : ∀ ev S ds S', m ev S = some (ds, S') → ds.length = es.length) (hkl : ∀ ev S ds S', mk ev S = some (ds, S') → ds.length = ks.length) :
    EM X (.Call (.Name x p) es kws pos) (mCall cf ix m mk) := by
  intro pins s σ H B ev S d S' I hS hE em
  obtain ⟨⟨xs, S1⟩, e1, em⟩ := bind_some em
  obtain ⟨⟨zs, S2⟩, e2, em⟩ := bind_some em
  obtain ⟨full, e3, em⟩ := bind_some em
  obtain ⟨k1, k2, k3⟩ := kw_all (pos := pos) (env := X.env) hks
  have l1 : xs.length = es.length := hml _ _ _ _ e1
  have l2 : zs.length = ks.length := hkl _ _ _ _ e2
  -- behind all arguments
  have fin : ∀ us s1, RMs X pins σ B H xs S1 us s1 → wpAny (model X.prog X.w) X.A (evalAll ((backToKw pos (keywordEach kws X.env)).map (·.2))) (fun ws s2 => X.K.In s2.heap ∧ wpAny (model X.prog X.w) X.A (call (.ref f) ([] ++ us) (((backToKw pos (keywordEach kws X.env)).filterMap (·.1)).zip ws)) (RM X pins σ B H d S') X.xe s2) X.xe s1 :=
    fun us s1 ⟨vs, H1, B1, I1, r1, x1, hS1, d1⟩ => by
      refine thn (hkw pos pins s1 σ H1 B1 ev S1 zs S2 I1 hS1 (hE.ext x1) e2) fun ws s2 ⟨vz, H2, B2, I2, r2, x2, hS2, d2⟩ => ⟨I2.kIn, ?_⟩
      rw [k2, List.nil_append]
      obtain ⟨vf, e4, df⟩ := permD_rds ((RDs.ext x2 d1).append d2) e3
      obtain ⟨uf, e5, rf⟩ := permD_vals (r1.append r2) e4
      have l3 : us.length = es.length := by rw [← r1.length, ← d1.length]; exact l1
      have l4 : ws.length = ks.length := by rw [← r2.length, ← d2.length]; exact l2
      have bnd : BindsTo s2 fd ⟨us, ks.zip ws⟩ (ps.zip uf) := hb s2 us ws uf ks ix (by rw [l3]; exact hix) l4 e5
      have lf : uf.length = ps.length := by rw [permD_len e5]; exact (argIx_len hix).1
      exact thn (run_own F hr hgd hx I2 bnd lf rf hS2 df em (post_QM (X := X))) fun u s3 q => RM.of_EP (x1.trans x2) q
  refine wpAny_Call_Name_kw (ld_glob I hg hm ?_ hdb)
  cases es with
  | nil =>
    cases hm0 rfl
    cases e1
    refine PySem.W.callWith_KW0 (h₀ := X.base) I.ok.mod.kin hk k1 (fin [] s ⟨[], H, B, I, .nil, hS.refl, hS, .nil⟩) ?_
    show (false || (backToKw pos (keywordEach kws X.env)).any (·.1.isNone)) = false
    rw [k3]; rfl
  | cons e es =>
    have hs2 := hs
    rw [List.all_cons, Bool.and_eq_true] at hs2
    refine PySem.W.callWith_KW (h₀ := X.base) I.ok.mod.kin hk k1 (thn (ha pos pins s σ H B ev S xs S1 I hS hE e1) fun us s1 q => fin us s1 q) ?_ (star_cons hs2.1)
    rw [star_plain hs, k3]; rfl
end
end PI
set_option maxHeartbeats 1000000
/-! Own text: dict displays, targets, statements, loops. -/
namespace PI
open PySem PySem.Spec L2
open PyProof.Rows hiding St

/-! ### dicts -/
def putD (kvs : List (Key × D)) (k : Key) (v : D) : List (Key × D) :=
  if kvs.any (fun kv => decide (kv.1 = k)) then kvs.map (fun kv => if kv.1 = k then (kv.1, v) else kv) else kvs ++ [(k, v)]
def mergeD (kvs more : List (Key × D)) : List (Key × D) := more.foldl (fun acc kv => putD acc kv.1 kv.2) kvs
def allKV : List (Key × D) → Option (List (PyData × PyData))
  | [] => some []
  | (k, .p x) :: r => (allKV r).map ((kP k, x) :: ·)
  | _ :: _ => none
/-- a new dict; bx: boxed -/
def mkD (bx : Bool) (kvs : List (Key × D)) (S : Store) : Option (D × Store) :=
  if kvs.length ≤ sizeLine then (if bx then some (.ref S.length, S ++ [.dct kvs]) else (allKV kvs).map fun ys => (.p (.dict ys), S)) else none

section
variable {K : PySem.W.Frag} {mg : Mg} {B : BT} {H : Hp} {S : Store}
theorem RKV.any {es : List (Key × D)} {kvs : List (Key × V)} (r : RKV K mg B H es kvs) (k : Key) : es.any (fun kv => decide (kv.1 = k)) = kvs.any (fun kv => decide (kv.1 = k)) := by
  induction r with
  | nil => rfl
  | cons h _ ih =>
    simp only [List.any_cons, ih, h.1]
theorem RKV.mapP {es : List (Key × D)} {kvs : List (Key × V)} (r : RKV K mg B H es kvs) (k : Key) {d : D} {v : V} (h : RD K mg B H d v) :
    RKV K mg B H (es.map (fun kv => if kv.1 = k then (kv.1, d) else kv)) (kvs.map (fun kv => if kv.1 = k then (kv.1, v) else kv)) := by
  induction r with
  | nil => exact .nil
  | @cons a b _ _ h1 _ ih =>
    obtain ⟨a1, a2⟩ := a
    obtain ⟨b1, b2⟩ := b
    obtain ⟨e, h2⟩ := h1
    simp only at e
    subst e
    simp only [List.map_cons]
    by_cases hk : a1 = k
    · simp only [hk, if_true]
      exact .cons ⟨rfl, h⟩ ih
    · simp only [hk, if_false]
      exact .cons ⟨rfl, h2⟩ ih
theorem RKV.append {es fs : List (Key × D)} {kvs lvs : List (Key × V)} (r : RKV K mg B H es kvs) (q : RKV K mg B H fs lvs) : RKV K mg B H (es ++ fs) (kvs ++ lvs) := by
  induction r with
  | nil => exact q
  | cons h _ ih => exact .cons h ih
theorem RKV.put {es : List (Key × D)} {kvs : List (Key × V)} (r : RKV K mg B H es kvs) (k : Key) {d : D} {v : V} (h : RD K mg B H d v) : RKV K mg B H (putD es k d) (putK kvs k v) := by
  unfold putD putK
  rw [r.any k]
  split
  · exact r.mapP k h
  · exact r.append (.cons ⟨rfl, h⟩ .nil)
theorem RKV.merge {fs : List (Key × D)} {lvs : List (Key × V)} (q : RKV K mg B H fs lvs) : ∀ {es : List (Key × D)} {kvs : List (Key × V)}, RKV K mg B H es kvs → RKV K mg B H (mergeD es fs) (mergeK kvs lvs) := by
  induction q with
  | nil => intro es kvs r; exact r
  | @cons a b _ _ h _ ih =>
    intro es kvs r
    obtain ⟨a1, a2⟩ := a
    obtain ⟨b1, b2⟩ := b
    obtain ⟨e, h⟩ := h
    simp only at e
    subst e
    exact ih (r.put a1 h)
theorem allKV_dq : ∀ {es : List (Key × D)} {ys : List (PyData × PyData)} {kvs : List (Key × V)}, allKV es = some ys → RKV K mg B H es kvs → DqKV K B H kvs ys
  | [], ys, _, h, r => by simp [allKV] at h; subst h; cases r; exact .nil
  | (k, d) :: es, ys, _, h, .cons (b := b) h1 h2 => by
    cases d with
    | p x =>
      simp only [allKV] at h
      obtain ⟨zs, e, rfl⟩ := map_some h
      obtain ⟨e1, h1⟩ := h1
      obtain ⟨b1, b2⟩ := b
      simp only at e1
      subst e1
      exact .cons h1 (allKV_dq e h2)
    | _ => simp [allKV] at h
/-- a finished dict, list at p, which was set aside -/
theorem mkD_fin {bx : Bool} {p : Addr} {es : List (Key × D)} {kvs : List (Key × V)} {d : D} {S' : Store} (h : SR K mg (B.push p) H S) (hp : H p = some (.dK kvs)) (r : RKV K mg (B.push p) H es kvs) (e : mkD bx es S = some (d, S')) :
    ∃ B', SR K mg B' H S' ∧ RD K mg B' H d (.ref p) ∧ (∀ B0 H0, Ext B0 H0 B H → H0 p = none → Ext B0 H0 B' H) := by
  unfold mkD at e
  split at e
  · cases bx with
    | true =>
      simp only [if_true, Option.some.injEq, Prod.mk.injEq] at e
      obtain ⟨rfl, rfl⟩ := e
      have hl : B.b.length = S.length := h.len
      exact ⟨B.add p, h.keepBox ⟨kvs, hp, RKV.ex ex_kept r⟩, ⟨p, by show (B.b ++ [p])[S.length]? = some p; rw [← hl]; simp, rfl⟩, fun B0 H0 x q => x.keepBox q hp⟩
    | false =>
      simp only [Bool.false_eq_true, if_false] at e
      obtain ⟨ys, e1, e2⟩ := map_some e
      cases e2
      exact ⟨B, h.pop, .dct (.inl hp) h.popped (allKV_dq e1 (RKV.ex ex_pop r)), fun _ _ x _ => x⟩
  · cases e
theorem mkL_fin {bx : Bool} {p : Addr} {es : List D} {vs : List V} {d : D} {S' : Store} (h : SR K mg (B.push p) H S) (hp : H p = some (.lst vs)) (r : RDs K mg (B.push p) H es vs) (e : mkL bx es S = some (d, S')) :
    ∃ B', SR K mg B' H S' ∧ RD K mg B' H d (.ref p) ∧ (∀ B0 H0, Ext B0 H0 B H → H0 p = none → Ext B0 H0 B' H) := by
  unfold mkL at e
  split at e
  · cases bx with
    | true =>
      simp only [if_true, Option.some.injEq, Prod.mk.injEq] at e
      obtain ⟨rfl, rfl⟩ := e
      have hl : B.b.length = S.length := h.len
      exact ⟨B.add p, h.keepBox ⟨vs, hp, RDs.ex ex_kept r⟩, ⟨p, by show (B.b ++ [p])[S.length]? = some p; rw [← hl]; simp, rfl⟩, fun B0 H0 x q => x.keepBox q hp⟩
    | false =>
      simp only [Bool.false_eq_true, if_false] at e
      obtain ⟨ys, e1, e2⟩ := map_some e
      cases e2
      have := allP_eq e1
      subst this
      exact ⟨B, h.pop, .lst ⟨.inl hp, h.popped⟩ (dqAll_map.mpr (RDs.ex ex_pop r)), fun _ _ x _ => x⟩
  · cases e
end

/-! ### dict displays -/
abbrev Mp := EnvI → Store → Option (List (Key × D) × Store)
def mpNil : Mp := fun _ S => some ([], S)
def mpCons (k v : M) (r : Mp) : Mp := fun ev S => (k ev S).bind fun a => match a.1 with
  | .p x => (keyP x).bind fun k' => (v ev a.2).bind fun b => (r ev b.2).map fun c => ((k', b.1) :: c.1, c.2)
  | _ => none
def mDic (bx : Bool) (r : Mp) : M := fun ev S => (r ev S).bind fun a => if a.1.length ≤ 15 then mkD bx (mergeD [] a.1) a.2 else none
def DM (X : Cx) (pos : Pos) (keys : List (Option Expr)) (values : List Expr) (m : Mp) : Prop := ∀ (pins : List (Addr × Obj)) (s : Shared) (σ : St) (H : Hp) (B : BT) (ev : EnvI) (S : Store) (es : List (Key × D)) (S' : Store), Inv X pins σ H s → SR X.K X.mg B H S → ER X.K X.mg B H ev σ → m ev S = some (es, S') →
  wpAny (model X.prog X.w) X.A (evalPairs (pairTrees keys values X.env pos)) (fun vs s' => ∃ kvs H' B', Inv X pins σ H' s' ∧ VV (kvs.map fun kv => (kV kv.1, kv.2)) vs ∧ Ext B H B' H' ∧ SR X.K X.mg B' H' S' ∧ RKV X.K X.mg B' H' es kvs) X.xe s
section
variable {X : Cx} {a b c e : Expr} {ma mb mc : M} {pos : Pos}
theorem dm_nil : DM X pos [] [] mpNil := by
  intro pins s σ H B ev S es S' I hS hE em
  cases em
  exact pairTrees_nil_walk ⟨[], H, B, I, .nil, hS.refl, hS, .nil⟩
theorem dm_cons {ks : List (Option Expr)} {vs : List Expr} {m : Mp} (ha : EM X a ma) (hb : EM X b mb) (hr : DM X pos ks vs m) : DM X pos (some a :: ks) (b :: vs) (mpCons ma mb m) := by
  intro pins s σ H B ev S es S' I hS hE em
  obtain ⟨⟨x, S1⟩, e1, em⟩ := bind_some em
  cases x with
  | p x =>
    obtain ⟨k, e2, em⟩ := bind_some em
    obtain ⟨⟨y, S2⟩, e3, em⟩ := bind_some em
    obtain ⟨⟨zs, S3⟩, e4, em⟩ := map_some em
    cases em
    have ek := keyP_eq e2
    subst ek
    refine pairTrees_cons_walk (thn (ha pins s σ H B ev S _ S1 I hS hE e1) fun u s1 ⟨vx, H1, B1, I1, r1, x1, hS1, d1⟩ => thn (hb pins s1 σ H1 B1 ev S1 y S2 I1 hS1 (hE.ext x1) e3) fun w s2 ⟨vy, H2, B2, I2, r2, x2, hS2, d2⟩ =>
      thn (hr pins s2 σ H2 B2 ev S2 zs _ I2 hS2 (hE.ext (x1.trans x2)) e4) fun us s3 ⟨kvs, H3, B3, I3, r3, x3, hS3, d3⟩ => ?_)
    obtain rfl := kv_dq d1
    exact ⟨(k, vy) :: kvs, H3, B3, I3, .cons ⟨r1, r2⟩ r3, (x1.trans x2).trans x3, hS3, .cons ⟨rfl, RD.ext x3 d2⟩ d3⟩
  | _ => cases em
theorem em_dic0 (bx : Bool) : EM X (.Dict [] [] pos) (mDic bx mpNil) :=
  EM.of_pe pe_dnewK fun σ H B ev S d S' hS hE em => by
    obtain ⟨⟨x, S1⟩, e1, em⟩ := bind_some em
    cases e1
    simp only [List.length_nil, Nat.zero_le, if_true] at em
    intro p hp
    obtain ⟨B', y1, y2, y3⟩ := mkD_fin (hS.push hp (.dK [])) upd_same .nil em
    exact ⟨B', y3 B H (hS.ext_new hp _) hp, y1, y2⟩
theorem em_dic (bx : Bool) {keys : List (Option Expr)} {values : List Expr} {m : Mp} (h : DM X pos keys values m) (hall : keys.all (·.isSome) = true) (hl : keys.length = values.length) (h0 : keys ≠ []) (h15 : keys.length ≤ 15) : EM X (.Dict keys values pos) (mDic bx m) := by
  intro pins s σ H B ev S d S' I hS hE em
  obtain ⟨⟨es, S1⟩, e1, em⟩ := bind_some em
  split at em
  · rename_i hz
    have hn := I.hok.fresh (Nat.le_refl s.heap.objs.size)
    have I1 := I.laid (a := s.heap.objs.size) (o := .dK []) (h' := s.heap.push { cls := .type "dict", data := .dict #[] }) (t' := s.toks) (fun _ _ q => Heap.get?_push_of_some _ q) (Nat.le_refl _) (dk_empty s.heap I.big)
    refine wpAny_Dict_walk (knd := mixKind X.prog X.w) hall hl h0 h15 (thn (h pins _ σ _ (B.push s.heap.objs.size) ev S es S1 I1 (hS.push hn _) (ER.ex (ex_push hn _) hE) e1) fun ws s2 ⟨kvs, H2, B2, I2, rel, x2, hS2, d2⟩ => ?_)
    obtain ⟨rs, c, rk⟩ := carries_of (P := X.prog) (w := X.w) rel
    obtain ⟨B3, rfl⟩ := x2.pushed
    have e : H2 s.heap.objs.size = some (.dK []) := (x2.tmp _ List.mem_cons_self).trans upd_same
    obtain ⟨z, hd, vs0, r0, dd⟩ := dk_of I2.hok e
    cases r0
    have hl2 : kvs.length ≤ 15 := by rw [← d2.length]; exact hz
    have hz2 : (mergeK [] kvs).length ≤ sizeLine := by
      have h1 := length_mergeK kvs []
      rw [List.length_nil] at h1
      rw [sizeLine_eq]; omega
    refine ⟨rs, c, dd, fun h' dd' hs => ?_⟩
    have he : ∃ q, h'.get? s.heap.objs.size = some q := let ⟨q, _, _, hq, _⟩ := dd'; ⟨q, hq⟩
    have hT : s.heap.objs.size ∈ (B3.push s.heap.objs.size).t := List.mem_cons_self
    have x0 : Ext B H B3 H2 := (hS.ext_new hn (.dK [])).inner hn x2
    have x3 := x0.aside hn hS2.popped (.dK (mergeK [] kvs))
    have d3 : RKV X.K X.mg (B3.push s.heap.objs.size) (upd H2 s.heap.objs.size (.dK (mergeK [] kvs))) (mergeD [] es) (mergeK [] kvs) := (RKV.ex (ex_temp hT _) d2).merge .nil
    obtain ⟨B', y1, y2, y3⟩ := mkD_fin (hS2.temp hT _) upd_same d3 em
    exact ⟨.ref s.heap.objs.size, _, B', d_write I2 (by rw [e]; exact True.intro) hs he (dk_new hz2 hd (rk.merge .nil) dd'), rfl, y3 B H x3 hn, y1, y2⟩
  · cases em

/-! ### targets -/
def gNm (i : Nat) : MG := fun d ev S => some (ev.set i (some d), S)
def gsNil : List D → EnvI → Store → Option (EnvI × Store) := fun ds ev S => match ds with
  | [] => some (ev, S)
  | _ => none
def gsCons (g : MG) (r : List D → EnvI → Store → Option (EnvI × Store)) : List D → EnvI → Store → Option (EnvI × Store) := fun ds ev S => match ds with
  | d :: ds => (g d ev S).bind fun a => r ds a.1 a.2
  | [] => none
/-- (a, b, ..) = a tuple of just so many -/
def gTp (n : Nat) (r : List D → EnvI → Store → Option (EnvI × Store)) : MG := fun d ev S => match d with
  | .p (.tuple xs) => if xs.length = n then r (xs.map .p) ev S else none
  | _ => none
def setI (S : Store) (o i d : D) : Option Store := match o with
  | .ref n => (match S[n]? with
    | some (.lst xs) => (match i with
      | .p (.int k) => (ixN xs.length k).map fun j => S.set n (.lst (xs.set j d))
      | _ => none)
    | some (.dct kvs) => (match i with
      | .p x => if kvs.length < sizeLine then (keyP x).map fun k => S.set n (.dct (putD kvs k d)) else none
      | _ => none)
    | _ => none)
  | _ => none
/-- o[i] = .. -/
def gSb (o i : M) : MG := fun d ev S => (o ev S).bind fun a => (i ev a.2).bind fun b => (setI b.2 a.1 b.1 d).map fun S' => (ev, S')
/-- a target that stores at the slots is -/
def GM (X : Cx) (tg : Expr) (is : List Nat) (m : MG) : Prop := ∀ (pins : List (Addr × Obj)) (s : Shared) (σ : St) (H : Hp) (B : BT) (ev : EnvI) (S : Store) (d : D) (v : V) (u : Value) (ev' : EnvI) (S' : Store), Inv X pins σ H s → SR X.K X.mg B H S → ER X.K X.mg B H ev σ → RD X.K X.mg B H d v → RelV v u → m d ev S = some (ev', S') →
  wpAny (model X.prog X.w) X.A (assign tg X.env u) (fun _ s' => ∃ σ' H' B', Inv X pins σ' H' s' ∧ Ext B H B' H' ∧ SR X.K X.mg B' H' S' ∧ ER X.K X.mg B' H' ev' σ' ∧ ∀ j, j ∉ is → σ'[j]? = σ[j]?) X.xe s
def GsM (X : Cx) (tgs : List Expr) (is : List Nat) (m : List D → EnvI → Store → Option (EnvI × Store)) : Prop := ∀ (pins : List (Addr × Obj)) (s : Shared) (σ : St) (H : Hp) (B : BT) (ev : EnvI) (S : Store) (ds : List D) (vs : List V) (us : List Value) (ev' : EnvI) (S' : Store), Inv X pins σ H s → SR X.K X.mg B H S → ER X.K X.mg B H ev σ → RDs X.K X.mg B H ds vs → Vals vs us → m ds ev S = some (ev', S') →
  wpAny (model X.prog X.w) X.A (assignInOrder ((assignEach tgs X.env).map (·.2)) us) (fun _ s' => ∃ σ' H' B', Inv X pins σ' H' s' ∧ Ext B H B' H' ∧ SR X.K X.mg B' H' S' ∧ ER X.K X.mg B' H' ev' σ' ∧ ∀ j, j ∉ is → σ'[j]? = σ[j]?) X.xe s
theorem gm_name {i : Nat} {x : Str} (hN : X.N.Nodup) (hi : X.N[i]? = some x) (hx : Loc X.env.scope x) (hf : X.fn x = true ∨ X.env.scope.names.lookup x = some .local) : GM X (.Name x pos) [i] (gNm i) := by
  intro pins s σ H B ev S d v u ev' S' I hS hE rd rv em
  cases em
  exact wpAny_assign_Name (store_ok I hN hi hx rv (fun s' I' => ⟨_, H, B, I', hS.refl, hS, hE.set i rd, fun j hj => List.getElem?_set_ne (fun q => hj (by rw [q]; exact List.mem_singleton_self _))⟩) hf)
theorem gs_nil : GsM X [] [] gsNil := by
  intro pins s σ H B ev S ds vs us ev' S' I hS hE rd rv em
  unfold gsNil at em
  split at em
  · cases em
    cases rd
    cases rv
    exact assignInOrder_nil ⟨σ, H, B, I, hS.refl, hS, hE, fun _ _ => rfl⟩
  · cases em
theorem each_cons {e : Expr} {es : List Expr} {env : Env} (h : notStar e = true) : assignEach (e :: es) env = (false, assign e env) :: assignEach es env := by
  cases e <;> first | rfl | cases h
theorem gs_cons {e : Expr} {es : List Expr} {is js : List Nat} {g : MG} {r : List D → EnvI → Store → Option (EnvI × Store)} (h1 : GM X e is g) (h2 : GsM X es js r) (hs : notStar e = true) : GsM X (e :: es) (is ++ js) (gsCons g r) := by
  intro pins s σ H B ev S ds vs us ev' S' I hS hE rd rv em
  unfold gsCons at em
  split at em
  · obtain ⟨⟨ev1, S1⟩, e1, em⟩ := bind_some em
    cases rd with
    | cons d1 d2 =>
      cases rv with
      | cons r1 r2 =>
        rw [each_cons hs]
        refine assignInOrder_cons (thn (h1 pins s σ H B ev S _ _ _ ev1 S1 I hS hE d1 r1 e1) fun _ s1 ⟨σ1, H1, B1, I1, x1, hS1, hE1, u1⟩ => ?_)
        refine thn (h2 pins s1 σ1 H1 B1 ev1 S1 _ _ _ ev' S' I1 hS1 hE1 (RDs.ext x1 d2) r2 em) fun _ s2 ⟨σ2, H2, B2, I2, x2, hS2, hE2, u2⟩ => ?_
        exact ⟨σ2, H2, B2, I2, x1.trans x2, hS2, hE2, fun j hj => (u2 j fun q => hj (List.mem_append_right _ q)).trans (u1 j fun q => hj (List.mem_append_left _ q))⟩
  · cases em
theorem each_len {env : Env} : ∀ {es : List Expr}, es.all notStar = true → (assignEach es env).length = es.length ∧ (assignEach es env).findIdx? (·.1) = none
  | [], _ => ⟨rfl, rfl⟩
  | e :: es, h => by
    rw [List.all_cons, Bool.and_eq_true] at h
    rw [each_cons h.1]
    obtain ⟨h1, h2⟩ := each_len (env := env) h.2
    refine ⟨by simp [h1], ?_⟩
    rw [List.findIdx?_cons, if_neg (by simp), h2]; rfl
/-- a tuple's items go to the targets: from any tuple that is read -/
theorem gm_items {es : List Expr} {is : List Nat} {k : Nat} {r : List D → EnvI → Store → Option (EnvI × Store)} (K : BK X) (h : GsM X es is r) (hs : es.all notStar = true) {pins : List (Addr × Obj)} {s : Shared} {σ : St} {H : Hp} {B : BT} {ev : EnvI} {S : Store} {ds : List D} {a : Addr} {vs : List V} {ev' : EnvI} {S' : Store}
    (I : Inv X pins σ H s) (hS : SR X.K X.mg B H S) (hE : ER X.K X.mg B H ev σ) (hq : SqT X.K H a vs) (rd : RDs X.K X.mg B H ds vs) (hl : ds.length = es.length) (em : r ds ev S = some (ev', S')) :
    wpAny (model X.prog X.w) X.A (assign (.Tuple es k pos) X.env (.ref a)) (fun _ s' => ∃ σ' H' B', Inv X pins σ' H' s' ∧ Ext B H B' H' ∧ SR X.K X.mg B' H' S' ∧ ER X.K X.mg B' H' ev' σ' ∧ ∀ j, j ∉ is → σ'[j]? = σ[j]?) X.xe s := by
  obtain ⟨its, rv, ht, hz⟩ := I.tuple hq
  obtain ⟨l1, l2⟩ := each_len (env := X.env) hs
  refine PyProof.Rows.assign_Tuple_tuple (I.ok.hd K.calm) ht (by rw [l1, List.size_toArray, ← rv.length, ← rd.length, hl]) l2 fun h' hx => ?_
  have I1 : Inv X pins σ H { s with heap := h' } := I.kept (t' := s.toks) fun b o e => hx b o (Nat.ne_of_lt (Heap.lt_size e)) e
  exact h pins _ σ H B ev S ds vs _ ev' S' I1 hS hE rd (by simpa using rv) em
theorem gm_tup {es : List Expr} {is : List Nat} {k : Nat} {r : List D → EnvI → Store → Option (EnvI × Store)} (K : BK X) (h : GsM X es is r) (hs : es.all notStar = true) : GM X (.Tuple es k pos) is (gTp es.length r) := by
  intro pins s σ H B ev S d v u ev' S' I hS hE rd rv em
  unfold gTp at em
  split at em
  · rename_i xs
    split at em
    · rename_i hl
      obtain ⟨a, vs, rfl, h1, h2⟩ := dq_tup rd
      cases rv
      exact gm_items K h hs I hS hE h1.sq (dqAll_map.mp h2) (by rw [List.length_map]; exact hl) em
    · cases em
  · cases em
theorem RDs.set {K : PySem.W.Frag} {mg : Mg} {B : BT} {H : Hp} {d : D} {v : V} (h : RD K mg B H d v) : ∀ {ds : List D} {vs : List V} (i : Nat), RDs K mg B H ds vs → RDs K mg B H (ds.set i d) (vs.set i v)
  | _, _, _, .nil => .nil
  | _, _, 0, .cons _ t => .cons h t
  | _, _, i + 1, .cons q t => .cons q (RDs.set h i t)
theorem setI_ok (K : BK X) {pins : List (Addr × Obj)} {s : Shared} {σ : St} {H : Hp} {B : BT} {S S' : Store} {o i d : D} {vo vi v : V} {ov iv u : Value} (I : Inv X pins σ H s) (hS : SR X.K X.mg B H S) (d1 : RD X.K X.mg B H o vo) (d2 : RD X.K X.mg B H i vi) (d3 : RD X.K X.mg B H d v)
    (r1 : RelV vo ov) (r2 : RelV vi iv) (r3 : RelV v u) (e : setI S o i d = some S') : wpAny (model X.prog X.w) X.A (setItem ov iv u) (fun _ s' => ∃ H', Inv X pins σ H' s' ∧ Ext B H B H' ∧ SR X.K X.mg B H' S') X.xe s := by
  unfold setI at e
  split at e
  · rename_i n
    obtain ⟨a, ha, rfl⟩ := d1
    split at e
    · rename_i xs hx
      obtain ⟨vs, h1, h2⟩ := hS.cell n _ a hx ha
      split at e
      · rename_i k
        obtain rfl := dq_int d2
        obtain ⟨j, hj, rfl⟩ := map_some e
        refine thn (set_list pins s σ H _ _ v ov iv u (fun H' => Ext B H B H' ∧ SR X.K X.mg B H' (S.set n (.lst (xs.set j d)))) I r1 r2 r3 ⟨a, vs, k, j, rfl, rfl, h1, by rw [← h2.length]; exact hj, ?_⟩) fun _ s' ⟨H', I', q⟩ => ⟨H', I', q⟩
        have x := hS.ext_write ha (.lst (vs.set j v))
        exact ⟨x, hS.write ha ⟨_, upd_same, RDs.ext x (RDs.set d3 j h2)⟩⟩
      · cases e
    · rename_i kvs hx
      obtain ⟨vs, h1, h2⟩ := hS.cell n _ a hx ha
      split at e
      · split at e
        · rename_i hz
          obtain ⟨k, hk, rfl⟩ := map_some e
          have ek := keyP_eq hk
          subst ek
          obtain rfl := kv_dq d2
          cases r1
          refine d_setItem (by have := K.hu; omega) I (DPut.k h1 (by rw [← h2.length]; exact hz)) r2 r3 fun s' I' => ?_
          have x := hS.ext_write ha (.dK (putK vs k v))
          exact ⟨_, I', x, hS.write ha ⟨_, upd_same, RKV.ext x (h2.put k d3)⟩⟩
        · cases e
      · cases e
    · cases e
  · cases e
theorem gm_sub (K : BK X) {o i : Expr} {mo mi : M} (ho : EM X o mo) (hi : EM X i mi)
    (ha : ∀ v, assign (.Subscript o i pos) X.env v = (do
      let ov ← holding [v] (eval o X.env)
      let iv ← holding [v, ov] (eval i X.env)
      standAt pos
      holding [v, ov, iv] (setItem ov iv v)
      release [v, ov, iv] [])) : GM X (.Subscript o i pos) [] (gSb mo mi) := by
  intro pins s σ H B ev S d v u ev' S' I hS hE rd rv em
  obtain ⟨⟨x, S1⟩, e1, em⟩ := bind_some em
  obtain ⟨⟨y, S2⟩, e2, em⟩ := bind_some em
  obtain ⟨S3, e3, em⟩ := map_some em
  cases em
  rw [ha]
  refine wpAny_bind (wpAny_holding (thn (ho pins s σ H B ev S x S1 I hS hE e1) fun ov s1 ⟨vo, H1, B1, I1, r1, x1, hS1, d1⟩ => ?_))
  refine wpAny_bind (wpAny_holding (thn (hi pins s1 σ H1 B1 ev S1 y S2 I1 hS1 (hE.ext x1) e2) fun iv s2 ⟨vi, H2, B2, I2, r2, x2, hS2, d2⟩ => ?_))
  refine wpAny_bind (wpAny_standAt (wpAny_bind (wpAny_holding (thn (setI_ok K I2 hS2 (RD.ext x2 d1) d2 (RD.ext (x1.trans x2) rd) r1 r2 rv e3) fun _ s3 ⟨H3, I3, x3, hS3⟩ => ?_))))
  exact wpAny_release ⟨σ, H3, B2, I3, (x1.trans x2).trans x3, hS3, hE.ext ((x1.trans x2).trans x3), fun _ _ => rfl⟩
end
end PI
set_option maxHeartbeats 1000000
/-! Own text: list(range(..)), sorted(set(..)). -/
namespace PI
open PySem PySem.Spec L2
open PyProof.Rows hiding St

def rngL (lo : Int) (n : Nat) : List D := (List.range n).map fun i => .p (.int (lo + (i : Nat)))
def rngV (lo : Int) (n : Nat) : List V := (List.range n).map fun i => .int (lo + (i : Nat))
theorem rng_rds {K : PySem.W.Frag} {mg : Mg} {B : BT} {H : Hp} {lo : Int} : ∀ l : List Nat, RDs K mg B H (l.map fun i => .p (.int (lo + (i : Nat)))) (l.map fun i => V.int (lo + (i : Nat)))
  | [] => .nil
  | i :: r => .cons (Dq.int _) (rng_rds r)
theorem vals_at : ∀ {xs : List V} {us : List Value}, xs.length = us.length → (∀ (i : Nat) (x : V) (u : Value), xs[i]? = some x → us[i]? = some u → RelV x u) → Vals xs us
  | [], [], _, _ => .nil
  | x :: xs, u :: us, hl, h => .cons (h 0 x u rfl rfl) (vals_at (by simpa using hl) fun i y w e1 e2 => h (i + 1) y w e1 e2)
  | [], _ :: _, hl, _ => by cases hl
  | _ :: _, [], hl, _ => by cases hl
section
variable {X : Cx}
theorem lrange_run (hc : X.calm = true) {pins : List (Addr × Obj)} {σ : St} {H : Hp} {s : Shared} {B : BT} {S S' : Store} {bx : Bool} {d : D} {lo hi : Int} {t u v : Tok} {tk : Nat} (I : Inv X pins σ H s) (hS : SR X.K X.mg B H S) (h1 : -(2 ^ 62) ≤ lo) (h2 : lo < 2 ^ 62) (h3 : -(2 ^ 62) ≤ hi) (h4 : hi < 2 ^ 62)
    (hz : (hi - lo).toNat ≤ 16777216) (e : mkL bx (rngL lo (hi - lo).toNat) S = some (d, S')) :
    wpAny (model X.prog X.w) X.A (call (.type "list") [.ref s.heap.objs.size]) (RM X pins σ B H d S') X.xe { s with heap := s.heap.push { cls := .type "range", data := .fields #[.int lo t, .int hi u, .int 1 v] }, toks := tk } := by
  have I1 : Inv X pins σ H { s with heap := s.heap.push { cls := .type "range", data := .fields #[.int lo t, .int hi u, .int 1 v] }, toks := tk } := I.kept fun b o e => Heap.get?_push_of_some _ e
  refine call_list_range (n := (hi - lo).toNat) (I.ok.hd hc) (IsRange.new ..) (small_one h1 h2 h3 h4) (by rw [rangeSize_one]; split <;> omega) hz fun h' tk' acc c hk ho hit => ?_
  have fr := I1.hok.fresh (Nat.le_refl (s.heap.push { cls := .type "range", data := .fields #[.int lo t, .int hi u, .int 1 v] }).objs.size)
  obtain ⟨hz2, B', x1, x2, x3⟩ := mkL_ok hS (rng_rds (lo := lo) (List.range (hi - lo).toNat)) e fr
  refine ⟨.ref _, upd H _ (.lst _), B', I1.laid (t' := tk') hk (Nat.le_refl _) ⟨hz2, acc.toList, c, vals_at ?_ ?_, by rw [Array.toArray_toList]; exact ho⟩, rfl, x1, x2, x3⟩
  · rw [List.length_map, List.length_range, Array.length_toList]
    exact hit.1.symm
  · intro i x w e1 e2
    rw [List.getElem?_map] at e1
    have hi' : i < (hi - lo).toNat := by
      by_cases q : i < (hi - lo).toNat
      · exact q
      · rw [List.getElem?_eq_none (by rw [List.length_range]; omega)] at e1; cases e1
    rw [List.getElem?_range hi'] at e1
    cases e1
    obtain ⟨z, hz'⟩ := hit.2 i w (by simpa using e2)
    exact ⟨z, by rw [hz', Int.mul_one]⟩
variable {a b : Expr} {ma mb : M} {p p2 q pos : Pos}
def lrg1 (bx : Bool) (S : Store) : D → Option (D × Store)
  | .p (.int j) => if j.natAbs < 2 ^ 62 ∧ j.toNat ≤ 16777216 then mkL bx (rngL 0 j.toNat) S else none
  | _ => none
theorem lrg1_inv {bx : Bool} {S S' : Store} {x d : D} (h : lrg1 bx S x = some (d, S')) : ∃ j, x = .p (.int j) ∧ (-(2 ^ 62) ≤ j ∧ j < 2 ^ 62 ∧ j.toNat ≤ 16777216) ∧ mkL bx (rngL 0 j.toNat) S = some (d, S') := by
  unfold lrg1 at h
  split at h
  · rename_i j
    split at h
    · rename_i hc
      exact ⟨j, rfl, by omega, h⟩
    · cases h
  · cases h
def mLrg1 (bx : Bool) (a : M) : M := fun ev S => (a ev S).bind fun r => lrg1 bx r.2 r.1
theorem em_lrg1 (bx : Bool) (K : BK X) (hg : Gl X "list") (hm : X.mg "list" = none) (hg2 : Gl X "range") (hm2 : X.mg "range" = none) (ha : EM X a ma) (hs : notStar a = true) :
    EM X (.Call (.Name "list" p) [.Call (.Name "range" p2) [a] [] q] [] pos) (mLrg1 bx ma) := by
  intro pins s σ H B ev S d S' I hS hE em
  obtain ⟨⟨x, S1⟩, e1, em⟩ := bind_some em
  replace em : lrg1 bx S1 x = some (d, S') := em
  refine Call_ (ld_blt I hg hm (show bootBuiltins "list" = some (.type "list") by decide +kernel) ?_)
  refine PyProof.Rows.callWith_type1 (PyProof.Rows.args_cons ?_ rfl) rfl rfl
  refine Call_ (ld_blt I hg2 hm2 (show bootBuiltins "range" = some (.type "range") by decide +kernel) ?_)
  refine PyProof.Rows.callWith_type1 (PyProof.Rows.args_cons (thn (ha pins s σ H B ev S x S1 I hS hE e1) fun v s1 ⟨vx, H1, B1, I1, r1, x1, hS1, d1⟩ => PyProof.Rows.args_nil ?_) (star_cons hs)) (star_cons hs) rfl
  obtain ⟨j, rfl, hc, em⟩ := lrg1_inv em
  obtain rfl := dq_int d1
  obtain ⟨t, rfl⟩ := r1
  refine call_range_1 (PyProof.Rows.args_nil (thn (lrange_run K.calm (lo := 0) (hi := j) I1 hS1 (by omega) (by omega) hc.1 hc.2.1 (by have := hc.2.2; omega) (by rw [show (j - 0).toNat = j.toNat by omega]; exact em)) fun u s3 z => RM.post x1 z))
/-- the numbers of a list, each once, ascending -/
def setL (ns : List Int) : List Int := (PyProof.Rows.firstMet (fun i => ns.getD i 0) ns.length).mergeSort fun a b => decide (a ≤ b)
def sset (bx : Bool) (S : Store) (x : D) : Option (D × Store) := (numsOf S x).bind fun ns => if ns.length < 64 then mkL bx ((setL ns).map fun i => .p (.int i)) S else none
def mSset (bx : Bool) (a : M) : M := fun ev S => (a ev S).bind fun r => sset bx r.2 r.1
theorem ints_rds {K : PySem.W.Frag} {mg : Mg} {B : BT} {H : Hp} : ∀ l : List Int, RDs K mg B H (l.map fun i => .p (.int i)) (l.map V.int)
  | [] => .nil
  | i :: r => .cons (Dq.int _) (ints_rds r)
theorem asc_unique : ∀ {l m : List Int}, l.Pairwise (· < ·) → m.Pairwise (· < ·) → (∀ k, k ∈ l ↔ k ∈ m) → l = m
  | [], [], _, _, _ => rfl
  | [], b :: m, _, _, h => by have := (h b).mpr List.mem_cons_self; cases this
  | a :: l, [], _, _, h => by have := (h a).mp List.mem_cons_self; cases this
  | a :: l, b :: m, h1, h2, h => by
    rw [List.pairwise_cons] at h1 h2
    have e : a = b := by
      have q1 := (h a).mp List.mem_cons_self
      have q2 := (h b).mpr List.mem_cons_self
      rcases List.mem_cons.mp q1 with q1 | q1
      · exact q1
      · rcases List.mem_cons.mp q2 with q2 | q2
        · exact q2.symm
        · have := h1.1 _ q2
          have := h2.1 _ q1
          omega
    subst e
    congr 1
    refine asc_unique h1.2 h2.2 fun k => ⟨fun q => ?_, fun q => ?_⟩
    · rcases List.mem_cons.mp ((h k).mp (List.mem_cons_of_mem _ q)) with z | z
      · have := h1.1 _ q; omega
      · exact z
    · rcases List.mem_cons.mp ((h k).mpr (List.mem_cons_of_mem _ q)) with z | z
      · have := h2.1 _ q; omega
      · exact z
end
end PI
set_option maxHeartbeats 4000000
/-! Own text: set(a list of numbers), sorted. -/
namespace PI
open PySem PySem.Spec L2
open PyProof.Rows hiding St
section
variable {P : Program} {w : World} {A : Around} {E : Value → Shared → Prop} {s : Shared}
/-- T(..) by what its __new__ and __init__ do, the arguments looked at by a rule -/
theorem type_call {T newId initId : String} {Bi : Builtin} {args : List Value} {Q Q1 : Value → Shared → Prop} (ft : TypeCalled T newId initId) (ct : checkTypeCall T ⟨args, []⟩ = pure ()) (eI : entryFor table initId = some Bi)
    (hn : codeAny (model P w) A.in1 (.call (.builtin newId) ⟨.type T :: args, []⟩) (wants Q1 E) s)
    (hi : ∀ v s1, Q1 v s1 → s1.TypeIs v T ∧ codeAny (model P w) A.in1 (.call (.builtin initId) ⟨v :: args, []⟩) (wants (fun r s2 => r = .none ∧ Q v s2) E) s1) : wpAny (model P w) A (call (.type T) args) Q E s := by
  obtain ⟨c, tl, km⟩ := ft.mro
  have kd := ft.made
  have kb := ft.sub
  refine wpAny_call (codeAny_of_tree (show wpAny _ _ (callAny (.type T) _) _ _ _ from wpAny_pure ⟨Code.quiet_builtin _ (by decide +kernel), codeAny_builtin F.entry_type_call ?_⟩))
  rw [Around.under_plain (weight_type_call_type T args []) rfl]
  have k1 := ft.notType
  have k2 := ft.canCreate
  repeat any_goals first | assumption | wp_step
  refine codeAny_mono hn fun r s1 rr => ?_
  cases r with
  | error e => exact rr
  | ok fl =>
    cases fl with
    | ret v =>
      obtain ⟨kt, hi⟩ := hi v s1 rr
      have kl := ft.init.lookup
      have ki := ft.init.bind v
      repeat any_goals first | assumption | wp_step
      refine codeAny_mono hi fun r2 s2 r3 => ?_
      cases r2 with
      | error e => exact r3
      | ok fl2 =>
        cases fl2 with
        | ret u =>
          obtain ⟨rfl, z⟩ := r3
          repeat any_goals first | assumption | wp_step
        | _ => exact r3.elim
    | _ => exact rr.elim
end
section
variable {P : Program} {w : World} {A : Around} {E : Value → Shared → Prop} {s : Shared}
/-- set(a list of numbers) -/
theorem set_nums {l : Addr} {its : Array Value} (ns : List Int) {Q : Value → Shared → Prop} (hh : A.handled = none) (hl : s.heap.IsList l its) (ia : IntsAre its.toList ns) (room : ns.length + 1 < scanBound)
    (h : ∀ (hp : Heap) (tk c : Nat), SetR w hp s.heap.objs.size (fun j => decide (j ∈ ns)) c → c ≤ ns.length → (∀ b o, s.heap.get? b = some o → hp.get? b = some o) → Q (.ref s.heap.objs.size) { s with heap := hp, toks := tk }) :
    wpAny (model P w) A (call (.type "set") [.ref l]) Q E s := by
  have sz : its.size = ns.length := by
    have q := IntsAre.length ia
    rwa [Array.length_toList] at q
  let ob : Obj := { cls := .type "set", dict := none, data := .set #[] 0 (.fresh 0 0 (!w.params.followText "set-order")) }
  have e0 : (s.heap.push ob).get? s.heap.objs.size = some ob := Heap.get?_push_size _ rfl
  have il : (s.heap.push ob).IsList l its := by
    obtain ⟨o, z, zc, n, zd⟩ := hl
    exact ⟨o, Heap.get?_push_of_some _ z, zc, n, zd⟩
  refine type_call (Q1 := fun v s1 => v = .ref s.heap.objs.size ∧ s1 = { s with heap := s.heap.push ob }) F.called_set (F.typeCall_set_1 _) F.entry_set_init (code_set_led1 _ ⟨rfl, rfl⟩) fun v s1 q => ?_
  obtain ⟨rfl, rfl⟩ := q
  have ty : Shared.TypeIs { s with heap := s.heap.push ob } (.ref s.heap.objs.size) "set" := ⟨_, e0, rfl⟩
  refine ⟨ty, codeAny_call_builtin F.called_set.init.plain F.entry_set_init (check_set_init_1 ty ?_)⟩
  obtain ⟨⟨oc, od, oda, osl⟩, z, zc, n, zd⟩ := id hl
  simp only at zc zd
  subst zc zd
  have z1 := Heap.get?_push_of_some ob z
  have s1 := F.sub_list_set
  have s2 := F.sub_list_frozenset
  have nd : (Value.type "list" == Value.type "dict") = false := by decide
  unfold Builtin.«set.__init__» noKeywords
  unfold Builtin.Frozenset.updateFrom
  generalize ePI : pyIter = PI
  wp_walk
  subst ePI
  refine wpAny_pyIter_list il (wpAny_bind (wpAny_runValue ?_))
  have ls : l < s.heap.objs.size := Heap.lt_size z
  have es : (s.heap.push ob).objs.size = s.heap.objs.size + 1 := Heap.size_push ..
  have nI : l ≠ (s.heap.push ob).objs.size := fun q => Nat.ne_of_lt (Nat.lt_succ_of_lt ls) (q.trans es)
  have nS : s.heap.objs.size ∉ [(s.heap.push ob).objs.size, l] := fun q => by
    rcases List.mem_cons.mp q with q | q
    · exact Nat.ne_of_lt (Nat.lt_succ_self _) (q.trans es)
    · exact Nat.ne_of_gt ls (List.mem_singleton.mp q)
  have val : ∀ (i : Nat) (v : Value), its[i]? = some v → ∃ k t, ns[i]? = some k ∧ v = .int k t := fun i v hv => by
    have hi : i < ns.length := by
      rw [← sz]
      exact (Array.getElem?_eq_some_iff.mp hv).1
    obtain ⟨t, e⟩ := IntsAre.int_at ia i v (by rw [Array.getElem?_toList]; exact hv)
    rw [List.getD_eq_getElem?_getD, List.getElem?_eq_getElem hi] at e
    exact ⟨ns[i], t, List.getElem?_eq_getElem hi, e⟩
  have g0 : SetR w ((s.heap.push ob).push { cls := .type "list_iterator", data := .fields #[.ref l, .int 0 0] }) s.heap.objs.size (fun j => decide (j ∈ ns.take 0)) 0 := setR_new_at (Heap.get?_push_of_some _ e0)
  refine set_update_ints ((Walks.list (by simp [hh]) _ l nI its).toS) s.heap.objs.size nS ns sz room val (its.size - 0) 0 _ (by omega) (Nat.zero_le _) ⟨⟨_, Heap.get?_push_size _ rfl, rfl, rfl⟩, il.push _⟩ ⟨0, Nat.le_refl 0, g0⟩ ?_
  intro s5 c m cz R5
  obtain ⟨hp, g, d, tk, os⟩ := s5
  have eg : g = s.gens := m.gens
  have ed : d = s.drawn := m.drawn
  have eo : os = s.os := m.os
  subst eg ed eo
  rw [sz] at cz
  refine wpAny_pure (wpAny_pure ⟨rfl, h hp tk c R5 cz fun b o e => ?_⟩)
  have lb := Heap.lt_size e
  refine m.heap b o (fun q => ?_) (Heap.get?_push_of_some _ (Heap.get?_push_of_some _ e))
  rcases List.mem_cons.mp q with q | q
  · exact Nat.ne_of_lt lb q
  · exact Nat.ne_of_lt (Nat.lt_succ_of_lt lb) ((List.mem_singleton.mp q).trans es)
end

theorem met_nodup (f : Nat → Int) : ∀ n, (PyProof.Rows.firstMet f n).Nodup
  | 0 => List.nodup_nil
  | n + 1 => by
    have ih := met_nodup f n
    rw [PyProof.Rows.firstMet_succ]
    unfold PyProof.Rows.step_dedup
    split
    · exact ih
    · rename_i h
      rw [List.nodup_append]
      refine ⟨ih, List.pairwise_singleton _ _, fun x hx y hy e => h ?_⟩
      rw [List.mem_singleton.mp hy] at e
      subst e
      exact List.any_eq_true.mpr ⟨_, hx, beq_self_eq_true _⟩
theorem setL_asc (ns : List Int) : (setL ns).Pairwise (· < ·) := by
  have h1 : (setL ns).Pairwise (fun a b => decide (a ≤ b) = true) := List.pairwise_mergeSort (fun a b c h1 h2 => by simp only [decide_eq_true_eq] at *; omega) (fun a b => by simp only [Bool.or_eq_true, decide_eq_true_eq]; omega) _
  have h2 : (setL ns).Nodup := (List.mergeSort_perm _ _).nodup_iff.mpr (met_nodup _ _)
  refine (h1.and h2).imp fun {a b} ⟨q1, q2⟩ => ?_
  have := of_decide_eq_true q1
  omega
theorem mem_setL {ns : List Int} {k : Int} : k ∈ setL ns ↔ k ∈ ns := by
  unfold setL
  rw [List.mem_mergeSort]
  have e := PyProof.Rows.firstMet_any (fun i => ns.getD i 0) ns.length k
  have m : (List.range ns.length).map (fun i => ns.getD i 0) = ns := by
    apply List.ext_getElem
    · simp
    · intro i h1 h2
      simp [List.getElem?_eq_getElem h2]
  rw [m] at e
  constructor
  · intro h
    have : ns.any (· == k) = true := by rw [← e]; exact List.any_eq_true.mpr ⟨k, h, beq_self_eq_true k⟩
    obtain ⟨z, hz, ez⟩ := List.any_eq_true.mp this
    rw [← eq_of_beq ez]; exact hz
  · intro h
    have : (PyProof.Rows.firstMet (fun i => ns.getD i 0) ns.length).any (· == k) = true := by rw [e]; exact List.any_eq_true.mpr ⟨k, h, beq_self_eq_true k⟩
    obtain ⟨z, hz, ez⟩ := List.any_eq_true.mp this
    rw [← eq_of_beq ez]; exact hz
section
variable {X : Cx} {a : Expr} {ma : M} {p p2 q pos : Pos}
theorem em_sset (bx : Bool) (K : BK X) (hg : Gl X "sorted") (hm : X.mg "sorted" = none) (hg2 : Gl X "set") (hm2 : X.mg "set" = none) (ha : EM X a ma) (hs : notStar a = true) :
    EM X (.Call (.Name "sorted" p) [.Call (.Name "set" p2) [a] [] q] [] pos) (mSset bx ma) := by
  intro pins s σ H B ev S d S' I hS hE em
  obtain ⟨⟨x, S1⟩, e1, em⟩ := bind_some em
  replace em : sset bx S1 x = some (d, S') := em
  unfold sset at em
  obtain ⟨ns, e2, em⟩ := bind_some em
  split at em
  · rename_i h64
    refine Call_ (ld_blt I hg hm (show bootBuiltins "sorted" = some (.builtin "sorted") by decide +kernel) ?_)
    refine PyProof.Rows.callWith_builtin1 (PyProof.Rows.args_cons ?_ rfl) rfl rfl
    refine Call_ (ld_blt I hg2 hm2 (show bootBuiltins "set" = some (.type "set") by decide +kernel) ?_)
    refine PyProof.Rows.callWith_type1 (PyProof.Rows.args_cons (thn (ha pins s σ H B ev S x S1 I hS hE e1) fun v s1 ⟨vx, H1, B1, I1, r1, x1, hS1, d1⟩ => PyProof.Rows.args_nil ?_) (star_cons hs)) (star_cons hs) rfl
    obtain ⟨l, rfl, hl⟩ := numsOf_ok hS1 d1 e2
    obtain rfl : v = Value.ref l := r1
    obtain ⟨its, rv, pl, hz⟩ := I1.list hl
    refine set_nums ns (I1.ok.hd K.calm) pl.isList (by simpa using rv.ints) (by unfold scanBound; omega) fun hp tk c R cz k => PyProof.Rows.args_nil ?_
    have I2 : Inv X pins σ H1 { s1 with heap := hp, toks := tk } := I1.kept k
    refine sorted_set R (I2.ok.hd K.calm) (by omega) fun s' t out cc ms k2 g o ht gt ia asc mem len => ?_
    have em2 : ms = setL ns := asc_unique asc (setL_asc ns) fun k => by rw [mem, mem_setL, decide_eq_true_eq]
    subst em2
    have fr : H1 t = none := I2.hok.fresh ht
    obtain ⟨hz2, B', y1, y2, y3⟩ := mkL_ok hS1 (ints_rds (setL ns)) em fr
    have J : Inv X pins σ (upd H1 t (.lst ((setL ns).map V.int))) { ({ s1 with heap := hp, toks := tk } : Shared) with heap := s'.heap, gens := s'.gens, drawn := s'.drawn, toks := s'.toks } :=
      I2.call (ch := []) (Un.laid k2 ht fr) (I2.hok.laid k2 ht ⟨hz2, out.toList, cc, vals_of_ints ia, gt⟩) (by rw [g]; exact I2.bare) (fun _ z => nomatch z)
    have es : s' = { s1 with heap := s'.heap, gens := s'.gens, drawn := s'.drawn, toks := s'.toks } := by
      cases s'
      cases o
      rfl
    rw [es]
    exact ⟨.ref t, _, B', J, rfl, x1.trans y1, y2, y3⟩
  · cases em
end
end PI
set_option maxHeartbeats 1000000
/-! Own text: what is walked, comprehensions, statements, loops. -/
namespace PI
open PySem PySem.Spec L2
open PyProof.Rows hiding St

theorem Ex0.trans {B B1 B2 : BT} {H H1 H2 : Hp} (a : Ex0 B H B1 H1) (b : Ex0 B1 H1 B2 H2) : Ex0 B H B2 H2 :=
  ⟨fun x o n h => b.keep x o (a.keep x o n h).2 (a.keep x o n h).1, fun n x h => b.pre n x (a.pre n x h)⟩
theorem Ex0.refl {B : BT} {H : Hp} : Ex0 B H B H := ⟨fun _ _ n h => ⟨h, n⟩, fun _ _ h => h⟩

/-! ### what is walked: at turn i, with the boxes as they stand, an item, the end, or no word -/
abbrev Src := Nat → Store → Option (Option D)
abbrev MIt := EnvI → Store → Option (Src × Store)
def JM (K : PySem.W.Frag) (mg : Mg) (J : It) (src : Src) (B1 : BT) (H1 : Hp) : Prop := ∀ (i : Nat) (B' : BT) (H' : Hp) (S' : Store), Ex0 B1 H1 B' H' → SR K mg B' H' S' →
  (src i S' = some none → J.stop i H') ∧ ∀ d, src i S' = some (some d) → J.go i H' ∧ ∀ x H2, J.yld i H' x H2 → (H2 = H' ∨ ∃ T o, H' T = none ∧ H2 = upd H' T o) ∧ RD K mg B' H2 d x
def tI (K : PySem.W.Frag) (mg : Mg) (m : MIt) : TI := fun σ H R => ∃ B ev S src S', SR K mg B H S ∧ ER K mg B H ev σ ∧ m ev S = some (src, S') ∧ ∀ J B' H', Ext B H B' H' → SR K mg B' H' S' → JM K mg J src B' H' → R J H'
def IM (X : Cx) (tg iter : Expr) (m : MIt) : Prop := PI X tg iter (tI X.K X.mg m)
theorem IM.of {X : Cx} {tg iter : Expr} {wi : TI} {m : MIt} (h : PI X tg iter wi) (g : ∀ σ H R, tI X.K X.mg m σ H R → wi σ H R) : IM X tg iter m := ⟨fun pins s σ H R I q => h.run pins s σ H R I (g σ H R q)⟩
theorem PI_or {X : Cx} {tg iter : Expr} {w1 w2 : TI} (h1 : PI X tg iter w1) (h2 : PI X tg iter w2) : PI X tg iter (fun σ H R => w1 σ H R ∨ w2 σ H R) := ⟨fun pins s σ H R I q => by
  rcases q with q | q
  · exact h1.run pins s σ H R I q
  · exact h2.run pins s σ H R I q⟩
/-- a value's items -/
def srcL (xs : List D) : Src := fun i _ => some xs[i]?
def srcR (n : Nat) : Src := fun i S => match S[n]? with
  | some (.lst ys) => some ys[i]?
  | _ => none
def srcOf (S : Store) : D → Option Src
  | .p (.list xs) => some (srcL (xs.map .p))
  | .p (.tuple xs) => some (srcL (xs.map .p))
  | .ref n => (match S[n]? with
    | some (.lst _) => some (srcR n)
    | _ => none)
  | _ => none
def mIter (a : M) : MIt := fun ev S => (a ev S).bind fun r => (srcOf r.2 r.1).map fun f => (f, r.2)
/-- lo, lo + 1, .. -/
def srcN (lo : Int) (n : Nat) : Src := fun i _ => some (if i < n then some (.p (.int (lo + i))) else none)
def mRng1 (a : M) : MIt := fun ev S => (a ev S).bind fun r => match r.1 with
  | .p (.int j) => if j.natAbs < 2 ^ 62 then some (srcN 0 j.toNat, r.2) else none
  | _ => none
def rng2 (S : Store) : D → D → Option (Src × Store)
  | .p (.int i), .p (.int j) => if i.natAbs < 2 ^ 62 ∧ j.natAbs < 2 ^ 62 then some (srcN i (j - i).toNat, S) else none
  | _, _ => none
def mRng2 (a b : M) : MIt := fun ev S => (a ev S).bind fun r => (b ev r.2).bind fun t => rng2 t.2 r.1 t.1
section
variable {X : Cx} {tg a b e : Expr} {ma mb : M} {pos : Pos}
theorem jm_list {K : PySem.W.Frag} {mg : Mg} {B : BT} {H : Hp} {p : Addr} {vs : List V} {ds : List D} (h : SqLB K B H p vs) (r : RDs K mg B H ds vs) : JM K mg (Itl K p) (srcL ds) B H := by
  intro i B' H' S' x hS
  have h' : SqL K H' p vs := .inl (x.rd h.1 h.2).1
  have r' := RDs.ex x r
  refine ⟨fun e => ⟨vs, h', ?_⟩, fun d e => ?_⟩
  · have e : ds[i]? = none := Option.some.inj e
    rw [← r'.length]
    exact List.getElem?_eq_none_iff.mp e
  · have e : ds[i]? = some d := Option.some.inj e
    obtain ⟨v, hv, rv⟩ := r'.at e
    refine ⟨⟨vs, v, h', hv⟩, fun x' H2 y => ?_⟩
    obtain ⟨rfl, y⟩ := y
    refine ⟨.inl rfl, ?_⟩
    have := y vs h'
    rw [hv] at this
    cases this
    exact rv
theorem jm_tup {K : PySem.W.Frag} {mg : Mg} {B : BT} {H : Hp} {p : Addr} {vs : List V} {ds : List D} (h : SqTB K B H p vs) (r : RDs K mg B H ds vs) : JM K mg (Itt K p) (srcL ds) B H := by
  intro i B' H' S' x hS
  have h' : SqT K H' p vs := h.imp (fun z => (x.rd z.1 z.2).1) id
  have r' := RDs.ex x r
  refine ⟨fun e => ⟨vs, h', ?_⟩, fun d e => ?_⟩
  · have e : ds[i]? = none := Option.some.inj e
    rw [← r'.length]
    exact List.getElem?_eq_none_iff.mp e
  · have e : ds[i]? = some d := Option.some.inj e
    obtain ⟨v, hv, rv⟩ := r'.at e
    refine ⟨⟨vs, v, h', hv⟩, fun x' H2 y => ?_⟩
    obtain ⟨rfl, y⟩ := y
    refine ⟨.inl rfl, ?_⟩
    have := y vs h'
    rw [hv] at this
    cases this
    exact rv
theorem jm_box {K : PySem.W.Frag} {mg : Mg} {B : BT} {H : Hp} {p : Addr} {n : Nat} (h : B.b[n]? = some p) : JM K mg (Itl K p) (srcR n) B H := by
  intro i B' H' S' x hS
  have h' := x.pre n p h
  have go : ∀ ys, S'[n]? = some (.lst ys) → ∃ vs, SqL K H' p vs ∧ RDs K mg B' H' ys vs := fun ys e => by
    obtain ⟨vs, h1, h2⟩ := hS.cell n _ p e h'
    exact ⟨vs, .inl (.inl h1), h2⟩
  refine ⟨fun e => ?_, fun d e => ?_⟩
  · unfold srcR at e
    split at e
    · rename_i ys hy
      obtain ⟨vs, h1, h2⟩ := go ys hy
      have e : ys[i]? = none := Option.some.inj e
      exact ⟨vs, h1, by rw [← h2.length]; exact List.getElem?_eq_none_iff.mp e⟩
    · cases e
  · unfold srcR at e
    split at e
    · rename_i ys hy
      obtain ⟨vs, h1, h2⟩ := go ys hy
      have e : ys[i]? = some d := Option.some.inj e
      obtain ⟨v, hv, rv⟩ := h2.at e
      refine ⟨⟨vs, v, h1, hv⟩, fun x' H2 y => ?_⟩
      obtain ⟨rfl, y⟩ := y
      refine ⟨.inl rfl, ?_⟩
      have := y vs h1
      rw [hv] at this
      cases this
      exact rv
    · cases e
theorem im_val (ha : EM X a ma) : IM X tg a (mIter ma) := by
  refine IM.of (PI_or (pi_list ha.pe) (pi_tup ha.pe)) fun σ H R q => ?_
  obtain ⟨B, ev, S, src, S', hS, hE, em, q⟩ := q
  obtain ⟨⟨x, S1⟩, e1, em⟩ := bind_some em
  obtain ⟨f, e2, em⟩ := map_some em
  cases em
  -- a list, boxed or not, is the first way; a tuple the second
  cases x with
  | p y =>
    cases y <;> simp only [srcOf, Option.some.injEq] at e2 <;> first | (subst e2) | (cases e2)
    · refine .inl ⟨B, ev, S, _, _, hS, hE, e1, fun B1 H1 v1 x1 s1 d1 => ?_⟩
      cases d1 with
      | lst h1 h2 => exact ⟨_, rfl, ⟨_, h1.sq⟩, q _ B1 H1 x1 s1 (jm_list (mg := X.mg) h1 (dqAll_map.mp h2))⟩
    · refine .inr ⟨B, ev, S, _, _, hS, hE, e1, fun B1 H1 v1 x1 s1 d1 => ?_⟩
      obtain ⟨p, vs, rfl, h1, h2⟩ := dq_tup d1
      exact ⟨p, rfl, ⟨_, h1.sq⟩, q _ B1 H1 x1 s1 (jm_tup (mg := X.mg) h1 (dqAll_map.mp h2))⟩
  | ref n =>
    simp only [srcOf] at e2
    cases hq : S1[n]? with
    | none => rw [hq] at e2; cases e2
    | some c =>
      rw [hq] at e2
      cases c with
      | lst ys =>
        cases e2
        refine .inl ⟨B, ev, S, _, _, hS, hE, e1, fun B1 H1 v1 x1 s1 d1 => ?_⟩
        obtain ⟨p, h1, rfl⟩ := d1
        obtain ⟨vs, h2, _⟩ := s1.cell n _ p hq h1
        exact ⟨p, rfl, ⟨_, .inl (.inl h2)⟩, q _ B1 H1 x1 s1 (jm_box h1)⟩
      | _ => cases e2
  | _ => cases e2
theorem jm_rng {K : PySem.W.Frag} {mg : Mg} {B : BT} {H : Hp} {lo : Int} {n : Nat} : JM K mg (Itr lo n) (srcN lo n) B H := by
  intro i B' H' S' x hS
  refine ⟨fun e => ?_, fun d e => ?_⟩
  · have e : (if i < n then some (D.p (.int (lo + i))) else none) = none := Option.some.inj e
    split at e
    · cases e
    · rename_i h; exact Nat.le_of_not_lt h
  · have e : (if i < n then some (D.p (.int (lo + i))) else none) = some d := Option.some.inj e
    split at e
    · rename_i h
      cases e
      refine ⟨h, fun x' H2 y => ?_⟩
      obtain ⟨rfl, rfl⟩ := y
      exact ⟨.inl rfl, .int _⟩
    · cases e
theorem im_rng1 {p : Pos} (ha : EM X a ma) (hs : notStar a = true) (hg : Gl X "range") (hm : X.mg "range" = none) : IM X tg (.Call (.Name "range" p) [a] [] pos) (mRng1 ma) := by
  refine IM.of (pi_range1 hg hm (am_cons ha am_nil hs).pa (star_cons hs)) fun σ H R q => ?_
  obtain ⟨B, ev, S, src, S', hS, hE, em, q⟩ := q
  obtain ⟨⟨x, S1⟩, e1, em⟩ := bind_some em
  simp only at em
  split at em
  · rename_i j
    split at em
    · rename_i hc
      cases em
      refine ⟨B, ev, S, [.p (.int j)], S', hS, hE, by simp only [mCons, mNil, e1, Option.bind_some, Option.map_some], fun B1 H1 v1 x1 s1 d1 => ?_⟩
      obtain ⟨v, rfl, h⟩ := rds1 d1
      obtain rfl := dq_int h
      exact ⟨j, rfl, by omega, by omega, q _ B1 H1 x1 s1 jm_rng⟩
    · cases em
  · cases em
theorem im_rng2 {p : Pos} (ha : EM X a ma) (hb : EM X b mb) (hs : notStar a = true) (hs2 : notStar b = true) (hg : Gl X "range") (hm : X.mg "range" = none) : IM X tg (.Call (.Name "range" p) [a, b] [] pos) (mRng2 ma mb) := by
  refine IM.of (pi_range2 hg hm (am_cons ha (am_cons hb am_nil hs2) hs).pa (by rw [star_cons hs, star_cons hs2]; rfl) (star_cons hs2)) fun σ H R q => ?_
  obtain ⟨B, ev, S, src, S', hS, hE, em, q⟩ := q
  obtain ⟨⟨x, S1⟩, e1, em⟩ := bind_some em
  obtain ⟨⟨y, S2⟩, e2, em⟩ := bind_some em
  unfold rng2 at em
  split at em
  · rename_i d1 d2 i j h1 h2
    split at em
    · rename_i hc
      cases em
      have h1 : x = .p (.int i) := h1
      have h2 : y = .p (.int j) := h2
      subst h1 h2
      refine ⟨B, ev, S, [.p (.int i), .p (.int j)], S2, hS, hE, by simp only [mCons, mNil, e1, e2, Option.bind_some, Option.map_some], fun B1 H1 v1 x1 s1 d1 => ?_⟩
      obtain ⟨v, w, rfl, h, h2⟩ := rds2 d1
      obtain rfl := dq_int h
      obtain rfl := dq_int h2
      exact ⟨i, j, rfl, by omega, q _ B1 H1 x1 s1 jm_rng⟩
    · cases em
  · cases em
end

/-! ### targets and tests for the layer -/
def tG (K : PySem.W.Frag) (mg : Mg) (is : List Nat) (m : MG) : TG := fun v σ H Q => ∃ B ev S d ev' S', SR K mg B H S ∧ ER K mg B H ev σ ∧ RD K mg B H d v ∧ m d ev S = some (ev', S') ∧
  ∀ B' H' σ', Ext B H B' H' → SR K mg B' H' S' → ER K mg B' H' ev' σ' → (∀ j, j ∉ is → σ'[j]? = σ[j]?) → σ'.length = σ.length → Q σ' H'
section
variable {X : Cx} {tg a b e : Expr} {ma mb : M} {pos : Pos}
theorem GM.pg {is : List Nat} {m : MG} (h : GM X tg is m) : PG X tg (tG X.K X.mg is m) := ⟨fun pins s σ H v u Q I r ⟨B, ev, S, d, ev', S', hS, hE, rd, em, q⟩ =>
  thn (h pins s σ H B ev S d v u ev' S' I hS hE rd r em) fun _ s' ⟨σ', H', B', I', x, s1, e1, u1⟩ => ⟨σ', H', I', q B' H' σ' x s1 e1 u1 (I'.len.trans I.len.symm)⟩⟩
theorem TM.pt (h : TM X e ma) : PT X e (tMt X.K X.mg ma) := ⟨fun pins s σ H Q I ⟨B, ev, S, b, S', hS, hE, em, q⟩ =>
  thn (h pins s σ H B ev S _ S' b I hS hE em rfl) fun k s1 ⟨hk, H1, B1, I1, x1, S1⟩ => ⟨H1, I1, by rw [hk]; exact q B1 H1 x1 S1⟩⟩
def mYes : M := mC (.p (.bool true))
theorem pts_yes : PTs X [] (tMt X.K X.mg mYes) := ⟨fun pins s σ H Q I ⟨B, ev, S, b, S', hS, hE, em, q⟩ => by
  cases em
  exact (pts_nil (X := X)).run pins s σ H Q I (q B H hS.refl hS)⟩
end

/-! ### comprehensions -/
def wipeE (ev : EnvI) : List Nat → EnvI
  | [] => ev
  | v :: vs => (wipeE ev vs).set v none
def lcLoop (src : Src) (g : MG) (c elt : M) (ev : EnvI) : Nat → Nat → List D → Store → Option (List D × Store)
  | 0, _, _, _ => none
  | k + 1, i, acc, S => (src i S).bind fun o => match o with
    | none => some (acc, S)
    | some d => (g d ev S).bind fun r => (c r.1 r.2).bind fun t => (isTru t.1).bind fun b =>
      if b then (elt r.1 t.2).bind fun y => if acc.length < sizeLine then lcLoop src g c elt ev k (i + 1) (acc ++ [y.1]) y.2 else none
      else lcLoop src g c elt ev k (i + 1) acc t.2
def mLc (L : Nat) (bx : Bool) (mi : MIt) (own : List Nat) (g : MG) (c elt : M) : M := fun ev S => (mi ev S).bind fun r => (lcLoop r.1 g c elt (wipeE ev own) L 0 [] r.2).bind fun q => mkL bx q.1 q.2

theorem ER.unset {K : PySem.W.Frag} {mg : Mg} {B : BT} {H : Hp} {ev : EnvI} {σ : St} (h : ER K mg B H ev σ) (i : Nat) : ER K mg B H (ev.set i none) (σ.set i none) := by
  refine ⟨by simp [h.len], fun j d' q => ?_⟩
  by_cases hj : i = j
  · subst hj
    by_cases hl : i < ev.length
    · rw [List.getElem?_set_self hl] at q; cases q
    · rw [List.getElem?_eq_none (by simpa using hl)] at q; cases q
  · rw [List.getElem?_set_ne hj] at q ⊢
    exact h.at_ j d' q
theorem ER.wipe {K : PySem.W.Frag} {mg : Mg} {B : BT} {H : Hp} {ev : EnvI} {σ : St} (h : ER K mg B H ev σ) : ∀ vs : List Nat, ER K mg B H (wipeE ev vs) (wipe σ vs)
  | [] => h
  | v :: vs => (ER.wipe h vs).unset v
theorem wipe_at (σ : St) : ∀ (vs : List Nat) (j : Nat), (wipe σ vs)[j]? = if j ∈ vs then (σ[j]?).map (fun _ => none) else σ[j]?
  | [], j => by simp [wipe]
  | v :: vs, j => by
    show ((wipe σ vs).set v none)[j]? = _
    by_cases hj : v = j
    · subst hj
      by_cases hl : v < σ.length
      · rw [List.getElem?_set_self (by rw [wipe_length]; exact hl)]
        simp [List.getElem?_eq_getElem hl]
      · rw [List.getElem?_eq_none (by rw [List.length_set, wipe_length]; omega), List.getElem?_eq_none (by omega)]
        simp
    · rw [List.getElem?_set_ne hj, wipe_at σ vs j]
      have : (j ∈ v :: vs) ↔ j ∈ vs := by
        rw [List.mem_cons]
        exact ⟨fun q => q.elim (fun z => absurd z.symm hj) id, .inr⟩
      simp only [this]
theorem wipe_same {σ σ2 : St} {vs is : List Nat} (hl : σ2.length = σ.length) (hi : ∀ j ∈ is, j ∈ vs) (u : ∀ j, j ∉ is → σ2[j]? = (wipe σ vs)[j]?) : wipe σ2 vs = wipe σ vs := by
  apply List.ext_getElem?
  intro j
  rw [wipe_at]
  by_cases hj : j ∈ vs
  · rw [if_pos hj, wipe_at, if_pos hj]
    by_cases hlt : j < σ.length
    · rw [List.getElem?_eq_getElem hlt, List.getElem?_eq_getElem (by rw [hl]; exact hlt)]; rfl
    · rw [List.getElem?_eq_none (by omega), List.getElem?_eq_none (by omega)]
  · rw [if_neg hj]
    exact u j fun q => hj (hi j q)

/-- the layer's reading of a comprehension, from its meaning -/
theorem lc_reads {K : PySem.W.Frag} {mg : Mg} {L : Nat} {bx : Bool} {mi : MIt} {own is : List Nat} {g : MG} {c elt : M} (hi : ∀ j ∈ is, j ∈ own) {σ : St} {H : Hp} {B : BT} {ev : EnvI} {S : Store} {d : D} {S' : Store} {Q : VK}
    (hS : SR K mg B H S) (hE : ER K mg B H ev σ) (em : mLc L bx mi own g c elt ev S = some (d, S')) (q : Post K mg B H d S' Q) : tLc (tI K mg mi) (tG K mg is g) (tMt K mg c) (tM K mg elt) own σ H Q := by
  obtain ⟨⟨src, S1⟩, e1, em⟩ := bind_some em
  obtain ⟨⟨accF, SF⟩, e2, em⟩ := bind_some em
  refine ⟨B, ev, S, src, S1, hS, hE, e1, fun J B1 H1 x1 hS1 jm D hD => ?_⟩
  refine ⟨fun i k Hi => ∃ Bi Si acc accV, Ext B1 H1 Bi Hi ∧ Ex0 B1 H1 (Bi.push D) Hi ∧ SR K mg (Bi.push D) Hi Si ∧ Hi D = some (.lst accV) ∧ RDs K mg (Bi.push D) Hi acc accV ∧ lcLoop src g c elt (wipeE ev own) k i acc Si = some (accF, SF), ?_, ?_⟩
  · exact ⟨L, B1, S1, [], [], hS1.ext_new hD _, ex_push hD _, hS1.push hD _, upd_same, .nil, e2⟩
  · rintro i k Hi ⟨Bi, Si, acc, accV, xi, yi, si, hDi, ra, lp⟩
    cases k with
    | zero => cases lp
    | succ k =>
      simp only [lcLoop] at lp
      obtain ⟨o, e3, lp⟩ := bind_some lp
      obtain ⟨j1, j2⟩ := jm i _ Hi Si yi si
      cases o with
      | none =>
        cases lp
        refine .inl ⟨j1 e3, ?_⟩
        obtain ⟨B', y1, y2, y3⟩ := mkL_fin si hDi ra em
        exact q B' Hi _ (y3 B H (x1.trans xi) (x1.none hD)) y1 y2
      | some d0 =>
        obtain ⟨hgo, hy⟩ := j2 d0 e3
        obtain ⟨⟨ev1, S2⟩, e4, lp⟩ := bind_some lp
        obtain ⟨⟨t, S3⟩, e5, lp⟩ := bind_some lp
        obtain ⟨bt, e6, lp⟩ := bind_some lp
        obtain rfl := isTru_p e6
        refine .inr ⟨hgo, fun H' => ∃ Bi Si acc accV, Ext B1 H1 Bi H' ∧ Ex0 B1 H1 (Bi.push D) H' ∧ SR K mg (Bi.push D) H' Si ∧ H' D = some (.lst accV) ∧ RDs K mg (Bi.push D) H' acc accV ∧ lcLoop src g c elt (wipeE ev own) k (i + 1) acc Si = some (accF, SF), ?_, ?_⟩
        · rintro H' ⟨B', S'', a', v', r⟩
          exact ⟨k, Nat.lt_succ_self _, B', S'', a', v', r⟩
        · intro x H2 hyld
          obtain ⟨hh, rd⟩ := hy x H2 hyld
          -- the item came: nothing, or one new object, in the heap
          have st : Ext (Bi.push D) Hi (Bi.push D) H2 ∧ SR K mg (Bi.push D) H2 Si := by
            rcases hh with rfl | ⟨T, ob, hT, rfl⟩
            · exact ⟨si.refl, si⟩
            · exact ⟨si.ext_new hT ob, si.new hT ob⟩
          obtain ⟨x2, s2⟩ := st
          have hEw : ER K mg (Bi.push D) H2 (wipeE ev own) (wipe σ own) := ER.ex ((x1.ex.trans yi).trans x2.ex) (hE.wipe own)
          refine ⟨Bi.push D, wipeE ev own, Si, d0, ev1, S2, s2, hEw, rd, e4, fun B3 H3 σ3 x3 s3 hE3 u3 l3 => ⟨wipe_same (l3.trans (wipe_length σ own)) hi u3, ?_⟩⟩
          refine ⟨B3, ev1, S2, bt, S3, s3, hE3, e5, fun B4 H4 x4 s4 => ?_⟩
          have x24 := (x2.trans x3).trans x4
          cases bt with
          | false =>
            obtain ⟨B5, rfl⟩ := x24.pushed
            refine ⟨B5, S3, acc, accV, xi.inner hD x24, yi.trans x24.ex, s4, (x24.tmp D List.mem_cons_self).trans hDi, RDs.ext x24 ra, lp⟩
          | true =>
            obtain ⟨⟨y, S5⟩, e7, lp⟩ := bind_some lp
            simp only at lp
            split at lp
            · rename_i hz
              refine ⟨B4, ev1, S3, y, S5, s4, hE3.ext x4, e7, fun B5 H5 v5 x5 s5 d5 => ?_⟩
              have x25 := x24.trans x5
              obtain ⟨B6, rfl⟩ := x25.pushed
              have hD5 : H5 D = some (.lst accV) := (x25.tmp D List.mem_cons_self).trans hDi
              have hT : D ∈ (B6.push D).t := List.mem_cons_self
              refine ⟨accV, hD5, by rw [← ra.length]; exact hz, B6, S5, acc ++ [y], accV ++ [v5], (xi.inner hD x25).aside hD s5.popped _, (yi.trans x25.ex).trans (ex_temp hT _), s5.temp hT _, upd_same, RDs.ex (ex_temp hT _) (RDs.append (RDs.ext x25 ra) (.cons d5 .nil)), lp⟩
            · cases lp
end PI
set_option maxHeartbeats 1000000
/-! Own text: enumerate and zip as what is walked. -/
namespace PI
open PySem PySem.Spec L2
open PyProof.Rows hiding St

/-- pairs of place and item -/
def srcEn (f : Src) : Src := fun i S => match f i S with
  | some none => some none
  | some (some (.p x)) => some (some (.p (.tuple [.int i, x])))
  | _ => none
def srcZp (f g : Src) : Src := fun i S => match f i S, g i S with
  | some (some (.p x)), some (some (.p y)) => some (some (.p (.tuple [x, y])))
  | some none, some _ => some none
  | some _, some none => some none
  | _, _ => none
/-- a list's own walk, boxed or not -/
def IsLst (S : Store) : D → Bool
  | .p (.list _) => true
  | .ref n => match S[n]? with
    | some (.lst _) => true
    | _ => false
  | _ => false
def IsTup : D → Bool
  | .p (.tuple _) => true
  | _ => false
def mEnum (a : M) : MIt := fun ev S => (a ev S).bind fun r => if IsLst r.2 r.1 then (srcOf r.2 r.1).map fun f => (srcEn f, r.2) else none
def mZip (a b : M) : MIt := fun ev S => (a ev S).bind fun r => (b ev r.2).bind fun t => if (IsLst t.2 r.1 && IsLst t.2 t.1) || (IsTup r.1 && IsTup t.1) then (srcOf t.2 r.1).bind fun f => (srcOf t.2 t.1).map fun g => (srcZp f g, t.2) else none

section
variable {K : PySem.W.Frag} {mg : Mg} {B : BT} {H : Hp} {S : Store}
/-- what a source of a list tells at every later time -/
def LstAt (K : PySem.W.Frag) (mg : Mg) (f : Src) (p : Addr) (B : BT) (H : Hp) : Prop := ∀ (i : Nat) (B' : BT) (H' : Hp) (S' : Store), Ex0 B H B' H' → SR K mg B' H' S' →
  (f i S' = some none → ∃ vs, SqL K H' p vs ∧ vs.length ≤ i) ∧ ∀ d, f i S' = some (some d) → ∃ vs v, SqL K H' p vs ∧ vs[i]? = some v ∧ RD K mg B' H' d v
def TupAt (K : PySem.W.Frag) (mg : Mg) (f : Src) (p : Addr) (B : BT) (H : Hp) : Prop := ∀ (i : Nat) (B' : BT) (H' : Hp) (S' : Store), Ex0 B H B' H' → SR K mg B' H' S' →
  (f i S' = some none → ∃ vs, SqT K H' p vs ∧ vs.length ≤ i) ∧ ∀ d, f i S' = some (some d) → ∃ vs v, SqT K H' p vs ∧ vs[i]? = some v ∧ RD K mg B' H' d v
theorem lst_at (hS : SR K mg B H S) {x : D} {v : V} {f : Src} (r : RD K mg B H x v) (hl : IsLst S x = true) (e : srcOf S x = some f) : ∃ p, v = .ref p ∧ (∃ vs, SqL K H p vs) ∧ LstAt K mg f p B H := by
  cases x with
  | p y =>
    cases y <;> first | (cases hl) | skip
    cases e
    cases r with
    | lst h1 h2 =>
      refine ⟨_, rfl, ⟨_, h1.sq⟩, fun i B' H' S' x hS' => ?_⟩
      have h' := (x.rd h1.1 h1.2).1
      have r' := RDs.ex x (dqAll_map (mg := mg).mp h2)
      refine ⟨fun e => ⟨_, .inl h', ?_⟩, fun d e => ?_⟩
      · have e := Option.some.inj e
        rw [← r'.length]
        exact List.getElem?_eq_none_iff.mp e
      · have e := Option.some.inj e
        obtain ⟨w, hw, rw'⟩ := r'.at e
        exact ⟨_, w, .inl h', hw, rw'⟩
  | ref n =>
    simp only [IsLst] at hl
    simp only [srcOf] at e
    cases hq : S[n]? with
    | none => rw [hq] at e; cases e
    | some c =>
      rw [hq] at e
      cases c with
      | lst ys =>
        cases e
        obtain ⟨p, h1, rfl⟩ := r
        obtain ⟨vs0, h0, _⟩ := hS.cell n _ p hq h1
        refine ⟨p, rfl, ⟨_, .inl (.inl h0)⟩, fun i B' H' S' x hS' => ?_⟩
        have h' := x.pre n p h1
        have go : ∀ zs, S'[n]? = some (.lst zs) → ∃ vs, SqL K H' p vs ∧ RDs K mg B' H' zs vs := fun zs e => by
          obtain ⟨vs, z1, z2⟩ := hS'.cell n _ p e h'
          exact ⟨vs, .inl (.inl z1), z2⟩
        refine ⟨fun e => ?_, fun d e => ?_⟩
        · unfold srcR at e
          split at e
          · rename_i zs hz
            obtain ⟨vs, q1, q2⟩ := go zs hz
            exact ⟨vs, q1, by rw [← q2.length]; exact List.getElem?_eq_none_iff.mp (Option.some.inj e)⟩
          · cases e
        · unfold srcR at e
          split at e
          · rename_i zs hz
            obtain ⟨vs, q1, q2⟩ := go zs hz
            obtain ⟨w, hw, rw'⟩ := q2.at (Option.some.inj e)
            exact ⟨vs, w, q1, hw, rw'⟩
          · cases e
      | _ => cases e
  | _ => cases hl
theorem tup_at {x : D} {v : V} {f : Src} (r : RD K mg B H x v) (hl : IsTup x = true) (e : srcOf S x = some f) : ∃ p, v = .ref p ∧ (∃ vs, SqT K H p vs) ∧ TupAt K mg f p B H := by
  cases x with
  | p y =>
    cases y <;> first | (cases hl) | skip
    cases e
    obtain ⟨p, vs, rfl, h1, h2⟩ := dq_tup r
    refine ⟨p, rfl, ⟨_, h1.sq⟩, fun i B' H' S' x hS' => ?_⟩
    have h' : SqT K H' p vs := h1.imp (fun z => (x.rd z.1 z.2).1) id
    have r' := RDs.ex x (dqAll_map (mg := mg).mp h2)
    refine ⟨fun e => ⟨_, h', ?_⟩, fun d e => ?_⟩
    · have e := Option.some.inj e
      rw [← r'.length]
      exact List.getElem?_eq_none_iff.mp e
    · have e := Option.some.inj e
      obtain ⟨w, hw, rw'⟩ := r'.at e
      exact ⟨_, w, h', hw, rw'⟩
  | _ => cases hl
/-- a pair that was made for the turn -/
theorem pair_new (hS : SR K mg B H S) {T : Addr} (hT : H T = none) {x y : PyData} {v w : V} (r1 : RD K mg B H (.p x) v) (r2 : RD K mg B H (.p y) w) : RD K mg B (upd H T (.tup [v, w])) (.p (.tuple [x, y])) (.ref T) := by
  have x0 := (hS.ext_new hT (.tup [v, w])).ex
  have hn : T ∉ B.all := fun q => by
    obtain ⟨u, e⟩ := hS.al T q
    rw [hT] at e; cases e
  exact Dq.tup (.inl ⟨.inl upd_same, hn⟩) (.cons (RD.ex x0 r1) (.cons (RD.ex x0 r2) .nil))
theorem jm_enum {f : Src} {p : Addr} (h : LstAt K mg f p B H) : JM K mg (Ite K p) (srcEn f) B H := by
  intro i B' H' S' x hS'
  obtain ⟨j1, j2⟩ := h i B' H' S' x hS'
  refine ⟨fun e => ?_, fun d e => ?_⟩
  · unfold srcEn at e
    split at e
    · rename_i hf
      obtain ⟨vs, q1, q2⟩ := j1 hf
      exact ⟨vs, q1, q2⟩
    · cases e
    · cases e
  · unfold srcEn at e
    split at e
    · cases e
    · rename_i y hf
      cases e
      obtain ⟨vs, v, q1, q2, q3⟩ := j2 _ hf
      refine ⟨⟨vs, v, q1, q2⟩, fun z H2 yl => ?_⟩
      obtain ⟨T, v', rfl, hT, rfl, hv⟩ := yl
      have := hv vs q1
      rw [q2] at this
      cases this
      exact ⟨.inr ⟨T, _, hT, rfl⟩, pair_new hS' hT (Dq.int _) q3⟩
    · cases e
theorem jm_zipL {f g : Src} {p q : Addr} (hf : LstAt K mg f p B H) (hg : LstAt K mg g q B H) : JM K mg (Itz K p q) (srcZp f g) B H := by
  intro i B' H' S' x hS'
  obtain ⟨f1, f2⟩ := hf i B' H' S' x hS'
  obtain ⟨g1, g2⟩ := hg i B' H' S' x hS'
  refine ⟨fun e => ?_, fun d e => ?_⟩
  · unfold srcZp at e
    split at e
    · cases e
    · rename_i o h1 h2
      obtain ⟨vs, q1, q2⟩ := f1 h1
      cases o with
      | none =>
        obtain ⟨ws, r1, _⟩ := g1 h2
        exact ⟨vs, ws, q1, r1, .inl q2⟩
      | some d =>
        obtain ⟨ws, _, r1, _⟩ := g2 d h2
        exact ⟨vs, ws, q1, r1, .inl q2⟩
    · rename_i o h0 h1 h2
      obtain ⟨vs, q1, q2⟩ := g1 (by assumption)
      cases o with
      | none =>
        obtain ⟨us, r1, _⟩ := f1 (by assumption)
        exact ⟨us, vs, r1, q1, .inr q2⟩
      | some d =>
        obtain ⟨us, _, r1, _⟩ := f2 d (by assumption)
        exact ⟨us, vs, r1, q1, .inr q2⟩
    · cases e
  · unfold srcZp at e
    split at e
    · rename_i y z h1 h2
      cases e
      obtain ⟨vs, v, q1, q2, q3⟩ := f2 _ h1
      obtain ⟨ts, t, r1, r2, r3⟩ := g2 _ h2
      refine ⟨⟨vs, ts, v, t, q1, r1, q2, r2⟩, fun zz H2 yl => ?_⟩
      obtain ⟨T, v', t', rfl, hT, rfl, hv, ht⟩ := yl
      have e1 := hv vs q1
      rw [q2] at e1
      cases e1
      have e2 := ht ts r1
      rw [r2] at e2
      cases e2
      exact ⟨.inr ⟨T, _, hT, rfl⟩, pair_new hS' hT q3 r3⟩
    · cases e
    · cases e
    · cases e
theorem jm_zipT {f g : Src} {p q : Addr} (hf : TupAt K mg f p B H) (hg : TupAt K mg g q B H) : JM K mg (RZ.ItzT K p q) (srcZp f g) B H := by
  intro i B' H' S' x hS'
  obtain ⟨f1, f2⟩ := hf i B' H' S' x hS'
  obtain ⟨g1, g2⟩ := hg i B' H' S' x hS'
  refine ⟨fun e => ?_, fun d e => ?_⟩
  · unfold srcZp at e
    split at e
    · cases e
    · rename_i o h1 h2
      obtain ⟨vs, q1, q2⟩ := f1 h1
      cases o with
      | none =>
        obtain ⟨ws, r1, _⟩ := g1 h2
        exact ⟨vs, ws, q1, r1, .inl q2⟩
      | some d =>
        obtain ⟨ws, _, r1, _⟩ := g2 d h2
        exact ⟨vs, ws, q1, r1, .inl q2⟩
    · rename_i o h0 h1 h2
      obtain ⟨vs, q1, q2⟩ := g1 (by assumption)
      cases o with
      | none =>
        obtain ⟨us, r1, _⟩ := f1 (by assumption)
        exact ⟨us, vs, r1, q1, .inr q2⟩
      | some d =>
        obtain ⟨us, _, r1, _⟩ := f2 d (by assumption)
        exact ⟨us, vs, r1, q1, .inr q2⟩
    · cases e
  · unfold srcZp at e
    split at e
    · rename_i y z h1 h2
      cases e
      obtain ⟨vs, v, q1, q2, q3⟩ := f2 _ h1
      obtain ⟨ts, t, r1, r2, r3⟩ := g2 _ h2
      refine ⟨⟨vs, ts, v, t, q1, r1, q2, r2⟩, fun zz H2 yl => ?_⟩
      obtain ⟨T, v', t', rfl, hT, rfl, hv, ht⟩ := yl
      have e1 := hv vs q1
      rw [q2] at e1
      cases e1
      have e2 := ht ts r1
      rw [r2] at e2
      cases e2
      exact ⟨.inr ⟨T, _, hT, rfl⟩, pair_new hS' hT q3 r3⟩
    · cases e
    · cases e
    · cases e
end
section
variable {X : Cx} {a b : Expr} {ma mb : M} {pos p tpos : Pos} {elts : List Expr} {kk : Nat}
theorem im_enum (ha : EM X a ma) (hs : notStar a = true) (hg : Gl X "enumerate") (hm : X.mg "enumerate" = none) : IM X (.Tuple elts kk tpos) (.Call (.Name "enumerate" p) [a] [] pos) (mEnum ma) := by
  refine IM.of (pi_enum hg hm (am_cons ha am_nil hs).pa (star_cons hs)) fun σ H R q => ?_
  obtain ⟨B, ev, S, src, S', hS, hE, em, q⟩ := q
  obtain ⟨⟨x, S1⟩, e1, em⟩ := bind_some em
  simp only at em
  split at em
  · rename_i hl
    obtain ⟨f, e2, em⟩ := map_some em
    cases em
    refine ⟨B, ev, S, [x], S', hS, hE, by simp only [mCons, mNil, e1, Option.bind_some, Option.map_some], fun B1 H1 v1 x1 s1 d1 => ?_⟩
    obtain ⟨v, rfl, h⟩ := rds1 d1
    obtain ⟨p, rfl, ⟨vs, h1⟩, h2⟩ := lst_at s1 h hl e2
    exact ⟨p, vs, rfl, h1, q _ B1 H1 x1 s1 (jm_enum h2)⟩
  · cases em
theorem im_zip (ha : EM X a ma) (hb : EM X b mb) (hs : notStar a = true) (hs2 : notStar b = true) (hg : Gl X "zip") (hm : X.mg "zip" = none) : IM X (.Tuple elts kk tpos) (.Call (.Name "zip" p) [a, b] [] pos) (mZip ma mb) := by
  refine IM.of (RZ.pi_zipA hg hm (am_cons ha (am_cons hb am_nil hs2) hs).pa (star_cons hs) (star_plain (by rw [List.all_cons, hs2]; rfl))) fun σ H R q => ?_
  obtain ⟨B, ev, S, src, S', hS, hE, em, q⟩ := q
  obtain ⟨⟨x, S1⟩, e1, em⟩ := bind_some em
  obtain ⟨⟨y, S2⟩, e2, em⟩ := bind_some em
  simp only at em
  split at em
  · rename_i hl
    obtain ⟨f, e3, em⟩ := bind_some em
    obtain ⟨g, e4, em⟩ := map_some em
    cases em
    refine ⟨B, ev, S, [x, y], S', hS, hE, by simp only [mCons, mNil, e1, e2, Option.bind_some, Option.map_some], fun B1 H1 v1 x1 s1 d1 => ?_⟩
    obtain ⟨v, w, rfl, h, h'⟩ := rds2 d1
    rw [Bool.or_eq_true, Bool.and_eq_true, Bool.and_eq_true] at hl
    rcases hl with ⟨l1, l2⟩ | ⟨l1, l2⟩
    · obtain ⟨p, rfl, ⟨vs, h1⟩, h2⟩ := lst_at s1 h l1 e3
      obtain ⟨p', rfl, ⟨ws, h3⟩, h4⟩ := lst_at s1 h' l2 e4
      exact ⟨p, p', vs, ws, rfl, .inl ⟨h1, h3, q _ B1 H1 x1 s1 (jm_zipL h2 h4)⟩⟩
    · obtain ⟨p, rfl, ⟨vs, h1⟩, h2⟩ := tup_at h l1 e3
      obtain ⟨p', rfl, ⟨ws, h3⟩, h4⟩ := tup_at h' l2 e4
      exact ⟨p, p', vs, ws, rfl, .inr ⟨h1, h3, q _ B1 H1 x1 s1 (jm_zipT h2 h4)⟩⟩
  · cases em
end
end PI
set_option maxHeartbeats 1000000
/-! Own text: enumerate of a tuple. -/
namespace PI
open PySem PySem.Spec L2
open PyProof.Rows hiding St

theorem new_enum1 {v : Value} {o : Obj} {Hd : Heap → Prop} (b : Begins v o Hd) : Meets (Builtin.«enumerate.__new__» ⟨[.type "enumerate", v], []⟩) (fun _ R s => Hd s.heap ∧ R (.ok (.ret (.ref (s.heap.push o).objs.size)))
    { s with heap := (s.heap.push o).push { cls := .type "enumerate", data := .fields #[.none, .bool false, .ref s.heap.objs.size, rawInt 0, .none, .none] } }) := .of_wp fun P w A R s h => by
  obtain ⟨hp, g, d, tk, os⟩ := s
  obtain ⟨h1, h⟩ := h
  have se := sub_enumerate
  have it : ∀ {B : Around} {E : Value → Shared → Prop} {Q : Value → Shared → Prop}, Q (.ref hp.objs.size) ⟨hp.push o, g, d, tk, os⟩ → wpAny (model P w) B (pyIter v) Q E ⟨hp, g, d, tk, os⟩ := fun q => b.iter P w _ _ ⟨hp, g, d, tk, os⟩ _ h1 q
  wp_walk using it
  refine wpAny_stack_any fun st => wpAny_pure ?_
  split
  · rename_i c _ _ _ _ _
    cases (c == Value.type "enumerate") <;> (wp_walk using it; exact ⟨_, rfl, h⟩)
  · wp_walk using it
    exact ⟨_, rfl, h⟩
section
variable {P : Program} {w : World} {A : Around} {E : Value → Shared → Prop} {s : Shared}
theorem enum1 {v : Value} {o : Obj} {Hd : Heap → Prop} {Q : Value → Shared → Prop} (b : Begins v o Hd) (h1 : Hd s.heap)
    (h : ∀ hp, IsEnum hp (s.heap.objs.size + 1) s.heap.objs.size 0 .none → hp.get? s.heap.objs.size = some o → (∀ a u, s.heap.get? a = some u → hp.get? a = some u) → Q (.ref (s.heap.objs.size + 1)) { s with heap := hp }) : wpAny (model P w) A (call (.type "enumerate") [v]) Q E s := by
  refine callType_new F.called_enumerate (by decide) (F.typeCall_enumerate_1 _) (F.newCall_enumerate_1 _) (fun obj => F.args_object_init_2 obj _) F.entry_enumerate_new (new_enum1 b) ⟨h1, ?_⟩
  have sz : (s.heap.push o).objs.size = s.heap.objs.size + 1 := Heap.size_push ..
  show _ ∧ _
  rw [sz]
  have he : IsEnum ((s.heap.push o).push { cls := .type "enumerate", data := .fields #[.none, .bool false, .ref s.heap.objs.size, rawInt 0, .none, .none] }) (s.heap.objs.size + 1) s.heap.objs.size 0 .none := by
    have q := Heap.get?_push_size (s.heap.push o) (o := { cls := .type "enumerate", data := .fields #[.none, .bool false, .ref s.heap.objs.size, rawInt 0, .none, .none] }) rfl
    rwa [sz] at q
  exact ⟨⟨_, he, rfl⟩, h _ he (Heap.get?_push_of_some _ (Heap.get?_push_size _ b.free)) fun a u x => Heap.get?_push_of_some _ (Heap.get?_push_of_some _ x)⟩
end
/-- the tuple at a, each item in a new pair -/
def ItE (K : PySem.W.Frag) (a : Addr) : It :=
  ⟨fun i H => ∃ (xs : List V) (x : V), SqT K H a xs ∧ xs[i]? = some x, fun i H v H' => ∃ T x, v = .ref T ∧ H T = none ∧ H' = upd H T (.tup [.int (i : Nat), x]) ∧ ∀ xs, SqT K H a xs → xs[i]? = some x, fun i H => ∃ xs : List V, SqT K H a xs ∧ xs.length = i⟩
theorem turn_enT {P : Program} {w : World} {K : PySem.W.Frag} {elts : List Expr} {kk : Nat} {tpos : Pos} (a e it : Addr) (ha : a ≠ it) (hea : e ≠ a) :
    Turn P w K (.Tuple elts kk tpos) (ItE K a) [e, it] e (fun i h => (∃ old, IsEnum h e it ((i : Nat) : Int) old) ∧ h.IsTupleIter it a i ∧ e ≠ it) where
  mem := by simp
  obj := fun i h st b hb => by
    obtain ⟨⟨old, he⟩, ⟨o, ho, hc, hd⟩, _⟩ := st
    rcases List.mem_cons.mp hb with z | z
    · rw [z]; exact ⟨_, he, fun v q => nomatch q⟩
    · rw [List.mem_singleton.mp z]; exact ⟨o, ho, fun v q => by rw [hd] at q; cases q⟩
  keep := fun i h h' st k => by
    obtain ⟨⟨old, he⟩, hi, hne⟩ := st
    exact ⟨⟨old, k e (by simp) _ he⟩, hi.at fun o q => k it (by simp) o q, hne⟩
  item := by
    intro X hP hw hK hc i pins s σ H E I hf st hg
    subst hP hw hK
    obtain ⟨⟨old, he⟩, hit, hne⟩ := st
    obtain ⟨xs, x, hq, hx⟩ := hg
    obtain ⟨its, rv, pt, hz⟩ := I.tuple hq
    obtain ⟨u, hu, ru⟩ := rv.get hx
    have hel : e < s.heap.objs.size := Heap.lt_size he
    have hil : it < s.heap.objs.size := by
      obtain ⟨_, q, _⟩ := hit
      exact Heap.lt_size q
    have hlt : i < its.toArray.size := by
      have := (List.getElem?_eq_some_iff.mp hu).1
      simpa using this
    have D := Draws.tuple (prog := X.prog) (w := X.w) (A := X.A.in1) (I.ok.hd hc) it a ha its.toArray
    refine wpAny_pyNext_enum_itemD D he ⟨hit, show s.heap.IsTuple a its.toArray from pt⟩ hlt hne (by simp [hne, hea]) fun y h' tk hy ho hst hT hsz hk => ?_
    have ey : y = u := by
      have q : its[i]? = some y := by simpa using hy
      rw [hu] at q
      exact (Option.some.inj q).symm
    subst ey
    refine ⟨_, rfl, wpAny_letOwnedTupleGo_enum (s := { s with heap := h', toks := tk + 1 }) ho fun h'' he' sb => ?_⟩
    have hT2 : h''.get? s.heap.objs.size = some { cls := .type "tuple", data := .seq #[.int i tk, y] } := (sb.2 _ (Nat.ne_of_gt hel)).trans hT
    have new : ObjOk X.prog X.w (upd H s.heap.objs.size (.tup [.int (i : Nat), x])) h'' s.heap.objs.size (.tup [.int (i : Nat), x]) := ⟨by show 2 ≤ sizeLine; decide, [.int i tk, y], .cons ⟨_, rfl⟩ (.cons ru .nil), ⟨_, hT2, rfl, _, rfl⟩⟩
    have I1 : Inv X pins σ (upd H s.heap.objs.size (.tup [.int (i : Nat), x])) { s with heap := h'', toks := tk + 1 } :=
      I.turnedNew (ch := [e, it]) (fun b ob hb q => (sb.2 b (fun z => hb (by simp [z]))).trans (hk b ob (fun z => hb (by simp [z])) (fun z => hb (by simp [z])) q)) hf (Nat.le_refl _) new
    refine ⟨.ref s.heap.objs.size, _, I1, rfl, ⟨_, x, rfl, I.hok.fresh (Nat.le_refl _), rfl, fun ys hy => ?_⟩, ⟨⟨y, ?_⟩, hst.1.at fun o q => (sb.2 it (Ne.symm hne)).trans q, hne⟩, fun b hb => ?_⟩
    · rw [I.tuple_inj hy hq]; exact hx
    · have e1 : ((i + 1 : Nat) : Int) = (i : Int) + 1 := by omega
      rw [e1]; exact he'
    · have lb : b < s.heap.objs.size := by
        rcases List.mem_cons.mp hb with z | z
        · rw [z]; exact hel
        · rw [List.mem_singleton.mp z]; exact hil
      rw [upd_ne (Nat.ne_of_lt lb)]
      exact (hf b hb).1
  done := by
    intro X hP hw hK hc i pins s σ H E I hf st hg
    subst hP hw hK
    obtain ⟨⟨old, he⟩, hit, hne⟩ := st
    obtain ⟨xs, hq, hx⟩ := hg
    obtain ⟨its, rv, pt, hz⟩ := I.tuple hq
    obtain ⟨f0, f1, f2, f3, f4, f5⟩ := hf it (by simp)
    have ei : its.toArray.size = i := by
      rw [List.size_toArray, ← rv.length]
      exact hx
    have D := Draws.tuple (prog := X.prog) (w := X.w) (A := X.A.in1) (I.ok.hd hc) it a ha its.toArray
    exact wpAny_pyNext_enum_endD D he (by rw [ei]; exact ⟨hit, show s.heap.IsTuple a its.toArray from pt⟩) fun h' eb => ⟨rfl, I.turned (t' := s.toks) (fun b o hb q => eb b o hb q) f0 f1 f3 f4 f5⟩
  self := fun A i s Q E st h => by
    obtain ⟨⟨_, he⟩, _⟩ := st
    exact wpAny_pyIter_enum he h
/-- a tuple's pairs of place and item -/
def srcT (xs : List PyData) : Src := fun i _ => if i ≤ xs.length then some ((xs[i]?).map fun x => .p (.tuple [.int i, x])) else none
section
variable {X : Cx} {a : Expr} {ma : M} {pos p tpos : Pos} {elts : List Expr} {kk : Nat}
theorem jm_enT {K : PySem.W.Frag} {mg : Mg} {B : BT} {H : Hp} {t : Addr} {vs : List V} {xs : List PyData} (h : SqTB K B H t vs) (r : DqAll K B H vs xs) : JM K mg (ItE K t) (srcT xs) B H := by
  intro i B' H' S' x hS'
  have h' : SqT K H' t vs := h.imp (fun z => (x.rd z.1 z.2).1) id
  have r' := RDs.ex x (dqAll_map (mg := mg).mp r)
  have hl := r'.length
  rw [List.length_map] at hl
  refine ⟨fun e => ?_, fun d e => ?_⟩
  · unfold srcT at e
    split at e
    · rename_i hi
      have e := Option.some.inj e
      cases q : xs[i]? with
      | none =>
        have := List.getElem?_eq_none_iff.mp q
        exact ⟨vs, h', by omega⟩
      | some y => rw [q] at e; cases e
    · cases e
  · unfold srcT at e
    split at e
    · have e := Option.some.inj e
      cases q : xs[i]? with
      | none => rw [q] at e; cases e
      | some y =>
        rw [q] at e
        cases e
        obtain ⟨v, hv, rv⟩ := r'.at (show (xs.map D.p)[i]? = some (.p y) by rw [List.getElem?_map, q]; rfl)
        refine ⟨⟨vs, v, h', hv⟩, fun z H2 yl => ?_⟩
        obtain ⟨T, v', rfl, hT, rfl, hv'⟩ := yl
        have := hv' vs h'
        rw [hv] at this
        cases this
        exact ⟨.inr ⟨T, _, hT, rfl⟩, pair_new hS' hT (Dq.int _) rv⟩
    · cases e
theorem pi_enT {ta : TA} (hg : Gl X "enumerate") (hm : X.mg "enumerate" = none) (ha : PA X [a] ta) (hs : starEach [a] X.env = [(false, eval a X.env)]) :
    PI X (.Tuple elts kk tpos) (.Call (.Name "enumerate" p) [a] [] pos) (fun σ H R => ta σ H fun vs H1 => ∃ t xs, vs = [.ref t] ∧ SqT X.K H1 t xs ∧ R (ItE X.K t) H1) := by
  refine ⟨fun pins s σ H R I h => ?_⟩
  refine Call_ (ld_blt I hg hm (show bootBuiltins "enumerate" = some (.type "enumerate") by decide +kernel) (PyProof.Rows.callWith_type1 (thn (ha.run pos pins s σ H _ I h) fun us s1 ⟨vs, H1, I1, r1, q1⟩ => ?_) hs rfl))
  obtain ⟨t, xs, rfl, hq, q⟩ := q1
  obtain ⟨u, rfl, ru⟩ := vals1 r1
  obtain rfl : u = Value.ref t := ru
  obtain ⟨its, rv, pt, hz⟩ := I1.tuple hq
  have it : s1.heap.IsTuple t its.toArray := pt
  have lt : t < s1.heap.objs.size := by
    obtain ⟨o, z, _⟩ := it
    exact Heap.lt_size z
  refine enum1 (begins_tuple t its.toArray) it fun hp he hit hk => wpAny_pyIter_enum he ?_
  have I2 : Inv X pins σ H1 { s1 with heap := hp } := I1.kept (t' := s1.toks) hk
  refine ⟨s1.heap.objs.size + 1, [s1.heap.objs.size + 1, s1.heap.objs.size], _, _, H1, rfl, I2, turn_enT t (s1.heap.objs.size + 1) s1.heap.objs.size (Nat.ne_of_lt lt) (Nat.ne_of_gt (Nat.lt_succ_of_lt lt)), ⟨⟨.none, he⟩, ⟨_, hit, rfl, rfl⟩, Nat.succ_ne_self _⟩, fun b hb => ?_, q⟩
  have hle : s1.heap.objs.size ≤ b := by
    rcases List.mem_cons.mp hb with z | z
    · rw [z]; exact Nat.le_add_right _ _
    · rw [List.mem_singleton.mp z]; exact Nat.le_refl _
  exact I1.fpOk hle (I1.hok.fresh hle)
def enSrc (S : Store) : D → Option Src
  | .p (.tuple xs) => some (srcT xs)
  | x => if IsLst S x then (srcOf S x).map srcEn else none
def mEn (a : M) : MIt := fun ev S => (a ev S).bind fun r => (enSrc r.2 r.1).map fun f => (f, r.2)
theorem im_en (ha : EM X a ma) (hs : notStar a = true) (hg : Gl X "enumerate") (hm : X.mg "enumerate" = none) : IM X (.Tuple elts kk tpos) (.Call (.Name "enumerate" p) [a] [] pos) (mEn ma) := by
  refine IM.of (PI_or (pi_enum hg hm (am_cons ha am_nil hs).pa (star_cons hs)) (pi_enT hg hm (am_cons ha am_nil hs).pa (star_cons hs))) fun σ H R q => ?_
  obtain ⟨B, ev, S, src, S', hS, hE, em, q⟩ := q
  obtain ⟨⟨x, S1⟩, e1, em⟩ := bind_some em
  obtain ⟨f, e2, em⟩ := map_some em
  cases em
  have arg : mCons ma mNil ev S = some ([x], S1) := by simp only [mCons, mNil, e1, Option.bind_some, Option.map_some]
  replace e2 : enSrc S1 x = some src := e2
  unfold enSrc at e2
  split at e2
  · rename_i xs
    cases e2
    refine .inr ⟨B, ev, S, _, S1, hS, hE, arg, fun B1 H1 v1 x1 s1 d1 => ?_⟩
    obtain ⟨v, rfl, h⟩ := rds1 d1
    obtain ⟨t, vs, rfl, h1, h2⟩ := dq_tup h
    exact ⟨t, vs, rfl, h1.sq, q _ B1 H1 x1 s1 (jm_enT h1 h2)⟩
  · split at e2
    · rename_i hl
      obtain ⟨g, e3, e2⟩ := map_some e2
      cases e2
      refine .inl ⟨B, ev, S, _, S1, hS, hE, arg, fun B1 H1 v1 x1 s1 d1 => ?_⟩
      obtain ⟨v, rfl, h⟩ := rds1 d1
      obtain ⟨l, rfl, ⟨vs, h1⟩, h2⟩ := lst_at s1 h hl e3
      exact ⟨l, vs, rfl, h1, q _ B1 H1 x1 s1 (jm_enum h2)⟩
    · cases e2
end
end PI
set_option maxHeartbeats 1000000
/-! Own text: the comprehension as a value, statements, loops. -/
namespace PI
open PySem PySem.Spec L2
open PyProof.Rows hiding St

/-- the tests of a comprehension -/
def CM (X : Cx) (ifs : List Expr) (m : M) : Prop := PTs X ifs (tMt X.K X.mg m)
theorem cm_nil {X : Cx} : CM X [] mYes := pts_yes
theorem cm_one {X : Cx} {c : Expr} {m : M} (h : TM X c m) : CM X [c] m := pts_one h.pt
section
variable {X : Cx} {tg a b e elt iter : Expr} {ma mb mc me : M} {mi : MIt} {g : MG} {is : List Nat} {ifs : List Expr} {scope : Scope} {own : List (Str × Nat)} {pos spos py : Pos} {L : Nat}
theorem em_lc (bx : Bool) (hK : BK X) (hN : X.N.Nodup) (hi : IM X tg iter mi) (ok : BlkOk X.N X.env.scope scope own) (his : ∀ j ∈ is, j ∈ own.map (·.2))
    (hg : ∀ (s : Shared) (H : Hp) (C : Addr) (cl : List (Str × Addr)) (fp : List Addr), GM (X.blk s H scope (compEnvC scope cl C X.env) fp) tg is g) (ht : ∀ (s : Shared) (H : Hp) (C : Addr) (cl : List (Str × Addr)) (fp : List Addr), CM (X.blk s H scope (compEnvC scope cl C X.env) fp) ifs mc)
    (he : ∀ (s : Shared) (H : Hp) (C : Addr) (cl : List (Str × Addr)) (fp : List Addr), EM (X.blk s H scope (compEnvC scope cl C X.env) fp) elt me) (hs : ∀ x, foldedSetIterable iter X.env x = pure x) :
    EM X (.ListComp elt [⟨tg, iter, ifs, 0⟩] scope pos) (mLc L bx mi (own.map (·.2)) g mc me) :=
  EM.of_pe (pe_lc hK.calm hN hi ok (g := tG X.K X.mg is g) (tt := tMt X.K X.mg mc) (te := tM X.K X.mg me) (fun s H C cl fp => (hg s H C cl fp).pg) (fun s H C cl fp => ht s H C cl fp) (fun s H C cl fp => (he s H C cl fp).pe) hs) fun σ H B ev S d S' hS hE em => lc_reads his hS hE em post_QM
end

/-! ### statements -/
def SM (X : Cx) (st : Stmt) (m : MS) : Prop := PS X st (tMS X.K X.mg m)
def SsM (X : Cx) (sts : List Stmt) (m : MS) : Prop := PSs X sts (tMS X.K X.mg m)
def sNil : MS := fun ev S => some (.nx, ev, S)
def sSeq (a b : MS) : MS := fun ev S => (a ev S).bind fun r => match r.1 with
  | .nx => b r.2.1 r.2.2
  | f => some (f, r.2.1, r.2.2)
def sEx (a : M) : MS := fun ev S => (a ev S).map fun r => (.nx, ev, r.2)
def sRet (a : M) : MS := fun ev S => (a ev S).map fun r => (.rt r.1, ev, r.2)
def sRetN : MS := fun ev S => some (.rt (.p .none), ev, S)
def sBrk : MS := fun ev S => some (.bk, ev, S)
def sCnt : MS := fun ev S => some (.ct, ev, S)
def sNo : MS := fun _ _ => none
def sIf (c : M) (a b : MS) : MS := fun ev S => (c ev S).bind fun r => (isTru r.1).bind fun k => if k then a ev r.2 else b ev r.2
def sAsg (a : M) (g : MG) : MS := fun ev S => (a ev S).bind fun r => (g r.1 ev r.2).map fun q => (.nx, q.1, q.2)
/-- plain names from a display, each with its slot -/
def sPar (a : Ms) (g : List D → EnvI → Store → Option (EnvI × Store)) : MS := fun ev S => (a ev S).bind fun r => (g r.1 ev r.2).map fun q => (.nx, q.1, q.2)

theorem PS.of {X : Cx} {st : Stmt} {t t' : TS} (h : PS X st t) (g : ∀ D σ H, t' D σ H → t D σ H) : PS X st t' := ⟨fun pins s σ H D I q => h.run pins s σ H D I (g D σ H q)⟩
theorem PSs.of {X : Cx} {st : List Stmt} {t t' : TS} (h : PSs X st t) (g : ∀ D σ H, t' D σ H → t D σ H) : PSs X st t' := ⟨fun pins s σ H D I q => h.run pins s σ H D I (g D σ H q)⟩
section
variable {X : Cx} {st : Stmt} {sts rest : List Stmt} {a b c e tg : Expr} {ma mb mc : M} {m m1 m2 : MS} {g : MG} {pos spos p py : Pos}
theorem sm_no : SM X st sNo := ⟨fun pins s σ H D I ⟨B, ev, S, f, ev', S', hS, hE, em, q⟩ => by cases em⟩
theorem ssm_nil : SsM X [] sNil := PSs.of pss_nil fun D σ H ⟨B, ev, S, f, ev', S', hS, hE, em, q⟩ => by
  cases em
  exact q B H hS.refl hS σ hE
theorem ssm_cons (h1 : SM X st m1) (h2 : SsM X rest m2) : SsM X (st :: rest) (sSeq m1 m2) := PSs.of (pss_cons h1 h2) fun D σ H ⟨B, ev, S, f, ev', S', hS, hE, em, q⟩ => by
  obtain ⟨⟨f1, ev1, S1⟩, e1, em⟩ := bind_some em
  refine ⟨B, ev, S, f1, ev1, S1, hS, hE, e1, fun B1 H1 x1 s1 => ?_⟩
  cases f1 with
  | nx => exact fun σ1 hE1 => ⟨B1, ev1, S1, f, ev', S', s1, hE1, em, fun B2 H2 x2 s2 => q B2 H2 (x1.trans x2) s2⟩
  | _ => cases em; exact q B1 H1 x1 s1
theorem ssm_one (h : SM X st m) : SsM X [st] m := pss_one h
theorem sm_pass : SM X (.Pass pos) sNil := PS.of ps_pass fun D σ H ⟨B, ev, S, f, ev', S', hS, hE, em, q⟩ => by
  cases em
  exact q B H hS.refl hS σ hE
theorem sm_break : SM X (.Break pos) sBrk := PS.of ps_break fun D σ H ⟨B, ev, S, f, ev', S', hS, hE, em, q⟩ => by
  cases em
  exact q B H hS.refl hS σ hE
theorem sm_continue : SM X (.Continue pos) sCnt := PS.of ps_continue fun D σ H ⟨B, ev, S, f, ev', S', hS, hE, em, q⟩ => by
  cases em
  exact q B H hS.refl hS σ hE
theorem sm_doc {x : Str} {j : Nat} {p : Pos} : SM X (.Expr (.Constant (.str x) j p) pos) sNil := PS.of ps_doc fun D σ H ⟨B, ev, S, f, ev', S', hS, hE, em, q⟩ => by
  cases em
  exact q B H hS.refl hS σ hE
theorem sm_expr (ha : EM X a ma) (hs : swapsWith a none pos.line X.env = pure false) : SM X (.Expr a pos) (sEx ma) := PS.of (ps_expr ha.pe hs) fun D σ H ⟨B, ev, S, f, ev', S', hS, hE, em, q⟩ => by
  obtain ⟨⟨d, S1⟩, e1, em⟩ := map_some em
  cases em
  exact ⟨B, ev, S, d, S1, hS, hE, e1, fun B1 H1 v x1 s1 d1 => q B1 H1 x1 s1 σ (hE.ext x1)⟩
theorem sm_ret (ha : EM X a ma) : SM X (.Return (some a) pos) (sRet ma) := PS.of (ps_ret ha.pe) fun D σ H ⟨B, ev, S, f, ev', S', hS, hE, em, q⟩ => by
  obtain ⟨⟨d, S1⟩, e1, em⟩ := map_some em
  cases em
  exact ⟨B, ev, S, d, S1, hS, hE, e1, fun B1 H1 v x1 s1 d1 => q B1 H1 x1 s1 v d1⟩
theorem sm_retN : SM X (.Return none pos) sRetN := PS.of ps_retN fun D σ H ⟨B, ev, S, f, ev', S', hS, hE, em, q⟩ => by
  cases em
  exact q B H hS.refl hS .non Dq.non
theorem sm_if {p q : List Stmt} (hc : TM X c mc) (h1 : SsM X p m1) (h2 : SsM X q m2) : SM X (.If c p q pos) (sIf mc m1 m2) := PS.of (ps_if hc.pt h1 h2) fun D σ H ⟨B, ev, S, f, ev', S', hS, hE, em, q⟩ => by
  obtain ⟨⟨d, S1⟩, e1, em⟩ := bind_some em
  obtain ⟨k, e2, em⟩ := bind_some em
  obtain rfl := isTru_p e2
  refine ⟨B, ev, S, k, S1, hS, hE, e1, fun B1 H1 x1 s1 => ?_⟩
  cases k with
  | true => exact ⟨B1, ev, S1, f, ev', S', s1, hE.ext x1, em, fun B2 H2 x2 s2 => q B2 H2 (x1.trans x2) s2⟩
  | false => exact ⟨B1, ev, S1, f, ev', S', s1, hE.ext x1, em, fun B2 H2 x2 s2 => q B2 H2 (x1.trans x2) s2⟩
theorem GM.pm {is : List Nat} {m : MG} (h : GM X tg is m) : PG X tg (tMG X.K X.mg m) := ⟨fun pins s σ H v u Q I r ⟨B, ev, S, d, ev', S', hS, hE, rd, em, q⟩ =>
  thn (h pins s σ H B ev S d v u ev' S' I hS hE rd r em) fun _ s' ⟨σ', H', B', I', x, s1, e1, u1⟩ => ⟨σ', H', I', q B' H' σ' x s1 e1⟩⟩
theorem asg_reads {σ : St} {H : Hp} {D : Ends} {te : TE} {tg : TG} (h1 : ∀ σ H Q, tM X.K X.mg ma σ H Q → te σ H Q) (h2 : ∀ v σ H Q, tMG X.K X.mg g v σ H Q → tg v σ H Q) (h : tMS X.K X.mg (sAsg ma g) D σ H) : tAsg te tg D σ H := by
  obtain ⟨B, ev, S, f, ev', S', hS, hE, em, q⟩ := h
  obtain ⟨⟨d, S1⟩, e1, em⟩ := bind_some em
  obtain ⟨⟨ev2, S2⟩, e2, em⟩ := map_some em
  cases em
  exact h1 _ _ _ ⟨B, ev, S, d, S1, hS, hE, e1, fun B1 H1 v x1 s1 d1 => h2 _ _ _ _ ⟨B1, ev, S1, d, ev2, S2, s1, hE.ext x1, d1, e2, fun B2 H2 σ2 x2 s2 hE2 => q B2 H2 (x1.trans x2) s2 σ2 hE2⟩⟩
theorem sm_asg {is : List Nat} (ha : EM X a ma) (hg : GM X tg is g) (hs : swapsWithSole [tg] a pos.line X.env = pure false) (hw : swappedStores [tg] a X.env = pure none) (h1 : (assignEach [tg] X.env).map (·.2) = [assign tg X.env]) : SM X (.Assign [tg] a pos) (sAsg ma g) :=
  PS.of (ps_asg ha.pe hg.pm hs hw h1) fun D σ H h => asg_reads (fun _ _ _ q => q) (fun _ _ _ _ q => q) h
/-- name = [..] on one line -/
theorem sm_lc {i : Nat} {y : Str} {mi : MIt} {gg : MG} {is : List Nat} {me : M} {ifs : List Expr} {elt iter : Expr} {scope : Scope} {own : List (Str × Nat)} {L : Nat} (bx : Bool) (hK : BK X) (hN : X.N.Nodup) (hy : X.N[i]? = some y) (hyl : X.env.scope.names.lookup y = some .local)
    (hsw : swapsWith (.ListComp elt [⟨tg, iter, ifs, 0⟩] scope pos) (some (.Name y py)) spos.line X.env = pure true) (hi : IM X tg iter mi) (ok : BlkOk X.N X.env.scope scope own) (his : ∀ j ∈ is, j ∈ own.map (·.2))
    (hg : ∀ (s : Shared) (H : Hp) (C : Addr) (cl : List (Str × Addr)) (fp : List Addr), GM (X.blk s H scope (compEnvC scope cl C X.env) fp) tg is gg) (ht : ∀ (s : Shared) (H : Hp) (C : Addr) (cl : List (Str × Addr)) (fp : List Addr), CM (X.blk s H scope (compEnvC scope cl C X.env) fp) ifs mc)
    (he : ∀ (s : Shared) (H : Hp) (C : Addr) (cl : List (Str × Addr)) (fp : List Addr), EM (X.blk s H scope (compEnvC scope cl C X.env) fp) elt me) (hs : ∀ x, foldedSetIterable iter X.env x = pure x) :
    SM X (.Assign [.Name y py] (.ListComp elt [⟨tg, iter, ifs, 0⟩] scope pos) spos) (sAsg (mLc L bx mi (own.map (·.2)) gg mc me) (gNm i)) :=
  PS.of (ps_setLc hK.calm hN hy hyl hsw hi ok (g := tG X.K X.mg is gg) (tt := tMt X.K X.mg mc) (te := tM X.K X.mg me) (fun s H C cl fp => (hg s H C cl fp).pg) (fun s H C cl fp => ht s H C cl fp) (fun s H C cl fp => (he s H C cl fp).pe) hs) fun D σ H h => asg_reads (fun σ H Q ⟨B, ev, S, d, S', hS, hE, em, q⟩ => lc_reads his hS hE em q)
    (fun v σ H Q ⟨B, ev, S, d, ev', S', hS, hE, rd, em, q⟩ => by
      cases em
      exact q B H _ hS.refl hS (hE.set i rd)) h

/-! parallel assignment -/
theorem rds3 {K : PySem.W.Frag} {mg : Mg} {B : BT} {H : Hp} {d e f : D} {vs : List V} (r : RDs K mg B H [d, e, f] vs) : ∃ v w u, vs = [v, w, u] ∧ RD K mg B H d v ∧ RD K mg B H e w ∧ RD K mg B H f u := by
  cases r with
  | cons h1 r =>
    obtain ⟨w, u, rfl, h2, h3⟩ := rds2 r
    exact ⟨_, w, u, rfl, h1, h2, h3⟩
def gP2 (i j : Nat) : List D → EnvI → Store → Option (EnvI × Store) := fun ds ev S => match ds with
  | [x, y] => some ((ev.set i (some x)).set j (some y), S)
  | _ => none
def gP3 (i j l : Nat) : List D → EnvI → Store → Option (EnvI × Store) := fun ds ev S => match ds with
  | [x, y, z] => some (((ev.set i (some x)).set j (some y)).set l (some z), S)
  | _ => none
theorem sm_par {i j : Nat} {x y : Str} {m : Ms} {px py pt : Pos} {kt k2 : Nat} {pt2 : Pos} (hK : BK X) (hN : X.N.Nodup) (hi : X.N[i]? = some x) (hj : X.N[j]? = some y) (hij : i ≠ j)
    (hx : X.env.scope.names.lookup x = some .local) (hy : X.env.scope.names.lookup y = some .local) (ha : AM X [a, b] m)
    (hw : swappedStores [.Tuple [.Name x px, .Name y py] kt pt] (.Tuple [a, b] k2 pt2) X.env = pure (some [x, y])) :
    SM X (.Assign [.Tuple [.Name x px, .Name y py] kt pt] (.Tuple [a, b] k2 pt2) pos) (sPar m (gP2 i j)) := PS.of (ps_par hK.calm hN hi hj hij hx hy ha.pa hw) fun D σ H ⟨B, ev, S, f, ev', S', hS, hE, em, q⟩ => by
  obtain ⟨⟨ds, S1⟩, e1, em⟩ := bind_some em
  obtain ⟨⟨ev2, S2⟩, e2, em⟩ := map_some em
  cases em
  unfold gP2 at e2
  split at e2
  · rename_i xx yy hd
    have hd : ds = [xx, yy] := hd
    subst hd
    cases e2
    refine ⟨B, ev, S, _, _, hS, hE, e1, fun B1 H1 vs x1 s1 d1 => ?_⟩
    obtain ⟨v, w, rfl, r1, r2⟩ := rds2 d1
    exact ⟨v, w, rfl, q B1 H1 x1 s1 _ (((hE.ext x1).set i r1).set j r2)⟩
  · cases e2
theorem sm_par3 {i j l : Nat} {x y z : Str} {m : Ms} {px py pz pt : Pos} {kt k2 : Nat} {pt2 : Pos} (hK : BK X) (hN : X.N.Nodup) (hi : X.N[i]? = some x) (hj : X.N[j]? = some y) (hl : X.N[l]? = some z) (hij : i ≠ j) (hil : i ≠ l) (hjl : j ≠ l)
    (hx : X.env.scope.names.lookup x = some .local) (hy : X.env.scope.names.lookup y = some .local) (hz : X.env.scope.names.lookup z = some .local) (ha : AM X [a, b, c] m)
    (hw : swappedStores [.Tuple [.Name x px, .Name y py, .Name z pz] kt pt] (.Tuple [a, b, c] k2 pt2) X.env = pure (some [x, y, z])) :
    SM X (.Assign [.Tuple [.Name x px, .Name y py, .Name z pz] kt pt] (.Tuple [a, b, c] k2 pt2) pos) (sPar m (gP3 i j l)) := PS.of (ps_par3 hK.calm hN hi hj hl hij hil hjl hx hy hz ha.pa hw) fun D σ H ⟨B, ev, S, f, ev', S', hS, hE, em, q⟩ => by
  obtain ⟨⟨ds, S1⟩, e1, em⟩ := bind_some em
  obtain ⟨⟨ev2, S2⟩, e2, em⟩ := map_some em
  cases em
  unfold gP3 at e2
  split at e2
  · rename_i xx yy zz hd
    have hd : ds = [xx, yy, zz] := hd
    subst hd
    cases e2
    refine ⟨B, ev, S, _, _, hS, hE, e1, fun B1 H1 vs x1 s1 d1 => ?_⟩
    obtain ⟨v, w, u, rfl, r1, r2, r3⟩ := rds3 d1
    exact ⟨v, w, u, rfl, q B1 H1 x1 s1 _ ((((hE.ext x1).set i r1).set j r2).set l r3)⟩
  · cases e2
end

/-! ### loops -/
def forLoop (src : Src) (g : MG) (body : MS) : Nat → Nat → EnvI → Store → Option (Fl × EnvI × Store)
  | 0, _, _, _ => none
  | k + 1, i, ev, S => (src i S).bind fun o => match o with
    | none => some (.nx, ev, S)
    | some d => (g d ev S).bind fun r => (body r.1 r.2).bind fun q => match q.1 with
      | .nx => forLoop src g body k (i + 1) q.2.1 q.2.2
      | .ct => forLoop src g body k (i + 1) q.2.1 q.2.2
      | .bk => some (.nx, q.2.1, q.2.2)
      | .rt d => some (.rt d, q.2.1, q.2.2)
def sFor (L : Nat) (mi : MIt) (g : MG) (body : MS) : MS := fun ev S => (mi ev S).bind fun r => forLoop r.1 g body L 0 ev r.2
def whLoop (c : M) (body : MS) : Nat → EnvI → Store → Option (Fl × EnvI × Store)
  | 0, _, _ => none
  | k + 1, ev, S => (c ev S).bind fun r => (isTru r.1).bind fun b => if b then (body ev r.2).bind fun q => match q.1 with
      | .nx => whLoop c body k q.2.1 q.2.2
      | .ct => whLoop c body k q.2.1 q.2.2
      | .bk => some (.nx, q.2.1, q.2.2)
      | .rt d => some (.rt d, q.2.1, q.2.2)
    else some (.nx, ev, r.2)
section
variable {X : Cx} {a b c e tg iter : Expr} {ma mb mc : M} {m : MS} {g : MG} {mi : MIt} {pos : Pos} {body : List Stmt}
theorem passes (hx : X.xe = fun _ _ => False) : PassesOwn (model X.prog X.w) X.A X.env X.xe := by rw [hx]; exact PassesOwn.never
theorem sm_for {is : List Nat} (L : Nat) (K : BK X) (hx : X.xe = fun _ _ => False) (hi : IM X tg iter mi) (hg : GM X tg is g) (hb : SsM X body m) (hs : ∀ x, foldedSetIterable iter X.env x = pure x) :
    SM X (.For tg iter body [] pos) (sFor L mi g m) := PS.of (ps_for (passes hx) K.calm hi hg.pm hb hs) fun D σ H ⟨B, ev, S, f, ev', S', hS, hE, em, q⟩ => by
  obtain ⟨⟨src, S1⟩, e1, em⟩ := bind_some em
  refine ⟨B, ev, S, src, S1, hS, hE, e1, fun J B1 H1 x1 hS1 jm => ?_⟩
  refine ⟨fun i k σi Hi => ∃ Bi evi Si, Ext B1 H1 Bi Hi ∧ SR X.K X.mg Bi Hi Si ∧ ER X.K X.mg Bi Hi evi σi ∧ forLoop src g m k i evi Si = some (f, ev', S'), ⟨L, B1, ev, S1, hS1.refl, hS1, hE.ext x1, em⟩, ?_⟩
  rintro i k σi Hi ⟨Bi, evi, Si, xi, si, hEi, lp⟩
  cases k with
  | zero => cases lp
  | succ k =>
    simp only [forLoop] at lp
    obtain ⟨o, e3, lp⟩ := bind_some lp
    obtain ⟨j1, j2⟩ := jm i _ Hi Si xi.ex si
    cases o with
    | none =>
      cases lp
      exact .inl ⟨j1 e3, q Bi Hi (x1.trans xi) si σi hEi⟩
    | some d0 =>
      obtain ⟨hgo, hy⟩ := j2 d0 e3
      obtain ⟨⟨ev1, S2⟩, e4, lp⟩ := bind_some lp
      obtain ⟨⟨f1, ev2, S3⟩, e5, lp⟩ := bind_some lp
      refine .inr ⟨hgo, fun σn Hn => ∃ Bn evn Sn, Ext B1 H1 Bn Hn ∧ SR X.K X.mg Bn Hn Sn ∧ ER X.K X.mg Bn Hn evn σn ∧ forLoop src g m k (i + 1) evn Sn = some (f, ev', S'), ?_, ?_⟩
      · rintro σn Hn ⟨Bn, evn, Sn, r⟩
        exact ⟨k, Nat.lt_succ_self _, Bn, evn, Sn, r⟩
      · intro x H2 hyld
        obtain ⟨hh, rd⟩ := hy x H2 hyld
        have st : Ext Bi Hi Bi H2 ∧ SR X.K X.mg Bi H2 Si := by
          rcases hh with rfl | ⟨T, ob, hT, rfl⟩
          · exact ⟨si.refl, si⟩
          · exact ⟨si.ext_new hT ob, si.new hT ob⟩
        obtain ⟨x2, s2⟩ := st
        refine ⟨Bi, evi, Si, d0, ev1, S2, s2, hEi.ext x2, rd, e4, fun B3 H3 σ3 x3 s3 hE3 => ?_⟩
        refine ⟨B3, ev1, S2, f1, ev2, S3, s3, hE3, e5, fun B4 H4 x4 s4 => ?_⟩
        have x14 := xi.trans ((x2.trans x3).trans x4)
        cases f1 with
        | nx => exact fun σ4 hE4 => ⟨B4, ev2, S3, x14, s4, hE4, lp⟩
        | ct => exact fun σ4 hE4 => ⟨B4, ev2, S3, x14, s4, hE4, lp⟩
        | bk => cases lp; exact q B4 H4 (x1.trans x14) s4
        | rt d => cases lp; exact q B4 H4 (x1.trans x14) s4
theorem sm_while (L : Nat) (hx : X.xe = fun _ _ => False) (hc : TM X c mc) (hb : SsM X body m) :
    SM X (.While c body [] pos) (whLoop mc m L) := PS.of (ps_while (passes hx) hc.pt hb) fun D σ H ⟨B, ev, S, f, ev', S', hS, hE, em, q⟩ => by
  refine ⟨fun k σi Hi => ∃ Bi evi Si, Ext B H Bi Hi ∧ SR X.K X.mg Bi Hi Si ∧ ER X.K X.mg Bi Hi evi σi ∧ whLoop mc m k evi Si = some (f, ev', S'), ⟨L, B, ev, S, hS.refl, hS, hE, em⟩, ?_⟩
  rintro k σi Hi ⟨Bi, evi, Si, xi, si, hEi, lp⟩
  cases k with
  | zero => cases lp
  | succ k =>
    simp only [whLoop] at lp
    obtain ⟨⟨d, S1⟩, e1, lp⟩ := bind_some lp
    obtain ⟨kb, e2, lp⟩ := bind_some lp
    obtain rfl := isTru_p e2
    refine ⟨Bi, evi, Si, kb, S1, si, hEi, e1, fun B1 H1 x1 s1 => ?_⟩
    cases kb with
    | false => cases lp; exact q B1 H1 (xi.trans x1) s1 σi (hEi.ext x1)
    | true =>
      obtain ⟨⟨f1, ev2, S3⟩, e5, lp⟩ := bind_some lp
      rw [if_pos rfl]
      refine ⟨fun σn Hn => ∃ Bn evn Sn, Ext B H Bn Hn ∧ SR X.K X.mg Bn Hn Sn ∧ ER X.K X.mg Bn Hn evn σn ∧ whLoop mc m k evn Sn = some (f, ev', S'), ?_, ?_⟩
      · rintro σn Hn ⟨Bn, evn, Sn, r⟩
        exact ⟨k, Nat.lt_succ_self _, Bn, evn, Sn, r⟩
      · refine ⟨B1, evi, S1, f1, ev2, S3, s1, hEi.ext x1, e5, fun B4 H4 x4 s4 => ?_⟩
        have x14 := xi.trans (x1.trans x4)
        cases f1 with
        | nx => exact fun σ4 hE4 => ⟨B4, ev2, S3, x14, s4, hE4, lp⟩
        | ct => exact fun σ4 hE4 => ⟨B4, ev2, S3, x14, s4, hE4, lp⟩
        | bk => cases lp; exact q B4 H4 x14 s4
        | rt d => cases lp; exact q B4 H4 x14 s4
end
end PI
set_option maxHeartbeats 1000000
/-! Own text: the reading of a piece of the text, and that it is sound. -/
namespace PI
open PySem PySem.Spec L2
open PyProof.Rows hiding St

/-- what is known of the whole text -/
structure GS where
  /-- turns a loop may take -/
  L : Nat
  /-- is the list or dict made here a box -/
  bx : Pos → Bool
  /-- values of global names -/
  gk : Str → Option D
  /-- built-in names that the text leaves alone -/
  bl : Str → Bool
/-- what is known of a block: its slots, its scope -/
structure CS where
  N : List Str
  sc : Scope
  fnc : Str → Bool
/-- the defs: parameters and meaning -/
abbrev CFt := Str → Option (List Str × BF)
structure Good (G : GS) (cf : CFt) (X : Cx) (c : CS) : Prop where
  bk : BK X
  xe : X.xe = fun _ _ => False
  eN : X.N = c.N
  nd : c.N.Nodup
  sc : X.env.scope = c.sc
  kd : c.sc.kind = .function
  fn : X.fn = c.fnc
  gk : ∀ x d, G.gk x = some d → ∃ u v, X.mg x = some u ∧ RelV v u ∧ ∀ B H, RD X.K X.mg B H d v
  bl : ∀ x, G.bl x = true → X.mg x = none
  fns : ∀ x ps f, cf x = some (ps, f) → ∃ k a fd, FnI X.prog X.w X.K X.mg X.base k a fd ps (fun ds S => f S ds) ∧ Room k X.A ∧ X.mg x = some (.ref a) ∧ PySem.W.keepIn X.K (.ref a) = true ∧ Bnd fd ps
def isVis (c : CS) (x : Str) : Bool := match c.sc.names.lookup x with
  | some .local => true
  | some .cell => true
  | some .free => true
  | _ => false
def isLoc (c : CS) (x : Str) : Bool := match c.sc.names.lookup x with
  | some .local => true
  | some .cell => true
  | _ => false
def isGl (c : CS) (x : Str) : Bool := match c.sc.names.lookup x with
  | some .globalImplicit => true
  | _ => false
/-- the slot of a name -/
def sIx (c : CS) (x : Str) : Option Nat := if c.N.contains x then some (c.N.idxOf x) else none
theorem sIx_at {c : CS} {x : Str} {i : Nat} (h : sIx c x = some i) : c.N[i]? = some x := by
  unfold sIx at h
  split at h
  · rename_i hc
    cases h
    have hm : x ∈ c.N := by simpa using hc
    have hl := List.idxOf_lt_length_of_mem hm
    rw [List.getElem?_eq_getElem hl, List.getElem_idxOf]
  · cases h
section
variable {G : GS} {cf : CFt} {X : Cx} {c : CS}
theorem Good.vis (g : Good G cf X c) {x : Str} (h : isVis c x = true) : Vis X.env.scope x := by
  unfold isVis at h
  unfold Vis
  rw [g.sc]
  split at h
  · exact .inl (by assumption)
  · exact .inr (.inl (by assumption))
  · exact .inr (.inr (by assumption))
  · cases h
theorem Good.lc (g : Good G cf X c) {x : Str} (h : isLoc c x = true) : L2.Loc X.env.scope x := by
  unfold isLoc at h
  unfold L2.Loc
  rw [g.sc]
  split at h
  · exact .inl (by assumption)
  · exact .inr (by assumption)
  · cases h
theorem Good.gl (g : Good G cf X c) {x : Str} (h : isGl c x = true) : Gl X x := by
  unfold isGl at h
  show X.env.scope.names.lookup x = _
  rw [g.sc]
  split at h
  · assumption
  · cases h
theorem Good.at_ (g : Good G cf X c) {x : Str} {i : Nat} (h : sIx c x = some i) : X.N[i]? = some x := by rw [g.eN]; exact sIx_at h
end

/-! ### the reading -/
structure Sm where
  E : CS → Expr → M
  T : CS → Expr → M
  G : CS → Expr → List Nat × MG
  S : CS → List Stmt → MS
def plainNm (x : Str) : Bool := !(x == ("__debug__" : Str)) && !(x == ("__classdict__" : Str))
def nmE (G : GS) (c : CS) (x : Str) : M :=
  if plainNm x then
    if isVis c x then (match sIx c x with
      | some i => mV i
      | none => mNo)
    else if isGl c x then (match G.gk x with
      | some d => mC d
      | none => if G.bl x then (match tyF x with
        | some t => mC (.ty t)
        | none => mNo) else mNo)
    else mNo
  else mNo
def kE : Const → M
  | .none => mC (.p .none)
  | .bool b => mC (.p (.bool b))
  | .int i => mC (.p (.int i))
  | .str x => mC (.p (.str x))
  | _ => mNo
def asE (f : Expr → M) : List Expr → Ms
  | [] => mNil
  | a :: es => mCons (f a) (asE f es)
def kwE (f : Expr → M) : List Keyword → Ms
  | [] => mNil
  | k :: ks => mCons (f k.value) (kwE f ks)
def andE (f : Expr → M) : List Expr → M
  | [] => mNo
  | [a] => f a
  | a :: es => mAnd (f a) (andE f es)
def orE (f : Expr → M) : List Expr → M
  | [] => mNo
  | [a] => f a
  | a :: es => mOr (f a) (orE f es)
def boE (f : Expr → M) (op : BoolOp) (es : List Expr) : M := match op with
  | .And => andE f es
  | .Or => orE f es
def cmpE (f : Expr → M) (a : Expr) (ops : List CmpOp) (es : List Expr) : M := match ops, es with
  | [op], [b] => if behindInMarks op b then mNo else mCmp op (f a) (f b)
  | [op, op'], [b, c] => if lastMarks [op, op'] [b, c] then mNo else mChain op op' (f a) (f b) (f c)
  | _, _ => mNo
def dcE (f : Expr → M) : List (Option Expr) → List Expr → Mp
  | [], [] => mpNil
  | some a :: ks, b :: vs => mpCons (f a) (f b) (dcE f ks vs)
  | _, _ => fun _ _ => none
def dicE (bx : Bool) (f : Expr → M) (ks : List (Option Expr)) (vs : List Expr) : M :=
  if ks.all (·.isSome) && ks.length == vs.length && ks.length ≤ 15 then mDic bx (dcE f ks vs) else mNo
def slO (f : Expr → M) : Option Expr → MO
  | none => mONone
  | some a => mOSome (f a)
def ixE (bx : Bool) (f : Expr → M) (a b : Expr) : M := match b with
  | .Slice lo hi none _ => mSl bx (f a) (slO f lo) (slO f hi)
  | .Slice none none (some (.UnaryOp .USub (.Constant (.int 1) _ _) _)) _ => mRev bx (f a)
  | b => if notSlice b then mIx (f a) (f b) else mNo
def bltE (G : GS) (pos : Pos) (f : Expr → M) (x : Str) (es : List Expr) : M :=
  if G.bl x && es.all notStar then (match es with
    | [] => mNo
    | e :: es => (match bltF (G.bx pos) x with
      | some b => mBlt b (asE f (e :: es))
      | none => mNo))
  else mNo
/-- list(range(a)) -/
def lrgArg (x : Str) (es : List Expr) : Option Expr := if x = "list" then (match es with
  | [.Call (.Name y _) [a] [] _] => if y = "range" then some a else none
  | _ => none) else none
theorem lrgArg_inv {x : Str} {es : List Expr} {a : Expr} (h : lrgArg x es = some a) : x = "list" ∧ ∃ p q, es = [.Call (.Name "range" p) [a] [] q] := by
  unfold lrgArg at h
  split at h
  · rename_i hx
    split at h
    · split at h
      · rename_i hy
        cases h
        subst hy
        exact ⟨hx, _, _, rfl⟩
      · cases h
    · cases h
  · cases h
def lrgE (G : GS) (c : CS) (pos : Pos) (f : Expr → M) (a : Expr) : M :=
  if isGl c "range" && G.bl "range" && G.bl "list" && notStar a then mLrg1 (G.bx pos) (f a) else mNo
/-- sorted(set(a)) -/
def ssArg (x : Str) (es : List Expr) : Option Expr := if x = "sorted" then (match es with
  | [.Call (.Name y _) [a] [] _] => if y = "set" then some a else none
  | _ => none) else none
theorem ssArg_inv {x : Str} {es : List Expr} {a : Expr} (h : ssArg x es = some a) : x = "sorted" ∧ ∃ p q, es = [.Call (.Name "set" p) [a] [] q] := by
  unfold ssArg at h
  split at h
  · rename_i hx
    split at h
    · split at h
      · rename_i hy
        cases h
        subst hy
        exact ⟨hx, _, _, rfl⟩
      · cases h
    · cases h
  · cases h
def ssE (G : GS) (c : CS) (pos : Pos) (f : Expr → M) (a : Expr) : M :=
  if isGl c "set" && G.bl "set" && G.bl "sorted" && notStar a then mSset (G.bx pos) (f a) else mNo
def callE (G : GS) (cf : CFt) (c : CS) (pos : Pos) (f : Expr → M) (x : Str) (es : List Expr) (kws : List Keyword) : M :=
  if isGl c x && plainNm x && es.all notStar then (match cf x with
    | some (ps, b) => (match kwNames kws with
      | some ks => (match argIx ps ks es.length with
        | some ix => mCall b ix (asE f es) (kwE f kws)
        | none => mNo)
      | none => mNo)
    | none => (match kws with
      | [] => (match lrgArg x es with
        | some a => lrgE G c pos f a
        | none => (match ssArg x es with
          | some a => ssE G c pos f a
          | none => bltE G pos f x es))
      | _ => mNo))
  else mNo
def metE (pos apos : Pos) (f : Expr → M) (o : Expr) (x : Str) (es : List Expr) : M :=
  if plainRecv o && apos.endLine == pos.line && es.all notStar && es.length < 30 then mMet x (f o) (asE f es) else mNo
def notSet : Expr → Bool
  | .Set .. => false
  | _ => true
def isTupE : Expr → Bool
  | .Tuple .. => true
  | _ => false
def itE (G : GS) (c : CS) (f : Expr → M) (tg e : Expr) : MIt := match e with
  | .Call (.Name x p) [a] [] _ => if x = "range" ∧ isGl c x = true ∧ G.bl x = true ∧ notStar a = true then mRng1 (f a)
    else if x = "enumerate" ∧ isGl c x = true ∧ G.bl x = true ∧ notStar a = true ∧ isTupE tg = true then mEn (f a) else mIter (f e)
  | .Call (.Name x p) [a, b] [] _ => if x = "range" ∧ isGl c x = true ∧ G.bl x = true ∧ notStar a = true ∧ notStar b = true then mRng2 (f a) (f b)
    else if x = "zip" ∧ isGl c x = true ∧ G.bl x = true ∧ notStar a = true ∧ notStar b = true ∧ isTupE tg = true then mZip (f a) (f b) else mIter (f e)
  | e => mIter (f e)
/-- the block of a comprehension -/
def blkS (c : CS) (scope : Scope) : CS := ⟨c.N, relS scope c.sc, fun x => scope.names.lookup x == some .cell⟩
/-- its own names with their slots -/
def ownS (c : CS) (scope : Scope) : List (Str × Nat) := scope.names.filterMap fun y => match y.2 with
  | .local => (sIx c y.1).map fun i => (y.1, i)
  | .cell => (sIx c y.1).map fun i => (y.1, i)
  | _ => none
def ifE (f : Expr → M) : List Expr → M
  | [] => mYes
  | [a] => f a
  | _ => mNo
def lcE (G : GS) (r : Sm) (c : CS) (elt : Expr) (gs : List Comprehension) (scope : Scope) (pos : Pos) : M := match gs with
  | [⟨tg, iter, ifs, n⟩] =>
    if n = 0 ∧ notSet iter = true ∧ blkC c.N c.sc scope (ownS c scope) = true ∧ (r.G (blkS c scope) tg).1.all (fun j => ((ownS c scope).map (·.2)).contains j) = true ∧ ifs.length ≤ 1 then
      mLc G.L (G.bx pos) (itE G c (r.E c) tg iter) ((ownS c scope).map (·.2)) (r.G (blkS c scope) tg).2 (ifE (r.T (blkS c scope)) ifs) (r.E (blkS c scope) elt)
    else mNo
  | _ => mNo
def stepE (G : GS) (cf : CFt) (r : Sm) (c : CS) : Expr → M
  | .Constant v _ _ => kE v
  | .Name x _ => nmE G c x
  | .BinOp a op b pos => mBin (G.bx pos) op (r.E c a) (r.E c b)
  | .UnaryOp op a _ => (match op with
    | .USub => mNeg (r.E c a)
    | .Not => mNot (r.E c a)
    | _ => mNo)
  | .BoolOp op es _ => boE (r.E c) op es
  | .Compare a ops es _ => cmpE (r.E c) a ops es
  | .IfExp t a b _ => mIf (r.T c t) (r.E c a) (r.E c b)
  | .Tuple es _ _ => if es.all notStar then mTup (asE (r.E c) es) else mNo
  | .List es pos => if es.all notStar then mLst (G.bx pos) (asE (r.E c) es) else mNo
  | .Dict ks vs pos => dicE (G.bx pos) (r.E c) ks vs
  | .Subscript a b pos => ixE (G.bx pos) (r.E c) a b
  | .Call f es kws pos => (match f with
    | .Name x _ => callE G cf c pos (r.E c) x es kws
    | .Attribute o x apos => (match kws with
      | [] => metE pos apos (r.E c) o x es
      | _ => mNo)
    | _ => mNo)
  | .ListComp elt gs scope pos => lcE G r c elt gs scope pos
  | _ => mNo
def unT (t E : Expr → M) (op : UnaryOp) (a : Expr) (p : Pos) : M := match op with
  | .Not => mNot (t a)
  | op => E (.UnaryOp op a p)
def stepT (r : Sm) (E : Expr → M) (c : CS) : Expr → M
  | .UnaryOp op a p => unT (r.T c) E op a p
  | .BoolOp op es _ => boE (r.T c) op es
  | .Compare a ops es _ => cmpE (r.E c) a ops es
  | .IfExp t a b _ => mIf (r.T c t) (r.T c a) (r.T c b)
  | e => E e

/-! ### it is sound -/
structure Sound (G : GS) (cf : CFt) (r : Sm) : Prop where
  E : ∀ X c, Good G cf X c → ∀ e, EM X e (r.E c e)
  T : ∀ X c, Good G cf X c → ∀ e, TM X e (r.T c e)
  tg : ∀ X c, Good G cf X c → ∀ e, GM X e (r.G c e).1 (r.G c e).2
  S : ∀ X c, Good G cf X c → ∀ l, SsM X l (r.S c l)
section
variable {G : GS} {cf : CFt} {X : Cx} {c : CS} {r : Sm} {f : Expr → M} {pos p : Pos}
theorem em_no {e : Expr} : EM X e mNo := fun pins s σ H B ev S d S' I hS hE em => by cases em
theorem tm_no {e : Expr} : TM X e mNo := fun pins s σ H B ev S d S' k I hS hE em hk => by cases em
theorem plain_nm {x : Str} (h : plainNm x = true) : (x == ("__debug__" : Str)) = false ∧ (x == ("__classdict__" : Str)) = false := by
  unfold plainNm at h
  rw [Bool.and_eq_true, Bool.not_eq_true', Bool.not_eq_true'] at h
  exact h
theorem em_ty (g : Good G cf X c) {x : Str} {t : Tn} (h1 : isGl c x = true) (h2 : G.bl x = true) (e : tyF x = some t) : EM X (.Name x p) (mC (.ty t)) := by
  obtain ⟨hv, hn, hd⟩ := ty_ok e
  exact em_const (v := .ty t.nm) (pe_bltn (g.gl h1) (g.bl _ h2) hv rfl hn hd) fun B H => rfl
theorem nm_ok (g : Good G cf X c) (x : Str) : EM X (.Name x p) (nmE G c x) := by
  unfold nmE
  split
  · rename_i h0
    obtain ⟨hd, hcd⟩ := plain_nm h0
    split
    · rename_i hv
      split
      · rename_i i hi
        exact em_var (g.at_ hi) (g.vis hv) hd hcd
      · exact em_no
    · split
      · rename_i hg
        split
        · rename_i d hk
          obtain ⟨u, v, h1, h2, h3⟩ := g.gk x d hk
          exact em_const (pe_glob (g.gl hg) h1 h2 hd) h3
        · split
          · rename_i hb
            split
            · rename_i t ht
              exact em_ty g hg hb ht
            · exact em_no
          · exact em_no
      · exact em_no
  · exact em_no
theorem k_ok (v : Const) (j : Nat) : EM X (.Constant v j p) (kE v) := by
  cases v <;> simp only [kE] <;> first | exact em_no | skip
  · exact em_const pe_non fun B H => .non
  · exact em_const pe_bl fun B H => .bl _
  · exact em_const pe_int fun B H => .int _
  · exact em_const pe_str fun B H => .str _
theorem as_ok (h : ∀ e, EM X e (f e)) : ∀ {es : List Expr}, es.all notStar = true → AM X es (asE f es)
  | [], _ => am_nil
  | a :: es, hs => by
    rw [List.all_cons, Bool.and_eq_true] at hs
    exact am_cons (h a) (as_ok h hs.2) hs.1
theorem kw_ok (h : ∀ e, EM X e (f e)) : ∀ kws : List Keyword, KM X kws (kwE f kws)
  | [] => km_nil
  | ⟨nm, a, kp⟩ :: ks => km_cons (h a) (kw_ok h ks)
theorem as_len : ∀ {es : List Expr} (ev : EnvI) (S : Store) (ds : List D) (S' : Store), asE f es ev S = some (ds, S') → ds.length = es.length
  | [], ev, S, ds, S', h => by cases h; rfl
  | a :: es, ev, S, ds, S', h => by
    obtain ⟨x, e1, h⟩ := bind_some h
    obtain ⟨y, e2, h⟩ := map_some h
    cases h
    rw [List.length_cons, List.length_cons, as_len ev _ _ _ e2]
theorem kw_len : ∀ {kws : List Keyword} {ks : List Str}, kwNames kws = some ks → ∀ (ev : EnvI) (S : Store) (ds : List D) (S' : Store), kwE f kws ev S = some (ds, S') → ds.length = ks.length
  | [], ks, hk, ev, S, ds, S', h => by cases hk; cases h; rfl
  | ⟨some n, v, q⟩ :: rest, ks, hk, ev, S, ds, S', h => by
    obtain ⟨x, e1, h⟩ := bind_some h
    obtain ⟨y, e2, h⟩ := map_some h
    cases h
    obtain ⟨ks', e3, hk⟩ := map_some hk
    cases hk
    rw [List.length_cons, List.length_cons, kw_len e3 ev _ _ _ e2]
  | ⟨none, v, q⟩ :: rest, ks, hk, ev, S, ds, S', h => by cases hk
theorem and_ok (h : ∀ e, EM X e (f e)) : ∀ es : List Expr, EM X (.BoolOp .And es pos) (andE f es)
  | [] => em_no
  | [a] => em_one (h a)
  | a :: b :: es => em_and (h a) (and_ok h (b :: es))
theorem or_ok (h : ∀ e, EM X e (f e)) : ∀ es : List Expr, EM X (.BoolOp .Or es pos) (orE f es)
  | [] => em_no
  | [a] => em_one (h a)
  | a :: b :: es => em_or (h a) (or_ok h (b :: es))
theorem bo_ok (h : ∀ e, EM X e (f e)) (op : BoolOp) (es : List Expr) : EM X (.BoolOp op es pos) (boE f op es) := by
  cases op
  · exact and_ok h es
  · exact or_ok h es
theorem wm_no {e : Expr} : WM X e mNo := fun w pins s σ H B ev S d S' k I hS hE em hk => by cases em
theorem andT_ok (h : ∀ e, TM X e (f e)) : ∀ es : List Expr, WM X (.BoolOp .And es pos) (andE f es)
  | [] => wm_no
  | [a] => wm_and1 (h a)
  | a :: b :: es => wm_and (h a) (andT_ok h (b :: es))
theorem orT_ok (h : ∀ e, TM X e (f e)) : ∀ es : List Expr, WM X (.BoolOp .Or es pos) (orE f es)
  | [] => wm_no
  | [a] => wm_or1 (h a)
  | a :: b :: es => wm_or (h a) (orT_ok h (b :: es))
theorem boT_ok (h : ∀ e, TM X e (f e)) (op : BoolOp) (es : List Expr) : TM X (.BoolOp op es pos) (boE f op es) := by
  cases op
  · exact (andT_ok h es).tm
  · exact (orT_ok h es).tm
theorem cmp_okE (K : BK X) (h : ∀ e, EM X e (f e)) (a : Expr) (ops : List CmpOp) (es : List Expr) : EM X (.Compare a ops es pos) (cmpE f a ops es) := by
  unfold cmpE
  split
  · split
    · exact em_no
    · exact em_cmp K (h _) (h _) (Bool.eq_false_iff.mpr (by assumption))
  · split
    · exact em_no
    · exact em_chain K (h _) (h _) (h _) (Bool.eq_false_iff.mpr (by assumption))
  · exact em_no
theorem cmp_okT (K : BK X) (h : ∀ e, EM X e (f e)) (a : Expr) (ops : List CmpOp) (es : List Expr) : TM X (.Compare a ops es pos) (cmpE f a ops es) := by
  unfold cmpE
  split
  · split
    · exact tm_no
    · exact tm_cmp K (h _) (h _) (Bool.eq_false_iff.mpr (by assumption))
  · split
    · exact tm_no
    · exact tm_chain K (h _) (h _) (h _) (Bool.eq_false_iff.mpr (by assumption))
  · exact tm_no
theorem dc_ok (h : ∀ e, EM X e (f e)) : ∀ (ks : List (Option Expr)) (vs : List Expr), DM X pos ks vs (dcE f ks vs)
  | [], [] => dm_nil
  | some a :: ks, b :: vs => dm_cons (h a) (h b) (dc_ok h ks vs)
  | [], _ :: _ => fun pins s σ H B ev S es S' I hS hE em => by cases em
  | none :: _, _ => fun pins s σ H B ev S es S' I hS hE em => by
    unfold dcE at em
    cases em
  | some _ :: _, [] => fun pins s σ H B ev S es S' I hS hE em => by cases em
theorem dic_ok (bx : Bool) (h : ∀ e, EM X e (f e)) (ks : List (Option Expr)) (vs : List Expr) : EM X (.Dict ks vs pos) (dicE bx f ks vs) := by
  unfold dicE
  split
  · rename_i hc
    simp only [Bool.and_eq_true, decide_eq_true_eq, beq_iff_eq] at hc
    obtain ⟨⟨h1, h2⟩, h3⟩ := hc
    cases ks with
    | nil =>
      cases vs with
      | nil => exact em_dic0 bx
      | cons _ _ => cases h2
    | cons k ks => exact em_dic bx (dc_ok h _ _) h1 h2 (by simp) h3
  · exact em_no
theorem sl_okO (h : ∀ e, EM X e (f e)) (o : Option Expr) : OM X o (slO f o) := by
  cases o with
  | none => exact om_none
  | some a => exact om_some (h a)
theorem ix_okE (K : BK X) (bx : Bool) (h : ∀ e, EM X e (f e)) (a b : Expr) : EM X (.Subscript a b pos) (ixE bx f a b) := by
  unfold ixE
  split
  · exact em_sl bx (h a) (sl_okO h _) (sl_okO h _)
  · exact revR (pins := []) (σ := []) (H := fun _ => none) (s := X.s_0) bx (h a)
  · split
    · exact em_ix K (h a) (h _) (by assumption)
    · exact em_no
theorem blt_okE (g : Good G cf X c) (h : ∀ e, EM X e (f e)) {x : Str} (hx : isGl c x = true) (es : List Expr) : EM X (.Call (.Name x p) es [] pos) (bltE G pos f x es) := by
  unfold bltE
  split
  · rename_i hc
    rw [Bool.and_eq_true] at hc
    split
    · exact em_no
    · split
      · rename_i b hb
        obtain ⟨v, h1, h2, h3, h4, h5⟩ := blt_ok g.bk hb
        exact em_blt h5 h2 (g.gl hx) (g.bl _ hc.1) h1 h3 h4 (as_ok h hc.2) hc.2
      · exact em_no
  · exact em_no
theorem call_okE (g : Good G cf X c) (h : ∀ e, EM X e (f e)) (x : Str) (es : List Expr) (kws : List Keyword) : EM X (.Call (.Name x p) es kws pos) (callE G cf c pos f x es kws) := by
  unfold callE
  split
  · rename_i hc
    simp only [Bool.and_eq_true] at hc
    obtain ⟨⟨h1, h2⟩, h3⟩ := hc
    split
    · rename_i ps b hb
      split
      · rename_i ks hk
        split
        · rename_i ix hi
          obtain ⟨k, a, fd, q1, q2, q3, q4, q5⟩ := g.fns _ _ _ hb
          exact em_call q1 q2 g.bk.gd g.xe q5 (g.gl h1) q3 q4 (plain_nm h2).1 (as_ok h h3) h3 (kw_ok h kws) hk hi (fun e => by subst e; rfl) as_len (kw_len hk)
        · exact em_no
      · exact em_no
    · split
      · split
        · rename_i a ha
          obtain ⟨rfl, p2, q2, rfl⟩ := lrgArg_inv ha
          unfold lrgE
          split
          · rename_i hc2
            simp only [Bool.and_eq_true] at hc2
            exact em_lrg1 _ g.bk (g.gl h1) (g.bl _ hc2.1.2) (g.gl hc2.1.1.1) (g.bl _ hc2.1.1.2) (h _) hc2.2
          · exact em_no
        · split
          · rename_i a ha
            obtain ⟨rfl, p2, q2, rfl⟩ := ssArg_inv ha
            unfold ssE
            split
            · rename_i hc2
              simp only [Bool.and_eq_true] at hc2
              exact em_sset _ g.bk (g.gl h1) (g.bl _ hc2.1.2) (g.gl hc2.1.1.1) (g.bl _ hc2.1.1.2) (h _) hc2.2
            · exact em_no
          · exact blt_okE g h h1 es
      · exact em_no
  · exact em_no
theorem met_okE (K : BK X) {apos : Pos} (h : ∀ e, EM X e (f e)) (o : Expr) (x : Str) (es : List Expr) : EM X (.Call (.Attribute o x apos) es [] pos) (metE pos apos f o x es) := by
  unfold metE
  split
  · rename_i hc
    simp only [Bool.and_eq_true, decide_eq_true_eq] at hc
    obtain ⟨⟨⟨h1, h2⟩, h3⟩, h4⟩ := hc
    cases es with
    | nil => exact em_met0 K (h o) h1 h2
    | cons e es => exact em_met K (h o) (as_ok h h3) h3 (by simp only [List.length_cons] at h4; omega) h1 h2
  · exact em_no
theorem it_okE (g : Good G cf X c) (h : ∀ e, EM X e (f e)) (tg e : Expr) : IM X tg e (itE G c f tg e) := by
  unfold itE
  split
  · split
    · rename_i hc
      obtain ⟨rfl, h1, h2, h3⟩ := hc
      exact im_rng1 (h _) h3 (g.gl h1) (g.bl _ h2)
    · split
      · rename_i hc
        obtain ⟨rfl, h1, h2, h3, h4⟩ := hc
        cases tg <;> first | exact im_en (h _) h3 (g.gl h1) (g.bl _ h2) | (cases h4)
      · exact im_val (h _)
  · split
    · rename_i hc
      obtain ⟨rfl, h1, h2, h3, h4⟩ := hc
      exact im_rng2 (h _) (h _) h3 h4 (g.gl h1) (g.bl _ h2)
    · split
      · rename_i hc
        obtain ⟨rfl, h1, h2, h3, h4, h5⟩ := hc
        cases tg <;> first | exact im_zip (h _) (h _) h3 h4 (g.gl h1) (g.bl _ h2) | (cases h5)
      · exact im_val (h _)
  · exact im_val (h _)
theorem not_set {e : Expr} {env : Env} (h : notSet e = true) : ∀ x, foldedSetIterable e env x = pure x := by
  intro x
  cases e <;> first | rfl | cases h
theorem Good.blk (g : Good G cf X c) (s : Shared) (H : Hp) (C : Addr) (cl : List (Str × Addr)) (fp : List Addr) (scope : Scope) (hk : scope.kind = .function) : Good G cf (X.blk s H scope (compEnvC scope cl C X.env) fp) (blkS c scope) :=
  ⟨⟨g.bk.calm, g.bk.gd, g.bk.hu, g.bk.sys⟩, rfl, g.eN, g.nd, by show relS scope X.env.scope = _; rw [g.sc]; rfl, hk, rfl, g.gk, g.bl, g.fns⟩
theorem if_okC (h : ∀ e, TM X e (f e)) {ifs : List Expr} (hl : ifs.length ≤ 1) : CM X ifs (ifE f ifs) := by
  cases ifs with
  | nil => exact cm_nil
  | cons a r =>
    cases r with
    | nil => exact cm_one (h a)
    | cons _ _ => simp only [List.length_cons] at hl; omega
theorem all_mem {is js : List Nat} (h : is.all (fun j => js.contains j) = true) : ∀ j ∈ is, j ∈ js := fun j hj => by
  have := (List.all_eq_true.mp h) j hj
  simpa using this
theorem lc_okE (hr : Sound G cf r) (g : Good G cf X c) (elt : Expr) (gs : List Comprehension) (scope : Scope) : EM X (.ListComp elt gs scope pos) (lcE G r c elt gs scope pos) := by
  unfold lcE
  split
  · split
    · rename_i hc
      obtain ⟨rfl, h1, h2, h3, h4⟩ := hc
      have ok := blkOk_by h2
      have gb := fun s H C cl fp => g.blk s H C cl fp scope ok.kind
      exact em_lc _ g.bk (by rw [g.eN]; exact g.nd) (it_okE g (hr.E X c g) _ _) (by rw [g.eN, g.sc]; exact ok) (all_mem h3) (fun s H C cl fp => hr.tg _ _ (gb s H C cl fp) _) (fun s H C cl fp => if_okC (hr.T _ _ (gb s H C cl fp)) h4) (fun s H C cl fp => hr.E _ _ (gb s H C cl fp) _) (not_set h1)
    · exact em_no
  · exact em_no
theorem step_okE (hr : Sound G cf r) (g : Good G cf X c) (e : Expr) : EM X e (stepE G cf r c e) := by
  have h := hr.E X c g
  have t := hr.T X c g
  unfold stepE
  split
  · exact k_ok _ _
  · exact nm_ok g _
  · exact em_bin _ (h _) (h _)
  · split
    · exact em_neg (h _)
    · exact em_not (h _)
    · exact em_no
  · exact bo_ok h _ _
  · exact cmp_okE g.bk h _ _ _
  · exact em_if (t _) (h _) (h _)
  · split
    · exact em_tup (as_ok h (by assumption))
    · exact em_no
  · split
    · exact em_lst _ (as_ok h (by assumption))
    · exact em_no
  · exact dic_ok _ h _ _
  · exact ix_okE g.bk _ h _ _
  · split
    · exact call_okE g h _ _ _
    · split
      · exact met_okE g.bk h _ _ _
      · exact em_no
    · exact em_no
  · exact lc_okE hr g _ _ _
  · exact em_no
theorem un_okT (t : ∀ e, TM X e (f e)) {E : Expr → M} (hE : ∀ e, EM X e (E e)) (op : UnaryOp) (a : Expr) : TM X (.UnaryOp op a p) (unT f E op a p) := by
  cases op
  case Not => exact tm_not (t _)
  all_goals exact tm_val (hE _) fun w => rfl
theorem step_okT (hr : Sound G cf r) (g : Good G cf X c) {E : Expr → M} (hE : ∀ e, EM X e (E e)) (e : Expr) : TM X e (stepT r E c e) := by
  have h := hr.E X c g
  have t := hr.T X c g
  cases e
  case UnaryOp => exact un_okT t hE _ _
  case BoolOp => exact boT_ok t _ _
  case Compare => exact cmp_okT g.bk h _ _ _
  case IfExp => exact tm_if (t _) (t _) (t _)
  all_goals exact tm_val (hE _) fun w => rfl
end
end PI
set_option maxHeartbeats 1000000
/-! Own text: the reading of targets and statements; the whole reading, by fuel. -/
namespace PI
open PySem PySem.Spec L2
open PyProof.Rows hiding St

def gNo : MG := fun _ _ _ => none
def isE (g : Expr → List Nat × MG) : List Expr → List Nat
  | [] => []
  | e :: es => (g e).1 ++ isE g es
def gsE (g : Expr → List Nat × MG) : List Expr → List D → EnvI → Store → Option (EnvI × Store)
  | [] => gsNil
  | e :: es => gsCons (g e).2 (gsE g es)
def isL1 (c : CS) (x : Str) : Bool := match c.sc.names.lookup x with
  | some .local => true
  | _ => false
def nmG (c : CS) (x : Str) : List Nat × MG :=
  if isLoc c x && (c.fnc x || isL1 c x) then (match sIx c x with
    | some i => ([i], gNm i)
    | none => ([], gNo))
  else ([], gNo)
def stepG (r : Sm) (c : CS) : Expr → List Nat × MG
  | .Name x _ => nmG c x
  | .Tuple es _ _ => if es.all notStar then (isE (r.G c) es, gTp es.length (gsE (r.G c) es)) else ([], gNo)
  | .Subscript o i _ => if notSlice i then ([], gSb (r.E c o) (r.E c i)) else ([], gNo)
  | _ => ([], gNo)
def isCmp : Expr → Bool
  | .ListComp .. => true
  | .SetComp .. => true
  | .DictComp .. => true
  | _ => false
def isTup : Expr → Bool
  | .Tuple .. => true
  | .List .. => true
  | _ => false
/-- what the storing order of a display to a display is: unknown, plain, or by these names -/
def swpF (kd : Str → Option NameKind) (ts vs : List Expr) : Option (Option (List Str)) :=
  if !(ts.length == 2 || ts.length == 3) || vs.length != ts.length then some none
  else if (vs.any fun | .Starred .. => true | _ => false) = true then some none
  else
    if ((ts.filterMap fun
      | .Name id pos => if kd id == some .local && pos.line == (ts.head?.map (·.pos.line)).getD 0 then some id else none
      | _ => none).length != ts.length || (ts.filterMap fun
      | .Name id pos => if kd id == some .local && pos.line == (ts.head?.map (·.pos.line)).getD 0 then some id else none
      | _ => none).eraseDups.length != (ts.filterMap fun
      | .Name id pos => if kd id == some .local && pos.line == (ts.head?.map (·.pos.line)).getD 0 then some id else none
      | _ => none).length) = true then some none
    else if vs.all (foldedForSure 8) = true then some none
    else if vs.all (constantsAlone 8) = true then none
    else some (some (ts.filterMap fun
      | .Name id pos => if kd id == some .local && pos.line == (ts.head?.map (·.pos.line)).getD 0 then some id else none
      | _ => none))
theorem swpF_ok {ts vs : List Expr} {env : Env} {k k2 : Nat} {p p2 : Pos} {o : Option (List Str)} (h : swpF env.kindOf ts vs = some o) (hb : env.blockKind = .function) : swappedStores [.Tuple ts k p] (.Tuple vs k2 p2) env = pure o := by
  unfold swpF at h
  unfold swappedStores
  simp only [hb]
  split at h
  · rename_i hc
    cases h
    simp only [hc, Bool.true_or, if_true]
  · rename_i hc
    rw [Bool.not_eq_true] at hc
    simp only [hc, Bool.false_or, bne_self_eq_false, Bool.false_eq_true, if_false]
    split at h
    · rename_i h2
      cases h
      exact if_pos h2
    · rename_i h2
      refine (if_neg h2).trans ?_
      split at h
      · rename_i h3
        cases h
        exact if_pos h3
      · rename_i h3
        refine (if_neg h3).trans ?_
        split at h
        · rename_i h4
          cases h
          exact if_pos h4
        · rename_i h4
          refine (if_neg h4).trans ?_
          split at h
          · cases h
          · rename_i h5
            cases h
            exact if_neg h5

def parS (c : CS) (f : Expr → M) (ts vs : List Expr) (nm : List Str) : MS := match ts, vs with
  | [.Name x _, .Name y _], [a, b] => (match sIx c x, sIx c y with
    | some i, some j => if nm = [x, y] ∧ isL1 c x = true ∧ isL1 c y = true ∧ i ≠ j ∧ [a, b].all notStar = true then sPar (asE f [a, b]) (gP2 i j) else sNo
    | _, _ => sNo)
  | [.Name x _, .Name y _, .Name z _], [a, b, d] => (match sIx c x, sIx c y, sIx c z with
    | some i, some j, some l => if nm = [x, y, z] ∧ isL1 c x = true ∧ isL1 c y = true ∧ isL1 c z = true ∧ i ≠ j ∧ i ≠ l ∧ j ≠ l ∧ [a, b, d].all notStar = true then sPar (asE f [a, b, d]) (gP3 i j l) else sNo
    | _, _, _ => sNo)
  | _, _ => sNo
def kdS (c : CS) (x : Str) : Option NameKind := c.sc.names.lookup x
def asgS (G : GS) (r : Sm) (c : CS) (tg e : Expr) : MS := match tg with
  | .Tuple ts _ _ => (match e with
    | .Tuple vs _ _ => (match swpF (kdS c) ts vs with
      | some none => sAsg (r.E c e) (r.G c tg).2
      | some (some nm) => parS c (r.E c) ts vs nm
      | none => sNo)
    | e => sAsg (r.E c e) (r.G c tg).2)
  | .Subscript o i p => sAsg (r.E c e) (r.G c tg).2
  | .Name y p => (match e with
    | .ListComp elt gs scope pos => sAsg (lcE G r c elt gs scope pos) (nmG c y).2
    | e => if isCmp e then sNo else sAsg (r.E c e) (nmG c y).2)
  | _ => sNo
def exS (r : Sm) (c : CS) : Expr → MS
  | .Constant (.str _) _ _ => sNil
  | e => if isCmp e then sNo else sEx (r.E c e)
def stepS1 (G : GS) (r : Sm) (c : CS) : Stmt → MS
  | .Pass _ => sNil
  | .Break _ => sBrk
  | .Continue _ => sCnt
  | .Return o _ => (match o with
    | some e => sRet (r.E c e)
    | none => sRetN)
  | .Expr e _ => exS r c e
  | .If t a b _ => sIf (r.T c t) (r.S c a) (r.S c b)
  | .Assign tgs e _ => (match tgs with
    | [tg] => asgS G r c tg e
    | _ => sNo)
  | .For tg iter body orelse _ => if notSet iter && orelse.isEmpty then sFor G.L (itE G c (r.E c) tg iter) (r.G c tg).2 (r.S c body) else sNo
  | .While t body orelse _ => if orelse.isEmpty then whLoop (r.T c t) (r.S c body) G.L else sNo
  | _ => sNo
def stepS (f : Stmt → MS) : List Stmt → MS
  | [] => sNil
  | st :: rest => sSeq (f st) (stepS f rest)
def semF (G : GS) (cf : CFt) : Nat → Sm
  | 0 => ⟨fun _ _ => mNo, fun _ _ => mNo, fun _ _ => ([], gNo), fun _ _ => sNo⟩
  | n + 1 => ⟨stepE G cf (semF G cf n), fun c => stepT (semF G cf n) (stepE G cf (semF G cf n) c) c, stepG (semF G cf n), fun c => stepS (stepS1 G (semF G cf n) c)⟩

section
variable {G : GS} {cf : CFt} {X : Cx} {c : CS} {r : Sm} {f : Expr → M} {pos p p2 : Pos}
theorem gm_no {e : Expr} : GM X e [] gNo := fun pins s σ H B ev S d v u ev' S' I hS hE rd rv em => by cases em
theorem l1_ok (g : Good G cf X c) {x : Str} (h : isL1 c x = true) : X.env.scope.names.lookup x = some .local := by
  unfold isL1 at h
  rw [g.sc]
  split at h
  · assumption
  · cases h
theorem nm_okG (g : Good G cf X c) (x : Str) : GM X (.Name x p) (nmG c x).1 (nmG c x).2 := by
  unfold nmG
  split
  · rename_i hc
    rw [Bool.and_eq_true, Bool.or_eq_true] at hc
    split
    · rename_i i hi
      exact gm_name (by rw [g.eN]; exact g.nd) (g.at_ hi) (g.lc hc.1) (hc.2.elim (fun z => .inl (by rw [g.fn]; exact z)) fun z => .inr (l1_ok g z))
    · exact gm_no
  · exact gm_no
theorem gs_ok {g : Expr → List Nat × MG} (h : ∀ e, GM X e (g e).1 (g e).2) : ∀ {es : List Expr}, es.all notStar = true → GsM X es (isE g es) (gsE g es)
  | [], _ => gs_nil
  | e :: es, hs => by
    rw [List.all_cons, Bool.and_eq_true] at hs
    exact gs_cons (h e) (gs_ok h hs.2) hs.1
theorem step_okG (hr : Sound G cf r) (g : Good G cf X c) (e : Expr) : GM X e (stepG r c e).1 (stepG r c e).2 := by
  unfold stepG
  split
  · exact nm_okG g _
  · split
    · exact gm_tup g.bk (gs_ok (hr.tg X c g) (by assumption)) (by assumption)
    · exact gm_no
  · split
    · rename_i o i p hs
      exact gm_sub g.bk (hr.E X c g _) (hr.E X c g _) (by intro v; cases i <;> first | rfl | cases hs)
    · exact gm_no
  · exact gm_no
theorem sw_of {e tg : Expr} {l : Nat} {env : Env} (h : isCmp e = false) (o : Option Expr) : swapsWith e o l env = pure false := by
  cases e <;> first | rfl | cases h
theorem sw_tg {e tg : Expr} {l : Nat} {env : Env} (h : ∀ x p, tg ≠ .Name x p) : swapsWith e (some tg) l env = pure false := by
  unfold swapsWith
  cases e <;> first | rfl | (cases tg <;> first | rfl | exact absurd rfl (h _ _))
theorem st_of {e tg : Expr} {env : Env} (h : isTup tg = false) : swappedStores [tg] e env = pure none := by
  unfold swappedStores
  cases tg <;> first | rfl | cases h
theorem st_of2 {e : Expr} {ts : List Expr} {k : Nat} {env : Env} (h : isTup e = false) : swappedStores [.Tuple ts k p] e env = pure none := by
  unfold swappedStores
  cases e <;> first | rfl | cases h
theorem sole_of {e tg : Expr} {l : Nat} {env : Env} (h : isCmp e = false) : swapsWithSole [tg] e l env = pure false := sw_of (tg := tg) h _
theorem sole_tg {e tg : Expr} {l : Nat} {env : Env} (h : ∀ x p, tg ≠ .Name x p) : swapsWithSole [tg] e l env = pure false := sw_tg h
theorem swp_good (g : Good G cf X c) {ts vs : List Expr} {o : Option (Option (List Str))} (h : swpF (kdS c) ts vs = o) : swpF X.env.kindOf ts vs = o := by
  have e : X.env.kindOf = kdS c := by
    funext x
    show X.env.scope.names.lookup x = c.sc.names.lookup x
    rw [g.sc]
  rw [e]; exact h
theorem bk_fn (g : Good G cf X c) : X.env.blockKind = .function := by
  unfold Env.blockKind
  rw [g.sc, g.kd]; rfl
theorem par_ok (g : Good G cf X c) (h : ∀ e, EM X e (f e)) {ts vs : List Expr} {nm : List Str} {k k2 : Nat} {pt pt2 : Pos} (hw : swappedStores [.Tuple ts k pt] (.Tuple vs k2 pt2) X.env = pure (some nm)) :
    SM X (.Assign [.Tuple ts k pt] (.Tuple vs k2 pt2) pos) (parS c f ts vs nm) := by
  unfold parS
  split
  · split
    · split
      · rename_i i j hi hj hc
        obtain ⟨rfl, h1, h2, h3, h4⟩ := hc
        exact sm_par g.bk (by rw [g.eN]; exact g.nd) (g.at_ hi) (g.at_ hj) h3 (l1_ok g h1) (l1_ok g h2) (as_ok h h4) hw
      · exact sm_no
    · exact sm_no
  · split
    · split
      · rename_i i j l hi hj hl hc
        obtain ⟨rfl, h1, h2, h3, h4, h5, h6, h7⟩ := hc
        exact sm_par3 g.bk (by rw [g.eN]; exact g.nd) (g.at_ hi) (g.at_ hj) (g.at_ hl) h4 h5 h6 (l1_ok g h1) (l1_ok g h2) (l1_ok g h3) (as_ok h h7) hw
      · exact sm_no
    · exact sm_no
  · exact sm_no
theorem sm_none {st : Stmt} {m : MS} (h : ∀ ev S x, m ev S ≠ some x) : SM X st m := ⟨fun pins s σ H D I ⟨B, ev, S, f, ev', S', hS, hE, em, q⟩ => absurd em (h ev S _)⟩
theorem lc_okA (hr : Sound G cf r) (g : Good G cf X c) (y : Str) (elt : Expr) (gs : List Comprehension) (scope : Scope) : SM X (.Assign [.Name y p] (.ListComp elt gs scope p2) pos) (sAsg (lcE G r c elt gs scope p2) (nmG c y).2) := by
  have gen : swapsWith (.ListComp elt gs scope p2) (some (.Name y p)) pos.line X.env = pure false → SM X (.Assign [.Name y p] (.ListComp elt gs scope p2) pos) (sAsg (lcE G r c elt gs scope p2) (nmG c y).2) := fun hs =>
    sm_asg (lc_okE hr g elt gs scope) (nm_okG g y) hs (st_of rfl) rfl
  have he : ∃ b : Bool, swapsWith (.ListComp elt gs scope p2) (some (.Name y p)) pos.line X.env = pure b ∧ (b = true → X.env.scope.names.lookup y = some .local) := by
    refine ⟨(X.env.blockKind == .function && X.env.kindOf y == some .local && p.line == p2.line && !(scope.names.any fun (n, k) => n == y && (k == .local || k == .cell))), rfl, fun h => ?_⟩
    simp only [Bool.and_eq_true] at h
    exact eq_of_beq h.1.1.2
  obtain ⟨b, hb, hl⟩ := he
  cases b with
  | false => exact gen hb
  | true =>
    have hl := hl rfl
    unfold nmG
    split
    · split
      · rename_i i hi
        unfold lcE
        split
        · split
          · rename_i hc
            obtain ⟨rfl, h1, h2, h3, h4⟩ := hc
            have ok := blkOk_by h2
            have gb := fun s H C cl fp => g.blk s H C cl fp _ ok.kind
            exact sm_lc _ g.bk (by rw [g.eN]; exact g.nd) (g.at_ hi) hl hb (it_okE g (hr.E X c g) _ _) (by rw [g.eN, g.sc]; exact ok) (all_mem h3) (fun s H C cl fp => hr.tg _ _ (gb s H C cl fp) _) (fun s H C cl fp => if_okC (hr.T _ _ (gb s H C cl fp)) h4) (fun s H C cl fp => hr.E _ _ (gb s H C cl fp) _) (not_set h1)
          · exact sm_none fun ev S x h => by cases h
        · exact sm_none fun ev S x h => by cases h
      · refine sm_none fun ev S x h => ?_
        obtain ⟨x, e1, h⟩ := bind_some h
        cases h
    · refine sm_none fun ev S x h => ?_
      obtain ⟨x, e1, h⟩ := bind_some h
      cases h
theorem asg_ok (hr : Sound G cf r) (g : Good G cf X c) (tg e : Expr) : SM X (.Assign [tg] e pos) (asgS G r c tg e) := by
  have h := hr.E X c g
  unfold asgS
  split
  · split
    · split
      · rename_i hw
        exact sm_asg (h _) (hr.tg X c g _) (sole_of rfl) (swpF_ok (swp_good g hw) (bk_fn g)) rfl
      · rename_i nm hw
        exact par_ok g h (swpF_ok (swp_good g hw) (bk_fn g))
      · exact sm_no
    · rename_i hn
      cases e
      case Tuple => exact (hn _ _ _ rfl).elim
      all_goals exact sm_asg (h _) (hr.tg X c g _) (sole_tg (fun x p z => Expr.noConfusion z)) (by first | exact st_of2 rfl | (unfold swappedStores; rfl)) rfl
  · exact sm_asg (h _) (hr.tg X c g _) (sole_tg (fun x p z => Expr.noConfusion z)) (st_of rfl) rfl
  · split
    · exact lc_okA hr g _ _ _ _
    · split
      · exact sm_no
      · rename_i hc
        exact sm_asg (h _) (nm_okG g _) (sole_of (Bool.eq_false_iff.mpr hc)) (st_of rfl) rfl
  · exact sm_no
theorem ex_okS (hr : Sound G cf r) (g : Good G cf X c) (e : Expr) : SM X (.Expr e pos) (exS r c e) := by
  unfold exS
  split
  · exact sm_doc
  · split
    · exact sm_no
    · rename_i hc
      exact sm_expr (hr.E X c g _) (sw_of (tg := e) (Bool.eq_false_iff.mpr hc) _)
theorem step_okS1 (hr : Sound G cf r) (g : Good G cf X c) (st : Stmt) : SM X st (stepS1 G r c st) := by
  have h := hr.E X c g
  have t := hr.T X c g
  have u := hr.S X c g
  unfold stepS1
  split
  · exact sm_pass
  · exact sm_break
  · exact sm_continue
  · split
    · exact sm_ret (h _)
    · exact sm_retN
  · exact ex_okS hr g _
  · exact sm_if (t _) (u _) (u _)
  · split
    · exact asg_ok hr g _ _
    · exact sm_no
  · split
    · rename_i orelse _ hc
      rw [Bool.and_eq_true] at hc
      cases orelse with
      | nil => exact sm_for _ g.bk g.xe (it_okE g h _ _) (hr.tg X c g _) (u _) (not_set hc.1)
      | cons _ _ => cases hc.2
    · exact sm_no
  · split
    · rename_i orelse _ hc
      cases orelse with
      | nil => exact sm_while _ g.xe (t _) (u _)
      | cons _ _ => cases hc
    · exact sm_no
  · exact sm_no
theorem step_okS {f : Stmt → MS} (h : ∀ st, SM X st (f st)) : ∀ l : List Stmt, SsM X l (stepS f l)
  | [] => ssm_nil
  | st :: rest => ssm_cons (h st) (step_okS h rest)
theorem ssm_none {sts : List Stmt} : SsM X sts sNo := ⟨fun pins s σ H D I ⟨B, ev, S, f, ev', S', hS, hE, em, q⟩ => by cases em⟩
theorem sem_sound (G : GS) (cf : CFt) : ∀ n, Sound G cf (semF G cf n)
  | 0 => ⟨fun _ _ _ _ => em_no, fun _ _ _ _ => tm_no, fun _ _ _ _ => gm_no, fun _ _ _ _ => ssm_none⟩
  | n + 1 =>
    have ih := sem_sound G cf n
    ⟨fun X c g e => step_okE ih g e, fun X c g e => step_okT ih g (fun e => step_okE ih g e) e, fun X c g e => step_okG ih g e, fun X c g l => step_okS (fun st => step_okS1 ih g st) l⟩
end
end PI
set_option maxHeartbeats 1000000
/-! Own text: how parameters bind; a def by its body's reading; the defs by levels; the law's end. -/
namespace PI
open PySem PySem.Spec L2
open PyProof.Rows hiding St
/-- plain parameters alone -/
def plainPar (a : Arguments) (ps : List Str) : Prop := a.posonlyargs = [] ∧ a.args.map (·.arg) = ps ∧ a.vararg = none ∧ a.kwonlyargs = [] ∧ a.kwarg = none
theorem kw_loop {ps : List Str} {f : Str × Value → List (Str × Value) × List (Str × Value) → Sem (ForInStep (List (Str × Value) × List (Str × Value)))}
    (hf : ∀ x st, ps.contains x.1 = true → (st.1.lookup x.1).isSome = false → f x st = pure (.yield (st.1 ++ [x], st.2))) : ∀ (kw : List (Str × Value)) (st : List (Str × Value) × List (Str × Value)),
      (∀ x ∈ kw, ps.contains x.1 = true) → (kw.map (·.1)).Nodup → (∀ x ∈ kw, st.1.lookup x.1 = none) → forIn kw st f = pure (st.1 ++ kw, st.2)
  | [], st, _, _, _ => by rw [List.forIn_nil, List.append_nil]
  | x :: kw, st, h1, h2, h3 => by
    rw [List.map_cons, List.nodup_cons] at h2
    rw [List.forIn_cons, hf x st (h1 x List.mem_cons_self) (by rw [h3 x List.mem_cons_self]; rfl), pure_bind]
    show forIn kw (st.1 ++ [x], st.2) f = _
    rw [kw_loop hf kw _ (fun y hy => h1 y (List.mem_cons_of_mem _ hy)) h2.2 (fun y hy => ?_)]
    · rw [List.append_assoc]; rfl
    · rw [List.lookup_append, h3 y (List.mem_cons_of_mem _ hy)]
      have : (y.1 == x.1) = false := beq_eq_false_iff_ne.mpr fun e => h2.1 (by rw [← e]; exact List.mem_map_of_mem hy)
      simp [List.lookup, this]
theorem zip_look {ps : List Str} : ∀ {us : List Value} {i : Nat} {p : Str}, ps.Nodup → us.length ≤ ps.length → ps[i]? = some p → (ps.zip us).lookup p = us[i]? := by
  induction ps with
  | nil => intro us i p _ _ h; simp at h
  | cons q ps ih =>
    intro us i p hn hl h
    cases us with
    | nil => simp
    | cons u us =>
      rw [List.nodup_cons] at hn
      cases i with
      | zero =>
        simp only [List.getElem?_cons_zero, Option.some.injEq] at h
        subst h
        simp [List.lookup]
      | succ i =>
        rw [List.getElem?_cons_succ] at h
        have : (p == q) = false := beq_eq_false_iff_ne.mpr fun e => hn.1 (by rw [← e]; exact List.mem_of_getElem? h)
        simp only [List.zip_cons_cons, List.lookup, this, List.getElem?_cons_succ]
        exact ih hn.2 (by simpa using hl) h
theorem zip_ix {p : Str} : ∀ {ks : List Str} {ws : List Value}, ws.length = ks.length → p ∈ ks → (ks.zip ws).lookup p = ws[ks.idxOf p]?
  | [], ws, _, h => by cases h
  | k :: ks, [], hl, h => by cases hl
  | k :: ks, w :: ws, hl, h => by
    by_cases e : p = k
    · subst e; simp [List.lookup]
    · have e' : (p == k) = false := beq_eq_false_iff_ne.mpr e
      have e2 : (k == p) = false := beq_eq_false_iff_ne.mpr fun z => e z.symm
      simp only [List.zip_cons_cons, List.lookup, e']
      rw [List.idxOf_cons, e2]
      exact zip_ix (by simpa using hl) ((List.mem_cons.mp h).resolve_left e)
theorem permD_at {α : Type} : ∀ {ix : List Nat} {l full : List α}, permD l ix = some full → ∀ (j i : Nat), ix[j]? = some i → full[j]? = l[i]? ∧ ∃ v, l[i]? = some v
  | [], l, full, h, j, i, e => by simp at e
  | i0 :: ix, l, full, h, j, i, e => by
    unfold permD at h
    split at h
    · rename_i a r h1 h2
      cases h
      cases j with
      | zero =>
        simp only [List.getElem?_cons_zero, Option.some.injEq] at e
        subst e
        rw [h1]; exact ⟨rfl, a, rfl⟩
      | succ j =>
        rw [List.getElem?_cons_succ] at e ⊢
        exact permD_at h2 j i e
    · cases h
theorem fm_zip {m : List (Str × Value)} : ∀ {ps : List Str} {full : List Value}, full.length = ps.length → (∀ (j : Nat) (p : Str), ps[j]? = some p → m.lookup p = full[j]?) → (ps.filterMap fun n => (m.lookup n).map fun v => (n, v)) = ps.zip full
  | [], full, _, _ => rfl
  | p :: ps, [], hl, _ => by cases hl
  | p :: ps, v :: full, hl, h => by
    have h0 : m.lookup p = some v := h 0 p rfl
    rw [List.filterMap_cons_some (b := (p, v)) (by rw [h0]; rfl), fm_zip (by simpa using hl) fun j q e => h (j + 1) q e]
    rfl
theorem bnd_of {fd : FuncData} {ps : List Str} (h : plainPar fd.params ps) (hd : fd.defaults = .none) (hn : ps.Nodup) : Bnd fd ps := by
  intro s us ws full ks ix hix hw hp
  obtain ⟨h1, h2, h3, h4, h5⟩ := h
  have len := argIx_len hix
  have hfl : full.length = ps.length := by rw [permD_len hp, len.1]
  unfold argIx at hix
  split at hix
  · rename_i hc
    obtain ⟨c1, c2, c3, c4⟩ := hc
    cases hix
    have hsub : ∀ k ∈ ks, k ∈ ps.drop us.length := fun k hk => by simpa using (List.all_eq_true.mp c3) k hk
    have hks : ∀ p ∈ ps.drop us.length, p ∈ ks := fun p hp' => by simpa using (List.all_eq_true.mp c4) p hp'
    have hslot : ∀ j p, ps[j]? = some p → ((ps.zip us) ++ ks.zip ws).lookup p = full[j]? := fun j p e => by
      rw [List.lookup_append, zip_look hn (by omega) e]
      have hj : j < ps.length := (List.getElem?_eq_some_iff.mp e).1
      by_cases hlt : j < us.length
      · obtain ⟨e1, e2⟩ := permD_at hp j j (by rw [List.getElem?_append_left (by simpa using hlt)]; simp [hlt])
        rw [e1, List.getElem?_append_left hlt, List.getElem?_eq_getElem hlt]; rfl
      · have hd' : (ps.drop us.length)[j - us.length]? = some p := by rw [List.getElem?_drop]; rw [show us.length + (j - us.length) = j by omega]; exact e
        obtain ⟨e1, e2⟩ := permD_at hp j (us.length + ks.idxOf p) (by rw [List.getElem?_append_right (by simpa using Nat.le_of_not_lt hlt), List.length_range, List.getElem?_map, hd']; rfl)
        rw [e1, List.getElem?_eq_none (Nat.le_of_not_lt hlt), List.getElem?_append_right (by omega), Nat.add_sub_cancel_left, zip_ix hw (hks p (List.mem_of_getElem? hd'))]
        rfl
    refine .of_eq ?_
    have hkw : (ks.zip ws).map (·.1) = ks := by rw [List.map_fst_zip (by omega)]
    have hmem : ∀ x ∈ ks.zip ws, x.1 ∈ ks := fun x hx => by rw [← hkw]; exact List.mem_map_of_mem hx
    unfold bindArgs
    simp only [h1, h2, h3, h4, h5, hd, List.map_nil, List.nil_append]
    rw [kw_loop (ps := ps) (fun x st q1 q2 => by rw [if_pos (by rw [q1]; rfl), if_neg (by rw [q2]; decide)]) (ks.zip ws) _ (fun x hx => by simpa using List.mem_of_mem_drop (hsub _ (hmem x hx))) (by rw [hkw]; exact c2) (fun x hx => ?_)]
    · rw [pure_bind, show seqItems? Value.none = pure none from rfl, pure_bind]
      have g1 : ¬ us.length > ps.length := by omega
      have f2 : ∀ p ∈ ps, ((ps.zip us ++ ks.zip ws).lookup p).isNone = false := fun p hp' => by
        obtain ⟨j, hj, e⟩ := List.getElem_of_mem hp'
        rw [hslot j p (by rw [List.getElem?_eq_getElem hj, e]), List.getElem?_eq_getElem (by omega)]; rfl
      have f3 : (ps.take ps.length).filter (fun n => ((ps.zip us ++ ks.zip ws).lookup n).isNone) = [] := by
        rw [List.filter_eq_nil_iff]
        intro p hp'
        rw [f2 p (List.mem_of_mem_take hp')]; decide
      simp only [Option.getD_none, List.length_nil, Nat.zero_sub, List.drop_zero, Nat.sub_zero, decide_eq_false g1, Bool.false_and, Bool.false_eq_true, if_false, f3, List.isEmpty_nil, Bool.not_true, List.zip_nil_right, List.forIn_nil, pure_bind, List.append_nil]
      rw [fm_zip hfl hslot]
    · obtain ⟨j, hj, e⟩ := List.getElem_of_mem (hsub _ (hmem x hx))
      rw [List.getElem_drop] at e
      rw [List.length_drop] at hj
      rw [zip_look (i := us.length + j) hn (by omega) (by rw [List.getElem?_eq_getElem (by omega), e]), List.getElem?_eq_none (by omega)]
  · cases hix

/-! ### a def by the reading of its body -/
def startD (N : List Str) (ds : List D) : EnvI := ds.map some ++ List.replicate (N.length - ds.length) none
def bodyF (N ps : List Str) (m : MS) : BF := fun S ds => if ds.length = ps.length then (m (startD N ds) S).bind fun r => match r.1 with
    | .nx => some (.p .none, r.2.2)
    | .rt d => some (d, r.2.2)
    | _ => none
  else none
theorem RDs.get {K : PySem.W.Frag} {mg : Mg} {B : BT} {H : Hp} {ds : List D} {vs : List V} (r : RDs K mg B H ds vs) {i : Nat} {d : D} (h : ds[i]? = some d) : ∃ v, vs[i]? = some v ∧ RD K mg B H d v := r.at h
theorem er_start {K : PySem.W.Frag} {mg : Mg} {B : BT} {H : Hp} {N : List Str} {ds : List D} {vs : List V} (r : RDs K mg B H ds vs) : ER K mg B H (startD N ds) (L2.start N vs) := by
  have hl := r.length
  refine ⟨by unfold startD L2.start; simp [hl], fun i d h => ?_⟩
  unfold startD at h
  by_cases hi : i < ds.length
  · rw [List.getElem?_append_left (by simpa using hi), List.getElem?_map] at h
    cases e : ds[i]? with
    | none => rw [e] at h; cases h
    | some d' =>
      rw [e] at h
      cases h
      obtain ⟨v, hv, rv⟩ := r.at e
      refine ⟨v, ?_, rv⟩
      unfold L2.start
      rw [List.getElem?_append_left (by rw [List.length_map]; omega), List.getElem?_map, hv]; rfl
  · rw [List.getElem?_append_right (by simpa using Nat.le_of_not_lt hi), List.getElem?_replicate] at h
    split at h <;> cases h
/-- what the whole module tells -/
structure Txt (G : GS) (K : PySem.W.Frag) (mg : Mg) : Prop where
  gk : ∀ x d, G.gk x = some d → ∃ u v, mg x = some u ∧ RelV v u ∧ ∀ B H, RD K mg B H d v
  bl : ∀ x, G.bl x = true → mg x = none
/-- a def of the text -/
structure FT where
  ps : List Str
  N : List Str
  sc : Scope
  body : List Stmt
structure DefAt (K : PySem.W.Frag) (mg : Mg) (x : Str) (t : FT) : Prop where
  ex : ∃ (f : Addr) (oc : Value) (od : Option Addr) (kV doc pm : Value) (an : Option Addr) (cdv ct : Value) (osl : Array (Option Value)) (params : Arguments) (name qual : Str),
    K.lookup f = some ⟨oc, od, .func (PySem.W.fnOf name qual params t.body t.sc .none kV doc pm an cdv ct), osl⟩ ∧ PySem.W.codeIn K cdv qual = true ∧ PySem.W.keepIn K (.ref f) = true ∧ mg x = some (.ref f) ∧ plainPar params t.ps
  sc : FnScope t.N t.ps t.sc
/-- the meaning of a def by levels of calls -/
def fL (G : GS) (T : Str → Option FT) (dep : Nat) : Nat → FT → BF
  | 0, _ => fun _ _ => none
  | k + 1, t => bodyF t.N t.ps ((semF G (fun x => (T x).map fun u => (u.ps, fL G T dep k u)) dep).S ⟨t.N, t.sc, fun _ => true⟩ t.body)
def cfL (G : GS) (T : Str → Option FT) (dep k : Nat) : CFt := fun x => (T x).map fun u => (u.ps, fL G T dep k u)
section
variable {G : GS} {P : Program} {w : World} {K : PySem.W.Frag} {mg : Mg} {base : Heap} {T : Str → Option FT} {dep : Nat}
theorem fn_ok (tx : Txt G K mg) (sys : ∃ o, base.get? sysModules = some o) {k : Nat} {cf : CFt} {x : Str} {t : FT} (dt : DefAt K mg x t)
    (hc : ∀ y ps f, cf y = some (ps, f) → ∃ a fd, FnI P w K mg base k a fd ps (fun ds S => f S ds) ∧ mg y = some (.ref a) ∧ PySem.W.keepIn K (.ref a) = true ∧ Bnd fd ps) :
    ∃ a fd, FnI P w K mg base (k + 1) a fd t.ps (fun ds S => bodyF t.N t.ps ((semF G cf dep).S ⟨t.N, t.sc, fun _ => true⟩ t.body) S ds) ∧ mg x = some (.ref a) ∧ PySem.W.keepIn K (.ref a) = true ∧ Bnd fd t.ps := by
  obtain ⟨⟨f, oc, od, kV, doc, pm, an, cdv, ct, osl, params, name, qual, lk, hcd, kp, hm, pp⟩, S⟩ := dt
  have ndP : t.ps.Nodup := by
    have := S.nd.sublist (List.take_sublist t.ps.length t.N)
    rwa [S.pre] at this
  refine ⟨f, _, ⟨fun A outer s H args us vs B St0 ds d S' Q hr hgd e0 hb hl rv hS hd hcf q => ?_⟩, hm, kp, bnd_of (fd := PySem.W.fnOf name qual params t.body t.sc .none kV doc pm an cdv ct) pp rfl ndP⟩
  have kin : K.In s.heap := e0.mod.kin.keeps fun b o e => (e0.bs b o e).1
  have nlm : s.heap.NoLimit := e0.mod.nolimit.keeps fun b o e => (e0.bs b o e).1
  have hlv : vs.length = t.ps.length := by rw [rv.length]; exact hl
  refine Att.call_fn kin nlm lk hcd hr.depth hb (List.all_eq_true.mpr fun y hy => ?_) (fun s1 x1 => ?_) S.co S.gen S.kind
  · rcases S.par y.1 (List.of_mem_zip hy).1 with z | z <;> rw [z] <;> rfl
  · have I1 := inv_start (CX := L2.CX0) (E := L2.E0) (qual := qual) (f := f) (cd := cdv) S hr.hd e0 hlv rv x1
    have I2 := I1.wish fun _ _ => False
    have hr2 := hr.deeper (envOfC qual t.sc s.heap.objs.size f cdv)
    have g : Good G cf (cxOf L2.CX0 P w K mg base t.N qual t.sc f cdv A outer s H L2.E0).nox ⟨t.N, t.sc, fun _ => true⟩ :=
      ⟨⟨rfl, hgd, by have := hr2.un; show (A.deeper _).units + 65 < _; omega, sys⟩, rfl, rfl, S.nd, rfl, S.kind, rfl, tx.gk, tx.bl, fun y ps f' e => by
        obtain ⟨a, fd, q1, q2, q3, q4⟩ := hc y ps f' e
        exact ⟨k, a, fd, q1, hr2, q2, q3, q4⟩⟩
    have body := (sem_sound G cf dep).S _ _ g t.body
    unfold bodyF at hcf
    split at hcf
    · obtain ⟨⟨fl, ev', S2⟩, e1, hcf⟩ := bind_some hcf
      have run := body.run [] s1 (L2.start t.N vs) H { nx := fun _ H' => Q .non H', rt := Q } I2 ⟨B, startD t.N ds, St0, fl, ev', S2, hS, er_start hd, e1, fun B1 H1 x2 s2 => by
        cases fl with
        | nx => cases hcf; exact fun σ' _ => q B1 H1 .non x2 s2 Dq.non
        | rt d' => cases hcf; exact fun v r => q B1 H1 v x2 s2 r
        | bk => cases hcf
        | ct => cases hcf⟩
      refine wpAny_mono run (fun fl s' h => ?_) (fun e s' h => h.elim)
      have fin : ∀ {σ' : St} {H' : Hp} {v : V} {u : Value}, Inv (cxOf L2.CX0 P w K mg base t.N qual t.sc f cdv A outer s H L2.E0).nox [] σ' H' s' → RelV v u → Q v H' → CE outer P w H s Q u s' :=
        fun {σ' H' v u} J rv' z => ⟨v, H', J.os, J.bare, J.base, J.hok, rv', z⟩
      cases fl with
      | next =>
        obtain ⟨σ', H', J, z⟩ := h
        exact fin (v := .non) (u := .none) J rfl z
      | ret u =>
        obtain ⟨v, σ', H', J, rv', z⟩ := h
        exact fin J rv' z
      | brk =>
        obtain ⟨_, _, _, z⟩ := h
        exact z.elim
      | cont =>
        obtain ⟨_, _, _, z⟩ := h
        exact z.elim
    · cases hcf
theorem fn_no {x : Str} {t : FT} (dt : DefAt K mg x t) : ∃ a fd, FnI P w K mg base 0 a fd t.ps (fun _ _ => none) ∧ mg x = some (.ref a) ∧ PySem.W.keepIn K (.ref a) = true ∧ Bnd fd t.ps := by
  obtain ⟨⟨f, oc, od, kV, doc, pm, an, cdv, ct, osl, params, name, qual, lk, hcd, kp, hm, pp⟩, S⟩ := dt
  have ndP : t.ps.Nodup := by
    have := S.nd.sublist (List.take_sublist t.ps.length t.N)
    rwa [S.pre] at this
  exact ⟨f, _, ⟨fun A outer s H args us vs B St0 ds d S' Q hr hgd e0 hb hl rv hS hd hcf q => by cases hcf⟩, hm, kp, bnd_of (fd := PySem.W.fnOf name qual params t.body t.sc .none kV doc pm an cdv ct) pp rfl ndP⟩
theorem cf_ok (tx : Txt G K mg) (sys : ∃ o, base.get? sysModules = some o) (hT : ∀ x t, T x = some t → DefAt K mg x t) : ∀ (k : Nat) (x : Str) (ps : List Str) (f : BF), cfL G T dep k x = some (ps, f) →
    ∃ a fd, FnI P w K mg base k a fd ps (fun ds S => f S ds) ∧ mg x = some (.ref a) ∧ PySem.W.keepIn K (.ref a) = true ∧ Bnd fd ps
  | 0, x, ps, f, e => by
    obtain ⟨t, h1, e⟩ := map_some e
    cases e
    exact fn_no (hT x t h1)
  | k + 1, x, ps, f, e => by
    obtain ⟨t, h1, e⟩ := map_some e
    cases e
    exact fn_ok tx sys (hT x t h1) fun y ps f e => cf_ok tx sys hT k y ps f e
/-- a def of the text where the top has written it -/
theorem def_mk {h : Heap} {x : Str} {t : FT} {f : Addr} {oc kV doc pm cdv ct : Value} {od an : Option Addr} {osl : Array (Option Value)} {params : Arguments} {name qual : Str} (X : K.In h) (Gn : h.Ns mainGlobals mg) (a : PySem.W.nsIn K mainGlobals x = some (some (.ref f)))
    (l : K.lookup f = some ⟨oc, od, .func (PySem.W.fnOf name qual params t.body t.sc .none kV doc pm an cdv ct), osl⟩) (c : PySem.W.codeIn K cdv qual = true) (k : PySem.W.keepIn K (.ref f) = true) (pp : plainPar params t.ps) (S : FnScope t.N t.ps t.sc) : DefAt K mg x t :=
  ⟨⟨f, oc, od, kV, doc, pm, an, cdv, ct, osl, params, name, qual, l, c, k, PySem.W.mg_of X Gn a, pp⟩, S⟩
end
end PI
set_option maxHeartbeats 1000000
/-! Own text: the end of a law: its def on the script. -/
namespace PI
open PySem PySem.Spec L2
open PyProof.Rows hiding St

/-- no list stands in the written part -/
def noLst (K : PySem.W.Frag) : Bool := K.all fun p => match p.2.cls, p.2.dict, p.2.data with
  | .type n, none, .seq _ _ => n == "tuple"
  | _, _, _ => true
theorem mem_lookup {K : PySem.W.Frag} {a : Addr} {o : Obj} (h : K.lookup a = some o) : (a, o) ∈ K := by
  induction K with
  | nil => cases h
  | cons p r ih =>
    obtain ⟨b, u⟩ := p
    by_cases e : a = b
    · subst e
      simp [List.lookup] at h
      subst h
      exact List.mem_cons_self
    · have e' : (a == b) = false := beq_eq_false_iff_ne.mpr e
      simp only [List.lookup, e'] at h
      exact List.mem_cons_of_mem _ (ih h)
theorem noLst_at {K : PySem.W.Frag} (h : noLst K = true) {a : Addr} {its : Array Value} {n : Nat} (e : K.lookup a = some { cls := .type "list", data := .seq its n }) : False := by
  have q := (List.all_eq_true.mp h) _ (mem_lookup e)
  revert q
  show ¬ (("list" == "tuple") = true)
  decide
theorem numsR {K : PySem.W.Frag} {B : BT} {H : Hp} : ∀ ns : List Int, DqAll K B H (ns.map V.int) (ns.map PyData.int)
  | [] => .nil
  | n :: r => .cons (.int n) (numsR r)
/-- the law's def called on a list of numbers -/
theorem end_call {P : Program} {w : World} {K : PySem.W.Frag} {mg mb : Str → Option Value} {k : Nat} {fa a : Addr} {x : Str} {cf : List D → Store → Option (D × Store)} {s1 : Shared} {us : List Value} {ns : List Int} {S' : Store}
    (kin : K.In s1.heap) (gns : s1.heap.Ns mainGlobals mg) (bns : s1.heap.Ns builtinsNs mb) (bbt : ∀ y : Str, y ≠ "__name__" → mb y = bootBuiltins y) (nlm : s1.heap.NoLimit) (gens : s1.gens = #[]) (sys : ∃ mm, s1.heap.Ns sysModules mm) (nol : noLst K = true)
    (la : s1.heap.get? a = some { cls := .type "list", data := .seq us.toArray }) (ia : IntsAre us ns) (ll : ns.length ≤ sizeLine) (room : Room k callerA)
    (F : ∀ base : Heap, K.In base → base.Ns mainGlobals mg → (∃ o, base.get? sysModules = some o) → ∃ fd : FuncData, FnI P w K mg base k fa fd [x] cf ∧ Bnd fd [x])
    (hcf : cf [.p (.list (ns.map .int))] [] = some (.p (.bool true), S')) :
    codeAny (model P w) callerA (.call (.ref fa) ⟨[.ref a], []⟩) (fun r s' => r = .ok (.ret (.bool true)) ∧ OldK s1.heap s'.heap ∧ s'.os = s1.os ∧ AllBare s'.gens) s1 := by
  have rv := vals_ints ia
  have nK : K.lookup a = none := by
    cases e : K.lookup a with
    | none => rfl
    | some o =>
      have := kin a o e
      rw [la] at this
      cases this
      exact (noLst_at nol e).elim
  -- the script alone is tracked, as it stands
  let H : Hp := fun b => if b = a then some (.frz { cls := .type "list", data := .seq us.toArray } (.lst (ns.map V.int))) else none
  have atA : H a = some (.frz { cls := .type "list", data := .seq us.toArray } (.lst (ns.map V.int))) := if_pos rfl
  have offA : ∀ {b : Addr}, b ≠ a → H b = none := fun h => if_neg h
  have onlyA : ∀ {b : Addr} {u : HO}, H b = some u → b = a := fun {b u} h => by
    by_cases e : b = a
    · exact e
    · rw [offA e] at h; cases h
  have okH : HOk P w H s1.heap := fun b u h => by
    obtain rfl := onlyA h
    rw [atA] at h
    cases h
    exact ⟨la, by rw [List.length_map]; exact ll, us, _, rv, la⟩
  have notA : ∀ {b : Addr} {m : Str → Option Value}, s1.heap.Ns b m → b ≠ a := fun {b m} ⟨o, es, ep, e, d, _⟩ z => by
    subst z
    rw [la] at e; cases e
    cases d
  have nsH : ∀ {b : Addr} {m : Str → Option Value}, s1.heap.Ns b m → (hidT s1.heap H).Ns b m := fun {b m} n => by
    have ne := notA n
    obtain ⟨o, es, ep, e, d, r⟩ := n
    exact ⟨o, es, ep, hidT_get e (offA ne), d, r⟩
  have kinH : K.In (hidT s1.heap H) := fun b o e => hidT_get (kin b o e) (offA fun z => by subst z; rw [nK] at e; cases e)
  have modH : Mod K mg (hidT s1.heap H) := ⟨kinH, nsH gns, ⟨mb, nsH bns, bbt⟩, by obtain ⟨mc, h1, h2⟩ := nlm; exact ⟨mc, nsH h1, h2⟩⟩
  have sysH : ∃ o, (hidT s1.heap H).get? sysModules = some o := by
    obtain ⟨mm, n⟩ := sys
    obtain ⟨o, es, ep, e, _⟩ := nsH n
    exact ⟨o, e⟩
  have e0 : Env0 P w K mg (hidT s1.heap H) callerA [] s1 H := ⟨rfl, modH, fun b o e => of_hidT e, Nat.le_of_eq (hidT_size _ _), trivial, fun b hb => (List.not_mem_nil hb).elim, okH, .of_eq gens⟩
  have sr : SR K mg ⟨[], []⟩ H [] := ⟨rfl, List.nodup_nil, fun b hb => (List.not_mem_nil hb).elim, fun n c b h1 h2 => by cases h2⟩
  have rd : RDs K mg ⟨[], []⟩ H [.p (.list (ns.map .int))] [.ref a] := .cons (Dq.lst ⟨.inr ⟨_, atA⟩, List.not_mem_nil⟩ (numsR ns)) .nil
  obtain ⟨fd, fn, bind⟩ := F _ kinH (nsH gns) sysH
  have bd : BindsTo s1 fd ⟨[.ref a], []⟩ [(x, .ref a)] := bind s1 [.ref a] [] [.ref a] [] [0] (if_pos ⟨rfl, List.nodup_nil, rfl, rfl⟩) rfl rfl
  refine codeAny_mono (fn.run callerA [] s1 H ⟨[.ref a], []⟩ [.ref a] [.ref a] ⟨[], []⟩ [] _ _ _ (fun v _ => v = .bl true) room rfl e0 bd rfl (.cons rfl .nil) sr rd hcf fun B' H' v _ _ r => by cases r; rfl) fun r s' h => ?_
  cases r with
  | error e => exact h.elim
  | ok fl =>
    cases fl with
    | ret u =>
      obtain ⟨v, H', os, bare, un, hok', r', rfl⟩ := h
      cases r'
      refine ⟨rfl, OldK.of_keep fun b o e => ?_, os, bare⟩
      by_cases hb : b = a
      · subst hb
        obtain ⟨e2, _⟩ := hok' b _ (un.frzs b _ _ atA)
        rw [la] at e; cases e
        exact e2
      · exact un.keep b o e (offA hb) (fun z => (List.not_mem_nil z).elim) (fun z => (List.not_mem_nil z).elim)
    | _ => exact h.elim
/-- what is left of a row behind its head -/
theorem end_walk {l : PySem.W.OpenLaw} {n k dep : Nat} {q : Program} {loose : List Str} {XP : (Str → Option Value) → Heap → Prop} {YP : World → Heap → Prop} {d : DefRec} {K : Params → PySem.W.Frag} {x : Str} {G : GS} {T : Str → Option FT}
    (hn : l.most = some n) (hn2 : n ≤ sizeLine) (hdf : d.params.defaults = []) (hq : importsNone q = true) (hr : Room k callerA)
    (hY : ∀ (w : World) (h : Heap), YP w h → (K w.params).In h)
    (nol : ∀ w : World, noLst (K w.params) = true)
    (tx : ∀ (w : World) (mg : Str → Option Value) (h : Heap), (K w.params).In h → h.Ns mainGlobals mg → Txt G (K w.params) mg ∧ ∀ y t, T y = some t → DefAt (K w.params) mg y t)
    (hcf : ∀ ns : List Int, ns.length ≤ n → ∃ f S', cfL G T dep k d.name = some ([x], f) ∧ f [] [.p (.list (ns.map .int))] = some (.p (.bool true), S')) :
    PySem.W.WalkO q loose XP YP l.row.toRowW d [] (fun f vs => PySem.call f vs) := by
  refine Att.attach_call hn hdf fun w s₀ s₁ mg mb fa o pm cd doc a vs ns Gd Y ho hd hcd hmg hobj hints hlen hg => ?_
  have kin := hY w _ Y
  obtain ⟨t1, t2⟩ := tx w mg _ kin Gd.T.g
  obtain ⟨f, S', e1, e2⟩ := hcf ns hlen
  have F : ∀ base : Heap, (∃ o, base.get? sysModules = some o) → ∃ a fd, FnI l.prog w (K w.params) mg base k a fd [x] (fun ds S => f S ds) ∧ mg d.name = some (.ref a) ∧ PySem.W.keepIn (K w.params) (.ref a) = true ∧ Bnd fd [x] := fun base sys =>
    cf_ok t1 sys t2 k d.name [x] f e1
  refine end_call (cf := fun ds S => f S ds) (x := x) kin Gd.T.g Gd.T.b Gd.T.builtins Gd.T.nolimit hg (let ⟨mm, z, _⟩ := (Gd.T.seer hq).mods; ⟨mm, z⟩) (nol w) hobj hints (Nat.le_trans hlen hn2) hr (fun base _ _ sys => ?_) e2
  obtain ⟨a', fd, q1, q2, q3, q4⟩ := F base sys
  rw [hmg] at q2
  cases q2
  exact ⟨fd, q1, q4⟩
end PI
set_option maxHeartbeats 1000000
/-! Own text: how the reading is worked out, step by step. -/
namespace PI
open PySem PySem.Spec L2
open PyProof.Rows hiding St

/-! every continuation has a name: what is behind stays as it is until it is reached -/
abbrev RD0 := Option (D × Store)
section
variable (ev : EnvI) (S : Store) (a b c : M) (as ks : Ms) (bx : Bool) (x y z : D)
@[simp] theorem mC_e (d : D) : mC d ev S = some (d, S) := rfl
def kGet (S : Store) : Option D → RD0
  | some d => some (d, S)
  | none => none
@[simp] theorem kGet_some (d : D) : kGet S (some d) = some (d, S) := rfl
@[simp] theorem mV_e (i : Nat) : mV i ev S = (ev[i]?).bind (kGet S) := by
  unfold mV
  cases h : ev[i]? with
  | none => rfl
  | some d => cases d <;> rfl
@[simp] theorem mNo_e : mNo ev S = none := rfl
def kBin2 (bx : Bool) (op : Operator) (w : D) (r : D × Store) : RD0 := PI.binI bx op r.2 w r.1
@[simp] theorem kBin2_e (bx : Bool) (op : Operator) (w : D) (x : D) (S : Store) : kBin2 bx op w (x, S) = PI.binI bx op S w x := rfl
def kBin1 (bx : Bool) (op : Operator) (b : M) (ev : EnvI) (r : D × Store) : RD0 := (b ev r.2).bind (kBin2 bx op r.1)
@[simp] theorem kBin1_e (bx : Bool) (op : Operator) (b : M) (ev : EnvI) (x : D) (S : Store) : kBin1 bx op b ev (x, S) = (b ev S).bind (kBin2 bx op x) := rfl
@[simp] theorem mBin_e (op : Operator) : mBin bx op a b ev S = (a ev S).bind (kBin1 bx op b ev) := rfl
def kBool (S : Store) (k : Bool) : RD0 := some (.p (.bool k), S)
@[simp] theorem kBool_e (k : Bool) : kBool S k = some (.p (.bool k), S) := rfl
theorem map_kBool (S : Store) (o : Option Bool) : (o.map fun c => ((.p (.bool c), S) : D × Store)) = o.bind (kBool S) := by cases o <;> rfl
def kCmp2 (op : CmpOp) (w : D) (r : D × Store) : RD0 := (cmpI op r.2 w r.1).bind (kBool r.2)
@[simp] theorem kCmp2_e (op : CmpOp) (w : D) (x : D) (S : Store) : kCmp2 op w (x, S) = (cmpI op S w x).bind (kBool S) := rfl
def kCmp1 (op : CmpOp) (b : M) (ev : EnvI) (r : D × Store) : RD0 := (b ev r.2).bind (kCmp2 op r.1)
@[simp] theorem kCmp1_e (op : CmpOp) (b : M) (ev : EnvI) (x : D) (S : Store) : kCmp1 op b ev (x, S) = (b ev S).bind (kCmp2 op x) := rfl
@[simp] theorem mCmp_e (op : CmpOp) : mCmp op a b ev S = (a ev S).bind (kCmp1 op b ev) := by
  unfold mCmp
  congr; funext r
  unfold kCmp1
  congr; funext t
  exact map_kBool _ _
def kCh3 (op : CmpOp) (w : D) (r : D × Store) : RD0 := (cmpI op r.2 w r.1).bind (kBool r.2)
@[simp] theorem kCh3_e (op : CmpOp) (w : D) (x : D) (S : Store) : kCh3 op w (x, S) = (cmpI op S w x).bind (kBool S) := rfl
def kCh2b (op : CmpOp) (c : M) (ev : EnvI) (S : Store) (y : D) (k : Bool) : RD0 := if k then (c ev S).bind (kCh3 op y) else some (.p (.bool false), S)
@[simp] theorem kCh2b_t (op : CmpOp) (y : D) : kCh2b op c ev S y true = (c ev S).bind (kCh3 op y) := rfl
@[simp] theorem kCh2b_f (op : CmpOp) (y : D) : kCh2b op c ev S y false = some (.p (.bool false), S) := rfl
def kCh2 (op op' : CmpOp) (c : M) (ev : EnvI) (w : D) (r : D × Store) : RD0 := (cmpI op r.2 w r.1).bind (kCh2b op' c ev r.2 r.1)
@[simp] theorem kCh2_e (op op' : CmpOp) (c : M) (ev : EnvI) (w : D) (x : D) (S : Store) : kCh2 op op' c ev w (x, S) = (cmpI op S w x).bind (kCh2b op' c ev S x) := rfl
def kCh1 (op op' : CmpOp) (b c : M) (ev : EnvI) (r : D × Store) : RD0 := (b ev r.2).bind (kCh2 op op' c ev r.1)
@[simp] theorem kCh1_e (op op' : CmpOp) (b c : M) (ev : EnvI) (x : D) (S : Store) : kCh1 op op' b c ev (x, S) = (b ev S).bind (kCh2 op op' c ev x) := rfl
@[simp] theorem mChain_e (op op' : CmpOp) : mChain op op' a b c ev S = (a ev S).bind (kCh1 op op' b c ev) := by
  unfold mChain
  congr; funext r
  unfold kCh1
  congr; funext t
  unfold kCh2
  congr; funext k
  cases k
  · rfl
  · show (c ev t.2).bind _ = (c ev t.2).bind _
    congr; funext q
    exact map_kBool _ _
def kNotB (S : Store) (k : Bool) : RD0 := some (.p (.bool (!k)), S)
@[simp] theorem kNotB_e (k : Bool) : kNotB S k = some (.p (.bool (!k)), S) := rfl
def kNot  (r : D × Store) : RD0 := (isTru r.1).bind (kNotB r.2)
@[simp] theorem kNot_e  (x : D) (S : Store) : kNot  (x, S) = (isTru x).bind (kNotB S) := rfl
@[simp] theorem mNot_e : mNot a ev S = (a ev S).bind kNot := by
  unfold mNot
  congr; funext r
  unfold kNot
  cases isTru r.1 <;> rfl
def kAndB (b : M) (ev : EnvI) (S : Store) (k : Bool) : RD0 := if k then b ev S else some (.p (.bool false), S)
@[simp] theorem kAndB_t : kAndB b ev S true = b ev S := rfl
@[simp] theorem kAndB_f : kAndB b ev S false = some (.p (.bool false), S) := rfl
def kOrB (b : M) (ev : EnvI) (S : Store) (k : Bool) : RD0 := if k then some (.p (.bool true), S) else b ev S
@[simp] theorem kOrB_t : kOrB b ev S true = some (.p (.bool true), S) := rfl
@[simp] theorem kOrB_f : kOrB b ev S false = b ev S := rfl
def kIteB (a b : M) (ev : EnvI) (S : Store) (k : Bool) : RD0 := if k then a ev S else b ev S
@[simp] theorem kIteB_t : kIteB a b ev S true = a ev S := rfl
@[simp] theorem kIteB_f : kIteB a b ev S false = b ev S := rfl
theorem kAndB_d (p : Prop) [Decidable p] : kAndB b ev S (decide p) = if p then b ev S else some (.p (.bool false), S) := by
  by_cases h : p <;> simp [h]
theorem kOrB_d (p : Prop) [Decidable p] : kOrB b ev S (decide p) = if p then some (.p (.bool true), S) else b ev S := by
  by_cases h : p <;> simp [h]
theorem kIteB_d (p : Prop) [Decidable p] : kIteB a b ev S (decide p) = if p then a ev S else b ev S := by
  by_cases h : p <;> simp [h]
def kAnd (b : M) (ev : EnvI) (r : D × Store) : RD0 := (isTru r.1).bind (kAndB b ev r.2)
@[simp] theorem kAnd_e (b : M) (ev : EnvI) (x : D) (S : Store) : kAnd b ev (x, S) = (isTru x).bind (kAndB b ev S) := rfl
def kOr (b : M) (ev : EnvI) (r : D × Store) : RD0 := (isTru r.1).bind (kOrB b ev r.2)
@[simp] theorem kOr_e (b : M) (ev : EnvI) (x : D) (S : Store) : kOr b ev (x, S) = (isTru x).bind (kOrB b ev S) := rfl
def kIte (a b : M) (ev : EnvI) (r : D × Store) : RD0 := (isTru r.1).bind (kIteB a b ev r.2)
@[simp] theorem kIte_e (a b : M) (ev : EnvI) (x : D) (S : Store) : kIte a b ev (x, S) = (isTru x).bind (kIteB a b ev S) := rfl
@[simp] theorem mAnd_e : mAnd a b ev S = (a ev S).bind (kAnd b ev) := rfl
@[simp] theorem mOr_e : mOr a b ev S = (a ev S).bind (kOr b ev) := rfl
@[simp] theorem mIf_e : mIf c a b ev S = (c ev S).bind (kIte a b ev) := rfl
def kNeg (r : D × Store) : RD0 := match r.1 with
  | .p (.int i) => some (.p (.int (-i)), r.2)
  | _ => none
@[simp] theorem kNeg_e (i : Int) : kNeg (.p (.int i), S) = some (.p (.int (-i)), S) := rfl
@[simp] theorem mNeg_e : mNeg a ev S = (a ev S).bind kNeg := rfl
@[simp] theorem mNil_e : mNil ev S = some ([], S) := rfl
def kCons2 (w : D) (r : List D × Store) : Option (List D × Store) := some (w :: r.1, r.2)
@[simp] theorem kCons2_e (w : D) (l : List D) (S : Store) : kCons2 w (l, S) = some (w :: l, S) := rfl
def kCons1 (as : Ms) (ev : EnvI) (r : D × Store) : Option (List D × Store) := (as ev r.2).bind (kCons2 r.1)
@[simp] theorem kCons1_e (as : Ms) (ev : EnvI) (x : D) (S : Store) : kCons1 as ev (x, S) = (as ev S).bind (kCons2 x) := rfl
@[simp] theorem mCons_e : mCons a as ev S = (a ev S).bind (kCons1 as ev) := by
  unfold mCons
  congr; funext r
  unfold kCons1
  cases as ev r.2 <;> rfl
def kTup2 (S : Store) (xs : List PyData) : RD0 := mkT xs S
@[simp] theorem kTup2_e (xs : List PyData) : kTup2 S xs = mkT xs S := rfl
def kTup  (r : List D × Store) : RD0 := (allP r.1).bind (kTup2 r.2)
@[simp] theorem kTup_e  (l : List D) (S : Store) : kTup  (l, S) = (allP l).bind (kTup2 S) := rfl
@[simp] theorem mTup_e : mTup as ev S = (as ev S).bind kTup := rfl
def kLst (bx : Bool) (r : List D × Store) : RD0 := mkL bx r.1 r.2
@[simp] theorem kLst_e (bx : Bool) (l : List D) (S : Store) : kLst bx (l, S) = mkL bx l S := rfl
@[simp] theorem mLst_e : mLst bx as ev S = (as ev S).bind (kLst bx) := rfl
def kPut (S : Store) (d : D) : RD0 := some (d, S)
@[simp] theorem kPut_e (d : D) : kPut S d = some (d, S) := rfl
def kIx2 (w : D) (r : D × Store) : RD0 := (ixI r.2 w r.1).bind (kPut r.2)
@[simp] theorem kIx2_e (w : D) (x : D) (S : Store) : kIx2 w (x, S) = (ixI S w x).bind (kPut S) := rfl
def kIx1 (b : M) (ev : EnvI) (r : D × Store) : RD0 := (b ev r.2).bind (kIx2 r.1)
@[simp] theorem kIx1_e (b : M) (ev : EnvI) (x : D) (S : Store) : kIx1 b ev (x, S) = (b ev S).bind (kIx2 x) := rfl
@[simp] theorem mIx_e : mIx a b ev S = (a ev S).bind (kIx1 b ev) := by
  unfold mIx
  congr; funext r
  unfold kIx1
  congr; funext t
  unfold kIx2
  cases ixI t.2 r.1 t.1 <;> rfl
@[simp] theorem mONone_e : mONone ev S = some (none, S) := rfl
def kO (r : D × Store) : Option (Option Int × Store) := match r.1 with
  | .p (.int i) => some (some i, r.2)
  | _ => none
@[simp] theorem kO_e (i : Int) : kO (.p (.int i), S) = some (some i, S) := rfl
@[simp] theorem mOSome_e : mOSome a ev S = (a ev S).bind kO := rfl
def kSl3 (bx : Bool) (w : D) (lo : Option Int) (h : Option Int × Store) : RD0 := slI bx h.2 w lo h.1
@[simp] theorem kSl3_e (w : D) (lo hi : Option Int) : kSl3 bx w lo (hi, S) = slI bx S w lo hi := rfl
def kSl2 (bx : Bool) (hi : MO) (ev : EnvI) (w : D) (l : Option Int × Store) : RD0 := (hi ev l.2).bind (kSl3 bx w l.1)
@[simp] theorem kSl2_e (hi : MO) (w : D) (lo : Option Int) : kSl2 bx hi ev w (lo, S) = (hi ev S).bind (kSl3 bx w lo) := rfl
def kSl1 (bx : Bool) (lo hi : MO) (ev : EnvI) (r : D × Store) : RD0 := (lo ev r.2).bind (kSl2 bx hi ev r.1)
@[simp] theorem kSl1_e (lo hi : MO) (w : D) : kSl1 bx lo hi ev (w, S) = (lo ev S).bind (kSl2 bx hi ev w) := rfl
@[simp] theorem mSl_e (lo hi : MO) : mSl bx a lo hi ev S = (a ev S).bind (kSl1 bx lo hi ev) := rfl
def kRev2 (bx : Bool) (S : Store) (xs : List D) : RD0 := mkL bx xs.reverse S
@[simp] theorem kRev2_e (xs : List D) : kRev2 bx S xs = mkL bx xs.reverse S := rfl
def kRev (bx : Bool) (r : D × Store) : RD0 := revI bx r.2 r.1
@[simp] theorem kRev_e (bx : Bool) (x : D) (S : Store) : kRev bx (x, S) = revI bx S x := rfl
@[simp] theorem revI_t (xs : List PyData) : revI bx S (.p (.tuple xs)) = mkT xs.reverse S := rfl
@[simp] theorem revI_l (xs : List PyData) : revI bx S (.p (.list xs)) = mkL bx (xs.map .p).reverse S := rfl
@[simp] theorem revI_r (n : Nat) : revI bx S (.ref n) = (lstOf S (.ref n)).bind (kRev2 bx S) := rfl
@[simp] theorem mRev_e : mRev bx a ev S = (a ev S).bind (kRev bx) := rfl
def kBlt (f : BF) (r : List D × Store) : RD0 := f r.2 r.1
@[simp] theorem kBlt_e (f : BF) (l : List D) (S : Store) : kBlt f (l, S) = f S l := rfl
@[simp] theorem mBlt_e (f : BF) : mBlt f as ev S = (as ev S).bind (kBlt f) := rfl
def kMet4 (f : MF) (w : D) (r : List D × Store) : RD0 := f r.2 w r.1
@[simp] theorem kMet4_e (f : MF) (w : D) (l : List D) (S : Store) : kMet4 f w (l, S) = f S w l := rfl
def kMet3 (as : Ms) (ev : EnvI) (w : D) (S : Store) (f : MF) : RD0 := (as ev S).bind (kMet4 f w)
@[simp] theorem kMet3_e (w : D) (f : MF) : kMet3 as ev w S f = (as ev S).bind (kMet4 f w) := rfl
def kMet2 (n : Str) (as : Ms) (ev : EnvI) (w : D) (S : Store) (t : Tn) : RD0 := (metF t n).bind (kMet3 as ev w S)
@[simp] theorem kMet2_e (n : Str) (w : D) (t : Tn) : kMet2 n as ev w S t = (metF t n).bind (kMet3 as ev w S) := rfl
def kMet1 (n : Str) (as : Ms) (ev : EnvI) (r : D × Store) : RD0 := (tnOf r.2 r.1).bind (kMet2 n as ev r.1 r.2)
@[simp] theorem kMet1_e (n : Str) (as : Ms) (ev : EnvI) (x : D) (S : Store) : kMet1 n as ev (x, S) = (tnOf S x).bind (kMet2 n as ev x S) := rfl
@[simp] theorem mMet_e (n : Str) : mMet n a as ev S = (a ev S).bind (kMet1 n as ev) := rfl
@[simp] theorem met_append : metF .lst "append" = some mAppend := rfl
@[simp] theorem met_pop : metF .lst "pop" = some mPop := rfl
@[simp] theorem met_upper : metF .str "upper" = some mUpper := rfl
@[simp] theorem met_get : metF .dct "get" = some mGet := rfl
def kCall3 (cf : BF) (S : Store) (l : List D) : RD0 := cf S l
@[simp] theorem kCall3_e (cf : BF) (l : List D) : kCall3 cf S l = cf S l := rfl
def kCall2 (cf : BF) (ix : List Nat) (ws : List D) (r : List D × Store) : RD0 := (permD (ws ++ r.1) ix).bind (kCall3 cf r.2)
@[simp] theorem kCall2_e (cf : BF) (ix : List Nat) (ws : List D) (l : List D) (S : Store) : kCall2 cf ix ws (l, S) = (permD (ws ++ l) ix).bind (kCall3 cf S) := rfl
def kCall1 (cf : BF) (ix : List Nat) (ks : Ms) (ev : EnvI) (r : List D × Store) : RD0 := (ks ev r.2).bind (kCall2 cf ix r.1)
@[simp] theorem kCall1_e (cf : BF) (ix : List Nat) (ks : Ms) (ev : EnvI) (l : List D) (S : Store) : kCall1 cf ix ks ev (l, S) = (ks ev S).bind (kCall2 cf ix l) := rfl
@[simp] theorem mCall_e (cf : BF) (ix : List Nat) : mCall cf ix as ks ev S = (as ev S).bind (kCall1 cf ix ks ev) := rfl
@[simp] theorem permD0 {α : Type} (l : List α) : permD l [] = some [] := rfl
def kPerm (x : D) (xs : List D) : Option (List D) := some (x :: xs)
@[simp] theorem kPerm_e (l : List D) : kPerm x l = some (x :: l) := rfl
def kPerm0 (l : List D) (r : List Nat) (x : D) : Option (List D) := (permD l r).bind (kPerm x)
@[simp] theorem kPerm0_e (l : List D) (r : List Nat) : kPerm0 l r x = (permD l r).bind (kPerm x) := rfl
@[simp] theorem permD1 (l : List D) (i : Nat) (r : List Nat) : permD l (i :: r) = (l[i]?).bind (kPerm0 l r) := by
  unfold permD
  cases l[i]? with
  | none => rfl
  | some x => show _ = (permD l r).bind _; cases permD l r <;> rfl
@[simp] theorem mpNil_e : mpNil ev S = some ([], S) := rfl
def kDic (bx : Bool) (r : List (Key × D) × Store) : RD0 := if r.1.length ≤ 15 then mkD bx (mergeD [] r.1) r.2 else none
@[simp] theorem kDic_e (l : List (Key × D)) : kDic bx (l, S) = if l.length ≤ 15 then mkD bx (mergeD [] l) S else none := rfl
@[simp] theorem mDic_e (p : Mp) : mDic bx p ev S = (p ev S).bind (kDic bx) := rfl
def kIter2 (S : Store) (f : Src) : Option (Src × Store) := some (f, S)
@[simp] theorem kIter2_e (f : Src) : kIter2 S f = some (f, S) := rfl
def kIter (r : D × Store) : Option (Src × Store) := (srcOf r.2 r.1).bind (kIter2 r.2)
@[simp] theorem kIter_e : kIter (x, S) = (srcOf S x).bind (kIter2 S) := rfl
@[simp] theorem mIter_e : mIter a ev S = (a ev S).bind kIter := by
  unfold mIter
  congr; funext r
  unfold kIter
  cases srcOf r.2 r.1 <;> rfl
abbrev RS0 := Option (Fl × EnvI × Store)
@[simp] theorem sNil_e : sNil ev S = some (.nx, ev, S) := rfl
def kSeq (w : MS) (r : Fl × EnvI × Store) : RS0 := match r.1 with
  | .nx => w r.2.1 r.2.2
  | f => some (f, r.2.1, r.2.2)
@[simp] theorem kSeq_nx (w : MS) : kSeq w (.nx, ev, S) = w ev S := rfl
@[simp] theorem kSeq_rt (w : MS) : kSeq w (.rt x, ev, S) = some (.rt x, ev, S) := rfl
@[simp] theorem kSeq_bk (w : MS) : kSeq w (.bk, ev, S) = some (.bk, ev, S) := rfl
@[simp] theorem kSeq_ct (w : MS) : kSeq w (.ct, ev, S) = some (.ct, ev, S) := rfl
@[simp] theorem sSeq_e (v w : MS) : sSeq v w ev S = (v ev S).bind (kSeq w) := rfl
def kEx (ev : EnvI) (r : D × Store) : RS0 := some (.nx, ev, r.2)
@[simp] theorem kEx_e : kEx ev (x, S) = some (.nx, ev, S) := rfl
@[simp] theorem sEx_e : sEx a ev S = (a ev S).bind (kEx ev) := by
  unfold sEx
  cases a ev S <;> rfl
def kRet (ev : EnvI) (r : D × Store) : RS0 := some (.rt r.1, ev, r.2)
@[simp] theorem kRet_e : kRet ev (x, S) = some (.rt x, ev, S) := rfl
@[simp] theorem sRet_e : sRet a ev S = (a ev S).bind (kRet ev) := by
  unfold sRet
  cases a ev S <;> rfl
@[simp] theorem sRetN_e : sRetN ev S = some (.rt (.p .none), ev, S) := rfl
@[simp] theorem sBrk_e : sBrk ev S = some (.bk, ev, S) := rfl
@[simp] theorem sCnt_e : sCnt ev S = some (.ct, ev, S) := rfl
@[simp] theorem sNo_e : sNo ev S = none := rfl
def kIfB (v w : MS) (ev : EnvI) (S : Store) (k : Bool) : RS0 := if k then v ev S else w ev S
@[simp] theorem kIfB_t (v w : MS) : kIfB v w ev S true = v ev S := rfl
@[simp] theorem kIfB_f (v w : MS) : kIfB v w ev S false = w ev S := rfl
theorem kIfB_d (v w : MS) (p : Prop) [Decidable p] : kIfB v w ev S (decide p) = if p then v ev S else w ev S := by
  by_cases h : p <;> simp [h]
def kIf (v w : MS) (ev : EnvI) (r : D × Store) : RS0 := (isTru r.1).bind (kIfB v w ev r.2)
@[simp] theorem kIf_e (v w : MS) : kIf v w ev (x, S) = (isTru x).bind (kIfB v w ev S) := rfl
@[simp] theorem sIf_e (v w : MS) : sIf c v w ev S = (c ev S).bind (kIf v w ev) := rfl
def kEnd (r : EnvI × Store) : RS0 := some (.nx, r.1, r.2)
@[simp] theorem kEnd_e : kEnd (ev, S) = some (.nx, ev, S) := rfl
def kAsg (g : MG) (ev : EnvI) (r : D × Store) : RS0 := (g r.1 ev r.2).bind kEnd
@[simp] theorem kAsg_e (g : MG) : kAsg g ev (x, S) = (g x ev S).bind kEnd := rfl
@[simp] theorem sAsg_e (g : MG) : sAsg a g ev S = (a ev S).bind (kAsg g ev) := by
  unfold sAsg
  congr; funext r
  unfold kAsg
  cases g r.1 ev r.2 <;> rfl
def kPar (g : List D → EnvI → Store → Option (EnvI × Store)) (ev : EnvI) (r : List D × Store) : RS0 := (g r.1 ev r.2).bind kEnd
@[simp] theorem kPar_e (g : List D → EnvI → Store → Option (EnvI × Store)) (l : List D) : kPar g ev (l, S) = (g l ev S).bind kEnd := rfl
@[simp] theorem sPar_e (g : List D → EnvI → Store → Option (EnvI × Store)) : sPar as g ev S = (as ev S).bind (kPar g ev) := by
  unfold sPar
  congr; funext r
  unfold kPar
  cases g r.1 ev r.2 <;> rfl
@[simp] theorem gP2_e (i j : Nat) : gP2 i j [x, y] ev S = some ((ev.set i (some x)).set j (some y), S) := rfl
@[simp] theorem gP3_e (i j l : Nat) : gP3 i j l [x, y, z] ev S = some (((ev.set i (some x)).set j (some y)).set l (some z), S) := rfl
@[simp] theorem gNm_e (i : Nat) : gNm i x ev S = some (ev.set i (some x), S) := rfl
def kSb3 (ev : EnvI) (S : Store) : Option (EnvI × Store) := some (ev, S)
@[simp] theorem kSb3_e : kSb3 ev S = some (ev, S) := rfl
def kSb2 (ev : EnvI) (w d : D) (r : D × Store) : Option (EnvI × Store) := (setI r.2 w r.1 d).bind (kSb3 ev)
@[simp] theorem kSb2_e (w d : D) : kSb2 ev w d (x, S) = (setI S w x d).bind (kSb3 ev) := rfl
def kSb1 (i : M) (ev : EnvI) (d : D) (r : D × Store) : Option (EnvI × Store) := (i ev r.2).bind (kSb2 ev r.1 d)
@[simp] theorem kSb1_e (i : M) (d : D) : kSb1 i ev d (x, S) = (i ev S).bind (kSb2 ev x d) := rfl
@[simp] theorem gSb_e (o i : M) (d : D) : gSb o i d ev S = (o ev S).bind (kSb1 i ev d) := by
  unfold gSb
  congr; funext r
  unfold kSb1
  congr; funext t
  unfold kSb2
  cases setI t.2 r.1 t.1 d <;> rfl
@[simp] theorem gTp_e (n : Nat) (r : List D → EnvI → Store → Option (EnvI × Store)) (xs : List PyData) : gTp n r (.p (.tuple xs)) ev S = if xs.length = n then r (xs.map .p) ev S else none := rfl
@[simp] theorem gsNil_e : gsNil [] ev S = some (ev, S) := rfl
def kGs (r : List D → EnvI → Store → Option (EnvI × Store)) (ds : List D) (a : EnvI × Store) : Option (EnvI × Store) := r ds a.1 a.2
@[simp] theorem kGs_e (r : List D → EnvI → Store → Option (EnvI × Store)) (ds : List D) : kGs r ds (ev, S) = r ds ev S := rfl
@[simp] theorem gsCons_e (g : MG) (r : List D → EnvI → Store → Option (EnvI × Store)) (d : D) (ds : List D) : gsCons g r (d :: ds) ev S = (g d ev S).bind (kGs r ds) := rfl
@[simp] theorem mYes_e : mYes ev S = some (.p (.bool true), S) := rfl
/-- the body of a def has ended -/
def kBody (r : Fl × EnvI × Store) : RD0 := match r.1 with
  | .nx => some (.p .none, r.2.2)
  | .rt d => some (d, r.2.2)
  | _ => none
@[simp] theorem kBody_nx : kBody (.nx, ev, S) = some (.p .none, S) := rfl
@[simp] theorem kBody_rt : kBody (.rt x, ev, S) = some (x, S) := rfl
theorem bodyF_e (N ps : List Str) (w : MS) (ds : List D) (h : ds.length = ps.length) : bodyF N ps w S ds = (w (startD N ds) S).bind kBody := by
  unfold bodyF
  rw [if_pos h]
  rfl
end
section
variable (S : Store) (bx : Bool)
@[simp] theorem isTru_e (k : Bool) : isTru (.p (.bool k)) = some k := rfl
def kInt (S : Store) (k : Int) : Option (D × Store) := some (.p (.int k), S)
@[simp] theorem kInt_e (k : Int) : kInt S k = some (.p (.int k), S) := rfl
@[simp] theorem binI_int (op : Operator) (i j : Int) : PI.binI bx op S (.p (.int i)) (.p (.int j)) = (PI.intOp op i j).bind (kInt S) := by
  show (PI.intOp op i j).map _ = _
  cases PI.intOp op i j <;> rfl
@[simp] theorem intOp_add (i j : Int) : PI.intOp .Add i j = some (i + j) := rfl
@[simp] theorem intOp_sub (i j : Int) : PI.intOp .Sub i j = some (i - j) := rfl
@[simp] theorem intOp_mul (i j : Int) : PI.intOp .Mult i j = if (-18446744073709551616 < i ∧ i < 18446744073709551616) ∨ (-18446744073709551616 < j ∧ j < 18446744073709551616) then some (i * j) else none := rfl
@[simp] theorem intOp_mod (i j : Int) : PI.intOp .Mod i j = if 0 < j then some (i % j) else none := rfl
@[simp] theorem intOp_div (i j : Int) : PI.intOp .FloorDiv i j = if 0 < j ∧ j < 1073741824 then some (i / j) else none := rfl
theorem intOp_pow (i j : Int) : PI.intOp .Pow i j = if 0 ≤ j ∧ j ≤ 1000000 ∧ i.natAbs < 18446744073709551616 then some (i ^ j.toNat) else none := rfl
@[simp] theorem pow9 : PI.intOp .Pow 10 9 = some 1000000000 := by decide +kernel
@[simp] theorem pow18 : PI.intOp .Pow 10 18 = some 1000000000000000000 := by decide +kernel
@[simp] theorem pow19 : PI.intOp .Pow 10 19 = some 10000000000000000000 := by decide +kernel
@[simp] theorem pow20 : PI.intOp .Pow 10 20 = some 100000000000000000000 := by decide +kernel
@[simp] theorem pow30 : PI.intOp .Pow 10 30 = some 1000000000000000000000000000000 := by decide +kernel
@[simp] theorem pow38 : PI.intOp .Pow 10 38 = some 100000000000000000000000000000000000000 := by decide +kernel
@[simp] theorem pow39 : PI.intOp .Pow 10 39 = some 1000000000000000000000000000000000000000 := by decide +kernel
@[simp] theorem pow40 : PI.intOp .Pow 10 40 = some 10000000000000000000000000000000000000000 := by decide +kernel
@[simp] theorem bInt_i (i : Int) : bInt S [.p (.int i)] = some (.p (.int i), S) := rfl
@[simp] theorem bInt_b (b : Bool) : bInt S [.p (.bool b)] = some (.p (.int (if b then 1 else 0)), S) := rfl
@[simp] theorem bMax_e (i j : Int) : bMax S [.p (.int i), .p (.int j)] = some (.p (.int (if j > i then j else i)), S) := rfl
@[simp] theorem cmpI_ge (i j : Int) : cmpI .GtE S (.p (.int i)) (.p (.int j)) = some (decide (j ≤ i)) := rfl
@[simp] theorem cmpI_gt (i j : Int) : cmpI .Gt S (.p (.int i)) (.p (.int j)) = some (decide (j < i)) := rfl
@[simp] theorem cmpI_le (i j : Int) : cmpI .LtE S (.p (.int i)) (.p (.int j)) = some (decide (i ≤ j)) := rfl
@[simp] theorem cmpI_lt (i j : Int) : cmpI .Lt S (.p (.int i)) (.p (.int j)) = some (decide (i < j)) := rfl
def kFlip (b : Bool) : Option Bool := some !b
@[simp] theorem kFlip_e (b : Bool) : kFlip b = some !b := rfl
@[simp] theorem cmpI_ne (x y : D) : cmpI .NotEq S x y = (eqI S x y).bind kFlip := by
  show (eqI S x y).map _ = _
  cases eqI S x y <;> rfl
@[simp] theorem cmpI_eq (x y : D) : cmpI .Eq S x y = eqI S x y := rfl
end
end PI
set_option maxHeartbeats 1000000
/-! Own text: bounds of shown texts; data that repr can tell; loops with an invariant. -/
namespace PI
open PySem PySem.Spec L2
open PyProof.Rows hiding St

mutual
/-- at most so long is what is shown -/
def wt : PyData → Nat
  | .none => 5
  | .bool _ => 5
  | .int _ => 1922
  | .str x => 10 * x.length + 2
  | .list xs => wtAll xs + 3
  | .tuple xs => wtAll xs + 3
  | .dict kvs => wtKv kvs + 3
def wtAll : List PyData → Nat
  | [] => 0
  | x :: r => wt x + 2 + wtAll r
def wtKv : List (PyData × PyData) → Nat
  | [] => 0
  | (k, x) :: r => wt k + wt x + 4 + wtKv r
end
mutual
/-- sound texts, numbers not too long -/
def okS : PyData → Bool
  | .none => true
  | .bool _ => true
  | .int i => decide (i.natAbs.log2 < 1920)
  | .str x => PyData.strOk x
  | .list xs => okAll xs
  | .tuple xs => okAll xs
  | .dict kvs => okKv kvs
def okAll : List PyData → Bool
  | [] => true
  | x :: r => okS x && okAll r
def okKv : List (PyData × PyData) → Bool
  | [] => true
  | (k, x) :: r => okS k && okS x && okKv r
end
theorem textFrom_le : ∀ (ts : List Str) (k : Nat) (acc : Str), (textFrom k acc ts).length ≤ acc.length + piled ts
  | [], k, acc => by show acc.length ≤ _; omega
  | t :: r, k, acc => by
    have ih := textFrom_le r (k + 1) (acc ++ (if k > 0 then ", " else "" : String) ++ t)
    have e : (acc ++ (if k > 0 then ", " else "" : String) ++ t).length ≤ acc.length + 2 + t.length := by
      rw [strLen_append, strLen_append]
      split
      · have : ((", " : String) : Str).length = 2 := rfl
        omega
      · have : (("" : String) : Str).length = 0 := rfl
        omega
    rw [piled_cons]
    show (textFrom (k + 1) _ r).length ≤ _
    omega
theorem listText_le (ts : List Str) : (listText ts).length ≤ piled ts + 2 := by
  have := textFrom_le ts 0 "["
  unfold listText
  rw [strLen_append]
  have h1 : (("[" : String) : Str).length = 1 := rfl
  have h2 : (("]" : String) : Str).length = 1 := rfl
  omega
theorem join_le (ts : List Str) : (Str.join ", " ts).length ≤ piled ts := by
  cases ts with
  | nil => exact Nat.le_of_eq rfl
  | cons t r =>
    have := join_length_add (t :: r) (by simp)
    omega
theorem tupleText_le (ts : List Str) : (tupleText ts).length ≤ piled ts + 3 := by
  have := join_le ts
  unfold tupleText
  rw [strLen_append, strLen_append]
  have h1 : (("(" : String) : Str).length = 1 := rfl
  have h2 : ((if ts.length == 1 then ",)" else ")" : String) : Str).length ≤ 2 := by
    split
    · exact Nat.le_of_eq rfl
    · exact Nat.le_succ_of_le (Nat.le_of_eq rfl)
  omega
theorem dictText_le (ts : List Str) : (dictText ts).length ≤ piled ts + 2 := by
  have := join_le ts
  unfold dictText
  rw [strLen_append, strLen_append]
  have h1 : (("{" : String) : Str).length = 1 := rfl
  have h2 : (("}" : String) : Str).length = 1 := rfl
  omega
theorem strOk_lt {x : Str} (h : PyData.strOk x = true) : ∀ c ∈ x.cps.toList, c < 16 ^ 8 := fun c hc => by
  unfold PyData.strOk at h
  rw [Array.all_eq_true_iff_forall_mem] at h
  have := of_decide_eq_true (h c (by simpa using hc))
  exact Nat.lt_trans this (by decide)
mutual
theorem shown_le : ∀ d : PyData, okS d = true → (PyData.shown d).length ≤ wt d
  | .none, _ => by decide
  | .bool b, _ => by cases b <;> decide
  | .int i, h => by
    have h : i.natAbs.log2 < 1920 := of_decide_eq_true h
    exact Nat.le_succ_of_le (int_text_len_1921 h)
  | .str x, h => StrLaws.reprText_len x (strOk_lt h)
  | .list xs, h => by
    have h1 := shownAll_le xs h
    have h2 := listText_le (PyData.shownAll xs)
    show (listText _).length ≤ wtAll xs + 3
    omega
  | .tuple xs, h => by
    have h1 := shownAll_le xs h
    have h2 := tupleText_le (PyData.shownAll xs)
    show (tupleText _).length ≤ wtAll xs + 3
    omega
  | .dict kvs, h => by
    have h1 := shownKv_le kvs h
    have h2 := dictText_le (PyData.shownKv kvs)
    show (dictText _).length ≤ wtKv kvs + 3
    omega
theorem shownAll_le : ∀ xs : List PyData, okAll xs = true → piled (PyData.shownAll xs) ≤ wtAll xs
  | [], _ => Nat.le_refl _
  | x :: r, h => by
    have h := (Bool.and_eq_true_iff.mp h)
    have h1 := shown_le x h.1
    have h2 := shownAll_le r h.2
    show piled (PyData.shown x :: PyData.shownAll r) ≤ wt x + 2 + wtAll r
    rw [piled_cons]
    omega
theorem shownKv_le : ∀ kvs : List (PyData × PyData), okKv kvs = true → piled (PyData.shownKv kvs) ≤ wtKv kvs
  | [], _ => Nat.le_refl _
  | (k, x) :: r, h => by
    have h := (Bool.and_eq_true_iff.mp h)
    have h0 := (Bool.and_eq_true_iff.mp h.1)
    have h1 := shown_le k h0.1
    have h3 := shown_le x h0.2
    have h2 := shownKv_le r h.2
    show piled ((PyData.shown k ++ ": " ++ PyData.shown x) :: PyData.shownKv r) ≤ wt k + wt x + 4 + wtKv r
    rw [piled_cons, strLen_append, strLen_append]
    have h4 : ((": " : String) : Str).length = 2 := rfl
    omega
end
mutual
theorem showable_of : ∀ d : PyData, okS d = true → PyData.showable d = true
  | .none, _ => rfl
  | .bool b, _ => rfl
  | .int i, h => h
  | .str x, h => rfl
  | .list xs, h => showableAll_of xs h
  | .tuple xs, h => showableAll_of xs h
  | .dict kvs, h => showableKv_of kvs h
theorem showableAll_of : ∀ xs : List PyData, okAll xs = true → PyData.showableAll xs = true
  | [], _ => rfl
  | x :: r, h => by
    have h := (Bool.and_eq_true_iff.mp h)
    exact Bool.and_eq_true_iff.mpr ⟨showable_of x h.1, showableAll_of r h.2⟩
theorem showableKv_of : ∀ kvs : List (PyData × PyData), okKv kvs = true → PyData.showableKv kvs = true
  | [], _ => rfl
  | (k, x) :: r, h => by
    have h := (Bool.and_eq_true_iff.mp h)
    have h0 := (Bool.and_eq_true_iff.mp h.1)
    exact Bool.and_eq_true_iff.mpr ⟨Bool.and_eq_true_iff.mpr ⟨showable_of k h0.1, showable_of x h0.2⟩, showableKv_of r h.2⟩
end
/-- repr tells it -/
def Fine (d : PyData) : Prop := okS d = true ∧ d.depth ≤ 64 ∧ wt d ≤ 16777216
theorem repr_fine {S : Store} {d : PyData} (h : Fine d) : bRepr S [.p d] = some (.p (.str d.shown), S) := by
  obtain ⟨h1, h2, h3⟩ := h
  show (if d.showable = true ∧ d.depth ≤ 64 ∧ d.shown.length ≤ sizeLine then some (D.p (.str d.shown), S) else none) = _
  rw [if_pos ⟨showable_of d h1, h2, Nat.le_trans (shown_le d h1) h3⟩]
theorem strOk_of (s : String) : PyData.strOk (Str.ofString s) = true := by
  unfold PyData.strOk
  rw [Array.all_eq_true_iff_forall_mem]
  intro c hc
  have hc : c ∈ (Str.ofString s).cps.toList := by simpa using hc
  rw [PyProof.Rows.signs_ofString] at hc
  obtain ⟨z, _, rfl⟩ := List.mem_map.mp hc
  have := z.valid
  rw [decide_eq_true_eq]
  rcases this with h | h
  · exact Nat.lt_trans h (by decide)
  · exact h.2
theorem log_small {i : Int} (h : i.natAbs < 2 ^ 1920) : i.natAbs.log2 < 1920 := by
  by_cases h0 : i.natAbs = 0
  · rw [h0]; decide
  · exact (Nat.log2_lt h0).mpr h

/-! ### loops with an invariant -/
def kTurn (body : MS) (r : EnvI × Store) : RS0 := body r.1 r.2
@[simp] theorem kTurn_e (body : MS) (ev : EnvI) (S : Store) : kTurn body (ev, S) = body ev S := rfl
theorem forL_inv {xs : List D} {g : MG} {body : MS} (Inv : Nat → EnvI → Store → Prop) (step : ∀ (i : Nat) (d : D) (ev : EnvI) (S : Store), xs[i]? = some d → Inv i ev S → ∃ ev2 S2, (g d ev S).bind (kTurn body) = some (.nx, ev2, S2) ∧ Inv (i + 1) ev2 S2) :
    ∀ (k i : Nat) (ev : EnvI) (S : Store), xs.length - i < k → i ≤ xs.length → Inv i ev S → ∃ ev' S', forLoop (srcL xs) g body k i ev S = some (.nx, ev', S') ∧ Inv xs.length ev' S'
  | 0, i, ev, S, h, _, _ => by omega
  | k + 1, i, ev, S, h, hi, q => by
    cases e : xs[i]? with
    | none =>
      have : xs.length ≤ i := List.getElem?_eq_none_iff.mp e
      obtain rfl : i = xs.length := by omega
      refine ⟨ev, S, ?_, q⟩
      show (some xs[xs.length]?).bind _ = _
      rw [e]; rfl
    | some d =>
      have hl : i < xs.length := (List.getElem?_eq_some_iff.mp e).1
      obtain ⟨ev2, S2, h12, h3⟩ := step i d ev S e q
      obtain ⟨⟨ev1, S1⟩, h1, h2⟩ := bind_some h12
      have h2 : body ev1 S1 = _ := h2
      obtain ⟨ev', S', h4, h5⟩ := forL_inv Inv step k (i + 1) ev2 S2 (by omega) hl h3
      refine ⟨ev', S', ?_, h5⟩
      show (some xs[i]?).bind _ = _
      rw [e]
      show (g d ev S).bind _ = _
      rw [h1]
      show (body ev1 S1).bind _ = _
      rw [h2]
      exact h4
theorem forN_inv {lo : Int} {n : Nat} {g : MG} {body : MS} (Inv : Nat → EnvI → Store → Prop) (step : ∀ (i : Nat) (ev : EnvI) (S : Store), i < n → Inv i ev S → ∃ ev2 S2, (g (.p (.int (lo + i))) ev S).bind (kTurn body) = some (.nx, ev2, S2) ∧ Inv (i + 1) ev2 S2) :
    ∀ (k i : Nat) (ev : EnvI) (S : Store), n - i < k → i ≤ n → Inv i ev S → ∃ ev' S', forLoop (srcN lo n) g body k i ev S = some (.nx, ev', S') ∧ Inv n ev' S'
  | 0, i, ev, S, h, _, _ => by omega
  | k + 1, i, ev, S, h, hi, q => by
    by_cases hl : i < n
    · obtain ⟨ev2, S2, h12, h3⟩ := step i ev S hl q
      obtain ⟨⟨ev1, S1⟩, h1, h2⟩ := bind_some h12
      have h2 : body ev1 S1 = _ := h2
      obtain ⟨ev', S', h4, h5⟩ := forN_inv Inv step k (i + 1) ev2 S2 (by omega) hl h3
      refine ⟨ev', S', ?_, h5⟩
      show (some (if i < n then some (D.p (.int (lo + i))) else none)).bind _ = _
      rw [if_pos hl]
      show (g _ ev S).bind _ = _
      rw [h1]
      show (body ev1 S1).bind _ = _
      rw [h2]
      exact h4
    · obtain rfl : i = n := by omega
      refine ⟨ev, S, ?_, q⟩
      show (some (if i < i then some (D.p (.int (lo + i))) else none)).bind _ = _
      rw [if_neg hl]; rfl
def kFor (L : Nat) (g : MG) (b : MS) (ev : EnvI) (r : Src × Store) : RS0 := forLoop r.1 g b L 0 ev r.2
@[simp] theorem kFor_e (L : Nat) (g : MG) (b : MS) (ev : EnvI) (f : Src) (S : Store) : kFor L g b ev (f, S) = forLoop f g b L 0 ev S := rfl
@[simp] theorem sFor_e (L : Nat) (mi : MIt) (g : MG) (b : MS) (ev : EnvI) (S : Store) : sFor L mi g b ev S = (mi ev S).bind (kFor L g b ev) := rfl
def kR1 (r : D × Store) : Option (Src × Store) := match r.1 with
  | .p (.int j) => if j.natAbs < 2 ^ 62 then some (srcN 0 j.toNat, r.2) else none
  | _ => none
@[simp] theorem kR1_e (S : Store) (j : Int) : kR1 (.p (.int j), S) = if j.natAbs < 4611686018427387904 then some (srcN 0 j.toNat, S) else none := rfl
@[simp] theorem mRng1_e (a : M) (ev : EnvI) (S : Store) : mRng1 a ev S = (a ev S).bind kR1 := rfl
def kR3 (x : D) (r : D × Store) : Option (Src × Store) := rng2 r.2 x r.1
@[simp] theorem kR3_e (S : Store) (i j : Int) : kR3 (.p (.int i)) (.p (.int j), S) = if i.natAbs < 4611686018427387904 ∧ j.natAbs < 4611686018427387904 then some (srcN i (j - i).toNat, S) else none := rfl
def kR2 (b : M) (ev : EnvI) (r : D × Store) : Option (Src × Store) := (b ev r.2).bind (kR3 r.1)
@[simp] theorem kR2_e (b : M) (ev : EnvI) (S : Store) (x : D) : kR2 b ev (x, S) = (b ev S).bind (kR3 x) := rfl
@[simp] theorem mRng2_e (a b : M) (ev : EnvI) (S : Store) : mRng2 a b ev S = (a ev S).bind (kR2 b ev) := rfl
theorem cut_all {α : Type} {xs : List α} {n : Nat} (h : xs.length ≤ n) : cutD xs none (some (n : Int)) = xs := by
  unfold cutD
  rw [HT.sIx_none, HT.sIx_nat, Nat.min_eq_right h]
  simp
theorem ix_list {S : Store} {l : List PyData} {r : Int} (h0 : 0 ≤ r) (h1 : r < l.length) : ∃ x, x ∈ l ∧ ixI S (.p (.list l)) (.p (.int r)) = some (.p x) := by
  have hl : r.toNat < l.length := by omega
  refine ⟨l[r.toNat], List.getElem_mem hl, ?_⟩
  show atI (l.map D.p) r = _
  unfold atI ixN
  rw [if_pos h0, List.length_map, if_pos h1]
  show (l.map D.p)[r.toNat]? = _
  rw [List.getElem?_map, List.getElem?_eq_getElem hl]; rfl
section
variable (ev : EnvI) (S : Store) (x : D) (key : Key)
def kMp4 (key : Key) (d : D) (r : List (Key × D) × Store) : Option (List (Key × D) × Store) := some ((key, d) :: r.1, r.2)
@[simp] theorem kMp4_e (l : List (Key × D)) : kMp4 key x (l, S) = some ((key, x) :: l, S) := rfl
def kMp3 (m : Mp) (ev : EnvI) (key : Key) (r : D × Store) : Option (List (Key × D) × Store) := (m ev r.2).bind (kMp4 key r.1)
@[simp] theorem kMp3_e (m : Mp) : kMp3 m ev key (x, S) = (m ev S).bind (kMp4 key x) := rfl
def kMp2 (v : M) (m : Mp) (ev : EnvI) (S : Store) (key : Key) : Option (List (Key × D) × Store) := (v ev S).bind (kMp3 m ev key)
@[simp] theorem kMp2_e (v : M) (m : Mp) : kMp2 v m ev S key = (v ev S).bind (kMp3 m ev key) := rfl
def kMp1 (v : M) (m : Mp) (ev : EnvI) (r : D × Store) : Option (List (Key × D) × Store) := match r.1 with
  | .p y => (keyP y).bind (kMp2 v m ev r.2)
  | _ => none
@[simp] theorem kMp1_e (v : M) (m : Mp) (y : PyData) : kMp1 v m ev (.p y, S) = (keyP y).bind (kMp2 v m ev S) := rfl
@[simp] theorem mpCons_e (k v : M) (m : Mp) : mpCons k v m ev S = (k ev S).bind (kMp1 v m ev) := by
  unfold mpCons
  congr; funext r
  obtain ⟨d, S1⟩ := r
  cases d with
  | p y =>
    show (keyP y).bind _ = (keyP y).bind _
    congr; funext q
    unfold kMp2
    congr; funext t
    unfold kMp3
    cases m ev t.2 <;> rfl
  | _ => rfl
@[simp] theorem key_s (z : Str) : keyP (.str z) = some (.inr z) := rfl
@[simp] theorem key_i (z : Int) : keyP (.int z) = some (.inl z) := rfl
@[simp] theorem src_l (xs : List PyData) : srcOf S (.p (.list xs)) = some (srcL (xs.map .p)) := rfl
@[simp] theorem src_t (xs : List PyData) : srcOf S (.p (.tuple xs)) = some (srcL (xs.map .p)) := rfl
@[simp] theorem lst_l (xs : List PyData) : lstOf S (.p (.list xs)) = some (xs.map .p) := rfl
@[simp] theorem bList_l (xs : List PyData) : bList false S [.p (.list xs)] = if xs.length ≤ sizeLine then some (.p (.list xs), S) else none := by
  show mkL false (xs.map D.p) S = _
  unfold mkL
  rw [List.length_map]
  split
  · have : allP (xs.map D.p) = some xs := by
      induction xs with
      | nil => rfl
      | cons y r ih => simp only [List.map_cons, allP, ih (by simp only [List.length_cons] at *; omega)]; rfl
    simp [this]
  · rfl
@[simp] theorem len_l (xs : List PyData) : bLen S [.p (.list xs)] = some (.p (.int xs.length), S) := by
  show some (D.p (.int ((xs.map D.p).length : Nat)), S) = _
  rw [List.length_map]
@[simp] theorem len_t (xs : List PyData) : bLen S [.p (.tuple xs)] = some (.p (.int xs.length), S) := by
  show some (D.p (.int ((xs.map D.p).length : Nat)), S) = _
  rw [List.length_map]
end
@[simp] theorem isi_non_bl (S : Store)  : bIsi S [.p .none, .ty .bl] = some (.p (.bool false), S) := rfl
@[simp] theorem isi_non_int (S : Store)  : bIsi S [.p .none, .ty .int] = some (.p (.bool false), S) := rfl
@[simp] theorem isi_non_str (S : Store)  : bIsi S [.p .none, .ty .str] = some (.p (.bool false), S) := rfl
@[simp] theorem isi_non_lst (S : Store)  : bIsi S [.p .none, .ty .lst] = some (.p (.bool false), S) := rfl
@[simp] theorem isi_non_tup (S : Store)  : bIsi S [.p .none, .ty .tup] = some (.p (.bool false), S) := rfl
@[simp] theorem isi_non_dct (S : Store)  : bIsi S [.p .none, .ty .dct] = some (.p (.bool false), S) := rfl
@[simp] theorem isi_bl_bl (S : Store) (b : Bool) : bIsi S [.p (.bool b), .ty .bl] = some (.p (.bool true), S) := rfl
@[simp] theorem isi_bl_int (S : Store) (b : Bool) : bIsi S [.p (.bool b), .ty .int] = some (.p (.bool true), S) := rfl
@[simp] theorem isi_bl_str (S : Store) (b : Bool) : bIsi S [.p (.bool b), .ty .str] = some (.p (.bool false), S) := rfl
@[simp] theorem isi_bl_lst (S : Store) (b : Bool) : bIsi S [.p (.bool b), .ty .lst] = some (.p (.bool false), S) := rfl
@[simp] theorem isi_bl_tup (S : Store) (b : Bool) : bIsi S [.p (.bool b), .ty .tup] = some (.p (.bool false), S) := rfl
@[simp] theorem isi_bl_dct (S : Store) (b : Bool) : bIsi S [.p (.bool b), .ty .dct] = some (.p (.bool false), S) := rfl
@[simp] theorem isi_int_bl (S : Store) (i : Int) : bIsi S [.p (.int i), .ty .bl] = some (.p (.bool false), S) := rfl
@[simp] theorem isi_int_int (S : Store) (i : Int) : bIsi S [.p (.int i), .ty .int] = some (.p (.bool true), S) := rfl
@[simp] theorem isi_int_str (S : Store) (i : Int) : bIsi S [.p (.int i), .ty .str] = some (.p (.bool false), S) := rfl
@[simp] theorem isi_int_lst (S : Store) (i : Int) : bIsi S [.p (.int i), .ty .lst] = some (.p (.bool false), S) := rfl
@[simp] theorem isi_int_tup (S : Store) (i : Int) : bIsi S [.p (.int i), .ty .tup] = some (.p (.bool false), S) := rfl
@[simp] theorem isi_int_dct (S : Store) (i : Int) : bIsi S [.p (.int i), .ty .dct] = some (.p (.bool false), S) := rfl
@[simp] theorem isi_str_bl (S : Store) (z : Str) : bIsi S [.p (.str z), .ty .bl] = some (.p (.bool false), S) := rfl
@[simp] theorem isi_str_int (S : Store) (z : Str) : bIsi S [.p (.str z), .ty .int] = some (.p (.bool false), S) := rfl
@[simp] theorem isi_str_str (S : Store) (z : Str) : bIsi S [.p (.str z), .ty .str] = some (.p (.bool true), S) := rfl
@[simp] theorem isi_str_lst (S : Store) (z : Str) : bIsi S [.p (.str z), .ty .lst] = some (.p (.bool false), S) := rfl
@[simp] theorem isi_str_tup (S : Store) (z : Str) : bIsi S [.p (.str z), .ty .tup] = some (.p (.bool false), S) := rfl
@[simp] theorem isi_str_dct (S : Store) (z : Str) : bIsi S [.p (.str z), .ty .dct] = some (.p (.bool false), S) := rfl
@[simp] theorem isi_lst_bl (S : Store) (l : List PyData) : bIsi S [.p (.list l), .ty .bl] = some (.p (.bool false), S) := rfl
@[simp] theorem isi_lst_int (S : Store) (l : List PyData) : bIsi S [.p (.list l), .ty .int] = some (.p (.bool false), S) := rfl
@[simp] theorem isi_lst_str (S : Store) (l : List PyData) : bIsi S [.p (.list l), .ty .str] = some (.p (.bool false), S) := rfl
@[simp] theorem isi_lst_lst (S : Store) (l : List PyData) : bIsi S [.p (.list l), .ty .lst] = some (.p (.bool true), S) := rfl
@[simp] theorem isi_lst_tup (S : Store) (l : List PyData) : bIsi S [.p (.list l), .ty .tup] = some (.p (.bool false), S) := rfl
@[simp] theorem isi_lst_dct (S : Store) (l : List PyData) : bIsi S [.p (.list l), .ty .dct] = some (.p (.bool false), S) := rfl
@[simp] theorem isi_tup_bl (S : Store) (l : List PyData) : bIsi S [.p (.tuple l), .ty .bl] = some (.p (.bool false), S) := rfl
@[simp] theorem isi_tup_int (S : Store) (l : List PyData) : bIsi S [.p (.tuple l), .ty .int] = some (.p (.bool false), S) := rfl
@[simp] theorem isi_tup_str (S : Store) (l : List PyData) : bIsi S [.p (.tuple l), .ty .str] = some (.p (.bool false), S) := rfl
@[simp] theorem isi_tup_lst (S : Store) (l : List PyData) : bIsi S [.p (.tuple l), .ty .lst] = some (.p (.bool false), S) := rfl
@[simp] theorem isi_tup_tup (S : Store) (l : List PyData) : bIsi S [.p (.tuple l), .ty .tup] = some (.p (.bool true), S) := rfl
@[simp] theorem isi_tup_dct (S : Store) (l : List PyData) : bIsi S [.p (.tuple l), .ty .dct] = some (.p (.bool false), S) := rfl
@[simp] theorem isi_dct_bl (S : Store) (kv : List (PyData × PyData)) : bIsi S [.p (.dict kv), .ty .bl] = some (.p (.bool false), S) := rfl
@[simp] theorem isi_dct_int (S : Store) (kv : List (PyData × PyData)) : bIsi S [.p (.dict kv), .ty .int] = some (.p (.bool false), S) := rfl
@[simp] theorem isi_dct_str (S : Store) (kv : List (PyData × PyData)) : bIsi S [.p (.dict kv), .ty .str] = some (.p (.bool false), S) := rfl
@[simp] theorem isi_dct_lst (S : Store) (kv : List (PyData × PyData)) : bIsi S [.p (.dict kv), .ty .lst] = some (.p (.bool false), S) := rfl
@[simp] theorem isi_dct_tup (S : Store) (kv : List (PyData × PyData)) : bIsi S [.p (.dict kv), .ty .tup] = some (.p (.bool false), S) := rfl
@[simp] theorem isi_dct_dct (S : Store) (kv : List (PyData × PyData)) : bIsi S [.p (.dict kv), .ty .dct] = some (.p (.bool true), S) := rfl
@[simp] theorem cmpI_in (S : Store) (x y : D) : cmpI .In S x y = PI.memI S x y := rfl
@[simp] theorem eq_ss (S : Store) (a b : Str) : eqI S (.p (.str a)) (.p (.str b)) = some (decide (a = b)) := rfl
@[simp] theorem eq_is (S : Store) (i : Int) (b : Str) (hb : PyData.strOk b = true) : eqI S (.p (.int i)) (.p (.str b)) = some false := by
  show eqG S (.p (.int i)) (.p (.str b)) = _
  show (if SeqAt.shaped (.int i) = true ∧ SeqAt.shaped (.str b) = true then _ else none) = _
  rw [if_pos ⟨rfl, by unfold SeqAt.shaped; simp [PyData.canLay0, hb, PyData.depth]⟩]
  rfl
@[simp] theorem ok_of (s : String) : PyData.strOk (Str.ofString s) = true := strOk_of s
@[simp] theorem cat_l (S : Store) (bx : Bool) (a b : List PyData) : PI.binI bx .Add S (.p (.list a)) (.p (.list b)) = mkL bx (a.map .p ++ b.map .p) S := rfl
@[simp] theorem cat_t (S : Store) (bx : Bool) (a b : List PyData) : PI.binI bx .Add S (.p (.tuple a)) (.p (.tuple b)) = mkT (a ++ b) S := rfl
@[simp] theorem mul_l (S : Store) (bx : Bool) (a : List PyData) (k : Int) : PI.binI bx .Mult S (.p (.list a)) (.p (.int k)) = if -9223372036854775808 ≤ k ∧ k < 9223372036854775808 then mkL bx (List.replicate k.toNat (a.map .p)).flatten S else none := rfl
@[simp] theorem mul_t (S : Store) (bx : Bool) (a : List PyData) (k : Int) : PI.binI bx .Mult S (.p (.tuple a)) (.p (.int k)) = if a ≠ [] ∧ 2 ≤ k ∧ k ≤ 1000 ∧ a.length ≤ 1000 then some (.p (.tuple (List.replicate k.toNat a).flatten), S) else none := rfl
instance (d : PyData) : Decidable (Fine d) := by unfold Fine; infer_instance
end PI
set_option maxHeartbeats 1000000
/-! Own text: the deck in the store: its cells at 0, itself at 1, other boxes behind. -/
namespace PI
open PySem PySem.Spec L2
open PyProof.Rows hiding St

def DS (xs : List Int) (mx dr : Int) (tl : Store) : Store := .lst (xs.map fun i => .p (.int i)) :: .dct [(.inr "left", .ref 0), (.inr "mixed", .p (.int mx)), (.inr "draws", .p (.int dr))] :: tl
theorem allP_ints : ∀ xs : List Int, allP (xs.map fun i => D.p (.int i)) = some (xs.map PyData.int)
  | [] => rfl
  | x :: r => by simp [allP, allP_ints r]
section
variable (xs : List Int) (mx dr i : Int) (tl : Store)
@[simp] theorem ds_left : ixI (DS xs mx dr tl) (.ref 1) (.p (.str "left")) = some (.ref 0) := rfl
@[simp] theorem ds_mixed : ixI (DS xs mx dr tl) (.ref 1) (.p (.str "mixed")) = some (.p (.int mx)) := rfl
@[simp] theorem ds_draws : ixI (DS xs mx dr tl) (.ref 1) (.p (.str "draws")) = some (.p (.int dr)) := rfl
@[simp] theorem ds_setd : setI (DS xs mx dr tl) (.ref 1) (.p (.str "draws")) (.p (.int i)) = some (DS xs mx i tl) := by
  have h : (3 : Nat) < sizeLine := by decide
  show (if 3 < sizeLine then _ else none) = _
  rw [if_pos h]; rfl
@[simp] theorem ds_setm : setI (DS xs mx dr tl) (.ref 1) (.p (.str "mixed")) (.p (.int i)) = some (DS xs i dr tl) := by
  have h : (3 : Nat) < sizeLine := by decide
  show (if 3 < sizeLine then _ else none) = _
  rw [if_pos h]; rfl
@[simp] theorem ds_tn : tnOf (DS xs mx dr tl) (.ref 0) = some .lst := rfl
@[simp] theorem ds_pop : mPop (DS (xs ++ [i]) mx dr tl) (.ref 0) [] = some (.p (.int i), DS xs mx dr tl) := by
  unfold mPop DS
  simp
theorem ds_app (h : xs.length < 64) : mAppend (DS xs mx dr tl) (.ref 0) [.p (.int i)] = some (.p .none, DS (xs ++ [i]) mx dr tl) := by
  have : xs.length < sizeLine := Nat.lt_trans h (by decide)
  unfold mAppend DS
  simp [this]
@[simp] theorem ds_none : eqI (DS [] mx dr tl) (.ref 0) (.p (.list [])) = some true := rfl
@[simp] theorem ds_some : eqI (DS (xs ++ [i]) mx dr tl) (.ref 0) (.p (.list [])) = some false := by
  cases xs <;> rfl
end
section
variable (m : Int) (x : Int)
theorem mod_lo (h : 0 < m) : (-18446744073709551616 < x % m) = True := eq_true (by have := Int.emod_nonneg x (Int.ne_of_gt h); omega)
theorem mod_hi (h : 0 < m) (h2 : m < 18446744073709551616) : (x % m < 18446744073709551616) = True := eq_true (by have := Int.emod_lt_of_pos x h; omega)
@[simp] theorem mod_lo1 : (-18446744073709551616 < x % 2147483647) = True := mod_lo _ x (by decide)
@[simp] theorem mod_hi1 : (x % 2147483647 < 18446744073709551616) = True := mod_hi _ x (by decide) (by decide)
@[simp] theorem mod_lo2 : (-18446744073709551616 < x % 2305843009213693951) = True := mod_lo _ x (by decide)
@[simp] theorem mod_hi2 : (x % 2305843009213693951 < 18446744073709551616) = True := mod_hi _ x (by decide) (by decide)
end
end PI
set_option maxHeartbeats 1000000
/-! Own text: comprehensions worked out with an invariant. -/
namespace PI
open PySem PySem.Spec L2
open PyProof.Rows hiding St

abbrev RL0 := Option (Option D × Store)
def kL4 (r : D × Store) : RL0 := some (some r.1, r.2)
@[simp] theorem kL4_e (y : D) (S : Store) : kL4 (y, S) = some (some y, S) := rfl
def kL3 (elt : M) (ev : EnvI) (S : Store) (b : Bool) : RL0 := if b then (elt ev S).bind kL4 else some (none, S)
@[simp] theorem kL3_t (elt : M) (ev : EnvI) (S : Store) : kL3 elt ev S true = (elt ev S).bind kL4 := rfl
@[simp] theorem kL3_f (elt : M) (ev : EnvI) (S : Store) : kL3 elt ev S false = some (none, S) := rfl
theorem kL3_d (elt : M) (ev : EnvI) (S : Store) (p : Prop) [Decidable p] : kL3 elt ev S (decide p) = if p then (elt ev S).bind kL4 else some (none, S) := by
  by_cases h : p <;> simp [h]
def kL2 (elt : M) (ev : EnvI) (r : D × Store) : RL0 := (isTru r.1).bind (kL3 elt ev r.2)
@[simp] theorem kL2_e (elt : M) (ev : EnvI) (x : D) (S : Store) : kL2 elt ev (x, S) = (isTru x).bind (kL3 elt ev S) := rfl
def kL1 (c elt : M) (r : EnvI × Store) : RL0 := (c r.1 r.2).bind (kL2 elt r.1)
@[simp] theorem kL1_e (c elt : M) (ev : EnvI) (S : Store) : kL1 c elt (ev, S) = (c ev S).bind (kL2 elt ev) := rfl
/-- one turn: an item or none -/
def lcTurn (g : MG) (c elt : M) (ev : EnvI) (d : D) (S : Store) : RL0 := (g d ev S).bind (kL1 c elt)
def addO (acc : List D) : Option D → List D
  | some y => acc ++ [y]
  | none => acc
@[simp] theorem addO_s (acc : List D) (y : D) : addO acc (some y) = acc ++ [y] := rfl
@[simp] theorem addO_n (acc : List D) : addO acc none = acc := rfl
theorem lc_step {src : Src} {g : MG} {c elt : M} {ev : EnvI} {k i : Nat} {acc : List D} {S S2 : Store} {d : D} {o : Option D} (h : src i S = some (some d)) (t : lcTurn g c elt ev d S = some (o, S2)) (hl : acc.length < sizeLine) :
    lcLoop src g c elt ev (k + 1) i acc S = lcLoop src g c elt ev k (i + 1) (addO acc o) S2 := by
  obtain ⟨⟨ev1, S1⟩, h1, t⟩ := bind_some t
  obtain ⟨⟨x, S3⟩, h2, t⟩ := bind_some t
  obtain ⟨b, h3, t⟩ := bind_some t
  have h2 : c ev1 S1 = some (x, S3) := h2
  have h3 : isTru x = some b := h3
  show (src i S).bind _ = _
  rw [h]
  show (g d ev S).bind _ = _
  rw [h1]
  show (c ev1 S1).bind _ = _
  rw [h2]
  show (isTru x).bind _ = _
  rw [h3]
  cases b with
  | false => cases t; rfl
  | true =>
    obtain ⟨⟨y, S4⟩, h4, t⟩ := bind_some (show (elt ev1 S3).bind kL4 = some (o, S2) from t)
    cases t
    show (elt ev1 S3).bind _ = _
    rw [h4]
    show (if acc.length < sizeLine then _ else none) = _
    rw [if_pos hl]; rfl
theorem addO_len (acc : List D) (o : Option D) : (addO acc o).length ≤ acc.length + 1 := by
  cases o <;> simp [addO]
theorem lcL_inv {xs : List D} {g : MG} {c elt : M} {ev : EnvI} (Inv : Nat → List D → Store → Prop) (hz : xs.length ≤ 16777215)
    (step : ∀ (i : Nat) (d : D) (acc : List D) (S : Store), xs[i]? = some d → Inv i acc S → ∃ o S2, lcTurn g c elt ev d S = some (o, S2) ∧ Inv (i + 1) (addO acc o) S2) :
    ∀ (k i : Nat) (acc : List D) (S : Store), xs.length - i < k → i ≤ xs.length → acc.length ≤ i → Inv i acc S → ∃ acc' S', lcLoop (srcL xs) g c elt ev k i acc S = some (acc', S') ∧ acc'.length ≤ xs.length ∧ Inv xs.length acc' S'
  | 0, i, acc, S, h, _, _, _ => by omega
  | k + 1, i, acc, S, h, hi, ha, q => by
    cases e : xs[i]? with
    | none =>
      have : xs.length ≤ i := List.getElem?_eq_none_iff.mp e
      obtain rfl : i = xs.length := by omega
      refine ⟨acc, S, ?_, ha, q⟩
      show (some xs[xs.length]?).bind _ = _
      rw [e]; rfl
    | some d =>
      have hl : i < xs.length := (List.getElem?_eq_some_iff.mp e).1
      obtain ⟨o, S2, h1, h2⟩ := step i d acc S e q
      have hal := addO_len acc o
      obtain ⟨acc', S', h3, h4, h5⟩ := lcL_inv Inv hz step k (i + 1) (addO acc o) S2 (by omega) hl (by omega) h2
      refine ⟨acc', S', ?_, h4, h5⟩
      rw [lc_step (d := d) (by show some xs[i]? = _; rw [e]) h1 (by rw [show sizeLine = 16777216 from rfl]; omega)]
      exact h3
theorem lcN_inv {lo : Int} {n : Nat} {g : MG} {c elt : M} {ev : EnvI} (Inv : Nat → List D → Store → Prop) (hz : n ≤ 16777215)
    (step : ∀ (i : Nat) (acc : List D) (S : Store), i < n → Inv i acc S → ∃ o S2, lcTurn g c elt ev (.p (.int (lo + i))) S = some (o, S2) ∧ Inv (i + 1) (addO acc o) S2) :
    ∀ (k i : Nat) (acc : List D) (S : Store), n - i < k → i ≤ n → acc.length ≤ i → Inv i acc S → ∃ acc' S', lcLoop (srcN lo n) g c elt ev k i acc S = some (acc', S') ∧ acc'.length ≤ n ∧ Inv n acc' S'
  | 0, i, acc, S, h, _, _, _ => by omega
  | k + 1, i, acc, S, h, hi, ha, q => by
    by_cases hl : i < n
    · obtain ⟨o, S2, h1, h2⟩ := step i acc S hl q
      have hal := addO_len acc o
      obtain ⟨acc', S', h3, h4, h5⟩ := lcN_inv Inv hz step k (i + 1) (addO acc o) S2 (by omega) hl (by omega) h2
      refine ⟨acc', S', ?_, h4, h5⟩
      rw [lc_step (d := .p (.int (lo + i))) (by show some (if i < n then some (D.p (.int (lo + i))) else none) = _; rw [if_pos hl]) h1 (by rw [show sizeLine = 16777216 from rfl]; omega)]
      exact h3
    · obtain rfl : i = n := by omega
      refine ⟨acc, S, ?_, ha, q⟩
      show (some (if i < i then some (D.p (.int (lo + i))) else none)).bind _ = _
      rw [if_neg hl]; rfl
def kLc2 (bx : Bool) (r : List D × Store) : RD0 := mkL bx r.1 r.2
@[simp] theorem kLc2_e (bx : Bool) (l : List D) (S : Store) : kLc2 bx (l, S) = mkL bx l S := rfl
def kLc (L : Nat) (bx : Bool) (own : List Nat) (g : MG) (c elt : M) (ev : EnvI) (r : Src × Store) : RD0 := (lcLoop r.1 g c elt (wipeE ev own) L 0 [] r.2).bind (kLc2 bx)
@[simp] theorem kLc_e (L : Nat) (bx : Bool) (own : List Nat) (g : MG) (c elt : M) (ev : EnvI) (f : Src) (S : Store) : kLc L bx own g c elt ev (f, S) = (lcLoop f g c elt (wipeE ev own) L 0 [] S).bind (kLc2 bx) := rfl
@[simp] theorem mLc_e (L : Nat) (bx : Bool) (mi : MIt) (own : List Nat) (g : MG) (c elt : M) (ev : EnvI) (S : Store) : mLc L bx mi own g c elt ev S = (mi ev S).bind (kLc L bx own g c elt ev) := rfl
end PI
set_option maxHeartbeats 1000000
/-! Own text: any source that tells a list's items; enumerate, zip. -/
namespace PI
open PySem PySem.Spec L2
open PyProof.Rows hiding St

/-- tells just these items, whatever the boxes are -/
def SrcIs (f : Src) (xs : List D) : Prop := ∀ (i : Nat) (S : Store), i ≤ xs.length → f i S = some xs[i]?
theorem srcL_is (xs : List D) : SrcIs (srcL xs) xs := fun _ _ _ => rfl
def pairsI (xs : List PyData) : List D := xs.mapIdx fun i x => .p (.tuple [.int (i : Nat), x])
theorem srcT_is (xs : List PyData) : SrcIs (srcT xs) (pairsI xs) := fun i S hi => by
  unfold pairsI at hi ⊢
  rw [List.length_mapIdx] at hi
  unfold srcT
  rw [if_pos hi, List.getElem?_mapIdx]
def pairsZ (xs ys : List PyData) : List D := (xs.zip ys).map fun p => .p (.tuple [p.1, p.2])
theorem srcZ_is (xs ys : List PyData) : SrcIs (srcZp (srcL (xs.map .p)) (srcL (ys.map .p))) (pairsZ xs ys) := fun i S hi => by
  unfold pairsZ at hi ⊢
  unfold srcZp srcL
  simp only [List.getElem?_map, List.zip, List.getElem?_zipWith]
  cases hx : xs[i]? with
  | none => cases hy : ys[i]? <;> rfl
  | some x => cases hy : ys[i]? <;> rfl
theorem forS_inv {f : Src} {xs : List D} (hf : SrcIs f xs) {g : MG} {body : MS} (Inv : Nat → EnvI → Store → Prop) (step : ∀ (i : Nat) (d : D) (ev : EnvI) (S : Store), xs[i]? = some d → Inv i ev S → ∃ ev2 S2, (g d ev S).bind (kTurn body) = some (.nx, ev2, S2) ∧ Inv (i + 1) ev2 S2) :
    ∀ (k i : Nat) (ev : EnvI) (S : Store), xs.length - i < k → i ≤ xs.length → Inv i ev S → ∃ ev' S', forLoop f g body k i ev S = some (.nx, ev', S') ∧ Inv xs.length ev' S'
  | 0, i, ev, S, h, _, _ => by omega
  | k + 1, i, ev, S, h, hi, q => by
    cases e : xs[i]? with
    | none =>
      have : xs.length ≤ i := List.getElem?_eq_none_iff.mp e
      obtain rfl : i = xs.length := by omega
      refine ⟨ev, S, ?_, q⟩
      show (f xs.length S).bind _ = _
      rw [hf _ S hi, e]; rfl
    | some d =>
      have hl : i < xs.length := (List.getElem?_eq_some_iff.mp e).1
      obtain ⟨ev2, S2, h12, h3⟩ := step i d ev S e q
      obtain ⟨⟨ev1, S1⟩, h1, h2⟩ := bind_some h12
      have h2 : body ev1 S1 = _ := h2
      obtain ⟨ev', S', h4, h5⟩ := forS_inv hf Inv step k (i + 1) ev2 S2 (by omega) hl h3
      refine ⟨ev', S', ?_, h5⟩
      show (f i S).bind _ = _
      rw [hf i S hi, e]
      show (g d ev S).bind _ = _
      rw [h1]
      show (body ev1 S1).bind _ = _
      rw [h2]
      exact h4
theorem lcS_inv {f : Src} {xs : List D} (hf : SrcIs f xs) {g : MG} {c elt : M} {ev : EnvI} (Inv : Nat → List D → Store → Prop) (hz : xs.length ≤ 16777215)
    (step : ∀ (i : Nat) (d : D) (acc : List D) (S : Store), xs[i]? = some d → Inv i acc S → ∃ o S2, lcTurn g c elt ev d S = some (o, S2) ∧ Inv (i + 1) (addO acc o) S2) :
    ∀ (k i : Nat) (acc : List D) (S : Store), xs.length - i < k → i ≤ xs.length → acc.length ≤ i → Inv i acc S → ∃ acc' S', lcLoop f g c elt ev k i acc S = some (acc', S') ∧ acc'.length ≤ xs.length ∧ Inv xs.length acc' S'
  | 0, i, acc, S, h, _, _, _ => by omega
  | k + 1, i, acc, S, h, hi, ha, q => by
    cases e : xs[i]? with
    | none =>
      have : xs.length ≤ i := List.getElem?_eq_none_iff.mp e
      obtain rfl : i = xs.length := by omega
      refine ⟨acc, S, ?_, ha, q⟩
      show (f xs.length S).bind _ = _
      rw [hf _ S hi, e]; rfl
    | some d =>
      have hl : i < xs.length := (List.getElem?_eq_some_iff.mp e).1
      obtain ⟨o, S2, h1, h2⟩ := step i d acc S e q
      have hal := addO_len acc o
      obtain ⟨acc', S', h3, h4, h5⟩ := lcS_inv hf Inv hz step k (i + 1) (addO acc o) S2 (by omega) hl (by omega) h2
      refine ⟨acc', S', ?_, h4, h5⟩
      rw [lc_step (d := d) (by rw [hf i S hi, e]) h1 (by rw [show sizeLine = 16777216 from rfl]; omega)]
      exact h3
/-- a comprehension that changes no box: its items by functions -/
theorem lc_pure {f : Src} {xs : List D} (hf : SrcIs f xs) {g : MG} {c elt : M} {ev : EnvI} {S : Store} {L : Nat} (t : D → Option D) (hz : xs.length ≤ 16777215) (hL : xs.length < L) (step : ∀ d ∈ xs, lcTurn g c elt ev d S = some (t d, S)) :
    lcLoop f g c elt ev L 0 [] S = some (xs.filterMap t, S) := by
  obtain ⟨acc, S', h1, h2, h3, h4⟩ := lcS_inv hf (g := g) (c := c) (elt := elt) (ev := ev) (fun i acc S2 => S2 = S ∧ acc = (xs.take i).filterMap t) hz (fun i d acc S2 hd ⟨q1, q2⟩ => by
    subst q1 q2
    refine ⟨t d, S2, step d (List.mem_of_getElem? hd), rfl, ?_⟩
    rw [List.take_add_one, hd, List.filterMap_append]
    cases ht : t d <;> simp [addO, ht]) L 0 [] S (by omega) (Nat.zero_le _) (Nat.le_refl _) ⟨rfl, by simp⟩
  subst h3 h4
  rw [h1, List.take_length]
section
variable (ev : EnvI) (S : Store) (a b : M)
def kEn2 (S : Store) (f : Src) : Option (Src × Store) := some (f, S)
@[simp] theorem kEn2_e (f : Src) : kEn2 S f = some (f, S) := rfl
def kEn (r : D × Store) : Option (Src × Store) := (enSrc r.2 r.1).bind (kEn2 r.2)
@[simp] theorem kEn_e (x : D) : kEn (x, S) = (enSrc S x).bind (kEn2 S) := rfl
@[simp] theorem mEn_e : mEn a ev S = (a ev S).bind kEn := by
  unfold mEn
  congr; funext r
  unfold kEn
  cases enSrc r.2 r.1 <;> rfl
@[simp] theorem enSrc_t (xs : List PyData) : enSrc S (.p (.tuple xs)) = some (srcT xs) := rfl
def zpSrc (S : Store) (x y : D) : Option (Src × Store) := if (IsLst S x && IsLst S y) || (IsTup x && IsTup y) then (srcOf S x).bind fun f => (srcOf S y).map fun g => (srcZp f g, S) else none
def kZp2 (x : D) (r : D × Store) : Option (Src × Store) := zpSrc r.2 x r.1
@[simp] theorem kZp2_e (x y : D) : kZp2 x (y, S) = zpSrc S x y := rfl
def kZp1 (b : M) (ev : EnvI) (r : D × Store) : Option (Src × Store) := (b ev r.2).bind (kZp2 r.1)
@[simp] theorem kZp1_e (x : D) : kZp1 b ev (x, S) = (b ev S).bind (kZp2 x) := rfl
@[simp] theorem mZip_e : mZip a b ev S = (a ev S).bind (kZp1 b ev) := rfl
@[simp] theorem zp_tt (xs ys : List PyData) : zpSrc S (.p (.tuple xs)) (.p (.tuple ys)) = some (srcZp (srcL (xs.map .p)) (srcL (ys.map .p)), S) := rfl
@[simp] theorem zp_ll (xs ys : List PyData) : zpSrc S (.p (.list xs)) (.p (.list ys)) = some (srcZp (srcL (xs.map .p)) (srcL (ys.map .p)), S) := rfl
end
end PI
set_option maxHeartbeats 1000000
/-! Own text: all([.. for ..]), any([.. for ..]) in one step. -/
namespace PI
open PySem PySem.Spec L2
open PyProof.Rows hiding St

theorem blsP_map : ∀ bs : List Bool, blsP ((bs.map PyData.bool).map D.p) = some bs
  | [] => rfl
  | b :: r => by simp only [List.map_cons, blsP, blsP_map r]; rfl
theorem bAll_map (S : Store) (bs : List Bool) : bAll S [.p (.list (bs.map .bool))] = some (.p (.bool (bs.all id)), S) := by
  show (blsP ((bs.map PyData.bool).map D.p)).map _ = _
  rw [blsP_map]; rfl
theorem bAny_map (S : Store) (bs : List Bool) : bAny S [.p (.list (bs.map .bool))] = some (.p (.bool (bs.any id)), S) := by
  show (blsP ((bs.map PyData.bool).map D.p)).map _ = _
  rw [blsP_map]; rfl
theorem lc_bools {L : Nat} {mi : MIt} {own : List Nat} {g : MG} {c elt : M} {ev : EnvI} {S : Store} {f : Src} {xs : List D} (hmi : mi ev S = some (f, S)) (hf : SrcIs f xs) (t : D → Bool) (hz : xs.length ≤ 16777215) (hL : xs.length < L)
    (step : ∀ d ∈ xs, lcTurn g c elt (wipeE ev own) d S = some (some (.p (.bool (t d))), S)) : mLc L false mi own g c elt ev S = some (.p (.list ((xs.map t).map .bool)), S) := by
  have lc := lc_pure hf (g := g) (c := c) (elt := elt) (ev := wipeE ev own) (S := S) (L := L) (fun d => some (.p (.bool (t d)))) hz hL step
  have e : xs.filterMap (fun d => some (D.p (.bool (t d)))) = ((xs.map t).map PyData.bool).map D.p := by
    rw [List.map_map, List.map_map, ← List.filterMap_eq_map]; rfl
  rw [e] at lc
  rw [mLc_e, hmi]
  show (lcLoop f g c elt (wipeE ev own) L 0 [] S).bind _ = _
  rw [lc]
  show mkL false _ S = _
  unfold mkL
  rw [if_pos (by rw [List.length_map, List.length_map, List.length_map, show sizeLine = 16777216 from rfl]; omega), allP_map]
  rfl
theorem all_lc {L : Nat} {mi : MIt} {own : List Nat} {g : MG} {c elt : M} {ev : EnvI} {S : Store} {f : Src} {xs : List D} (hmi : mi ev S = some (f, S)) (hf : SrcIs f xs) (t : D → Bool) (hz : xs.length ≤ 16777215) (hL : xs.length < L)
    (step : ∀ d ∈ xs, lcTurn g c elt (wipeE ev own) d S = some (some (.p (.bool (t d))), S)) : mBlt bAll (mCons (mLc L false mi own g c elt) mNil) ev S = some (.p (.bool (xs.all t)), S) := by
  have h := lc_bools hmi hf t hz hL step
  rw [mBlt_e, mCons_e, h]
  show bAll S [.p (.list ((xs.map t).map .bool))] = _
  rw [bAll_map, List.all_map]; rfl
theorem any_lc {L : Nat} {mi : MIt} {own : List Nat} {g : MG} {c elt : M} {ev : EnvI} {S : Store} {f : Src} {xs : List D} (hmi : mi ev S = some (f, S)) (hf : SrcIs f xs) (t : D → Bool) (hz : xs.length ≤ 16777215) (hL : xs.length < L)
    (step : ∀ d ∈ xs, lcTurn g c elt (wipeE ev own) d S = some (some (.p (.bool (t d))), S)) : mBlt bAny (mCons (mLc L false mi own g c elt) mNil) ev S = some (.p (.bool (xs.any t)), S) := by
  have h := lc_bools hmi hf t hz hL step
  rw [mBlt_e, mCons_e, h]
  show bAny S [.p (.list ((xs.map t).map .bool))] = _
  rw [bAny_map, List.any_map]; rfl
theorem ix_tup {S : Store} {l : List PyData} {i : Nat} {x : PyData} (h : l[i]? = some x) : ixI S (.p (.tuple l)) (.p (.int (i : Nat))) = some (.p x) := by
  have hl : i < l.length := (List.getElem?_eq_some_iff.mp h).1
  show (atI l (i : Int)).map D.p = _
  unfold atI ixN
  rw [if_pos (by omega), if_pos (by omega)]
  show (l[((i : Nat) : Int).toNat]?).map D.p = _
  rw [Int.toNat_natCast, h]; rfl
theorem ix_lst {S : Store} {l : List PyData} {i : Nat} {x : PyData} (h : l[i]? = some x) : ixI S (.p (.list l)) (.p (.int (i : Nat))) = some (.p x) := by
  have hl : i < l.length := (List.getElem?_eq_some_iff.mp h).1
  show atI (l.map D.p) (i : Int) = _
  unfold atI ixN
  rw [if_pos (by omega), if_pos (by rw [List.length_map]; omega)]
  show (l.map D.p)[((i : Nat) : Int).toNat]? = _
  rw [Int.toNat_natCast, List.getElem?_map, h]; rfl
end PI
set_option maxHeartbeats 1000000
/-! Own text: what must hold behind a step (for drawn values: no witness has to be named). -/
namespace PI
open PySem PySem.Spec L2
open PyProof.Rows hiding St

def WP {α : Type} (o : Option α) (Q : α → Prop) : Prop := ∃ r, o = some r ∧ Q r
@[simp] theorem wp_some {α : Type} (r : α) (Q : α → Prop) : WP (some r) Q ↔ Q r := ⟨fun ⟨_, e, q⟩ => by cases e; exact q, fun q => ⟨r, rfl, q⟩⟩
@[simp] theorem wp_none {α : Type} (Q : α → Prop) : WP none Q ↔ False := ⟨fun ⟨_, e, _⟩ => (nomatch e), fun q => (False.elim q)⟩
@[simp] theorem wp_bind {α β : Type} (o : Option α) (f : α → Option β) (Q : β → Prop) : WP (o.bind f) Q ↔ WP o (fun r => WP (f r) Q) := by
  cases o with
  | none => simp
  | some r => simp
theorem WP.mono {α : Type} {o : Option α} {P Q : α → Prop} (h : WP o P) (k : ∀ r, P r → Q r) : WP o Q := let ⟨r, e, p⟩ := h; ⟨r, e, k r p⟩
theorem wp_ite {α : Type} {p : Prop} [Decidable p] {a b : Option α} {Q : α → Prop} (h1 : p → WP a Q) (h2 : ¬p → WP b Q) : WP (if p then a else b) Q := by
  by_cases h : p
  · rw [if_pos h]; exact h1 h
  · rw [if_neg h]; exact h2 h
theorem wp_eq {α : Type} {o : Option α} {Q : α → Prop} {r : α} (e : o = some r) (q : Q r) : WP o Q := ⟨r, e, q⟩

/-! ### loops -/
/-- what must hold behind a turn of a loop -/
def Behind (Inv : EnvI → Store → Prop) (R : Fl × EnvI × Store → Prop) (q : Fl × EnvI × Store) : Prop := match q.1 with
  | .nx => Inv q.2.1 q.2.2
  | .ct => Inv q.2.1 q.2.2
  | .bk => R (.nx, q.2.1, q.2.2)
  | .rt d => R (.rt d, q.2.1, q.2.2)
section
variable (Inv : EnvI → Store → Prop) (R : Fl × EnvI × Store → Prop) (ev : EnvI) (S : Store) (d : D)
@[simp] theorem behind_nx : Behind Inv R (.nx, ev, S) = Inv ev S := rfl
@[simp] theorem behind_ct : Behind Inv R (.ct, ev, S) = Inv ev S := rfl
@[simp] theorem behind_bk : Behind Inv R (.bk, ev, S) = R (.nx, ev, S) := rfl
@[simp] theorem behind_rt : Behind Inv R (.rt d, ev, S) = R (.rt d, ev, S) := rfl
end
/-- one turn of a for loop -/
def fTurn (g : MG) (body : MS) (d : D) (ev : EnvI) (S : Store) : RS0 := (g d ev S).bind (kTurn body)
@[simp] theorem fTurn_e (g : MG) (body : MS) (d : D) (ev : EnvI) (S : Store) : fTurn g body d ev S = (g d ev S).bind (kTurn body) := rfl
theorem wp_for0 {f : Src} {xs : List D} {g : MG} {body : MS} {R : Fl × EnvI × Store → Prop} (Inv : Nat → EnvI → Store → Prop)
    (hf : ∀ i ev S, i ≤ xs.length → Inv i ev S → f i S = some xs[i]?)
    (step : ∀ i d ev S, xs[i]? = some d → Inv i ev S → WP (fTurn g body d ev S) (Behind (Inv (i + 1)) R))
    (fin : ∀ ev S, Inv xs.length ev S → R (.nx, ev, S)) :
    ∀ (k i : Nat) (ev : EnvI) (S : Store), xs.length - i < k → i ≤ xs.length → Inv i ev S → WP (forLoop f g body k i ev S) R
  | 0, i, ev, S, h, _, _ => by omega
  | k + 1, i, ev, S, h, hi, q => by
    unfold forLoop
    rw [wp_bind, hf i ev S hi q, wp_some]
    cases e : xs[i]? with
    | none =>
      have : xs.length ≤ i := List.getElem?_eq_none_iff.mp e
      obtain rfl : i = xs.length := by omega
      exact (wp_some _ _).mpr (fin ev S q)
    | some d =>
      have hl : i < xs.length := (List.getElem?_eq_some_iff.mp e).1
      have st := step i d ev S e q
      rw [fTurn_e, wp_bind] at st
      refine (wp_bind _ _ _).mpr (st.mono fun r h2 => (wp_bind _ _ _).mpr (WP.mono h2 fun t h3 => ?_))
      obtain ⟨fl, ev2, S2⟩ := t
      cases fl with
      | nx => exact wp_for0 Inv hf step fin k (i + 1) ev2 S2 (by omega) hl h3
      | ct => exact wp_for0 Inv hf step fin k (i + 1) ev2 S2 (by omega) hl h3
      | bk => exact (wp_some _ _).mpr h3
      | rt x => exact (wp_some _ _).mpr h3
theorem wp_for {f : Src} {xs : List D} {g : MG} {body : MS} {R : Fl × EnvI × Store → Prop} {L : Nat} {ev : EnvI} {S : Store} (hf : SrcIs f xs) (Inv : Nat → EnvI → Store → Prop)
    (hL : xs.length < L) (start : Inv 0 ev S)
    (step : ∀ i d ev S, xs[i]? = some d → Inv i ev S → WP (fTurn g body d ev S) (Behind (Inv (i + 1)) R))
    (fin : ∀ ev S, Inv xs.length ev S → R (.nx, ev, S)) : WP (forLoop f g body L 0 ev S) R :=
  wp_for0 Inv (fun i _ S hi _ => hf i S hi) step fin L 0 ev S (by omega) (Nat.zero_le _) start
def numsD (lo : Int) (n : Nat) : List D := (List.range n).map fun (i : Nat) => D.p (.int (lo + i))
theorem intsL (lo : Int) (n : Nat) : (numsD lo n).length = n := by unfold numsD; rw [List.length_map, List.length_range]
theorem srcN_is (lo : Int) (n : Nat) : SrcIs (srcN lo n) (numsD lo n) := fun i S hi => by
  unfold numsD
  rw [List.getElem?_map]
  show some (if i < n then some (D.p (.int (lo + i))) else none) = _
  by_cases h : i < n
  · rw [if_pos h, List.getElem?_range h]; rfl
  · rw [if_neg h, List.getElem?_eq_none (by rw [List.length_range]; omega)]; rfl
theorem ints_get {lo : Int} {n i : Nat} {d : D} (h : (numsD lo n)[i]? = some d) : i < n ∧ d = .p (.int (lo + i)) := by
  have hl : i < n := by have := (List.getElem?_eq_some_iff.mp h).1; rwa [intsL] at this
  unfold numsD at h
  rw [List.getElem?_map, List.getElem?_range hl] at h
  cases h
  exact ⟨hl, rfl⟩
/-- a loop over numbers -/
theorem wp_forN {lo : Int} {n : Nat} {g : MG} {body : MS} {R : Fl × EnvI × Store → Prop} {L : Nat} {ev : EnvI} {S : Store} (Inv : Nat → EnvI → Store → Prop)
    (hL : n < L) (start : Inv 0 ev S)
    (step : ∀ (i : Nat) ev S, i < n → Inv i ev S → WP (fTurn g body (.p (.int (lo + i))) ev S) (Behind (Inv (i + 1)) R))
    (fin : ∀ ev S, Inv n ev S → R (.nx, ev, S)) : WP (forLoop (srcN lo n) g body L 0 ev S) R :=
  wp_for (srcN_is lo n) Inv (by rw [intsL]; exact hL) start (fun i d ev S h q => by
    obtain ⟨h1, rfl⟩ := ints_get h
    exact step i ev S h1 q) (fun ev S q => by rw [intsL] at q; exact fin ev S q)
/-- a loop that looks at each item, and may end with an answer -/
theorem for_look {f : Src} {xs : List D} {g : MG} {body : MS} {L : Nat} {ev : EnvI} {S : Store} (hf : SrcIs f xs) (p : D → Bool) (out : D) (Inv : EnvI → Prop)
    (hL : xs.length < L) (start : Inv ev)
    (step : ∀ d ∈ xs, ∀ ev, Inv ev → ∃ ev2, fTurn g body d ev S = some (if p d then .nx else .rt out, ev2, S) ∧ Inv ev2) :
    ∃ ev', forLoop f g body L 0 ev S = some (if xs.all p then .nx else .rt out, ev', S) ∧ Inv ev' := by
  have w := wp_for (R := fun r => ∃ ev', r = (if xs.all p then .nx else .rt out, ev', S) ∧ Inv ev') hf (fun i ev S2 => S2 = S ∧ Inv ev ∧ (xs.take i).all p = true) hL ⟨rfl, start, by simp⟩ (fun i d ev2 S2 hd ⟨e1, e2, e3⟩ => by
    subst e1
    obtain ⟨ev3, h1, h2⟩ := step d (List.mem_of_getElem? hd) ev2 e2
    rw [h1, wp_some]
    cases hp : p d with
    | true =>
      refine ⟨rfl, h2, ?_⟩
      rw [List.take_add_one, hd, List.all_append, e3]
      simp [hp]
    | false =>
      refine ⟨ev3, ?_, h2⟩
      have : xs.all p = false := by
        rw [List.all_eq_false]
        exact ⟨d, List.mem_of_getElem? hd, by simp [hp]⟩
      rw [this]; rfl) (fun ev2 S2 ⟨e1, e2, e3⟩ => by
    subst e1
    rw [List.take_length] at e3
    rw [e3]
    exact ⟨ev2, rfl, e2⟩)
  obtain ⟨r, h1, ev', rfl, h2⟩ := w
  exact ⟨ev', h1, h2⟩
theorem wp_while {c : M} {body : MS} {R : Fl × EnvI × Store → Prop} (Inv : Nat → EnvI → Store → Prop)
    (step : ∀ n ev S, Inv n ev S → WP (c ev S) fun r => ∃ b, r.1 = .p (.bool b) ∧ if b = true then WP (body ev r.2) (Behind (fun ev S => ∃ m, m < n ∧ Inv m ev S) R) else R (.nx, ev, r.2)) :
    ∀ (L n : Nat) (ev : EnvI) (S : Store), n < L → Inv n ev S → WP (whLoop c body L ev S) R
  | 0, n, ev, S, h, _ => by omega
  | k + 1, n, ev, S, h, q => by
    unfold whLoop
    rw [wp_bind]
    refine WP.mono (step n ev S q) fun r ⟨b, e, h2⟩ => ?_
    obtain ⟨x, S1⟩ := r
    cases e
    show WP ((some b).bind _) R
    rw [wp_bind, wp_some]
    cases b with
    | false => exact (wp_some _ _).mpr h2
    | true =>
      refine (wp_bind _ _ _).mpr (WP.mono (show WP (body ev S1) _ from h2) fun t h3 => ?_)
      obtain ⟨fl, ev2, S2⟩ := t
      cases fl with
      | nx => obtain ⟨m, hm, h4⟩ := h3; exact wp_while Inv step k m ev2 S2 (by omega) h4
      | ct => obtain ⟨m, hm, h4⟩ := h3; exact wp_while Inv step k m ev2 S2 (by omega) h4
      | bk => exact (wp_some _ _).mpr h3
      | rt x => exact (wp_some _ _).mpr h3
/-! ### comprehensions -/
theorem wp_lc0 {f : Src} {xs : List D} {g : MG} {c elt : M} {ev : EnvI} (Inv : Nat → List D → Store → Prop) (hz : xs.length ≤ 16777215)
    (hf : ∀ i acc S, i ≤ xs.length → Inv i acc S → f i S = some xs[i]?)
    (step : ∀ i d acc S, xs[i]? = some d → Inv i acc S → WP (lcTurn g c elt ev d S) fun r => Inv (i + 1) (addO acc r.1) r.2) :
    ∀ (k i : Nat) (acc : List D) (S : Store), xs.length - i < k → i ≤ xs.length → acc.length ≤ i → Inv i acc S → WP (lcLoop f g c elt ev k i acc S) fun r => r.1.length ≤ xs.length ∧ Inv xs.length r.1 r.2
  | 0, i, acc, S, h, _, _, _ => by omega
  | k + 1, i, acc, S, h, hi, ha, q => by
    cases e : xs[i]? with
    | none =>
      have : xs.length ≤ i := List.getElem?_eq_none_iff.mp e
      obtain rfl : i = xs.length := by omega
      refine ⟨(acc, S), ?_, ha, q⟩
      show (f xs.length S).bind _ = _
      rw [hf _ acc S hi q, e]; rfl
    | some d =>
      have hl : i < xs.length := (List.getElem?_eq_some_iff.mp e).1
      obtain ⟨⟨o, S2⟩, h1, h2⟩ := step i d acc S e q
      have hal := addO_len acc o
      have w := wp_lc0 Inv hz hf step k (i + 1) (addO acc o) S2 (by omega) hl (by omega) h2
      rw [lc_step (d := d) (by rw [hf i acc S hi q, e]) h1 (by rw [show sizeLine = 16777216 from rfl]; omega)]
      exact w
theorem wp_lc {f : Src} {xs : List D} {g : MG} {c elt : M} {ev : EnvI} {S : Store} {L : Nat} {Q : List D × Store → Prop} (hf : SrcIs f xs) (Inv : Nat → List D → Store → Prop) (hz : xs.length ≤ 16777215) (hL : xs.length < L)
    (start : Inv 0 [] S)
    (step : ∀ i d acc S, xs[i]? = some d → Inv i acc S → WP (lcTurn g c elt ev d S) fun r => Inv (i + 1) (addO acc r.1) r.2)
    (fin : ∀ acc S, acc.length ≤ xs.length → Inv xs.length acc S → Q (acc, S)) : WP (lcLoop f g c elt ev L 0 [] S) Q :=
  (wp_lc0 Inv hz (fun i _ S hi _ => hf i S hi) step L 0 [] S (by omega) (Nat.zero_le _) (Nat.le_refl _) start).mono fun r ⟨h1, h2⟩ => fin r.1 r.2 h1 h2
theorem wp_lcN {lo : Int} {n : Nat} {g : MG} {c elt : M} {ev : EnvI} {S : Store} {L : Nat} {Q : List D × Store → Prop} (Inv : Nat → List D → Store → Prop) (hz : n ≤ 16777215) (hL : n < L)
    (start : Inv 0 [] S)
    (step : ∀ (i : Nat) acc S, i < n → Inv i acc S → WP (lcTurn g c elt ev (.p (.int (lo + i))) S) fun r => Inv (i + 1) (addO acc r.1) r.2)
    (fin : ∀ acc S, acc.length ≤ n → Inv n acc S → Q (acc, S)) : WP (lcLoop (srcN lo n) g c elt ev L 0 [] S) Q :=
  wp_lc (srcN_is lo n) Inv (by rw [intsL]; exact hz) (by rw [intsL]; exact hL) start (fun i d acc S h q => by
    obtain ⟨h1, rfl⟩ := ints_get h
    exact step i acc S h1 q) (fun acc S h q => by rw [intsL] at h q; exact fin acc S h q)
/-- the deck at 0 and 1, other boxes behind -/
def Dk (tl : Store) (S : Store) : Prop := ∃ xs mx dr, S = DS xs mx dr tl ∧ xs.length ≤ 63
end PI
set_option maxHeartbeats 1000000
/-! Own text: what a game is, as plain numbers of truth of data; rows of drawn games. -/
namespace PI
open PySem PySem.Spec L2
open PyProof.Rows hiding St
def isN : PyData → Bool
  | .int _ => true
  | _ => false
def btw (x : PyData) (lo hi : Int) : Bool := match x with
  | .int i => decide (lo ≤ i) && decide (i ≤ hi)
  | _ => false
def frm (x : PyData) (lo : Int) : Bool := match x with
  | .int i => decide (lo ≤ i)
  | _ => false
def tupN (x : PyData) (n : Int) : Bool := match x with
  | .tuple xs => decide ((xs.length : Int) = n)
  | _ => false
theorem cut_1 {α : Type} (xs : List α) : cutD xs (some 1) none = xs.drop 1 := by
  unfold PI.cutD
  have h : HT.sIx xs.length 0 (some 1) = min 1 xs.length := HT.sIx_nat xs.length 0 1
  rw [h, HT.sIx_none]
  cases xs with
  | nil => rfl
  | cons x r =>
    have : min 1 (x :: r).length = 1 := by simp
    rw [this]
    simp
def asc (ns : List Int) : Bool := (ns.zip (ns.drop 1)).all fun p => decide (p.1 < p.2)
def tAsc : D → Option D
  | .p (.tuple [.int a, .int b]) => some (.p (.bool (decide (a < b))))
  | _ => none
theorem pairs_int (ns ms : List Int) : pairsZ (ns.map .int) (ms.map .int) = (ns.zip ms).map fun p => .p (.tuple [.int p.1, .int p.2]) := by
  unfold pairsZ
  rw [List.zip_map, List.map_map]
  rfl
theorem all_bools (S : Store) (bs : List Bool) : bAll S [.p (.list (bs.map .bool))] = some (.p (.bool (bs.all id)), S) := by
  have e : ∀ bs : List Bool, blsP ((bs.map PyData.bool).map D.p) = some bs := by
    intro bs
    induction bs with
    | nil => rfl
    | cons b r ih => simp only [List.map_cons, blsP, ih]; rfl
  show (blsP ((bs.map PyData.bool).map D.p)).map _ = _
  rw [e]; rfl
def numsL : List PyData → List Int
  | .int i :: r => i :: numsL r
  | _ :: r => numsL r
  | [] => []
theorem numsL_of {lo hi : Int} : ∀ {xs : List PyData}, (xs.all fun y => btw y lo hi) = true → xs = (numsL xs).map .int
  | [], _ => rfl
  | x :: r, h => by
    rw [List.all_cons, Bool.and_eq_true] at h
    cases x with
    | int i => simp only [numsL, List.map_cons]; rw [← numsL_of h.2]
    | _ => cases h.1
def mvB (x : PyData) (many : Int) : Bool := match x with
  | .tuple xs => !xs.isEmpty && (xs.all fun y => btw y 0 (many - 1)) && asc (numsL xs)
  | _ => false
/-- the numbers of truth of a list's items -/
def tBo (f : PyData → Bool) : D → Option D
  | .p y => some (.p (.bool (f y)))
  | _ => none
theorem tB_map (f : PyData → Bool) (xs : List PyData) : (xs.map D.p).filterMap (tBo f) = (xs.map f).map fun b => D.p (.bool b) := by
  rw [List.filterMap_map, List.map_map, ← List.filterMap_eq_map]
  rfl
theorem allP_bools (bs : List Bool) : allP (bs.map fun b => D.p (.bool b)) = some (bs.map .bool) := by
  rw [show (fun b => D.p (.bool b)) = D.p ∘ PyData.bool from rfl, ← List.map_map]
  exact allP_map _
def slB (x : PyData) (many : Int) : Bool := match x with
  | .tuple [a, b] => btw a 0 (many - 1) && frm b 1
  | _ => false
def firsts : List PyData → List Int
  | .tuple (.int u :: _) :: r => u :: firsts r
  | _ :: r => firsts r
  | [] => []
def tF : D → Option D
  | .p (.tuple (x :: _)) => some (.p x)
  | _ => none
theorem firsts_of {many : Int} : ∀ {xs : List PyData}, (xs.all fun y => slB y many) = true → (xs.map D.p).filterMap tF = (firsts xs).map (fun i => D.p (.int i)) ∧ (firsts xs).length = xs.length ∧ ∀ y ∈ xs, ∃ u w, y = .tuple [.int u, w]
  | [], _ => ⟨rfl, rfl, fun _ h => (List.not_mem_nil h).elim⟩
  | x :: r, h => by
    rw [List.all_cons, Bool.and_eq_true] at h
    obtain ⟨i1, i2, i3⟩ := firsts_of h.2
    obtain ⟨u, w, rfl⟩ : ∃ u w, x = .tuple [.int u, w] := by
      have q := h.1
      unfold slB at q
      split at q
      · rename_i a b
        rw [Bool.and_eq_true] at q
        cases a with
        | int u => exact ⟨u, b, rfl⟩
        | _ => cases q.1
      · cases q
    refine ⟨by simp only [List.map_cons, List.filterMap_cons, tF, firsts]; rw [i1], by simp only [firsts, List.length_cons, i2], fun y hy => ?_⟩
    rcases List.mem_cons.mp hy with rfl | hy
    · exact ⟨u, w, rfl⟩
    · exact i3 y hy
def slsB (x : PyData) (many : Int) : Bool := match x with
  | .tuple xs => (xs.all fun y => slB y many) && asc (firsts xs)
  | _ => false
def okT : PyData → Bool
  | .str s => PyData.strOk s
  | _ => true
def wordB (x : PyData) : Bool := match x with
  | .str s => [PyData.str "keeper", .str "foe"].any fun z => PyData.eqv z (.str s)
  | _ => false
/-- sound data, not too heavy -/
def Sml (x : PyData) : Prop := okS x = true ∧ wt x < 1000000
theorem wt_mem : ∀ {xs : List PyData} {y : PyData}, y ∈ xs → wt y ≤ wtAll xs
  | x :: r, y, h => by
    show wt y ≤ wt x + 2 + wtAll r
    rcases List.mem_cons.mp h with rfl | h
    · omega
    · have := wt_mem h; omega
theorem wt_len : ∀ xs : List PyData, xs.length ≤ wtAll xs
  | [] => Nat.zero_le _
  | x :: r => by
    have := wt_len r
    show r.length + 1 ≤ wt x + 2 + wtAll r
    omega
theorem ok_mem : ∀ {xs : List PyData} {y : PyData}, okAll xs = true → y ∈ xs → okS y = true
  | x :: r, y, h, hy => by
    have h := Bool.and_eq_true_iff.mp h
    rcases List.mem_cons.mp hy with rfl | hy
    · exact h.1
    · exact ok_mem h.2 hy
theorem sm_mem {xs : List PyData} {y : PyData} (h : Sml (.tuple xs)) (hy : y ∈ xs) : Sml y := by
  have h2 : wtAll xs + 3 < 1000000 := h.2
  have := wt_mem hy
  exact ⟨ok_mem h.1 hy, by omega⟩
theorem sm_len {x : PyData} (h : Sml x) : ∀ xs, x = .tuple xs → xs.length < 1000000 := fun xs e => by
  subst e
  have h2 : wtAll xs + 3 < 1000000 := h.2
  have := wt_len xs
  omega
theorem sm_okT {x : PyData} (h : Sml x) : okT x = true := by
  cases x with
  | str s => exact h.1
  | _ => rfl
def isK (x : PyData) : Bool := match x with
  | .str s => decide (s = "keeper")
  | _ => false
def emp (x : PyData) : Bool := match x with
  | .tuple xs => xs.isEmpty
  | _ => false
def rowB (x : PyData) (many : Int) : Bool := match x with
  | .tuple [o, m, mv, sl] => wordB o && frm m 0 && mvB mv many && slsB sl many && (isK o || emp sl)
  | _ => false
def gameB (x : PyData) : Bool := match x with
  | .tuple xs => !xs.isEmpty && (xs.all fun y => rowB y xs.length)
  | _ => false
/-! ### rows and games -/
theorem bAnd {a b : Bool} (h1 : a = true) (h2 : b = true) : (a && b) = true := by rw [h1, h2]; rfl
theorem asc_of {ns : List Int} (h : ns.Pairwise (· < ·)) : asc ns = true := by
  unfold asc
  rw [List.all_eq_true]
  intro p hp
  rw [decide_eq_true_eq]
  obtain ⟨i, hi, e⟩ := List.getElem_of_mem hp
  rw [List.length_zip, List.length_drop] at hi
  rw [List.getElem_zip, List.getElem_drop] at e
  subst e
  exact List.pairwise_iff_getElem.mp h i (1 + i) (by omega) (by omega) (by omega)
structure Rw where
  k : Bool
  m : Int
  mv : List Int
  sl : List (Int × Int)
def ownK (k : Bool) : Str := if k = true then ("keeper" : Str) else ("foe" : Str)
def slD (p : Int × Int) : PyData := .tuple [.int p.1, .int p.2]
def Rw.d (r : Rw) : PyData := .tuple [.str (ownK r.k), .int r.m, .tuple (r.mv.map .int), .tuple (r.sl.map slD)]
structure Rw.Ok (n : Nat) (r : Rw) : Prop where
  m0 : 0 ≤ r.m
  m1 : r.m ≤ 1000
  mv0 : r.mv ≠ []
  mvA : r.mv.Pairwise (· < ·)
  mvR : ∀ u ∈ r.mv, 0 ≤ u ∧ u < n
  mvL : r.mv.length ≤ 8
  slA : (r.sl.map (·.1)).Pairwise (· < ·)
  slR : ∀ p ∈ r.sl, 0 ≤ p.1 ∧ p.1 < n ∧ 1 ≤ p.2 ∧ p.2 ≤ 1000
  slL : r.sl.length ≤ 8
  fs : r.k = false → r.sl = []
structure Gm (rs : List Rw) : Prop where
  l0 : rs ≠ []
  l1 : rs.length ≤ 12
  ok : ∀ r ∈ rs, r.Ok rs.length
def gmD (rs : List Rw) : PyData := .tuple (rs.map Rw.d)
theorem wt_int (i : Int) : wt (.int i) = 1922 := rfl
theorem wtAll_ints : ∀ ns : List Int, wtAll (ns.map .int) = 1924 * ns.length
  | [] => rfl
  | i :: r => by
    show 1922 + 2 + wtAll (r.map .int) = 1924 * (r.length + 1)
    rw [wtAll_ints r]; omega
theorem wtAll_sl : ∀ ns : List (Int × Int), wtAll (ns.map slD) = 3853 * ns.length
  | [] => rfl
  | i :: r => by
    show (1922 + 2 + (1922 + 2 + 0)) + 3 + 2 + wtAll (r.map slD) = 3853 * (r.length + 1)
    rw [wtAll_sl r]; omega
theorem okS_int {i : Int} (h : i.natAbs < 2 ^ 1920) : okS (.int i) = true := decide_eq_true (log_small h)
theorem okS_small {i : Int} (h : i.natAbs < 1000000000) : okS (.int i) = true := okS_int (Nat.lt_trans h (by decide))
theorem okAll_of : ∀ {xs : List PyData}, (∀ x ∈ xs, okS x = true) → okAll xs = true
  | [], _ => rfl
  | x :: r, h => bAnd (h x (List.mem_cons_self ..)) (okAll_of fun y hy => h y (List.mem_cons_of_mem _ hy))
theorem wtAll_of {c : Nat} : ∀ {xs : List PyData}, (∀ x ∈ xs, wt x ≤ c) → wtAll xs ≤ (c + 2) * xs.length
  | [], _ => Nat.zero_le _
  | x :: r, h => by
    have h1 := h x (List.mem_cons_self ..)
    have h2 := wtAll_of (c := c) (xs := r) fun y hy => h y (List.mem_cons_of_mem _ hy)
    show wt x + 2 + wtAll r ≤ (c + 2) * (r.length + 1)
    rw [Nat.mul_add, Nat.mul_one]; omega
theorem ownS_wt (k : Bool) : wt (.str (ownK k)) ≤ 62 ∧ okS (.str (ownK k)) = true := by
  cases k <;> decide +kernel
theorem Rw.Ok.sm {n : Nat} {r : Rw} (h : r.Ok n) (hn : n ≤ 1000) : okS r.d = true ∧ wt r.d ≤ 50000 := by
  have h1 := wtAll_ints r.mv
  have h2 := wtAll_sl r.sl
  have h3 := ownS_wt r.k
  have a1 := h.mvL
  have a2 := h.slL
  constructor
  · show (okS (.str (ownK r.k)) && (okS (.int r.m) && (okAll (r.mv.map .int) && (okAll (r.sl.map slD) && true)))) = true
    have b0 := h.m0
    have b1 := h.m1
    refine bAnd h3.2 (bAnd (okS_small (by omega)) (bAnd (okAll_of fun x hx => ?_) (bAnd (okAll_of fun x hx => ?_) rfl)))
    · obtain ⟨u, hu, rfl⟩ := List.mem_map.mp hx
      have := h.mvR u hu
      exact okS_small (by omega)
    · obtain ⟨p, hp, rfl⟩ := List.mem_map.mp hx
      have := h.slR p hp
      exact bAnd (okS_small (by omega)) (bAnd (okS_small (by omega)) rfl)
  · show wt (.str (ownK r.k)) + 2 + (1922 + 2 + (wtAll (r.mv.map .int) + 3 + 2 + (wtAll (r.sl.map slD) + 3 + 2 + 0))) + 3 ≤ 50000
    omega
theorem isK_own (k : Bool) : isK (.str (ownK k)) = k := by cases k <;> decide +kernel
theorem wordB_own (k : Bool) : wordB (.str (ownK k)) = true := by cases k <;> decide +kernel
theorem numsL_ints : ∀ ns : List Int, numsL (ns.map .int) = ns
  | [] => rfl
  | i :: r => by simp only [List.map_cons, numsL]; rw [numsL_ints r]
theorem firsts_sl : ∀ ps : List (Int × Int), firsts (ps.map slD) = ps.map (·.1)
  | [] => rfl
  | p :: r => by simp only [List.map_cons, slD, firsts]; rw [← firsts_sl r]
theorem Rw.Ok.rowB {n : Nat} {r : Rw} (h : r.Ok n) : rowB r.d n = true := by
  show (wordB (.str (ownK r.k)) && frm (.int r.m) 0 && mvB (.tuple (r.mv.map .int)) n && slsB (.tuple (r.sl.map slD)) n && (isK (.str (ownK r.k)) || emp (.tuple (r.sl.map slD)))) = true
  refine bAnd (bAnd (bAnd (bAnd (wordB_own _) (decide_eq_true h.m0)) ?_) ?_) ?_
  · show (!(r.mv.map PyData.int).isEmpty && (r.mv.map PyData.int).all (fun y => btw y 0 ((n : Int) - 1)) && asc (numsL (r.mv.map PyData.int))) = true
    rw [numsL_ints, asc_of h.mvA, Bool.and_true, List.all_map]
    refine bAnd ?_ (List.all_eq_true.mpr fun u hu => ?_)
    · have := h.mv0
      cases hm : r.mv with
      | nil => exact absurd hm this
      | cons a b => rfl
    · have := h.mvR u hu
      exact bAnd (decide_eq_true this.1) (decide_eq_true (by omega))
  · show ((r.sl.map slD).all (fun y => slB y n) && asc (firsts (r.sl.map slD))) = true
    rw [firsts_sl, asc_of h.slA, Bool.and_true, List.all_map]
    refine List.all_eq_true.mpr fun p hp => ?_
    have := h.slR p hp
    exact bAnd (bAnd (decide_eq_true this.1) (decide_eq_true (by omega))) (decide_eq_true this.2.2.1)
  · rw [isK_own]
    cases hk : r.k with
    | true => rfl
    | false => rw [h.fs hk]; rfl
theorem Gm.sm {rs : List Rw} (h : Gm rs) : okS (gmD rs) = true ∧ wt (gmD rs) ≤ 600100 := by
  have hl := h.l1
  constructor
  · refine okAll_of fun x hx => ?_
    obtain ⟨r, hr, rfl⟩ := List.mem_map.mp hx
    exact ((h.ok r hr).sm (by omega)).1
  · have := wtAll_of (c := 50000) (xs := rs.map Rw.d) fun x hx => by
      obtain ⟨r, hr, rfl⟩ := List.mem_map.mp hx
      exact ((h.ok r hr).sm (by omega)).2
    rw [List.length_map] at this
    show wtAll (rs.map Rw.d) + 3 ≤ _
    omega
theorem Gm.Sml {rs : List Rw} (h : Gm rs) : PI.Sml (gmD rs) := ⟨h.sm.1, by have := h.sm.2; omega⟩
theorem Gm.gameB {rs : List Rw} (h : Gm rs) : PI.gameB (gmD rs) = true := by
  show (!(rs.map Rw.d).isEmpty && (rs.map Rw.d).all (fun y => PI.rowB y ((rs.map Rw.d).length : Nat))) = true
  rw [List.length_map, List.all_map]
  have h0 := h.l0
  refine bAnd ?_ (List.all_eq_true.mpr fun r hr => (h.ok r hr).rowB)
  cases rs with
  | nil => exact absurd rfl h0
  | cons a b => rfl
/-! ### sorted sets of numbers -/
theorem setL_len {ns : List Int} : (setL ns).length ≤ ns.length := by
  have h : ∀ (f : Nat → Int) (n : Nat), (PyProof.Rows.firstMet f n).length ≤ n := fun f n => by
    induction n with
    | zero => exact Nat.le_refl _
    | succ n ih =>
      rw [PyProof.Rows.firstMet_succ]
      unfold PyProof.Rows.step_dedup
      split
      · omega
      · rw [List.length_append, List.length_singleton]; omega
  unfold setL
  rw [List.length_mergeSort]
  exact h _ _
theorem setL_nil {ns : List Int} (h : ns ≠ []) : setL ns ≠ [] := fun e => by
  cases ns with
  | nil => exact h rfl
  | cons a r =>
    have : a ∈ setL (a :: r) := mem_setL.mpr (List.mem_cons_self ..)
    rw [e] at this; cases this
theorem intsP_ints : ∀ ns : List Int, intsP (ns.map .int) = some ns
  | [] => rfl
  | i :: r => by simp only [List.map_cons, intsP]; rw [intsP_ints r]; rfl
@[simp] theorem numsOf_l (S : Store) (ns : List Int) : numsOf S (.p (.list (ns.map .int))) = some ns := by
  show (allP ((ns.map PyData.int).map D.p)).bind intsP = _
  rw [allP_map]
  exact intsP_ints ns
theorem allP_nums (ns : List Int) : allP (ns.map fun i => D.p (.int i)) = some (ns.map .int) := by
  rw [show (fun i => D.p (.int i)) = D.p ∘ PyData.int from rfl, ← List.map_map]
  exact allP_map _
theorem mkL_nums (ns : List Int) (S : Store) (h : ns.length ≤ 16777216) : mkL false (ns.map fun i => D.p (.int i)) S = some (.p (.list (ns.map .int)), S) := by
  unfold mkL
  rw [if_pos (by rw [List.length_map, show sizeLine = 16777216 from rfl]; exact h), allP_nums]; rfl
theorem mkL_map (xs : List PyData) (S : Store) (h : xs.length ≤ 16777216) : mkL false (xs.map D.p) S = some (.p (.list xs), S) := by
  unfold mkL
  rw [if_pos (by rw [List.length_map, show sizeLine = 16777216 from rfl]; exact h), allP_map]; rfl
theorem sset_l (S : Store) (ns : List Int) (h : ns.length < 64) : sset false S (.p (.list (ns.map .int))) = some (.p (.list ((setL ns).map .int)), S) := by
  unfold sset
  rw [numsOf_l]
  show (if ns.length < 64 then _ else none) = _
  rw [if_pos h, mkL_nums _ _ (by have := setL_len (ns := ns); omega)]
def kSset (bx : Bool) (r : D × Store) : RD0 := sset bx r.2 r.1
@[simp] theorem kSset_e (bx : Bool) (x : D) (S : Store) : kSset bx (x, S) = sset bx S x := rfl
@[simp] theorem mSset_e (bx : Bool) (a : M) (ev : EnvI) (S : Store) : mSset bx a ev S = (a ev S).bind (kSset bx) := rfl
def kLrg1 (bx : Bool) (r : D × Store) : RD0 := lrg1 bx r.2 r.1
@[simp] theorem kLrg1_e (bx : Bool) (x : D) (S : Store) : kLrg1 bx (x, S) = lrg1 bx S x := rfl
@[simp] theorem mLrg1_e (bx : Bool) (a : M) (ev : EnvI) (S : Store) : mLrg1 bx a ev S = (a ev S).bind (kLrg1 bx) := rfl
theorem bTuple_l (S : Store) (xs : List PyData) (h : xs.length ≤ 16777216) : bTuple S [.p (.list xs)] = some (.p (.tuple xs), S) := by
  show (allP (xs.map D.p)).bind _ = _
  rw [allP_map]
  show mkT xs S = _
  unfold mkT
  rw [if_pos (by rw [show sizeLine = 16777216 from rfl]; exact h)]
/-! ### in, among numbers -/
theorem canLay_ints : ∀ ns : List Int, PyData.canLayAll0 (ns.map .int) = true
  | [] => rfl
  | i :: r => by
    show (PyData.canLay0 (.int i) && PyData.canLayAll0 (r.map .int)) = true
    exact bAnd rfl (canLay_ints r)
theorem mem_ints (S : Store) (i : Int) (ns : List Int) : PI.memI S (.p (.int i)) (.p (.tuple (ns.map .int))) = some (decide (i ∈ ns)) := by
  show (if SeqAt.shaped (.int i) = true ∧ PyData.canLayAll0 (ns.map .int) = true then some ((ns.map PyData.int).any fun z => PyData.eqv z (.int i)) else none) = _
  rw [if_pos ⟨rfl, canLay_ints ns⟩, List.any_map]
  congr 1
  rw [Bool.eq_iff_iff, List.any_eq_true, decide_eq_true_eq]
  constructor
  · rintro ⟨x, hx, e⟩
    have : x = i := by
      have e : PyData.eqv (.int x) (.int i) = true := e
      simp [PyData.eqv] at e
      exact e
    rwa [← this]
  · intro h
    exact ⟨i, h, by show PyData.eqv (.int i) (.int i) = true; simp [PyData.eqv]⟩
theorem pairsI_all {α : Type} {rs : List α} {ys : List PyData} (hl : ys.length = rs.length) (t : D → Bool) (f : α → PyData → Bool) (ht : ∀ (i : Nat) r y, rs[i]? = some r → ys[i]? = some y → t (.p (.tuple [.int (i : Nat), y])) = f r y) : (pairsI ys).all t = (rs.zip ys).all fun p => f p.1 p.2 := by
  unfold pairsI
  rw [Bool.eq_iff_iff, List.all_eq_true, List.all_eq_true]
  constructor
  · intro h p hp
    obtain ⟨i, hi, e⟩ := List.getElem_of_mem hp
    rw [List.length_zip] at hi
    rw [List.getElem_zip] at e
    subst e
    rw [← ht i _ _ (List.getElem?_eq_getElem (by omega)) (List.getElem?_eq_getElem (by omega))]
    exact h _ (List.mem_iff_getElem.mpr ⟨i, by rw [List.length_mapIdx]; omega, by rw [List.getElem_mapIdx]⟩)
  · intro h d hd
    obtain ⟨i, hi, e⟩ := List.getElem_of_mem hd
    rw [List.length_mapIdx] at hi
    rw [List.getElem_mapIdx] at e
    subst e
    rw [ht i _ _ (List.getElem?_eq_getElem (by omega)) (List.getElem?_eq_getElem (by omega))]
    exact h _ (List.mem_iff_getElem.mpr ⟨i, by rw [List.length_zip]; omega, by rw [List.getElem_zip]⟩)
/-! ### plans -/
def itB (r : Rw) (x : PyData) : Bool := if r.k = true then (match x with
  | .int i => decide (i ∈ r.mv)
  | _ => false) else (match x with
  | .none => true
  | _ => false)
def planB (rs : List Rw) (x : PyData) : Bool := match x with
  | .tuple xs => decide (xs.length = rs.length) && (rs.zip xs).all fun p => itB p.1 p.2
  | _ => false
def tupB (f : PyData → Bool) (x : PyData) : Bool := match x with
  | .tuple xs => xs.all f
  | _ => false
theorem filt_map (t : D → Bool) (u : D → PyData) : ∀ xs : List D, xs.filterMap (fun d => if t d = true then some (D.p (u d)) else none) = ((xs.filter t).map u).map D.p
  | [] => rfl
  | x :: r => by
    by_cases h : t x = true
    · rw [List.filterMap_cons, if_pos h, List.filter_cons, if_pos h, List.map_cons, List.map_cons, filt_map t u r]
    · rw [List.filterMap_cons, if_neg h, List.filter_cons, if_neg h, filt_map t u r]
section
variable {L : Nat} {mi : MIt} {own : List Nat} {g : MG} {c elt : M} {ev : EnvI} {S : Store} {f : Src} {xs : List D}
/-- a comprehension that changes no box -/
theorem lc_val (hmi : mi ev S = some (f, S)) (hf : SrcIs f xs) (t : D → Bool) (u : D → PyData) (hz : xs.length ≤ 16777215) (hL : xs.length < L)
    (step : ∀ d ∈ xs, lcTurn g c elt (wipeE ev own) d S = some (if t d = true then some (.p (u d)) else none, S)) : mLc L false mi own g c elt ev S = some (.p (.list ((xs.filter t).map u)), S) := by
  have lc := lc_pure hf (g := g) (c := c) (elt := elt) (ev := wipeE ev own) (S := S) (L := L) (fun d => if t d = true then some (.p (u d)) else none) hz hL step
  rw [filt_map] at lc
  have hl := List.length_filter_le t xs
  rw [mLc_e, hmi]
  show (lcLoop f g c elt (wipeE ev own) L 0 [] S).bind _ = _
  rw [lc]
  exact mkL_map _ _ (by rw [List.length_map]; omega)
theorem filt_empty (t : D → Bool) (u : D → PyData) (xs : List D) : ((xs.filter t).map u).isEmpty = !xs.any t := by
  induction xs with
  | nil => rfl
  | cons x r ih =>
    rw [List.filter_cons, List.any_cons]
    by_cases h : t x = true
    · rw [if_pos h, h]; rfl
    · rw [if_neg h, ih]
      rw [Bool.not_eq_true] at h
      rw [h]; rfl
theorem eq_nil (S : Store) (xs : List PyData) : eqI S (.p (.list xs)) (.p (.list [])) = some xs.isEmpty := by
  show (lstOf S (.p (.list xs))).map (·.isEmpty) = _
  rw [lst_l]
  cases xs <;> rfl
/-- [.. if ..] != [] -/
theorem some_lc (hmi : mi ev S = some (f, S)) (hf : SrcIs f xs) (t : D → Bool) (u : D → PyData) (hz : xs.length ≤ 16777215) (hL : xs.length < L)
    (step : ∀ d ∈ xs, lcTurn g c elt (wipeE ev own) d S = some (if t d = true then some (.p (u d)) else none, S)) : mCmp .NotEq (mLc L false mi own g c elt) (mLst false mNil) ev S = some (.p (.bool (xs.any t)), S) := by
  have h := lc_val hmi hf t u hz hL step
  have e0 : mkL false [] S = some (.p (.list []), S) := mkL_map [] S (by decide)
  rw [mCmp_e, h]
  simp only [Option.bind_some, kCmp1_e, mLst_e, mNil_e, kLst_e, e0, kCmp2_e, cmpI_ne, eq_nil, kFlip_e, kBool_e, filt_empty, Bool.not_not]
/-- [.. if ..] == [] -/
theorem none_lc (hmi : mi ev S = some (f, S)) (hf : SrcIs f xs) (t : D → Bool) (u : D → PyData) (hz : xs.length ≤ 16777215) (hL : xs.length < L)
    (step : ∀ d ∈ xs, lcTurn g c elt (wipeE ev own) d S = some (if t d = true then some (.p (u d)) else none, S)) : mCmp .Eq (mLc L false mi own g c elt) (mLst false mNil) ev S = some (.p (.bool (!xs.any t)), S) := by
  have h := lc_val hmi hf t u hz hL step
  have e0 : mkL false [] S = some (.p (.list []), S) := mkL_map [] S (by decide)
  rw [mCmp_e, h]
  simp only [Option.bind_some, kCmp1_e, mLst_e, mNil_e, kLst_e, e0, kCmp2_e, cmpI_eq, eq_nil, kBool_e, filt_empty]
end
/-- what itB tells, of the row as data -/
def itD (row x : PyData) : Bool := match row with
  | .tuple [.str o, _, .tuple mv, _] => if isK (.str o) = true then (match x with
    | .int i => decide (i ∈ numsL mv)
    | _ => false) else (match x with
    | .none => true
    | _ => false)
  | _ => false
theorem itD_d (r : Rw) (x : PyData) : itD r.d x = itB r x := by
  show (if isK (.str (ownK r.k)) = true then (match x with
    | .int i => decide (i ∈ numsL (r.mv.map .int))
    | _ => false) else (match x with
    | .none => true
    | _ => false)) = _
  rw [isK_own, numsL_ints]; rfl
def itP : D → Bool
  | .p (.tuple [x, row]) => itD row x
  | _ => false
theorem itP_all (rs : List Rw) : ∀ xs : List PyData, (pairsZ xs (rs.map Rw.d)).all itP = (rs.zip xs).all fun p => itB p.1 p.2 := by
  unfold pairsZ
  induction rs with
  | nil => intro xs; cases xs <;> rfl
  | cons r rs ih =>
    intro xs
    cases xs with
    | nil => rfl
    | cons x xs =>
      simp only [List.map_cons, List.zip_cons_cons, List.all_cons]
      rw [ih xs]
      show (itD r.d x && _) = _
      rw [itD_d]
theorem pairsZ_len (xs ys : List PyData) : (pairsZ xs ys).length = min xs.length ys.length := by
  unfold pairsZ
  rw [List.length_map, List.length_zip]
@[simp] theorem eq_ii (S : Store) (i j : Int) : eqI S (.p (.int i)) (.p (.int j)) = some (decide (i = j)) := by
  show some (PyData.eqv (.int i) (.int j)) = _
  simp [PyData.eqv]; rfl
@[simp] theorem bMin_e (S : Store) (i j : Int) : bMin S [.p (.int i), .p (.int j)] = some (.p (.int (if j < i then j else i)), S) := rfl
@[simp] theorem lrg1_e (bx : Bool) (S : Store) (j : Int) : lrg1 bx S (.p (.int j)) = if j.natAbs < 4611686018427387904 ∧ j.toNat ≤ 16777216 then mkL bx (rngL 0 j.toNat) S else none := rfl
theorem btw_inv {x : PyData} {lo hi : Int} (h : btw x lo hi = true) : ∃ j : Int, x = .int j ∧ lo ≤ j ∧ j ≤ hi := by
  cases x with
  | int j =>
    have h : (decide (lo ≤ j) && decide (j ≤ hi)) = true := h
    rw [Bool.and_eq_true, decide_eq_true_eq, decide_eq_true_eq] at h
    exact ⟨j, rfl, h.1, h.2⟩
  | _ => cases h
theorem cut_sub {α : Type} (xs : List α) (lo hi : Option Int) : (PI.cutD xs lo hi).Sublist xs := (List.take_sublist _ _).trans (List.drop_sublist _ _)
theorem cut_map {α β : Type} (f : α → β) (xs : List α) (lo hi : Option Int) : PI.cutD (xs.map f) lo hi = (PI.cutD xs lo hi).map f := by
  unfold PI.cutD
  rw [List.length_map, List.map_take, List.map_drop]
theorem slI_l (S : Store) (xs : List PyData) (lo hi : Option Int) (h : xs.length ≤ 16777216) : slI false S (.p (.list xs)) lo hi = some (.p (.list (PI.cutD xs lo hi)), S) := by
  show mkL false (PI.cutD (xs.map D.p) lo hi) S = _
  rw [cut_map]
  exact mkL_map _ _ (Nat.le_trans (cut_sub xs lo hi).length_le h)
theorem slI_t (bx : Bool) (S : Store) (xs : List PyData) (lo hi : Option Int) : slI bx S (.p (.tuple xs)) lo hi = some (.p (.tuple (PI.cutD xs lo hi)), S) := rfl
end PI
set_option maxHeartbeats 1000000
/-! Own text: boxes behind the deck. -/
namespace PI
open PySem PySem.Spec L2
open PyProof.Rows hiding St

section
variable {tl S : Store} {n : Nat} {xs : List D} {kvs : List (Key × D)} (hD : Dk tl S)
include hD
theorem Dk.len : S.length = tl.length + 2 := by
  obtain ⟨a, b, c, rfl, _⟩ := hD
  rfl
theorem Dk.get (n : Nat) : S[n + 2]? = tl[n]? := by
  obtain ⟨a, b, c, rfl, _⟩ := hD
  rfl
theorem Dk.push (c : Cell) : Dk (tl ++ [c]) (S ++ [c]) := by
  obtain ⟨a, b, d, rfl, h⟩ := hD
  exact ⟨a, b, d, rfl, h⟩
theorem Dk.put (n : Nat) (c : Cell) : Dk (tl.set n c) (S.set (n + 2) c) := by
  obtain ⟨a, b, d, rfl, h⟩ := hD
  exact ⟨a, b, d, rfl, h⟩
theorem Dk.newL {Q : D × Store → Prop} (h : xs.length ≤ 16777216) (H : ∀ S', Dk (tl ++ [.lst xs]) S' → Q (.ref (tl.length + 2), S')) : WP (mkL true xs S) Q := by
  unfold mkL
  rw [if_pos (by rw [show sizeLine = 16777216 from rfl]; exact h), if_pos rfl, wp_some, hD.len]
  exact H _ (hD.push _)
theorem Dk.newD {Q : D × Store → Prop} (h : kvs.length ≤ 16777216) (H : ∀ S', Dk (tl ++ [.dct kvs]) S' → Q (.ref (tl.length + 2), S')) : WP (mkD true kvs S) Q := by
  unfold mkD
  rw [if_pos (by rw [show sizeLine = 16777216 from rfl]; exact h), if_pos rfl, wp_some, hD.len]
  exact H _ (hD.push _)
theorem Dk.lst (h : tl[n]? = some (.lst xs)) : lstOf S (.ref (n + 2)) = some xs := by
  show (match S[n + 2]? with
    | some (.lst ys) => some ys
    | _ => none) = _
  rw [hD.get, h]
theorem Dk.dct (h : tl[n]? = some (.dct kvs)) : dctOf S (.ref (n + 2)) = some kvs := by
  show (match S[n + 2]? with
    | some (.dct ys) => some ys
    | _ => none) = _
  rw [hD.get, h]
theorem Dk.dctL (h : tl[n]? = some (.lst xs)) : dctOf S (.ref (n + 2)) = none := by
  show (match S[n + 2]? with
    | some (.dct ys) => some ys
    | _ => none) = _
  rw [hD.get, h]
theorem Dk.tn (h : tl[n]? = some (.lst xs)) : tnOf S (.ref (n + 2)) = some .lst := by
  simp only [tnOf, hD.get, h]
theorem Dk.bLen (h : tl[n]? = some (.lst xs)) : PI.bLen S [.ref (n + 2)] = some (.p (.int xs.length), S) := by
  simp only [PI.bLen, hD.lst h, hD.dctL h, seqD]; rfl
theorem Dk.eq0 (h : tl[n]? = some (.lst xs)) : eqI S (.ref (n + 2)) (.p (.list [])) = some xs.isEmpty := by
  show (match (lstOf S (.ref (n + 2))).map (·.isEmpty) with
    | some c => some c
    | none => _) = _
  rw [hD.lst h]; rfl
theorem Dk.append {Q : D × Store → Prop} {d : D} (h : tl[n]? = some (.lst xs)) (hl : xs.length < 16777216) (H : ∀ S', Dk (tl.set n (.lst (xs ++ [d]))) S' → Q (.p .none, S')) : WP (mAppend S (.ref (n + 2)) [d]) Q := by
  simp only [mAppend, hD.get, h]
  show WP (if xs.length < sizeLine then _ else none) Q
  rw [if_pos (by rw [show sizeLine = 16777216 from rfl]; exact hl), wp_some]
  exact H _ (hD.put _ _)
theorem Dk.popAt {Q : D × Store → Prop} {i : Int} {d : D} (h : tl[n]? = some (.lst xs)) (h0 : 0 ≤ i) (h1 : i < 1000000) (hd : xs[i.toNat]? = some d) (H : ∀ S', Dk (tl.set n (.lst (xs.eraseIdx i.toNat))) S' → Q (d, S')) : WP (mPop S (.ref (n + 2)) [.p (.int i)]) Q := by
  have hl : i.toNat < xs.length := (List.getElem?_eq_some_iff.mp hd).1
  simp only [mPop, hD.get, h]
  show WP (if -(2 ^ 63) ≤ i ∧ i < 2 ^ 63 then (match seqIndex? i xs.length with
      | some k => (xs[k]?).map fun y => (y, S.set (n + 2) (.lst (xs.eraseIdx k)))
      | none => none) else none) Q
  rw [if_pos (by omega)]
  have e : seqIndex? i xs.length = some i.toNat := by
    have hn : ¬ i < 0 := by omega
    have hj : (decide (0 ≤ i) && decide (i < (xs.length : Int))) = true := by
      rw [Bool.and_eq_true, decide_eq_true_eq, decide_eq_true_eq]; omega
    unfold seqIndex?
    simp only [if_neg hn]
    rw [hj]; rfl
  rw [e]
  show WP ((xs[i.toNat]?).map _) Q
  rw [hd]
  exact (wp_some _ _).mpr (H _ (hD.put _ _))
theorem Dk.ix {i : Nat} {d : D} (h : tl[n]? = some (.lst xs)) (hd : xs[i]? = some d) : ixI S (.ref (n + 2)) (.p (.int i)) = some d := by
  have hl : i < xs.length := (List.getElem?_eq_some_iff.mp hd).1
  show (match dctOf S (.ref (n + 2)) with
    | some kvs => (keyP (.int i)).bind (valD kvs)
    | none => (lstOf S (.ref (n + 2))).bind fun xs => atI xs i) = _
  rw [hD.dctL h, hD.lst h]
  show atI xs (i : Int) = _
  unfold atI ixN
  rw [if_pos (by omega), if_pos (by omega)]
  show xs[((i : Nat) : Int).toNat]? = _
  rw [Int.toNat_natCast, hd]
theorem Dk.ixD {y : PyData} {key : Key} {d : D} (h : tl[n]? = some (.dct kvs)) (hk : keyP y = some key) (hd : valD kvs key = some d) : ixI S (.ref (n + 2)) (.p y) = some d := by
  show (match dctOf S (.ref (n + 2)) with
    | some kvs => (keyP y).bind (valD kvs)
    | none => _) = _
  rw [hD.dct h, hk]
  exact hd
theorem Dk.setD {Q : Store → Prop} {y : PyData} {key : Key} {d : D} (h : tl[n]? = some (.dct kvs)) (hl : kvs.length < 16777216) (hk : keyP y = some key) (H : ∀ S', Dk (tl.set n (.dct (putD kvs key d))) S' → Q S') : WP (setI S (.ref (n + 2)) (.p y) d) Q := by
  show WP (match S[n + 2]? with
    | some (.lst xs) => _
    | some (.dct kvs) => if kvs.length < sizeLine then (keyP y).map fun k => S.set (n + 2) (.dct (putD kvs k d)) else none
    | _ => none) Q
  rw [hD.get, h]
  show WP (if kvs.length < sizeLine then _ else none) Q
  rw [if_pos (by rw [show sizeLine = 16777216 from rfl]; exact hl), hk]
  exact (wp_some _ _).mpr (H _ (hD.put _ _))
theorem Dk.tuple {ys : List PyData} (h : tl[n]? = some (.lst (ys.map .p))) (hl : ys.length ≤ 16777216) : bTuple S [.ref (n + 2)] = some (.p (.tuple ys), S) := by
  show (lstOf S (.ref (n + 2))).bind _ = _
  rw [hD.lst h]
  show (allP (ys.map D.p)).bind _ = _
  rw [allP_map]
  show mkT ys S = _
  unfold mkT
  rw [if_pos (by rw [show sizeLine = 16777216 from rfl]; exact hl)]
end
section
variable (tl : Store) (a b c x : Cell)
theorem get10 : (tl ++ [a])[tl.length]? = some a := by simp
theorem set10 : (tl ++ [a]).set tl.length x = tl ++ [x] := by simp
theorem get20 : (tl ++ [a, b])[tl.length]? = some a := by simp
theorem get21 : (tl ++ [a, b])[tl.length + 1]? = some b := by simp
theorem set20 : (tl ++ [a, b]).set tl.length x = tl ++ [x, b] := by simp
theorem set21 : (tl ++ [a, b]).set (tl.length + 1) x = tl ++ [a, x] := by simp [List.set_append]
theorem get30 : (tl ++ [a, b, c])[tl.length]? = some a := by simp
theorem get31 : (tl ++ [a, b, c])[tl.length + 1]? = some b := by simp
theorem get32 : (tl ++ [a, b, c])[tl.length + 2]? = some c := by simp
theorem set32 : (tl ++ [a, b, c]).set (tl.length + 2) x = tl ++ [a, b, x] := by simp [List.set_append]
end
theorem valD_put (k k2 : Key) (d : D) : ∀ kvs : List (Key × D), valD (putD kvs k d) k2 = if k = k2 then some d else valD kvs k2 := by
  intro kvs
  unfold putD
  split
  · rename_i h
    induction kvs with
    | nil => cases h
    | cons q r ih =>
      obtain ⟨k0, d0⟩ := q
      unfold valD at ih ⊢
      rw [List.map_cons, List.find?_cons, List.find?_cons]
      by_cases h0 : k0 = k
      · subst h0
        rw [if_pos rfl]
        by_cases h2 : k0 = k2
        · simp [h2]
        · have e1 : decide (k0 = k2) = false := decide_eq_false h2
          simp only [e1, if_neg h2]
          have : ∀ r : List (Key × D), (r.map (fun kv => if kv.1 = k0 then (kv.1, d) else kv)).find? (fun kv => decide (kv.1 = k2)) = r.find? (fun kv => decide (kv.1 = k2)) := by
            intro r
            induction r with
            | nil => rfl
            | cons z r ih2 =>
              rw [List.map_cons, List.find?_cons, List.find?_cons, ih2]
              by_cases hz : z.1 = k0
              · rw [if_pos hz]
                have : decide (z.1 = k2) = false := decide_eq_false (by rw [hz]; exact h2)
                simp only [this]
              · rw [if_neg hz]
          rw [this]
      · rw [if_neg h0]
        by_cases h2 : k0 = k2
        · have hk : ¬ k = k2 := fun q => h0 (h2.trans q.symm)
          simp [h2, if_neg hk]
        · have e1 : decide (k0 = k2) = false := decide_eq_false h2
          simp only [e1]
          refine ih ?_
          rw [List.any_cons] at h
          simpa [h0] using h
  · rename_i h
    unfold valD
    rw [List.find?_append]
    have hn : k = k2 → kvs.find? (fun kv => decide (kv.1 = k2)) = none := fun q => by
      subst q
      rw [List.find?_eq_none]
      intro z hz hh
      exact h (List.any_eq_true.mpr ⟨z, hz, hh⟩)
    by_cases hk : k = k2
    · rw [if_pos hk, hn hk]
      simp [hk]
    · rw [if_neg hk]
      cases kvs.find? (fun kv => decide (kv.1 = k2)) with
      | none => simp [hk]
      | some z => rfl
theorem putD_len (kvs : List (Key × D)) (k : Key) (d : D) : (putD kvs k d).length ≤ kvs.length + 1 := by
  unfold putD
  split
  · rw [List.length_map]; omega
  · rw [List.length_append]; exact Nat.le_refl _
theorem enum_box {tl S : Store} {n : Nat} {xs : List PyData} (hD : Dk tl S) (h : tl[n]? = some (.lst (xs.map .p))) (i : Nat) : srcEn (srcR (n + 2)) i S = some (pairsI xs)[i]? := by
  unfold srcEn srcR pairsI
  rw [hD.get, h]
  show (match (some (xs.map D.p)[i]? : Option (Option D)) with
    | some none => some none
    | some (some (.p x)) => some (some (D.p (.tuple [.int i, x])))
    | _ => none) = _
  rw [List.getElem?_map, List.getElem?_mapIdx]
  cases xs[i]? <;> rfl
theorem enum_e {tl S : Store} {n : Nat} {xs : List D} (hD : Dk tl S) (h : tl[n]? = some (.lst xs)) : enSrc S (.ref (n + 2)) = some (srcEn (srcR (n + 2))) := by
  have i : IsLst S (.ref (n + 2)) = true := by
    simp only [IsLst, hD.get, h]
  have s : srcOf S (.ref (n + 2)) = some (srcR (n + 2)) := by
    show (match S[n + 2]? with
      | some (.lst _) => some (srcR (n + 2))
      | _ => none) = _
    rw [hD.get, h]
  show (if IsLst S (.ref (n + 2)) = true then (srcOf S (.ref (n + 2))).map srcEn else none) = _
  rw [if_pos i, s]; rfl
theorem kR1_n (S : Store) (n : Nat) (h : n < 1000000000) : kR1 (.p (.int (n : Nat)), S) = some (srcN 0 n, S) := by
  rw [kR1_e, if_pos (by omega), Int.toNat_natCast]
theorem mkL_nil (S : Store) : mkL false [] S = some (.p (.list []), S) := mkL_map [] S (by decide)
theorem mkT_e (xs : List PyData) (S : Store) (h : xs.length ≤ 16777216) : mkT xs S = some (.p (.tuple xs), S) := by
  unfold mkT
  rw [if_pos (by rw [show sizeLine = 16777216 from rfl]; exact h)]
theorem lrg1_n (bx : Bool) (S : Store) (n : Nat) (h : n < 1000) : lrg1 bx S (.p (.int (n : Nat))) = mkL bx (rngL 0 n) S := by
  rw [lrg1_e, if_pos (by omega), Int.toNat_natCast]
theorem eq_tnil (S : Store) (xs : List PyData) : eqI S (.p (.tuple xs)) (.p (.tuple [])) = some xs.isEmpty := rfl
def iD (ns : List Int) : List D := (ns.map PyData.int).map D.p
theorem iD_get {ns : List Int} {i : Nat} {u : Int} (h : ns[i]? = some u) : (iD ns)[i]? = some (.p (.int u)) := by
  unfold iD
  rw [List.getElem?_map, List.getElem?_map, h]; rfl
theorem iD_era (ns : List Int) : ∀ i, (iD ns).eraseIdx i = iD (ns.eraseIdx i) := by
  unfold iD
  induction ns with
  | nil => intro i; rfl
  | cons a r ih =>
    intro i
    cases i with
    | zero => rfl
    | succ i => simp only [List.map_cons, List.eraseIdx_cons_succ, ih]
theorem iD_len (ns : List Int) : (iD ns).length = ns.length := by unfold iD; rw [List.length_map, List.length_map]
theorem iD_at {ns : List Int} {i : Int} (h0 : 0 ≤ i) (h1 : i < ns.length) : ∃ u, u ∈ ns ∧ ns[i.toNat]? = some u := ⟨ns[i.toNat]'(by omega), List.getElem_mem _, List.getElem?_eq_getElem _⟩
theorem range_mem {n : Nat} {u : Int} : u ∈ ((List.range n).map fun i : Nat => (i : Int)) ↔ 0 ≤ u ∧ u < n := by
  constructor
  · intro h
    obtain ⟨i, hi, rfl⟩ := List.mem_map.mp h
    have := List.mem_range.mp hi
    omega
  · intro h
    exact List.mem_map.mpr ⟨u.toNat, List.mem_range.mpr (by omega), by omega⟩
theorem rng_iD (n : Nat) : rngL 0 n = iD ((List.range n).map fun i : Nat => (i : Int)) := by
  unfold rngL iD
  rw [List.map_map, List.map_map]
  exact List.map_congr_left fun i _ => by simp
theorem lrgM_u {tl S : Store} {a : M} {ev : EnvI} (hD : Dk tl S) {n : Nat} (hn : n < 1000) (ha : a ev S = some (.p (.int (n : Nat)), S)) {Q : D × Store → Prop} (H : ∀ S', Dk (tl ++ [.lst (iD ((List.range n).map fun i : Nat => (i : Int)))]) S' → Q (.ref (tl.length + 2), S')) : WP (mLrg1 true a ev S) Q := by
  have e : mLrg1 true a ev S = mkL true (rngL 0 n) S := by
    unfold mLrg1
    rw [ha, Option.bind_some]
    exact lrg1_n true S n hn
  rw [e, rng_iD]
  exact hD.newL (by rw [iD_len, List.length_map, List.length_range]; omega) H
/-- the rows that a dict has so far -/
def Kv (n : Nat) (kvs : List (Key × D)) (seen : List Int) : Prop := ∀ v ∈ seen, ∃ r : Rw, r.Ok n ∧ valD kvs (.inl v) = some (.p r.d)
theorem Kv.put {n : Nat} {kvs : List (Key × D)} {seen : List Int} (h : Kv n kvs seen) {r : Rw} (hr : r.Ok n) (v : Int) : Kv n (putD kvs (.inl v) (.p r.d)) (seen ++ [v]) := fun u hu => by
  rw [valD_put]
  by_cases e : v = u
  · subst e
    exact ⟨r, hr, if_pos rfl⟩
  · have e2 : ¬ (Sum.inl v : Key) = .inl u := fun q => e (Sum.inl.inj q)
    rw [if_neg e2]
    refine h u ?_
    rcases List.mem_append.mp hu with hu | hu
    · exact hu
    · exact absurd (List.mem_singleton.mp hu).symm e
theorem own_key (b : Bool) : (ownK b = ("keeper" : Str)) = (b = true) := by
  cases b <;> simp [ownK] <;> decide +kernel
end PI
set_option maxHeartbeats 1000000
/-! Own text: bounds of data that are made of others. -/
namespace PI
open PySem PySem.Spec L2
open PyProof.Rows hiding St

/-- sound data, at most so heavy, at most so deep -/
structure Gd (w dp : Nat) (x : PyData) : Prop where
  ok : okS x = true
  w : wt x ≤ w
  dp : x.depth ≤ dp
theorem Gd.le {w w2 dp dp2 : Nat} {x : PyData} (h : Gd w dp x) (h1 : w ≤ w2) (h2 : dp ≤ dp2) : Gd w2 dp2 x := ⟨h.ok, Nat.le_trans h.w h1, Nat.le_trans h.dp h2⟩
theorem Gd.fine {w dp : Nat} {x : PyData} (h : Gd w dp x) (h1 : w ≤ 16777216) (h2 : dp ≤ 64) : Fine x := ⟨h.ok, Nat.le_trans h.dp h2, Nat.le_trans h.w h1⟩
theorem Gd.sml {w dp : Nat} {x : PyData} (h : Gd w dp x) (h1 : w < 1000000) : Sml x := ⟨h.ok, Nat.lt_of_le_of_lt h.w h1⟩
theorem gd_non : Gd 5 0 .none := ⟨rfl, Nat.le_refl _, Nat.le_refl _⟩
theorem gd_bool (b : Bool) : Gd 5 0 (.bool b) := ⟨rfl, Nat.le_refl _, Nat.le_refl _⟩
theorem gd_int {i : Int} (h : i.natAbs < 2 ^ 1900) : Gd 1922 0 (.int i) := ⟨okS_int (Nat.lt_trans h (by decide)), Nat.le_refl _, Nat.le_refl _⟩
theorem small_abs {i : Int} (h : i.natAbs < 1000000000000) : i.natAbs < 2 ^ 1900 := Nat.lt_trans h (by decide)
theorem gd_small {i : Int} (h : i.natAbs < 1000000000000) : Gd 1922 0 (.int i) := gd_int (small_abs h)
theorem gd_str {z : Str} (h : PyData.strOk z = true) (n : Nat) (hn : z.length ≤ n) : Gd (10 * n + 2) 0 (.str z) := ⟨h, by show 10 * z.length + 2 ≤ _; omega, Nat.le_refl _⟩
theorem depth_tuple {xs : List PyData} {d : Nat} (h : ∀ x ∈ xs, x.depth ≤ d) : (PyData.tuple xs).depth ≤ d + 1 := by
  have e : ∀ xs : List PyData, (∀ x ∈ xs, x.depth ≤ d) → PyData.depthAll xs ≤ d := fun xs => by
    induction xs with
    | nil => intro _; exact Nat.zero_le _
    | cons x r ih =>
      intro h
      have h1 := h x (List.mem_cons_self ..)
      have h2 := ih fun y hy => h y (List.mem_cons_of_mem _ hy)
      show max x.depth (PyData.depthAll r) ≤ d
      omega
  show PyData.depthAll xs + 1 ≤ d + 1
  have := e xs h
  omega
theorem depth_list {xs : List PyData} {d : Nat} (h : ∀ x ∈ xs, x.depth ≤ d) : (PyData.list xs).depth ≤ d + 1 := depth_tuple h
theorem gd_tuple {xs : List PyData} {w dp : Nat} (h : ∀ x ∈ xs, Gd w dp x) : Gd ((w + 2) * xs.length + 3) (dp + 1) (.tuple xs) :=
  ⟨okAll_of fun x hx => (h x hx).ok, by have := wtAll_of (c := w) (xs := xs) fun x hx => (h x hx).w; show wtAll xs + 3 ≤ _; omega, depth_tuple fun x hx => (h x hx).dp⟩
theorem gd_list {xs : List PyData} {w dp : Nat} (h : ∀ x ∈ xs, Gd w dp x) : Gd ((w + 2) * xs.length + 3) (dp + 1) (.list xs) :=
  ⟨okAll_of fun x hx => (h x hx).ok, by have := wtAll_of (c := w) (xs := xs) fun x hx => (h x hx).w; show wtAll xs + 3 ≤ _; omega, depth_list fun x hx => (h x hx).dp⟩
theorem gd_t1 {x : PyData} {w dp : Nat} (h : Gd w dp x) : Gd (w + 5) (dp + 1) (.tuple [x]) := (gd_tuple (xs := [x]) (by simpa using h)).le (by simp) (Nat.le_refl _)
theorem gd_l1 {x : PyData} {w dp : Nat} (h : Gd w dp x) : Gd (w + 5) (dp + 1) (.list [x]) := (gd_list (xs := [x]) (by simpa using h)).le (by simp) (Nat.le_refl _)
theorem wtAll_app : ∀ a b : List PyData, wtAll (a ++ b) = wtAll a + wtAll b
  | [], b => by show wtAll b = 0 + wtAll b; omega
  | x :: r, b => by
    show wt x + 2 + wtAll (r ++ b) = wt x + 2 + wtAll r + wtAll b
    rw [wtAll_app r b]; omega
theorem okAll_app {a b : List PyData} (h1 : okAll a = true) (h2 : okAll b = true) : okAll (a ++ b) = true := okAll_of fun x hx => by
  rcases List.mem_append.mp hx with h | h
  · exact ok_mem h1 h
  · exact ok_mem h2 h
theorem depth_mem : ∀ {xs : List PyData} {x : PyData}, x ∈ xs → x.depth ≤ PyData.depthAll xs
  | y :: r, x, h => by
    show x.depth ≤ max y.depth (PyData.depthAll r)
    rcases List.mem_cons.mp h with rfl | h
    · omega
    · have := depth_mem h; omega
theorem Gd.mem {xs : List PyData} {w dp : Nat} (h : Gd w (dp + 1) (.tuple xs)) {x : PyData} (hx : x ∈ xs) : Gd w dp x := by
  have h1 : wtAll xs + 3 ≤ w := h.w
  have h2 : PyData.depthAll xs + 1 ≤ dp + 1 := h.dp
  have := wt_mem hx
  have := depth_mem hx
  exact ⟨ok_mem h.ok hx, by omega, by omega⟩
/-- the items of a tuple, all together -/
structure Ga (w dp : Nat) (xs : List PyData) : Prop where
  ok : okAll xs = true
  w : wtAll xs ≤ w
  dp : ∀ x ∈ xs, x.depth ≤ dp
theorem Gd.ga {xs : List PyData} {w dp : Nat} (h : Gd w (dp + 1) (.tuple xs)) : Ga w dp xs := ⟨h.ok, by have h1 : wtAll xs + 3 ≤ w := h.w; omega, fun x hx => (h.mem hx).dp⟩
theorem Ga.t {xs : List PyData} {w dp : Nat} (h : Ga w dp xs) : Gd (w + 3) (dp + 1) (.tuple xs) := ⟨h.ok, by show wtAll xs + 3 ≤ _; have := h.w; omega, depth_tuple h.dp⟩
theorem Ga.l {xs : List PyData} {w dp : Nat} (h : Ga w dp xs) : Gd (w + 3) (dp + 1) (.list xs) := ⟨h.ok, by show wtAll xs + 3 ≤ _; have := h.w; omega, depth_list h.dp⟩
theorem Ga.app {a b : List PyData} {w1 w2 dp : Nat} (h1 : Ga w1 dp a) (h2 : Ga w2 dp b) : Ga (w1 + w2) dp (a ++ b) := ⟨okAll_app h1.ok h2.ok, by rw [wtAll_app]; have := h1.w; have := h2.w; omega, fun x hx => by
  rcases List.mem_append.mp hx with h | h
  · exact h1.dp x h
  · exact h2.dp x h⟩
theorem Ga.le {xs : List PyData} {w w2 dp dp2 : Nat} (h : Ga w dp xs) (h1 : w ≤ w2) (h2 : dp ≤ dp2) : Ga w2 dp2 xs := ⟨h.ok, Nat.le_trans h.w h1, fun x hx => Nat.le_trans (h.dp x hx) h2⟩
theorem ga_one {x : PyData} {w dp : Nat} (h : Gd w dp x) : Ga (w + 2) dp [x] := ⟨okAll_of (by simpa using h.ok), by show wt x + 2 + 0 ≤ _; have := h.w; omega, by simpa using h.dp⟩
theorem wtAll_sub {a b : List PyData} (h : a.Sublist b) : wtAll a ≤ wtAll b := by
  induction h with
  | slnil => exact Nat.le_refl _
  | cons x _ ih => show _ ≤ wt x + 2 + wtAll _; omega
  | cons_cons x _ ih => show wt x + 2 + wtAll _ ≤ wt x + 2 + wtAll _; omega
theorem Ga.sub {a b : List PyData} {w dp : Nat} (h : Ga w dp b) (s : a.Sublist b) : Ga w dp a := ⟨okAll_of fun x hx => ok_mem h.ok (s.subset hx), Nat.le_trans (wtAll_sub s) h.w, fun x hx => h.dp x (s.subset hx)⟩
theorem wtAll_rev (xs : List PyData) : wtAll xs.reverse = wtAll xs := by
  induction xs with
  | nil => rfl
  | cons x r ih =>
    rw [List.reverse_cons, wtAll_app, ih]
    show wtAll r + (wt x + 2 + 0) = wt x + 2 + wtAll r
    omega
theorem Ga.rev {xs : List PyData} {w dp : Nat} (h : Ga w dp xs) : Ga w dp xs.reverse := ⟨okAll_of fun x hx => ok_mem h.ok (List.mem_reverse.mp hx), by rw [wtAll_rev]; exact h.w, fun x hx => h.dp x (List.mem_reverse.mp hx)⟩
theorem ga_nil : Ga 0 0 [] := ⟨rfl, Nat.le_refl _, by simp⟩
theorem ga_mem {xs : List PyData} {w dp : Nat} (h : ∀ x ∈ xs, Gd w dp x) : Ga ((w + 2) * xs.length) dp xs := ⟨okAll_of fun x hx => (h x hx).ok, wtAll_of fun x hx => (h x hx).w, fun x hx => (h x hx).dp⟩
theorem Ga.len {xs : List PyData} {w dp : Nat} (h : Ga w dp xs) : xs.length ≤ w := Nat.le_trans (wt_len xs) h.w
/-- another item at a place -/
theorem Ga.put {xs : List PyData} {w dp w1 dp1 : Nat} (h : Ga w dp xs) {i : Nat} {x y : PyData} (hx : xs[i]? = some x) (hy : Gd (w1 + wt x) dp1 y) (hd : dp ≤ dp1) : Ga (w + w1) dp1 (xs.take i ++ [y] ++ xs.drop (i + 1)) := by
  have e : xs = xs.take i ++ x :: xs.drop (i + 1) := by
    rw [← (List.getElem?_eq_some_iff.mp hx).2, List.getElem_cons_drop, List.take_append_drop]
  have w0 := h.w
  rw [e, wtAll_app] at w0
  have w0 : wtAll (xs.take i) + (wt x + 2 + wtAll (xs.drop (i + 1))) ≤ w := w0
  have hw := hy.w
  refine ⟨okAll_of fun z hz => ?_, ?_, fun z hz => ?_⟩
  · simp only [List.mem_append, List.mem_singleton] at hz
    rcases hz with (hz | rfl) | hz
    · exact ok_mem h.ok (List.mem_of_mem_take hz)
    · exact hy.ok
    · exact ok_mem h.ok (List.mem_of_mem_drop hz)
  · rw [wtAll_app, wtAll_app]
    show wtAll (xs.take i) + (wt y + 2 + 0) + wtAll (xs.drop (i + 1)) ≤ w + w1
    omega
  · simp only [List.mem_append, List.mem_singleton] at hz
    rcases hz with (hz | rfl) | hz
    · exact Nat.le_trans (h.dp z (List.mem_of_mem_take hz)) hd
    · exact hy.dp
    · exact Nat.le_trans (h.dp z (List.mem_of_mem_drop hz)) hd
theorem cut_to {α : Type} (xs : List α) (n : Nat) : PI.cutD xs none (some (n : Nat)) = xs.take n := by
  unfold PI.cutD
  rw [HT.sIx_none, HT.sIx_nat, Nat.sub_zero, List.drop_zero]
  by_cases h : n ≤ xs.length
  · rw [Nat.min_eq_left h]
  · rw [Nat.min_eq_right (by omega), List.take_length, List.take_of_length_le (by omega)]
theorem cut_from {α : Type} (xs : List α) (n : Nat) : PI.cutD xs (some (n : Nat)) none = xs.drop n := by
  unfold PI.cutD
  rw [HT.sIx_none, HT.sIx_nat]
  by_cases h : n ≤ xs.length
  · rw [Nat.min_eq_left h, List.take_of_length_le (by rw [List.length_drop]; exact Nat.le_refl _)]
  · rw [Nat.min_eq_right (by omega), List.drop_length, List.drop_of_length_le (by omega), List.take_nil]
end PI
set_option maxHeartbeats 1000000
/-! Own text: data near plain data; a branch whose two sides are worked out once. -/
namespace PI
open PySem PySem.Spec L2
open PyProof.Rows hiding St

def Atm (x : PyData) : Prop := x = .none ∨ ∃ i : Int, x = .int i ∧ i.natAbs ≤ 1000
theorem Atm.gd {x : PyData} (h : Atm x) : Gd 1922 0 x := by
  rcases h with rfl | ⟨i, rfl, hi⟩
  · exact gd_non.le (by decide) (by decide)
  · exact gd_small (by omega)
/-- data of None, small numbers and tuples of such -/
def Pl : Nat → PyData → Prop
  | 0, x => Atm x
  | d + 1, x => Atm x ∨ ∃ xs, x = .tuple xs ∧ xs.length ≤ 1000 ∧ ∀ y ∈ xs, Pl d y
theorem Pl.cases : ∀ {d : Nat} {x : PyData}, Pl d x → Atm x ∨ ∃ e xs, d = e + 1 ∧ x = .tuple xs ∧ xs.length ≤ 1000 ∧ ∀ y ∈ xs, Pl e y
  | 0, x, h => .inl h
  | d + 1, x, h => by
    rcases h with h | ⟨xs, h1, h2, h3⟩
    · exact .inl h
    · exact .inr ⟨d, xs, rfl, h1, h2, h3⟩
theorem Pl.ok : ∀ {d : Nat} {x : PyData}, Pl d x → okS x = true
  | 0, x, h => h.gd.ok
  | d + 1, x, h => by
    rcases h with h | ⟨xs, rfl, h2, h3⟩
    · exact h.gd.ok
    · exact okAll_of fun y hy => (h3 y hy).ok
def Out (x y : PyData) : Prop := Gd (2 * wt x + 260000) (x.depth + 6) y
theorem gd_self {x : PyData} (h : okS x = true) : Gd (wt x) x.depth x := ⟨h, Nat.le_refl _, Nat.le_refl _⟩
theorem Gd.out {w dp : Nat} {x y : PyData} (h : Gd w dp y) (h1 : w ≤ 260000) (h2 : dp ≤ 6) : Out x y := h.le (by omega) (by omega)
theorem ga_self {xs : List PyData} (h : okS (.tuple xs) = true) : Ga (wtAll xs) (PyData.depthAll xs) xs := ⟨h, Nat.le_refl _, fun x hx => depth_mem hx⟩
theorem wt_tup (xs : List PyData) : wt (.tuple xs) = wtAll xs + 3 := rfl
theorem dp_tup (xs : List PyData) : (PyData.tuple xs).depth = PyData.depthAll xs + 1 := rfl
theorem Out.put {xs : List PyData} {i : Nat} {e y : PyData} (hok : okS (.tuple xs) = true) (he : xs[i]? = some e) (hy : Out e y) : Out (.tuple xs) (.tuple (xs.take i ++ [y] ++ xs.drop (i + 1))) := by
  have hm := List.mem_of_getElem? he
  have h1 := wt_mem hm
  have h2 := depth_mem hm
  have g := ((ga_self hok).put (w1 := wt e + 260000) (dp1 := PyData.depthAll xs + 6) he (Gd.le hy (by omega) (by omega)) (by omega)).t
  exact g.le (by rw [wt_tup]; omega) (by rw [dp_tup]; omega)
theorem ga_out {xs : List PyData} {w dp : Nat} {x : PyData} (h : Ga w dp xs) (h1 : w ≤ 2 * wt x + 259990) (h2 : dp ≤ x.depth + 5) : Out x (.tuple xs) := h.t.le (by omega) (by omega)
theorem ga_outL {xs : List PyData} {w dp : Nat} {x : PyData} (h : Ga w dp xs) (h1 : w ≤ 2 * wt x + 259990) (h2 : dp ≤ x.depth + 5) : Out x (.list xs) := h.l.le (by omega) (by omega)
section
variable {C : M} {A B : MS} {ev : EnvI} {S : Store} {R : Fl × EnvI × Store → Prop}
theorem wp_sIf (P : Bool → Store → Prop) (h : WP (C ev S) fun r => ∃ b, r.1 = .p (.bool b) ∧ P b r.2) (ht : ∀ S, P true S → WP (A ev S) R) (hf : ∀ S, P false S → WP (B ev S) R) : WP (sIf C A B ev S) R := by
  rw [sIf_e, wp_bind]
  refine h.mono ?_
  rintro ⟨x, S1⟩ ⟨b, e, p⟩
  cases e
  rw [kIf_e, isTru_e, Option.bind_some]
  cases b with
  | true => exact ht S1 p
  | false => exact hf S1 p
end
section
theorem bList_t (S : Store) (xs : List PyData) (h : xs.length ≤ 16777216) : bList false S [.p (.tuple xs)] = some (.p (.list xs), S) := by
  show mkL false (xs.map D.p) S = _
  exact mkL_map xs S h
theorem bStr_i (S : Store) {i : Int} (h : i.natAbs ≤ 1000000) : bStr S [.p (.int i)] = some (.p (.str (toString i)), S) := by
  show (if i.natAbs.log2 < 1920 then some (D.p (.str (toString i)), S) else none) = _
  rw [if_pos (log_small (Nat.lt_of_le_of_lt h (by decide)))]
theorem str_gd {i : Int} (h : i.natAbs ≤ 1000000) : Gd 20000 0 (.str (toString i)) := by
  have e := int_text_len_1921 (i := i) (log_small (Nat.lt_of_le_of_lt h (by decide)))
  exact (gd_str (strOk_of _) 1921 e).le (by decide) (Nat.le_refl _)
theorem bBool_i (S : Store) (i : Int) : bBool S [.p (.int i)] = some (.p (.bool (i != 0)), S) := rfl
end
end PI
set_option maxHeartbeats 400000
/-! ### the text by places -/
namespace K55
open PySem PySem.Spec L2 PI
open PyProof.Rows hiding St
def top (i : Nat) : Stmt := PySem.Challenge.pw_howmanyslips_k55_controllers_of_any_valu.main.body.getD i (.Pass ⟨0, 0, 0, 0⟩)
def DEP : Nat := 60
def G (L : Nat) : GS where
  L := L
  bx := fun p => decide (p = ⟨75, 11, 75, 72⟩) || decide (p = ⟨75, 20, 75, 43⟩) || decide (p = ⟨128, 18, 128, 20⟩) || decide (p = ⟨140, 19, 140, 21⟩) || decide (p = ⟨140, 23, 140, 37⟩) || decide (p = ⟨143, 11, 143, 13⟩) || decide (p = ⟨187, 12, 187, 176⟩)
  gk := fun x => if x = "KEEPER" then some (.p (.str "keeper")) else if x = "FOE" then some (.p (.str "foe")) else none
  bl := fun x => (["sorted", "sum", "zip", "enumerate", "set", "len", "int", "str", "max", "min", "list", "tuple", "isinstance", "repr", "all", "range", "bool"] : List Str).contains x
abbrev s__law_deck : Stmt := top 30
def ft__law_deck : FT := ⟨["script", "seed"], ["script", "seed", "mixed", "cell"], defScope s__law_deck, defBody s__law_deck⟩
abbrev s__law_draw : Stmt := top 31
def ft__law_draw : FT := ⟨["deck", "many"], ["deck", "many", "cell", "figure"], defScope s__law_draw, defBody s__law_draw⟩
abbrev s__law_pick : Stmt := top 32
def ft__law_pick : FT := ⟨["deck", "some"], ["deck", "some"], defScope s__law_pick, defBody s__law_pick⟩
abbrev s__law_ladder : Stmt := top 38
def ft__law_ladder : FT := ⟨["deck", "n"], ["deck", "n", "order", "left", "rows", "at", "v", "moves", "slips", "owner"], defScope s__law_ladder, defBody s__law_ladder⟩
abbrev s__law_drawn_game : Stmt := top 37
def ft__law_drawn_game : FT := ⟨["deck", "most", "marks"], ["deck", "most", "marks", "n", "rows", "left", "v", "owner", "turn", "moves", "slips", "aims", "u"], defScope s__law_drawn_game, defBody s__law_drawn_game⟩
abbrev s__law_drawn_plan : Stmt := top 39
def ft__law_drawn_plan : FT := ⟨["deck", "game"], ["deck", "game", "row"], defScope s__law_drawn_plan, defBody s__law_drawn_plan⟩
abbrev s__law_drawn_controller : Stmt := top 41
def ft__law_drawn_controller : FT := ⟨["deck", "game", "most"], ["deck", "game", "most", "many", "row", "room", "v"], defScope s__law_drawn_controller, defBody s__law_drawn_controller⟩
abbrev s__law_any : Stmt := top 34
def ft__law_any : FT := ⟨["deck", "deep"], ["deck", "deep", "way", "turn", "some"], defScope s__law_any, defBody s__law_any⟩
abbrev s__law_instead : Stmt := top 35
def ft__law_instead : FT := ⟨["some", "at", "item"], ["some", "at", "item"], defScope s__law_instead, defBody s__law_instead⟩
abbrev s__law_is_integer : Stmt := top 33
def ft__law_is_integer : FT := ⟨["thing"], ["thing"], defScope s__law_is_integer, defBody s__law_is_integer⟩
abbrev s__law_bent : Stmt := top 36
def ft__law_bent : FT := ⟨["deck", "thing", "deep"], ["deck", "thing", "deep", "way", "at"], defScope s__law_bent, defBody s__law_bent⟩
abbrev s__law_spoilt : Stmt := top 42
def ft__law_spoilt : FT := ⟨["deck", "thing"], ["deck", "thing", "at"], defScope s__law_spoilt, defBody s__law_spoilt⟩
abbrev s__law_near : Stmt := top 43
def ft__law_near : FT := ⟨["deck", "game", "controller"], ["deck", "game", "controller", "n", "many", "r", "v", "moves", "nexts", "rooms", "x", "room", "some"], defScope s__law_near, defBody s__law_near⟩
abbrev s__law_is_controller : Stmt := top 40
def ft__law_is_controller : FT := ⟨["game", "thing"], ["game", "thing", "room", "it", "x", "move", "row"], defScope s__law_is_controller, defBody s__law_is_controller⟩
abbrev s_is_tuple : Stmt := top 9
def ft_is_tuple : FT := ⟨["thing", "length"], ["thing", "length"], defScope s_is_tuple, defBody s_is_tuple⟩
abbrev s_is_word : Stmt := top 10
def ft_is_word : FT := ⟨["thing", "words"], ["thing", "words"], defScope s_is_word, defBody s_is_word⟩
abbrev s_is_integer : Stmt := top 6
def ft_is_integer : FT := ⟨["thing"], ["thing"], defScope s_is_integer, defBody s_is_integer⟩
abbrev s_is_from : Stmt := top 7
def ft_is_from : FT := ⟨["thing", "least"], ["thing", "least"], defScope s_is_from, defBody s_is_from⟩
abbrev s_is_between : Stmt := top 8
def ft_is_between : FT := ⟨["thing", "least", "most"], ["thing", "least", "most"], defScope s_is_between, defBody s_is_between⟩
abbrev s_do_ascend : Stmt := top 11
def ft_do_ascend : FT := ⟨["items"], ["items", "one", "other"], defScope s_do_ascend, defBody s_do_ascend⟩
abbrev s_are_moves : Stmt := top 12
def ft_are_moves : FT := ⟨["thing", "many"], ["thing", "many", "u"], defScope s_are_moves, defBody s_are_moves⟩
abbrev s_is_slip : Stmt := top 13
def ft_is_slip : FT := ⟨["thing", "many"], ["thing", "many"], defScope s_is_slip, defBody s_is_slip⟩
abbrev s_are_slips : Stmt := top 14
def ft_are_slips : FT := ⟨["thing", "many"], ["thing", "many", "slip"], defScope s_are_slips, defBody s_are_slips⟩
abbrev s_is_place_row : Stmt := top 15
def ft_is_place_row : FT := ⟨["thing", "many"], ["thing", "many"], defScope s_is_place_row, defBody s_is_place_row⟩
abbrev s_is_game_value : Stmt := top 16
def ft_is_game_value : FT := ⟨["thing"], ["thing", "row"], defScope s_is_game_value, defBody s_is_game_value⟩
abbrev s_need_game : Stmt := top 17
def ft_need_game : FT := ⟨["game"], ["game"], defScope s_need_game, defBody s_need_game⟩
abbrev s_is_keepers : Stmt := top 19
def ft_is_keepers : FT := ⟨["game", "place"], ["game", "place"], defScope s_is_keepers, defBody s_is_keepers⟩
abbrev s_is_place_of : Stmt := top 18
def ft_is_place_of : FT := ⟨["game", "thing"], ["game", "thing"], defScope s_is_place_of, defBody s_is_place_of⟩
abbrev s_moves_of : Stmt := top 20
def ft_moves_of : FT := ⟨["game", "place"], ["game", "place"], defScope s_moves_of, defBody s_moves_of⟩
abbrev s_is_plan_item : Stmt := top 22
def ft_is_plan_item : FT := ⟨["game", "v", "thing"], ["game", "v", "thing"], defScope s_is_plan_item, defBody s_is_plan_item⟩
abbrev s_is_plan_value : Stmt := top 23
def ft_is_plan_value : FT := ⟨["game", "thing"], ["game", "thing", "v", "item"], defScope s_is_plan_value, defBody s_is_plan_value⟩
abbrev s_is_room : Stmt := top 25
def ft_is_room : FT := ⟨["game", "many", "thing"], ["game", "many", "thing", "room"], defScope s_is_room, defBody s_is_room⟩
abbrev s_is_controller_value : Stmt := top 26
def ft_is_controller_value : FT := ⟨["game", "thing"], ["game", "thing", "room"], defScope s_is_controller_value, defBody s_is_controller_value⟩
abbrev s_is_controller : Stmt := top 28
def ft_is_controller : FT := ⟨["game", "thing"], ["game", "thing"], defScope s_is_controller, defBody s_is_controller⟩
abbrev s_law : Stmt := top 44
def ft_law : FT := ⟨["script"], ["script", "deck", "turn", "game", "controller", "go", "thing", "text", "due"], defScope s_law, defBody s_law⟩
def T (x : Str) : Option FT := if x = "_law_deck" then some ft__law_deck else if x = "_law_draw" then some ft__law_draw else if x = "_law_pick" then some ft__law_pick else if x = "_law_ladder" then some ft__law_ladder else if x = "_law_drawn_game" then some ft__law_drawn_game else if x = "_law_drawn_plan" then some ft__law_drawn_plan else if x = "_law_drawn_controller" then some ft__law_drawn_controller else if x = "_law_any" then some ft__law_any else if x = "_law_instead" then some ft__law_instead else if x = "_law_is_integer" then some ft__law_is_integer else if x = "_law_bent" then some ft__law_bent else if x = "_law_spoilt" then some ft__law_spoilt else if x = "_law_near" then some ft__law_near else if x = "_law_is_controller" then some ft__law_is_controller else if x = "is_tuple" then some ft_is_tuple else if x = "is_word" then some ft_is_word else if x = "is_integer" then some ft_is_integer else if x = "is_from" then some ft_is_from else if x = "is_between" then some ft_is_between else if x = "do_ascend" then some ft_do_ascend else if x = "are_moves" then some ft_are_moves else if x = "is_slip" then some ft_is_slip else if x = "are_slips" then some ft_are_slips else if x = "is_place_row" then some ft_is_place_row else if x = "is_game_value" then some ft_is_game_value else if x = "need_game" then some ft_need_game else if x = "is_keepers" then some ft_is_keepers else if x = "is_place_of" then some ft_is_place_of else if x = "moves_of" then some ft_moves_of else if x = "is_plan_item" then some ft_is_plan_item else if x = "is_plan_value" then some ft_is_plan_value else if x = "is_room" then some ft_is_room else if x = "is_controller_value" then some ft_is_controller_value else if x = "is_controller" then some ft_is_controller else if x = "law" then some ft_law else none
/-! ### each def as a term -/
def b__law_deck_0 (L k : Nat) : MS := sSeq (sAsg (mBin false .Mod (mBlt bInt (mCons (mBin false .Add (mBin false .Add (mBin false .Mult (mV 2) (mC (.p (.int 48271)))) (mBin false .Mod (mBlt bInt (mCons (mV 3) (mNil))) (mC (.p (.int 2147483629))))) (mC (.p (.int 61)))) (mNil))) (mC (.p (.int 2147483563)))) (gNm 2)) (sNil)
theorem e__law_deck (L k : Nat) : fL (G L) T DEP (k + 1) ft__law_deck = bodyF ["script", "seed", "mixed", "cell"] ["script", "seed"] (sSeq (sAsg (mV 1) (gNm 2)) (sSeq (sFor L (mIter (mSl false (mV 0) (mONone) (mOSome (mC (.p (.int 63)))))) (gNm 3) (b__law_deck_0 L k)) (sSeq (sRet (mDic true (mpCons (mC (.p (.str "left"))) (mRev true (mBlt (bList false) (mCons (mSl false (mV 0) (mONone) (mOSome (mC (.p (.int 63))))) (mNil)))) (mpCons (mC (.p (.str "mixed"))) (mV 2) (mpCons (mC (.p (.str "draws"))) (mC (.p (.int 0))) (mpNil)))))) (sNil)))) := by kernel_rfl
theorem e__law_draw (L k : Nat) : fL (G L) T DEP (k + 1) ft__law_draw = bodyF ["deck", "many", "cell", "figure"] ["deck", "many"] (sSeq (sAsg (mBin false .Add (mIx (mV 0) (mC (.p (.str "draws")))) (mC (.p (.int 1)))) (gSb (mV 0) (mC (.p (.str "draws"))))) (sSeq (sIf (mCmp .NotEq (mIx (mV 0) (mC (.p (.str "left")))) (mLst false (mNil))) (sSeq (sAsg (mMet "pop" (mIx (mV 0) (mC (.p (.str "left")))) (mNil)) (gNm 2)) (sSeq (sIf (mCmp .GtE (mV 2) (mBin false .Pow (mC (.p (.int 10))) (mC (.p (.int 18))))) (sSeq (sEx (mMet "append" (mIx (mV 0) (mC (.p (.str "left")))) (mCons (mBin false .FloorDiv (mV 2) (mBlt bMax (mCons (mC (.p (.int 2))) (mCons (mV 1) (mNil))))) (mNil)))) (sSeq (sRet (mBin false .Mod (mBlt bInt (mCons (mV 2) (mNil))) (mV 1))) (sNil))) (sNil)) (sSeq (sAsg (mBin false .Mod (mBlt bInt (mCons (mBin false .Add (mBin false .Add (mBin false .Mult (mIx (mV 0) (mC (.p (.str "mixed")))) (mC (.p (.int 39373)))) (mBin false .Mod (mBlt bInt (mCons (mV 2) (mNil))) (mC (.p (.int 2147483629))))) (mC (.p (.int 79)))) (mNil))) (mC (.p (.int 2147483587)))) (gSb (mV 0) (mC (.p (.str "mixed"))))) (sNil)))) (sNil)) (sSeq (sAsg (mBin false .Mod (mBlt bInt (mCons (mBin false .Add (mIx (mV 0) (mC (.p (.str "mixed")))) (mBin false .Mult (mC (.p (.int 31337))) (mIx (mV 0) (mC (.p (.str "draws")))))) (mNil))) (mC (.p (.int 2147483647)))) (gNm 3)) (sSeq (sAsg (mBin false .Mod (mBlt bInt (mCons (mBin false .Add (mBin false .Add (mBin false .Mult (mV 3) (mV 3)) (mBin false .Mult (mC (.p (.int 48271))) (mIx (mV 0) (mC (.p (.str "draws")))))) (mC (.p (.int 83)))) (mNil))) (mC (.p (.int 2147483629)))) (gNm 3)) (sSeq (sAsg (mBin false .Mod (mBlt bInt (mCons (mBin false .Add (mBin false .Mult (mV 3) (mC (.p (.int 69621)))) (mC (.p (.int 77)))) (mNil))) (mC (.p (.int 2147483563)))) (gNm 3)) (sSeq (sRet (mBin false .Mod (mBlt bInt (mCons (mBin false .FloorDiv (mV 3) (mC (.p (.int 64)))) (mNil))) (mV 1))) (sNil))))))) := by kernel_rfl
theorem e__law_pick (L k : Nat) : fL (G L) T DEP (k + 1) ft__law_pick = bodyF ["deck", "some"] ["deck", "some"] (sSeq (sRet (mIx (mV 1) (mCall (fL (G L) T DEP k ft__law_draw) [0, 1] (mCons (mV 0) (mCons (mBlt bLen (mCons (mV 1) (mNil))) (mNil))) (mNil)))) (sNil)) := by kernel_rfl
def b__law_ladder_0 (L k : Nat) : M := mCmp .NotEq (mV 3) (mLst false (mNil))
def b__law_ladder_1 (L k : Nat) : MS := sSeq (sEx (mMet "append" (mV 2) (mCons (mMet "pop" (mV 3) (mCons (mCall (fL (G L) T DEP k ft__law_draw) [0, 1] (mCons (mV 0) (mCons (mBlt bLen (mCons (mV 3) (mNil))) (mNil))) (mNil)) (mNil))) (mNil)))) (sNil)
def b__law_ladder_2 (L k : Nat) : MS := sSeq (sIf (mCmp .Eq (mBin false .Add (mV 5) (mC (.p (.int 1)))) (mV 1)) (sSeq (sAsg (mTup (mCons (mIf (mCmp .Eq (mCall (fL (G L) T DEP k ft__law_draw) [0, 1] (mCons (mV 0) (mCons (mC (.p (.int 2))) (mNil))) (mNil)) (mC (.p (.int 0)))) (mC (.p (.str "foe"))) (mC (.p (.str "keeper")))) (mCons (mC (.p (.int 1))) (mCons (mTup (mCons (mV 6) (mNil))) (mCons (mTup (mNil)) (mNil)))))) (gSb (mV 4) (mV 6))) (sSeq (sCnt) (sNil))) (sNil)) (sSeq (sAsg (mSset false (mBin false .Add (mLst false (mCons (mIx (mV 2) (mCall (fL (G L) T DEP k ft__law_draw) [0, 1] (mCons (mV 0) (mCons (mBin false .Add (mV 5) (mC (.p (.int 1)))) (mNil))) (mNil))) (mNil))) (mIf (mCmp .Eq (mCall (fL (G L) T DEP k ft__law_draw) [0, 1] (mCons (mV 0) (mCons (mC (.p (.int 3))) (mNil))) (mNil)) (mC (.p (.int 0)))) (mLst false (mCons (mIx (mV 2) (mCall (fL (G L) T DEP k ft__law_draw) [0, 1] (mCons (mV 0) (mCons (mV 1) (mNil))) (mNil))) (mNil))) (mLst false (mNil))))) (gNm 7)) (sSeq (sAsg (mIf (mCmp .Gt (mCall (fL (G L) T DEP k ft__law_draw) [0, 1] (mCons (mV 0) (mCons (mC (.p (.int 6))) (mNil))) (mNil)) (mC (.p (.int 0)))) (mTup (mCons (mTup (mCons (mIx (mV 2) (mBin false .Add (mV 5) (mC (.p (.int 1))))) (mCons (mCall (fL (G L) T DEP k ft__law_pick) [0, 1] (mCons (mV 0) (mCons (mLst false (mCons (mC (.p (.int 1))) (mCons (mC (.p (.int 2))) (mCons (mC (.p (.int 1))) (mCons (mC (.p (.int 3))) (mNil)))))) (mNil))) (mNil)) (mNil)))) (mNil))) (mTup (mNil))) (gNm 8)) (sSeq (sAsg (mIf (mOr (mCmp .NotEq (mV 8) (mTup (mNil))) (mCmp .Eq (mCall (fL (G L) T DEP k ft__law_draw) [0, 1] (mCons (mV 0) (mCons (mC (.p (.int 2))) (mNil))) (mNil)) (mC (.p (.int 0))))) (mC (.p (.str "keeper"))) (mC (.p (.str "foe")))) (gNm 9)) (sSeq (sAsg (mTup (mCons (mV 9) (mCons (mCall (fL (G L) T DEP k ft__law_pick) [0, 1] (mCons (mV 0) (mCons (mLst false (mCons (mC (.p (.int 0))) (mCons (mC (.p (.int 2))) (mCons (mC (.p (.int 0))) (mCons (mC (.p (.int 2))) (mCons (mC (.p (.int 1))) (mNil))))))) (mNil))) (mNil)) (mCons (mBlt bTuple (mCons (mV 7) (mNil))) (mCons (mV 8) (mNil)))))) (gSb (mV 4) (mV 6))) (sNil)))))
def b__law_ladder_3 (L k : Nat) : M := mIx (mV 4) (mV 6)
theorem e__law_ladder (L k : Nat) : fL (G L) T DEP (k + 1) ft__law_ladder = bodyF ["deck", "n", "order", "left", "rows", "at", "v", "moves", "slips", "owner"] ["deck", "n"] (sSeq (sPar (mCons (mLst true (mNil)) (mCons (mLrg1 true (mV 1)) (mNil))) (gP2 2 3)) (sSeq (whLoop (b__law_ladder_0 L k) (b__law_ladder_1 L k) L) (sSeq (sAsg (mDic true (mpNil)) (gNm 4)) (sSeq (sFor L (mEn (mV 2)) (gTp 2 (gsCons (gNm 5) (gsCons (gNm 6) (gsNil)))) (b__law_ladder_2 L k)) (sSeq (sRet (mBlt bTuple (mCons (mLc L false (mRng1 (mV 1)) [6] (gNm 6) (mYes) (b__law_ladder_3 L k)) (mNil)))) (sNil)))))) := by kernel_rfl
def b__law_drawn_game_0 (L k : Nat) : M := mCall (fL (G L) T DEP k ft__law_draw) [0, 1] (mCons (mV 0) (mCons (mV 3) (mNil))) (mNil)
def b__law_drawn_game_1 (L k : Nat) : M := mCall (fL (G L) T DEP k ft__law_draw) [0, 1] (mCons (mV 0) (mCons (mV 3) (mNil))) (mNil)
def b__law_drawn_game_2 (L k : Nat) : M := mTup (mCons (mV 12) (mCons (mCall (fL (G L) T DEP k ft__law_pick) [0, 1] (mCons (mV 0) (mCons (mLst false (mCons (mC (.p (.int 1))) (mCons (mC (.p (.int 1))) (mCons (mC (.p (.int 2))) (mCons (mC (.p (.int 2))) (mCons (mC (.p (.int 3))) (mCons (mC (.p (.int 9))) (mNil)))))))) (mNil))) (mNil)) (mNil)))
def b__law_drawn_game_3 (L k : Nat) : MS := sSeq (sAsg (mCall (fL (G L) T DEP k ft__law_pick) [0, 1] (mCons (mV 0) (mCons (mLst false (mCons (mC (.p (.str "keeper"))) (mCons (mC (.p (.str "keeper"))) (mCons (mC (.p (.str "foe"))) (mNil))))) (mNil))) (mNil)) (gNm 7)) (sSeq (sAsg (mSset false (mLc L false (mRng1 (mCall (fL (G L) T DEP k ft__law_pick) [0, 1] (mCons (mV 0) (mCons (mLst false (mCons (mC (.p (.int 1))) (mCons (mC (.p (.int 1))) (mCons (mC (.p (.int 2))) (mCons (mC (.p (.int 2))) (mCons (mC (.p (.int 3))) (mNil))))))) (mNil))) (mNil))) [8] (gNm 8) (mYes) (b__law_drawn_game_0 L k))) (gNm 9)) (sSeq (sAsg (mLst false (mNil)) (gNm 10)) (sSeq (sIf (mAnd (mCmp .Eq (mV 7) (mC (.p (.str "keeper")))) (mCmp .Eq (mCall (fL (G L) T DEP k ft__law_draw) [0, 1] (mCons (mV 0) (mCons (mC (.p (.int 2))) (mNil))) (mNil)) (mC (.p (.int 0))))) (sSeq (sAsg (mSl false (mSset false (mLc L false (mRng1 (mCall (fL (G L) T DEP k ft__law_pick) [0, 1] (mCons (mV 0) (mCons (mLst false (mCons (mC (.p (.int 1))) (mCons (mC (.p (.int 1))) (mCons (mC (.p (.int 2))) (mNil))))) (mNil))) (mNil))) [8] (gNm 8) (mYes) (b__law_drawn_game_1 L k))) (mONone) (mOSome (mV 5))) (gNm 11)) (sSeq (sAsg (mLc L false (mIter (mV 11)) [12] (gNm 12) (mYes) (b__law_drawn_game_2 L k)) (gNm 10)) (sNil))) (sNil)) (sSeq (sAsg (mBin false .Sub (mV 5) (mBlt bLen (mCons (mV 10) (mNil)))) (gNm 5)) (sSeq (sEx (mMet "append" (mV 4) (mCons (mTup (mCons (mV 7) (mCons (mCall (fL (G L) T DEP k ft__law_pick) [0, 1] (mCons (mV 0) (mCons (mV 2) (mNil))) (mNil)) (mCons (mBlt bTuple (mCons (mV 9) (mNil))) (mCons (mBlt bTuple (mCons (mV 10) (mNil))) (mNil)))))) (mNil)))) (sNil))))))
theorem e__law_drawn_game (L k : Nat) : fL (G L) T DEP (k + 1) ft__law_drawn_game = bodyF ["deck", "most", "marks", "n", "rows", "left", "v", "owner", "turn", "moves", "slips", "aims", "u"] ["deck", "most", "marks"] (sSeq (sAsg (mBlt bMin (mCons (mV 1) (mCons (mCall (fL (G L) T DEP k ft__law_pick) [0, 1] (mCons (mV 0) (mCons (mLst false (mCons (mC (.p (.int 1))) (mCons (mC (.p (.int 2))) (mCons (mC (.p (.int 3))) (mCons (mC (.p (.int 3))) (mCons (mC (.p (.int 4))) (mCons (mC (.p (.int 4))) (mCons (mC (.p (.int 5))) (mCons (mC (.p (.int 5))) (mCons (mC (.p (.int 6))) (mCons (mC (.p (.int 7))) (mNil)))))))))))) (mNil))) (mNil)) (mNil)))) (gNm 3)) (sSeq (sIf (mAnd (mCmp .Eq (mCall (fL (G L) T DEP k ft__law_draw) [0, 1] (mCons (mV 0) (mCons (mC (.p (.int 3))) (mNil))) (mNil)) (mC (.p (.int 0)))) (mCmp .Gt (mV 3) (mC (.p (.int 1))))) (sSeq (sRet (mCall (fL (G L) T DEP k ft__law_ladder) [0, 1] (mCons (mV 0) (mCons (mV 3) (mNil))) (mNil))) (sNil)) (sNil)) (sSeq (sPar (mCons (mLst true (mNil)) (mCons (mC (.p (.int 6))) (mNil))) (gP2 4 5)) (sSeq (sFor L (mRng1 (mV 3)) (gNm 6) (b__law_drawn_game_3 L k)) (sSeq (sRet (mBlt bTuple (mCons (mV 4) (mNil)))) (sNil)))))) := by kernel_rfl
def b__law_drawn_plan_0 (L k : Nat) : M := mIf (mCmp .Eq (mIx (mV 2) (mC (.p (.int 0)))) (mC (.p (.str "keeper")))) (mCall (fL (G L) T DEP k ft__law_pick) [0, 1] (mCons (mV 0) (mCons (mIx (mV 2) (mC (.p (.int 2)))) (mNil))) (mNil)) (mC (.p .none))
theorem e__law_drawn_plan (L k : Nat) : fL (G L) T DEP (k + 1) ft__law_drawn_plan = bodyF ["deck", "game", "row"] ["deck", "game"] (sSeq (sRet (mBlt bTuple (mCons (mLc L false (mIter (mV 1)) [2] (gNm 2) (mYes) (b__law_drawn_plan_0 L k)) (mNil)))) (sNil)) := by kernel_rfl
def b__law_drawn_controller_0 (L k : Nat) : M := mBlt bLen (mCons (mIx (mV 4) (mC (.p (.int 3)))) (mNil))
def b__law_drawn_controller_1 (L k : Nat) : M := mAnd (mCmp .Gt (mV 3) (mC (.p (.int 1)))) (mOr (mCmp .Gt (mBin false .Mult (mV 3) (mBlt bLen (mCons (mV 1) (mNil)))) (mC (.p (.int 12)))) (mCmp .Gt (mBin false .Mult (mV 3) (mBlt bSum (mCons (mLc L false (mIter (mV 1)) [4] (gNm 4) (mYes) (b__law_drawn_controller_0 L k)) (mNil)))) (mC (.p (.int 12)))))
def b__law_drawn_controller_2 (L k : Nat) : MS := sSeq (sAsg (mBin false .Sub (mV 3) (mC (.p (.int 1)))) (gNm 3)) (sNil)
def b__law_drawn_controller_3 (L k : Nat) : M := mCall (fL (G L) T DEP k ft__law_draw) [0, 1] (mCons (mV 0) (mCons (mV 3) (mNil))) (mNil)
def b__law_drawn_controller_4 (L k : Nat) : M := mTup (mCons (mCall (fL (G L) T DEP k ft__law_drawn_plan) [0, 1] (mCons (mV 0) (mCons (mV 1) (mNil))) (mNil)) (mCons (mBlt bTuple (mCons (mLc L false (mIter (mV 1)) [6] (gNm 6) (mYes) (b__law_drawn_controller_3 L k)) (mNil))) (mNil)))
theorem e__law_drawn_controller (L k : Nat) : fL (G L) T DEP (k + 1) ft__law_drawn_controller = bodyF ["deck", "game", "most", "many", "row", "room", "v"] ["deck", "game", "most"] (sSeq (sAsg (mBin false .Add (mC (.p (.int 1))) (mCall (fL (G L) T DEP k ft__law_draw) [0, 1] (mCons (mV 0) (mCons (mV 2) (mNil))) (mNil))) (gNm 3)) (sSeq (whLoop (b__law_drawn_controller_1 L k) (b__law_drawn_controller_2 L k) L) (sSeq (sRet (mBlt bTuple (mCons (mLc L false (mRng1 (mV 3)) [5] (gNm 5) (mYes) (b__law_drawn_controller_4 L k)) (mNil)))) (sNil)))) := by kernel_rfl
def b__law_any_0 (L k : Nat) : M := mCall (fL (G L) T DEP k ft__law_any) [0, 1] (mCons (mV 0) (mCons (mBin false .Sub (mV 1) (mC (.p (.int 1)))) (mNil))) (mNil)
theorem e__law_any (L k : Nat) : fL (G L) T DEP (k + 1) ft__law_any = bodyF ["deck", "deep", "way", "turn", "some"] ["deck", "deep"] (sSeq (sAsg (mCall (fL (G L) T DEP k ft__law_draw) [0, 1] (mCons (mV 0) (mCons (mC (.p (.int 10))) (mNil))) (mNil)) (gNm 2)) (sSeq (sIf (mCmp .Lt (mV 2) (mC (.p (.int 2)))) (sSeq (sRet (mCall (fL (G L) T DEP k ft__law_pick) [0, 1] (mCons (mV 0) (mCons (mLst false (mCons (mC (.p (.int 0))) (mCons (mC (.p (.int 1))) (mCons (mNeg (mC (.p (.int 1)))) (mCons (mC (.p (.int 7))) (mCons (mBin false .Pow (mC (.p (.int 10))) (mC (.p (.int 29)))) (mCons (mNeg (mBin false .Pow (mC (.p (.int 10))) (mC (.p (.int 20))))) (mCons (mC (.p (.int 2))) (mCons (mC (.p (.int 5))) (mNil)))))))))) (mNil))) (mNil))) (sNil)) (sNil)) (sSeq (sIf (mCmp .Lt (mV 2) (mC (.p (.int 4)))) (sSeq (sRet (mCall (fL (G L) T DEP k ft__law_pick) [0, 1] (mCons (mV 0) (mCons (mLst false (mCons (mC (.p (.str ""))) (mCons (mC (.p (.str "keeper"))) (mCons (mC (.p (.str "move"))) (mCons (mC (.p (.str "any"))) (mCons (mC (.p (.str "x\ny"))) (mCons (mC (.p (.str "~"))) (mNil)))))))) (mNil))) (mNil))) (sNil)) (sNil)) (sSeq (sIf (mCmp .Eq (mV 2) (mC (.p (.int 4)))) (sSeq (sRet (mCall (fL (G L) T DEP k ft__law_pick) [0, 1] (mCons (mV 0) (mCons (mLst false (mCons (mC (.p (.bool true))) (mCons (mC (.p (.bool false))) (mCons (mC (.p .none)) (mNil))))) (mNil))) (mNil))) (sNil)) (sNil)) (sSeq (sAsg (mIf (mCmp .Gt (mV 1) (mC (.p (.int 0)))) (mLc L false (mRng1 (mCall (fL (G L) T DEP k ft__law_draw) [0, 1] (mCons (mV 0) (mCons (mC (.p (.int 4))) (mNil))) (mNil))) [3] (gNm 3) (mYes) (b__law_any_0 L k)) (mLst false (mNil))) (gNm 4)) (sSeq (sIf (mCmp .Eq (mV 2) (mC (.p (.int 5)))) (sSeq (sRet (mV 4)) (sNil)) (sNil)) (sSeq (sRet (mIf (mCmp .Eq (mV 2) (mC (.p (.int 6)))) (mDic false (mpCons (mC (.p (.str "key"))) (mV 4) (mpCons (mC (.p (.int 1))) (mBlt bLen (mCons (mV 4) (mNil))) (mpNil)))) (mBlt bTuple (mCons (mV 4) (mNil))))) (sNil)))))))) := by kernel_rfl
theorem e__law_instead (L k : Nat) : fL (G L) T DEP (k + 1) ft__law_instead = bodyF ["some", "at", "item"] ["some", "at", "item"] (sSeq (sRet (mBin false .Add (mBin false .Add (mSl false (mV 0) (mONone) (mOSome (mV 1))) (mTup (mCons (mV 2) (mNil)))) (mSl false (mV 0) (mOSome (mBin false .Add (mV 1) (mC (.p (.int 1))))) (mONone)))) (sNil)) := by kernel_rfl
theorem e__law_is_integer (L k : Nat) : fL (G L) T DEP (k + 1) ft__law_is_integer = bodyF ["thing"] ["thing"] (sSeq (sRet (mAnd (mBlt bIsi (mCons (mV 0) (mCons (mC (.ty .int)) (mNil)))) (mNot (mBlt bIsi (mCons (mV 0) (mCons (mC (.ty .bl)) (mNil))))))) (sNil)) := by kernel_rfl
theorem e__law_bent (L k : Nat) : fL (G L) T DEP (k + 1) ft__law_bent = bodyF ["deck", "thing", "deep", "way", "at"] ["deck", "thing", "deep"] (sSeq (sIf (mOr (mNot (mBlt bIsi (mCons (mV 1) (mCons (mC (.ty .tup)) (mNil))))) (mOr (mCmp .Eq (mV 1) (mTup (mNil))) (mOr (mCmp .Eq (mV 2) (mC (.p (.int 0)))) (mCmp .Eq (mCall (fL (G L) T DEP k ft__law_draw) [0, 1] (mCons (mV 0) (mCons (mC (.p (.int 5))) (mNil))) (mNil)) (mC (.p (.int 0))))))) (sSeq (sAsg (mCall (fL (G L) T DEP k ft__law_draw) [0, 1] (mCons (mV 0) (mCons (mC (.p (.int 14))) (mNil))) (mNil)) (gNm 3)) (sSeq (sIf (mCall (fL (G L) T DEP k ft__law_is_integer) [0] (mCons (mV 1) (mNil)) (mNil)) (sSeq (sRet (mCall (fL (G L) T DEP k ft__law_pick) [0, 1] (mCons (mV 0) (mCons (mLst false (mCons (mC (.p (.int 0))) (mCons (mNeg (mV 1)) (mCons (mBin false .Sub (mV 1) (mC (.p (.int 1)))) (mCons (mBin false .Add (mV 1) (mC (.p (.int 1)))) (mCons (mBlt bBool (mCons (mV 1) (mNil))) (mCons (mBlt bStr (mCons (mV 1) (mNil))) (mCons (mTup (mCons (mV 1) (mNil))) (mCons (mLst false (mCons (mV 1) (mNil))) (mCons (mC (.p .none)) (mCons (mBin false .Add (mV 1) (mC (.p (.int 4)))) (mNil)))))))))))) (mNil))) (mNil))) (sNil)) (sNil)) (sSeq (sIf (mOr (mCmp .Eq (mV 3) (mC (.p (.int 0)))) (mNot (mBlt bIsi (mCons (mV 1) (mCons (mC (.ty .tup)) (mNil)))))) (sSeq (sRet (mCall (fL (G L) T DEP k ft__law_any) [0, 1] (mCons (mV 0) (mCons (mC (.p (.int 2))) (mNil))) (mNil))) (sNil)) (sNil)) (sSeq (sIf (mCmp .Lt (mV 3) (mC (.p (.int 4)))) (sSeq (sRet (mBlt (bList false) (mCons (mV 1) (mNil)))) (sNil)) (sNil)) (sSeq (sIf (mCmp .Lt (mV 3) (mC (.p (.int 6)))) (sSeq (sRet (mBin false .Add (mV 1) (mTup (mCons (mCall (fL (G L) T DEP k ft__law_pick) [0, 1] (mCons (mV 0) (mCons (mLst false (mCons (mTup (mNil)) (mCons (mC (.p (.int 0))) (mCons (mC (.p (.int 1))) (mCons (mTup (mCons (mC (.p (.int 0))) (mNil))) (mCons (mC (.p .none)) (mCons (mC (.p (.bool true))) (mNil)))))))) (mNil))) (mNil)) (mNil))))) (sNil)) (sNil)) (sSeq (sIf (mCmp .Lt (mV 3) (mC (.p (.int 9)))) (sSeq (sRet (mRev false (mV 1))) (sNil)) (sNil)) (sSeq (sIf (mCmp .Lt (mV 3) (mC (.p (.int 11)))) (sSeq (sRet (mBin false .Add (mV 1) (mSl false (mV 1) (mONone) (mOSome (mC (.p (.int 1))))))) (sNil)) (sNil)) (sSeq (sRet (mIf (mCmp .Lt (mV 3) (mC (.p (.int 13)))) (mSl false (mV 1) (mOSome (mC (.p (.int 1)))) (mONone)) (mTup (mCons (mV 1) (mNil))))) (sNil))))))))) (sNil)) (sSeq (sAsg (mCall (fL (G L) T DEP k ft__law_draw) [0, 1] (mCons (mV 0) (mCons (mBlt bLen (mCons (mV 1) (mNil))) (mNil))) (mNil)) (gNm 4)) (sSeq (sRet (mCall (fL (G L) T DEP k ft__law_instead) [0, 1, 2] (mCons (mV 1) (mCons (mV 4) (mCons (mCall (fL (G L) T DEP k ft__law_bent) [0, 1, 2] (mCons (mV 0) (mCons (mIx (mV 1) (mV 4)) (mCons (mBin false .Sub (mV 2) (mC (.p (.int 1)))) (mNil)))) (mNil)) (mNil)))) (mNil))) (sNil)))) := by kernel_rfl
theorem e__law_spoilt (L k : Nat) : fL (G L) T DEP (k + 1) ft__law_spoilt = bodyF ["deck", "thing", "at"] ["deck", "thing"] (sSeq (sIf (mAnd (mBlt bIsi (mCons (mV 1) (mCons (mC (.ty .str)) (mNil)))) (mCmp .Gt (mCall (fL (G L) T DEP k ft__law_draw) [0, 1] (mCons (mV 0) (mCons (mC (.p (.int 3))) (mNil))) (mNil)) (mC (.p (.int 0))))) (sSeq (sRet (mCall (fL (G L) T DEP k ft__law_pick) [0, 1] (mCons (mV 0) (mCons (mLst false (mCons (mC (.p (.str ""))) (mCons (mC (.p (.str "keeper"))) (mCons (mC (.p (.str "foe"))) (mCons (mC (.p (.str "move"))) (mCons (mC (.p (.str "slip"))) (mCons (mC (.p (.str "any"))) (mCons (mC (.p (.str "ever"))) (mCons (mC (.p (.str "numbers"))) (mCons (mC (.p (.str "Move"))) (mCons (mBin false .Add (mV 1) (mC (.p (.str "s")))) (mCons (mSl false (mV 1) (mONone) (mOSome (mNeg (mC (.p (.int 1)))))) (mNil))))))))))))) (mNil))) (mNil))) (sNil)) (sNil)) (sSeq (sIf (mAnd (mBlt bIsi (mCons (mV 1) (mCons (mC (.ty .tup)) (mNil)))) (mAnd (mCmp .NotEq (mV 1) (mTup (mNil))) (mCmp .Eq (mCall (fL (G L) T DEP k ft__law_draw) [0, 1] (mCons (mV 0) (mCons (mC (.p (.int 8))) (mNil))) (mNil)) (mC (.p (.int 0)))))) (sSeq (sRet (mSl false (mV 1) (mONone) (mOSome (mNeg (mC (.p (.int 1))))))) (sNil)) (sNil)) (sSeq (sIf (mOr (mNot (mBlt bIsi (mCons (mV 1) (mCons (mC (.ty .tup)) (mNil))))) (mOr (mCmp .Eq (mV 1) (mTup (mNil))) (mCmp .Eq (mCall (fL (G L) T DEP k ft__law_draw) [0, 1] (mCons (mV 0) (mCons (mC (.p (.int 6))) (mNil))) (mNil)) (mC (.p (.int 0)))))) (sSeq (sIf (mAnd (mCall (fL (G L) T DEP k ft__law_is_integer) [0] (mCons (mV 1) (mNil)) (mNil)) (mCmp .Eq (mCall (fL (G L) T DEP k ft__law_draw) [0, 1] (mCons (mV 0) (mCons (mC (.p (.int 2))) (mNil))) (mNil)) (mC (.p (.int 0))))) (sSeq (sRet (mBin false .Add (mV 1) (mCall (fL (G L) T DEP k ft__law_pick) [0, 1] (mCons (mV 0) (mCons (mLst false (mCons (mC (.p (.int 1))) (mCons (mNeg (mC (.p (.int 1)))) (mCons (mC (.p (.int 2))) (mNil))))) (mNil))) (mNil)))) (sNil)) (sNil)) (sSeq (sRet (mCall (fL (G L) T DEP k ft__law_bent) [0, 1, 2] (mCons (mV 0) (mCons (mV 1) (mCons (mC (.p (.int 1))) (mNil)))) (mNil))) (sNil))) (sNil)) (sSeq (sAsg (mCall (fL (G L) T DEP k ft__law_draw) [0, 1] (mCons (mV 0) (mCons (mBlt bLen (mCons (mV 1) (mNil))) (mNil))) (mNil)) (gNm 2)) (sSeq (sRet (mCall (fL (G L) T DEP k ft__law_instead) [0, 1, 2] (mCons (mV 1) (mCons (mV 2) (mCons (mCall (fL (G L) T DEP k ft__law_spoilt) [0, 1] (mCons (mV 0) (mCons (mIx (mV 1) (mV 2)) (mNil))) (mNil)) (mNil)))) (mNil))) (sNil)))))) := by kernel_rfl
def b__law_near_0 (L k : Nat) : MS := sSeq (sEx (mMet "append" (mV 9) (mCons (mTup (mCons (mCall (fL (G L) T DEP k ft__law_instead) [0, 1, 2] (mCons (mV 7) (mCons (mV 6) (mCons (mV 10) (mNil)))) (mNil)) (mCons (mV 8) (mNil)))) (mNil)))) (sNil)
def b__law_near_1 (L k : Nat) : MS := sSeq (sEx (mMet "append" (mV 9) (mCons (mTup (mCons (mV 7) (mCons (mCall (fL (G L) T DEP k ft__law_instead) [0, 1, 2] (mCons (mV 8) (mCons (mV 6) (mCons (mV 10) (mNil)))) (mNil)) (mNil)))) (mNil)))) (sNil)
def b__law_near_2 (L k : Nat) : M := mCall (fL (G L) T DEP k ft__law_instead) [0, 1, 2] (mCons (mV 2) (mCons (mV 5) (mCons (mV 11) (mNil)))) (mNil)
theorem e__law_near (L k : Nat) : fL (G L) T DEP (k + 1) ft__law_near = bodyF ["deck", "game", "controller", "n", "many", "r", "v", "moves", "nexts", "rooms", "x", "room", "some"] ["deck", "game", "controller"] (sSeq (sPar (mCons (mBlt bLen (mCons (mV 1) (mNil))) (mCons (mBlt bLen (mCons (mV 2) (mNil))) (mNil))) (gP2 3 4)) (sSeq (sAsg (mTup (mCons (mCall (fL (G L) T DEP k ft__law_draw) [0, 1] (mCons (mV 0) (mCons (mV 4) (mNil))) (mNil)) (mCons (mCall (fL (G L) T DEP k ft__law_draw) [0, 1] (mCons (mV 0) (mCons (mV 3) (mNil))) (mNil)) (mNil)))) (gTp 2 (gsCons (gNm 5) (gsCons (gNm 6) (gsNil))))) (sSeq (sAsg (mIx (mV 2) (mV 5)) (gTp 2 (gsCons (gNm 7) (gsCons (gNm 8) (gsNil))))) (sSeq (sAsg (mLst true (mCons (mTup (mCons (mSl false (mV 7) (mOSome (mC (.p (.int 1)))) (mONone)) (mCons (mV 8) (mNil)))) (mCons (mTup (mCons (mV 7) (mCons (mSl false (mV 8) (mOSome (mC (.p (.int 1)))) (mONone)) (mNil)))) (mCons (mTup (mCons (mBin false .Add (mV 7) (mSl false (mV 7) (mONone) (mOSome (mC (.p (.int 1)))))) (mCons (mV 8) (mNil)))) (mCons (mTup (mCons (mBlt (bList false) (mCons (mV 7) (mNil))) (mCons (mV 8) (mNil)))) (mCons (mTup (mCons (mV 7) (mCons (mBlt (bList false) (mCons (mV 8) (mNil))) (mNil)))) (mCons (mTup (mCons (mV 7) (mNil))) (mCons (mTup (mCons (mV 7) (mCons (mV 8) (mCons (mTup (mNil)) (mNil))))) (mCons (mLst false (mCons (mV 7) (mCons (mV 8) (mNil)))) (mCons (mC (.p .none)) (mNil))))))))))) (gNm 9)) (sSeq (sFor L (mIter (mTup (mCons (mC (.p .none)) (mCons (mC (.p (.bool true))) (mCons (mC (.p (.bool false))) (mCons (mV 3) (mCons (mNeg (mC (.p (.int 1)))) (mCons (mC (.p (.str "move"))) (mCons (mTup (mCons (mC (.p (.int 0))) (mNil))) (mCons (mCall (fL (G L) T DEP k ft__law_draw) [0, 1] (mCons (mV 0) (mCons (mV 3) (mNil))) (mNil)) (mCons (mCall (fL (G L) T DEP k ft__law_draw) [0, 1] (mCons (mV 0) (mCons (mV 3) (mNil))) (mNil)) (mNil)))))))))))) (gNm 10) (b__law_near_0 L k)) (sSeq (sFor L (mIter (mTup (mCons (mC (.p .none)) (mCons (mC (.p (.bool true))) (mCons (mC (.p (.bool false))) (mCons (mV 4) (mCons (mNeg (mC (.p (.int 1)))) (mCons (mC (.p (.str "0"))) (mCons (mBin false .Add (mV 4) (mC (.p (.int 7)))) (mCons (mCall (fL (G L) T DEP k ft__law_draw) [0, 1] (mCons (mV 0) (mCons (mV 4) (mNil))) (mNil)) (mNil))))))))))) (gNm 10) (b__law_near_1 L k)) (sSeq (sAsg (mBin false .Add (mLc L false (mIter (mV 9)) [11] (gNm 11) (mYes) (b__law_near_2 L k)) (mLst false (mCons (mTup (mNil)) (mCons (mBlt (bList false) (mCons (mV 2) (mNil))) (mCons (mBin false .Add (mV 2) (mTup (mCons (mC (.p .none)) (mNil)))) (mCons (mTup (mCons (mV 2) (mNil))) (mCons (mIx (mV 2) (mC (.p (.int 0)))) (mCons (mBin false .Mult (mV 2) (mC (.p (.int 2)))) (mNil))))))))) (gNm 12)) (sSeq (sRet (mIf (mCmp .Gt (mCall (fL (G L) T DEP k ft__law_draw) [0, 1] (mCons (mV 0) (mCons (mC (.p (.int 4))) (mNil))) (mNil)) (mC (.p (.int 0)))) (mCall (fL (G L) T DEP k ft__law_pick) [0, 1] (mCons (mV 0) (mCons (mV 12) (mNil))) (mNil)) (mCall (fL (G L) T DEP k ft__law_spoilt) [0, 1] (mCons (mV 0) (mCons (mV 2) (mNil))) (mNil)))) (sNil))))))))) := by kernel_rfl
def b__law_is_controller_0 (L k : Nat) : M := mOr (mNot (mBlt bIsi (mCons (mV 3) (mCons (mC (.ty .tup)) (mNil))))) (mCmp .NotEq (mBlt bLen (mCons (mV 3) (mNil))) (mBlt bLen (mCons (mV 0) (mNil))))
def b__law_is_controller_1 (L k : Nat) : M := mV 3
def b__law_is_controller_2 (L k : Nat) : M := mOr (mNot (mCall (fL (G L) T DEP k ft__law_is_integer) [0] (mCons (mV 4) (mNil)) (mNil))) (mNot (mChain .LtE .Lt (mC (.p (.int 0))) (mV 4) (mBlt bLen (mCons (mV 1) (mNil)))))
def b__law_is_controller_3 (L k : Nat) : M := mV 4
def b__law_is_controller_4 (L k : Nat) : MS := sSeq (sIf (mOr (mAnd (mCmp .Eq (mIx (mV 6) (mC (.p (.int 0)))) (mC (.p (.str "foe")))) (mCmp .IsNot (mV 5) (mC (.p .none)))) (mAnd (mCmp .Eq (mIx (mV 6) (mC (.p (.int 0)))) (mC (.p (.str "keeper")))) (mNot (mAnd (mCall (fL (G L) T DEP k ft__law_is_integer) [0] (mCons (mV 5) (mNil)) (mNil)) (mCmp .In (mV 5) (mIx (mV 6) (mC (.p (.int 2))))))))) (sSeq (sRet (mC (.p (.bool false)))) (sNil)) (sNil)) (sNil)
def b__law_is_controller_5 (L k : Nat) : MS := sSeq (sIf (mOr (mNot (mBlt bIsi (mCons (mV 2) (mCons (mC (.ty .tup)) (mNil))))) (mOr (mCmp .NotEq (mBlt bLen (mCons (mV 2) (mNil))) (mC (.p (.int 2)))) (mCmp .NotEq (mLc L false (mIter (mV 2)) [3] (gNm 3) (b__law_is_controller_0 L k) (b__law_is_controller_1 L k)) (mLst false (mNil))))) (sSeq (sRet (mC (.p (.bool false)))) (sNil)) (sNil)) (sSeq (sIf (mCmp .NotEq (mLc L false (mIter (mIx (mV 2) (mC (.p (.int 1))))) [4] (gNm 4) (b__law_is_controller_2 L k) (b__law_is_controller_3 L k)) (mLst false (mNil))) (sSeq (sRet (mC (.p (.bool false)))) (sNil)) (sNil)) (sSeq (sFor L (mZip (mIx (mV 2) (mC (.p (.int 0)))) (mV 0)) (gTp 2 (gsCons (gNm 5) (gsCons (gNm 6) (gsNil)))) (b__law_is_controller_4 L k)) (sNil)))
theorem e__law_is_controller (L k : Nat) : fL (G L) T DEP (k + 1) ft__law_is_controller = bodyF ["game", "thing", "room", "it", "x", "move", "row"] ["game", "thing"] (sSeq (sIf (mOr (mNot (mBlt bIsi (mCons (mV 1) (mCons (mC (.ty .tup)) (mNil))))) (mCmp .Eq (mV 1) (mTup (mNil)))) (sSeq (sRet (mC (.p (.bool false)))) (sNil)) (sNil)) (sSeq (sFor L (mIter (mV 1)) (gNm 2) (b__law_is_controller_5 L k)) (sSeq (sRet (mC (.p (.bool true)))) (sNil)))) := by kernel_rfl
theorem e_is_tuple (L k : Nat) : fL (G L) T DEP (k + 1) ft_is_tuple = bodyF ["thing", "length"] ["thing", "length"] (sSeq (sRet (mAnd (mBlt bIsi (mCons (mV 0) (mCons (mC (.ty .tup)) (mNil)))) (mCmp .Eq (mBlt bLen (mCons (mV 0) (mNil))) (mV 1)))) (sNil)) := by kernel_rfl
theorem e_is_word (L k : Nat) : fL (G L) T DEP (k + 1) ft_is_word = bodyF ["thing", "words"] ["thing", "words"] (sSeq (sRet (mAnd (mBlt bIsi (mCons (mV 0) (mCons (mC (.ty .str)) (mNil)))) (mCmp .In (mV 0) (mV 1)))) (sNil)) := by kernel_rfl
theorem e_is_integer (L k : Nat) : fL (G L) T DEP (k + 1) ft_is_integer = bodyF ["thing"] ["thing"] (sSeq (sRet (mAnd (mBlt bIsi (mCons (mV 0) (mCons (mC (.ty .int)) (mNil)))) (mNot (mBlt bIsi (mCons (mV 0) (mCons (mC (.ty .bl)) (mNil))))))) (sNil)) := by kernel_rfl
theorem e_is_from (L k : Nat) : fL (G L) T DEP (k + 1) ft_is_from = bodyF ["thing", "least"] ["thing", "least"] (sSeq (sRet (mAnd (mCall (fL (G L) T DEP k ft_is_integer) [0] (mCons (mV 0) (mNil)) (mNil)) (mCmp .GtE (mV 0) (mV 1)))) (sNil)) := by kernel_rfl
theorem e_is_between (L k : Nat) : fL (G L) T DEP (k + 1) ft_is_between = bodyF ["thing", "least", "most"] ["thing", "least", "most"] (sSeq (sRet (mAnd (mCall (fL (G L) T DEP k ft_is_integer) [0] (mCons (mV 0) (mNil)) (mNil)) (mChain .LtE .LtE (mV 1) (mV 0) (mV 2)))) (sNil)) := by kernel_rfl
def b_do_ascend_0 (L k : Nat) : M := mCmp .Lt (mV 1) (mV 2)
theorem e_do_ascend (L k : Nat) : fL (G L) T DEP (k + 1) ft_do_ascend = bodyF ["items", "one", "other"] ["items"] (sSeq (sRet (mBlt bAll (mCons (mLc L false (mZip (mV 0) (mSl false (mV 0) (mOSome (mC (.p (.int 1)))) (mONone))) [1, 2] (gTp 2 (gsCons (gNm 1) (gsCons (gNm 2) (gsNil)))) (mYes) (b_do_ascend_0 L k)) (mNil)))) (sNil)) := by kernel_rfl
def b_are_moves_0 (L k : Nat) : M := mCall (fL (G L) T DEP k ft_is_between) [0, 1, 2] (mCons (mV 2) (mCons (mC (.p (.int 0))) (mCons (mBin false .Sub (mV 1) (mC (.p (.int 1)))) (mNil)))) (mNil)
theorem e_are_moves (L k : Nat) : fL (G L) T DEP (k + 1) ft_are_moves = bodyF ["thing", "many", "u"] ["thing", "many"] (sSeq (sIf (mOr (mNot (mBlt bIsi (mCons (mV 0) (mCons (mC (.ty .tup)) (mNil))))) (mOr (mCmp .Eq (mV 0) (mTup (mNil))) (mNot (mBlt bAll (mCons (mLc L false (mIter (mV 0)) [2] (gNm 2) (mYes) (b_are_moves_0 L k)) (mNil)))))) (sSeq (sRet (mC (.p (.bool false)))) (sNil)) (sNil)) (sSeq (sRet (mCall (fL (G L) T DEP k ft_do_ascend) [0] (mCons (mV 0) (mNil)) (mNil))) (sNil))) := by kernel_rfl
theorem e_is_slip (L k : Nat) : fL (G L) T DEP (k + 1) ft_is_slip = bodyF ["thing", "many"] ["thing", "many"] (sSeq (sRet (mAnd (mCall (fL (G L) T DEP k ft_is_tuple) [0, 1] (mCons (mV 0) (mCons (mC (.p (.int 2))) (mNil))) (mNil)) (mAnd (mCall (fL (G L) T DEP k ft_is_between) [0, 1, 2] (mCons (mIx (mV 0) (mC (.p (.int 0)))) (mCons (mC (.p (.int 0))) (mCons (mBin false .Sub (mV 1) (mC (.p (.int 1)))) (mNil)))) (mNil)) (mCall (fL (G L) T DEP k ft_is_from) [0, 1] (mCons (mIx (mV 0) (mC (.p (.int 1)))) (mCons (mC (.p (.int 1))) (mNil))) (mNil))))) (sNil)) := by kernel_rfl
def b_are_slips_0 (L k : Nat) : M := mCall (fL (G L) T DEP k ft_is_slip) [0, 1] (mCons (mV 2) (mCons (mV 1) (mNil))) (mNil)
def b_are_slips_1 (L k : Nat) : M := mIx (mV 2) (mC (.p (.int 0)))
theorem e_are_slips (L k : Nat) : fL (G L) T DEP (k + 1) ft_are_slips = bodyF ["thing", "many", "slip"] ["thing", "many"] (sSeq (sIf (mOr (mNot (mBlt bIsi (mCons (mV 0) (mCons (mC (.ty .tup)) (mNil))))) (mNot (mBlt bAll (mCons (mLc L false (mIter (mV 0)) [2] (gNm 2) (mYes) (b_are_slips_0 L k)) (mNil))))) (sSeq (sRet (mC (.p (.bool false)))) (sNil)) (sNil)) (sSeq (sRet (mCall (fL (G L) T DEP k ft_do_ascend) [0] (mCons (mLc L false (mIter (mV 0)) [2] (gNm 2) (mYes) (b_are_slips_1 L k)) (mNil)) (mNil))) (sNil))) := by kernel_rfl
theorem e_is_place_row (L k : Nat) : fL (G L) T DEP (k + 1) ft_is_place_row = bodyF ["thing", "many"] ["thing", "many"] (sSeq (sIf (mOr (mNot (mCall (fL (G L) T DEP k ft_is_tuple) [0, 1] (mCons (mV 0) (mCons (mC (.p (.int 4))) (mNil))) (mNil))) (mOr (mNot (mCall (fL (G L) T DEP k ft_is_word) [0, 1] (mCons (mIx (mV 0) (mC (.p (.int 0)))) (mCons (mTup (mCons (mC (.p (.str "keeper"))) (mCons (mC (.p (.str "foe"))) (mNil)))) (mNil))) (mNil))) (mNot (mCall (fL (G L) T DEP k ft_is_from) [0, 1] (mCons (mIx (mV 0) (mC (.p (.int 1)))) (mCons (mC (.p (.int 0))) (mNil))) (mNil))))) (sSeq (sRet (mC (.p (.bool false)))) (sNil)) (sNil)) (sSeq (sIf (mOr (mNot (mCall (fL (G L) T DEP k ft_are_moves) [0, 1] (mCons (mIx (mV 0) (mC (.p (.int 2)))) (mCons (mV 1) (mNil))) (mNil))) (mNot (mCall (fL (G L) T DEP k ft_are_slips) [0, 1] (mCons (mIx (mV 0) (mC (.p (.int 3)))) (mCons (mV 1) (mNil))) (mNil)))) (sSeq (sRet (mC (.p (.bool false)))) (sNil)) (sNil)) (sSeq (sRet (mOr (mCmp .Eq (mIx (mV 0) (mC (.p (.int 0)))) (mC (.p (.str "keeper")))) (mCmp .Eq (mIx (mV 0) (mC (.p (.int 3)))) (mTup (mNil))))) (sNil)))) := by kernel_rfl
def b_is_game_value_0 (L k : Nat) : M := mCall (fL (G L) T DEP k ft_is_place_row) [0, 1] (mCons (mV 1) (mCons (mBlt bLen (mCons (mV 0) (mNil))) (mNil))) (mNil)
theorem e_is_game_value (L k : Nat) : fL (G L) T DEP (k + 1) ft_is_game_value = bodyF ["thing", "row"] ["thing"] (sSeq (sRet (mAnd (mBlt bIsi (mCons (mV 0) (mCons (mC (.ty .tup)) (mNil)))) (mAnd (mCmp .NotEq (mV 0) (mTup (mNil))) (mBlt bAll (mCons (mLc L false (mIter (mV 0)) [1] (gNm 1) (mYes) (b_is_game_value_0 L k)) (mNil)))))) (sNil)) := by kernel_rfl
theorem e_need_game (L k : Nat) : fL (G L) T DEP (k + 1) ft_need_game = bodyF ["game"] ["game"] (sSeq (sIf (mNot (mCall (fL (G L) T DEP k ft_is_game_value) [0] (mCons (mV 0) (mNil)) (mNil))) (sSeq (sNo) (sNil)) (sNil)) (sNil)) := by kernel_rfl
theorem e_is_keepers (L k : Nat) : fL (G L) T DEP (k + 1) ft_is_keepers = bodyF ["game", "place"] ["game", "place"] (sSeq (sRet (mCmp .Eq (mIx (mIx (mV 0) (mV 1)) (mC (.p (.int 0)))) (mC (.p (.str "keeper"))))) (sNil)) := by kernel_rfl
theorem e_is_place_of (L k : Nat) : fL (G L) T DEP (k + 1) ft_is_place_of = bodyF ["game", "thing"] ["game", "thing"] (sSeq (sRet (mCall (fL (G L) T DEP k ft_is_between) [0, 1, 2] (mCons (mV 1) (mCons (mC (.p (.int 0))) (mCons (mBin false .Sub (mBlt bLen (mCons (mV 0) (mNil))) (mC (.p (.int 1)))) (mNil)))) (mNil))) (sNil)) := by kernel_rfl
theorem e_moves_of (L k : Nat) : fL (G L) T DEP (k + 1) ft_moves_of = bodyF ["game", "place"] ["game", "place"] (sSeq (sRet (mIx (mIx (mV 0) (mV 1)) (mC (.p (.int 2))))) (sNil)) := by kernel_rfl
theorem e_is_plan_item (L k : Nat) : fL (G L) T DEP (k + 1) ft_is_plan_item = bodyF ["game", "v", "thing"] ["game", "v", "thing"] (sSeq (sIf (mNot (mCall (fL (G L) T DEP k ft_is_keepers) [0, 1] (mCons (mV 0) (mCons (mV 1) (mNil))) (mNil))) (sSeq (sRet (mCmp .Is (mV 2) (mC (.p .none)))) (sNil)) (sNil)) (sSeq (sRet (mAnd (mCall (fL (G L) T DEP k ft_is_place_of) [0, 1] (mCons (mV 0) (mCons (mV 2) (mNil))) (mNil)) (mCmp .In (mV 2) (mCall (fL (G L) T DEP k ft_moves_of) [0, 1] (mCons (mV 0) (mCons (mV 1) (mNil))) (mNil))))) (sNil))) := by kernel_rfl
def b_is_plan_value_0 (L k : Nat) : M := mCall (fL (G L) T DEP k ft_is_plan_item) [0, 1, 2] (mCons (mV 0) (mCons (mV 2) (mCons (mV 3) (mNil)))) (mNil)
theorem e_is_plan_value (L k : Nat) : fL (G L) T DEP (k + 1) ft_is_plan_value = bodyF ["game", "thing", "v", "item"] ["game", "thing"] (sSeq (sRet (mAnd (mCall (fL (G L) T DEP k ft_is_tuple) [0, 1] (mCons (mV 1) (mCons (mBlt bLen (mCons (mV 0) (mNil))) (mNil))) (mNil)) (mBlt bAll (mCons (mLc L false (mEn (mV 1)) [2, 3] (gTp 2 (gsCons (gNm 2) (gsCons (gNm 3) (gsNil)))) (mYes) (b_is_plan_value_0 L k)) (mNil))))) (sNil)) := by kernel_rfl
def b_is_room_0 (L k : Nat) : M := mCall (fL (G L) T DEP k ft_is_between) [0, 1, 2] (mCons (mV 3) (mCons (mC (.p (.int 0))) (mCons (mBin false .Sub (mV 1) (mC (.p (.int 1)))) (mNil)))) (mNil)
theorem e_is_room (L k : Nat) : fL (G L) T DEP (k + 1) ft_is_room = bodyF ["game", "many", "thing", "room"] ["game", "many", "thing"] (sSeq (sIf (mOr (mNot (mCall (fL (G L) T DEP k ft_is_tuple) [0, 1] (mCons (mV 2) (mCons (mC (.p (.int 2))) (mNil))) (mNil))) (mOr (mNot (mCall (fL (G L) T DEP k ft_is_plan_value) [0, 1] (mCons (mV 0) (mCons (mIx (mV 2) (mC (.p (.int 0)))) (mNil))) (mNil))) (mNot (mCall (fL (G L) T DEP k ft_is_tuple) [0, 1] (mCons (mIx (mV 2) (mC (.p (.int 1)))) (mCons (mBlt bLen (mCons (mV 0) (mNil))) (mNil))) (mNil))))) (sSeq (sRet (mC (.p (.bool false)))) (sNil)) (sNil)) (sSeq (sRet (mBlt bAll (mCons (mLc L false (mIter (mIx (mV 2) (mC (.p (.int 1))))) [3] (gNm 3) (mYes) (b_is_room_0 L k)) (mNil)))) (sNil))) := by kernel_rfl
def b_is_controller_value_0 (L k : Nat) : M := mCall (fL (G L) T DEP k ft_is_room) [0, 1, 2] (mCons (mV 0) (mCons (mBlt bLen (mCons (mV 1) (mNil))) (mCons (mV 2) (mNil)))) (mNil)
theorem e_is_controller_value (L k : Nat) : fL (G L) T DEP (k + 1) ft_is_controller_value = bodyF ["game", "thing", "room"] ["game", "thing"] (sSeq (sIf (mOr (mNot (mBlt bIsi (mCons (mV 1) (mCons (mC (.ty .tup)) (mNil))))) (mCmp .Eq (mV 1) (mTup (mNil)))) (sSeq (sRet (mC (.p (.bool false)))) (sNil)) (sNil)) (sSeq (sRet (mBlt bAll (mCons (mLc L false (mIter (mV 1)) [2] (gNm 2) (mYes) (b_is_controller_value_0 L k)) (mNil)))) (sNil))) := by kernel_rfl
theorem e_is_controller (L k : Nat) : fL (G L) T DEP (k + 1) ft_is_controller = bodyF ["game", "thing"] ["game", "thing"] (sSeq (sEx (mCall (fL (G L) T DEP k ft_need_game) [0] (mCons (mV 0) (mNil)) (mNil))) (sSeq (sRet (mCall (fL (G L) T DEP k ft_is_controller_value) [0, 1] (mCons (mV 0) (mCons (mV 1) (mNil))) (mNil))) (sNil))) := by kernel_rfl
def b_law_0 (L k : Nat) : MS := sSeq (sAsg (mIf (mCmp .Eq (mV 5) (mC (.p (.int 0)))) (mV 4) (mIf (mCmp .Eq (mCall (fL (G L) T DEP k ft__law_draw) [0, 1] (mCons (mV 1) (mCons (mC (.p (.int 9))) (mNil))) (mNil)) (mC (.p (.int 0)))) (mCall (fL (G L) T DEP k ft__law_any) [0, 1] (mCons (mV 1) (mCons (mC (.p (.int 3))) (mNil))) (mNil)) (mCall (fL (G L) T DEP k ft__law_near) [0, 1, 2] (mCons (mV 1) (mCons (mV 3) (mCons (mV 4) (mNil)))) (mNil)))) (gNm 6)) (sSeq (sPar (mCons (mBlt bRepr (mCons (mV 6) (mNil))) (mCons (mCall (fL (G L) T DEP k ft__law_is_controller) [0, 1] (mCons (mV 3) (mCons (mV 6) (mNil))) (mNil)) (mNil))) (gP2 7 8)) (sSeq (sIf (mOr (mCmp .NotEq (mBlt bRepr (mCons (mTup (mCons (mCall (fL (G L) T DEP k ft_is_controller) [0, 1] (mCons (mV 3) (mCons (mV 6) (mNil))) (mNil)) (mCons (mCall (fL (G L) T DEP k ft_is_controller) [1, 0] (mNil) (mCons (mV 6) (mCons (mV 3) (mNil)))) (mNil)))) (mNil))) (mBlt bRepr (mCons (mTup (mCons (mV 8) (mCons (mV 8) (mNil)))) (mNil)))) (mCmp .NotEq (mBlt bRepr (mCons (mV 6) (mNil))) (mV 7))) (sSeq (sRet (mC (.p (.bool false)))) (sNil)) (sNil)) (sNil)))
def b_law_1 (L k : Nat) : MS := sSeq (sAsg (mCall (fL (G L) T DEP k ft__law_drawn_game) [0, 1, 2] (mCons (mV 1) (mCons (mC (.p (.int 7))) (mCons (mLst false (mCons (mC (.p (.int 0))) (mCons (mC (.p (.int 1))) (mCons (mC (.p (.int 2))) (mNil))))) (mNil)))) (mNil)) (gNm 3)) (sSeq (sAsg (mCall (fL (G L) T DEP k ft__law_drawn_controller) [0, 1, 2] (mCons (mV 1) (mCons (mV 3) (mCons (mC (.p (.int 3))) (mNil)))) (mNil)) (gNm 4)) (sSeq (sFor L (mRng1 (mC (.p (.int 9)))) (gNm 5) (b_law_0 L k)) (sNil)))
theorem e_law (L k : Nat) : fL (G L) T DEP (k + 1) ft_law = bodyF ["script", "deck", "turn", "game", "controller", "go", "thing", "text", "due"] ["script"] (sSeq (sAsg (mCall (fL (G L) T DEP k ft__law_deck) [0, 1] (mCons (mV 0) (mCons (mC (.p (.int 15371055))) (mNil))) (mNil)) (gNm 1)) (sSeq (sFor L (mRng1 (mC (.p (.int 3)))) (gNm 2) (b_law_1 L k)) (sSeq (sRet (mC (.p (.bool true)))) (sNil)))) := by kernel_rfl
/-! ### what the top has written -/
theorem sc__law_deck : FnScope ft__law_deck.N ft__law_deck.ps ft__law_deck.sc := ⟨rfl, rfl, rfl, by decide +kernel, rfl, by decide +kernel, by decide +kernel⟩
theorem sc__law_draw : FnScope ft__law_draw.N ft__law_draw.ps ft__law_draw.sc := ⟨rfl, rfl, rfl, by decide +kernel, rfl, by decide +kernel, by decide +kernel⟩
theorem sc__law_pick : FnScope ft__law_pick.N ft__law_pick.ps ft__law_pick.sc := ⟨rfl, rfl, rfl, by decide +kernel, rfl, by decide +kernel, by decide +kernel⟩
theorem sc__law_ladder : FnScope ft__law_ladder.N ft__law_ladder.ps ft__law_ladder.sc := ⟨rfl, rfl, rfl, by decide +kernel, rfl, by decide +kernel, by decide +kernel⟩
theorem sc__law_drawn_game : FnScope ft__law_drawn_game.N ft__law_drawn_game.ps ft__law_drawn_game.sc := ⟨rfl, rfl, rfl, by decide +kernel, rfl, by decide +kernel, by decide +kernel⟩
theorem sc__law_drawn_plan : FnScope ft__law_drawn_plan.N ft__law_drawn_plan.ps ft__law_drawn_plan.sc := ⟨rfl, rfl, rfl, by decide +kernel, rfl, by decide +kernel, by decide +kernel⟩
theorem sc__law_drawn_controller : FnScope ft__law_drawn_controller.N ft__law_drawn_controller.ps ft__law_drawn_controller.sc := ⟨rfl, rfl, rfl, by decide +kernel, rfl, by decide +kernel, by decide +kernel⟩
theorem sc__law_any : FnScope ft__law_any.N ft__law_any.ps ft__law_any.sc := ⟨rfl, rfl, rfl, by decide +kernel, rfl, by decide +kernel, by decide +kernel⟩
theorem sc__law_instead : FnScope ft__law_instead.N ft__law_instead.ps ft__law_instead.sc := ⟨rfl, rfl, rfl, by decide +kernel, rfl, by decide +kernel, by decide +kernel⟩
theorem sc__law_is_integer : FnScope ft__law_is_integer.N ft__law_is_integer.ps ft__law_is_integer.sc := ⟨rfl, rfl, rfl, by decide +kernel, rfl, by decide +kernel, by decide +kernel⟩
theorem sc__law_bent : FnScope ft__law_bent.N ft__law_bent.ps ft__law_bent.sc := ⟨rfl, rfl, rfl, by decide +kernel, rfl, by decide +kernel, by decide +kernel⟩
theorem sc__law_spoilt : FnScope ft__law_spoilt.N ft__law_spoilt.ps ft__law_spoilt.sc := ⟨rfl, rfl, rfl, by decide +kernel, rfl, by decide +kernel, by decide +kernel⟩
theorem sc__law_near : FnScope ft__law_near.N ft__law_near.ps ft__law_near.sc := ⟨rfl, rfl, rfl, by decide +kernel, rfl, by decide +kernel, by decide +kernel⟩
theorem sc__law_is_controller : FnScope ft__law_is_controller.N ft__law_is_controller.ps ft__law_is_controller.sc := ⟨rfl, rfl, rfl, by decide +kernel, rfl, by decide +kernel, by decide +kernel⟩
theorem sc_is_tuple : FnScope ft_is_tuple.N ft_is_tuple.ps ft_is_tuple.sc := ⟨rfl, rfl, rfl, by decide +kernel, rfl, by decide +kernel, by decide +kernel⟩
theorem sc_is_word : FnScope ft_is_word.N ft_is_word.ps ft_is_word.sc := ⟨rfl, rfl, rfl, by decide +kernel, rfl, by decide +kernel, by decide +kernel⟩
theorem sc_is_integer : FnScope ft_is_integer.N ft_is_integer.ps ft_is_integer.sc := ⟨rfl, rfl, rfl, by decide +kernel, rfl, by decide +kernel, by decide +kernel⟩
theorem sc_is_from : FnScope ft_is_from.N ft_is_from.ps ft_is_from.sc := ⟨rfl, rfl, rfl, by decide +kernel, rfl, by decide +kernel, by decide +kernel⟩
theorem sc_is_between : FnScope ft_is_between.N ft_is_between.ps ft_is_between.sc := ⟨rfl, rfl, rfl, by decide +kernel, rfl, by decide +kernel, by decide +kernel⟩
theorem sc_do_ascend : FnScope ft_do_ascend.N ft_do_ascend.ps ft_do_ascend.sc := ⟨rfl, rfl, rfl, by decide +kernel, rfl, by decide +kernel, by decide +kernel⟩
theorem sc_are_moves : FnScope ft_are_moves.N ft_are_moves.ps ft_are_moves.sc := ⟨rfl, rfl, rfl, by decide +kernel, rfl, by decide +kernel, by decide +kernel⟩
theorem sc_is_slip : FnScope ft_is_slip.N ft_is_slip.ps ft_is_slip.sc := ⟨rfl, rfl, rfl, by decide +kernel, rfl, by decide +kernel, by decide +kernel⟩
theorem sc_are_slips : FnScope ft_are_slips.N ft_are_slips.ps ft_are_slips.sc := ⟨rfl, rfl, rfl, by decide +kernel, rfl, by decide +kernel, by decide +kernel⟩
theorem sc_is_place_row : FnScope ft_is_place_row.N ft_is_place_row.ps ft_is_place_row.sc := ⟨rfl, rfl, rfl, by decide +kernel, rfl, by decide +kernel, by decide +kernel⟩
theorem sc_is_game_value : FnScope ft_is_game_value.N ft_is_game_value.ps ft_is_game_value.sc := ⟨rfl, rfl, rfl, by decide +kernel, rfl, by decide +kernel, by decide +kernel⟩
theorem sc_need_game : FnScope ft_need_game.N ft_need_game.ps ft_need_game.sc := ⟨rfl, rfl, rfl, by decide +kernel, rfl, by decide +kernel, by decide +kernel⟩
theorem sc_is_keepers : FnScope ft_is_keepers.N ft_is_keepers.ps ft_is_keepers.sc := ⟨rfl, rfl, rfl, by decide +kernel, rfl, by decide +kernel, by decide +kernel⟩
theorem sc_is_place_of : FnScope ft_is_place_of.N ft_is_place_of.ps ft_is_place_of.sc := ⟨rfl, rfl, rfl, by decide +kernel, rfl, by decide +kernel, by decide +kernel⟩
theorem sc_moves_of : FnScope ft_moves_of.N ft_moves_of.ps ft_moves_of.sc := ⟨rfl, rfl, rfl, by decide +kernel, rfl, by decide +kernel, by decide +kernel⟩
theorem sc_is_plan_item : FnScope ft_is_plan_item.N ft_is_plan_item.ps ft_is_plan_item.sc := ⟨rfl, rfl, rfl, by decide +kernel, rfl, by decide +kernel, by decide +kernel⟩
theorem sc_is_plan_value : FnScope ft_is_plan_value.N ft_is_plan_value.ps ft_is_plan_value.sc := ⟨rfl, rfl, rfl, by decide +kernel, rfl, by decide +kernel, by decide +kernel⟩
theorem sc_is_room : FnScope ft_is_room.N ft_is_room.ps ft_is_room.sc := ⟨rfl, rfl, rfl, by decide +kernel, rfl, by decide +kernel, by decide +kernel⟩
theorem sc_is_controller_value : FnScope ft_is_controller_value.N ft_is_controller_value.ps ft_is_controller_value.sc := ⟨rfl, rfl, rfl, by decide +kernel, rfl, by decide +kernel, by decide +kernel⟩
theorem sc_is_controller : FnScope ft_is_controller.N ft_is_controller.ps ft_is_controller.sc := ⟨rfl, rfl, rfl, by decide +kernel, rfl, by decide +kernel, by decide +kernel⟩
theorem sc_law : FnScope ft_law.N ft_law.ps ft_law.sc := ⟨rfl, rfl, rfl, by decide +kernel, rfl, by decide +kernel, by decide +kernel⟩
theorem txt {L : Nat} {K : PySem.W.Frag} {mg : Mg} {h : Heap} (X : K.In h) (Gn : h.Ns mainGlobals mg) {t0 : Tok} (g0 : PySem.W.nsIn K mainGlobals "KEEPER" = some (some (.str "keeper" t0))) {t1 : Tok} (g1 : PySem.W.nsIn K mainGlobals "FOE" = some (some (.str "foe" t1))) (b0 : PySem.W.nsIn K mainGlobals "sorted" = some none) (b1 : PySem.W.nsIn K mainGlobals "sum" = some none) (b2 : PySem.W.nsIn K mainGlobals "zip" = some none) (b3 : PySem.W.nsIn K mainGlobals "enumerate" = some none) (b4 : PySem.W.nsIn K mainGlobals "set" = some none) (b5 : PySem.W.nsIn K mainGlobals "len" = some none) (b6 : PySem.W.nsIn K mainGlobals "int" = some none) (b7 : PySem.W.nsIn K mainGlobals "str" = some none) (b8 : PySem.W.nsIn K mainGlobals "max" = some none) (b9 : PySem.W.nsIn K mainGlobals "min" = some none) (b10 : PySem.W.nsIn K mainGlobals "list" = some none) (b11 : PySem.W.nsIn K mainGlobals "tuple" = some none) (b12 : PySem.W.nsIn K mainGlobals "isinstance" = some none) (b13 : PySem.W.nsIn K mainGlobals "repr" = some none) (b14 : PySem.W.nsIn K mainGlobals "all" = some none) (b15 : PySem.W.nsIn K mainGlobals "range" = some none) (b16 : PySem.W.nsIn K mainGlobals "bool" = some none) : Txt (G L) K mg := by
  refine ⟨fun x d e => ?_, fun x e => ?_⟩
  · replace e : (if x = "KEEPER" then some (.p (.str "keeper")) else if x = "FOE" then some (.p (.str "foe")) else none : Option D) = some d := e
    by_cases h0 : x = "KEEPER"
    · rw [if_pos h0] at e; cases e; rw [h0]; exact ⟨_, .str "keeper", PySem.W.mg_of X Gn g0, ⟨_, rfl⟩, fun B H => .str _⟩
    rw [if_neg h0] at e
    by_cases h1 : x = "FOE"
    · rw [if_pos h1] at e; cases e; rw [h1]; exact ⟨_, .str "foe", PySem.W.mg_of X Gn g1, ⟨_, rfl⟩, fun B H => .str _⟩
    rw [if_neg h1] at e
    cases e
  · have e : x ∈ (["sorted", "sum", "zip", "enumerate", "set", "len", "int", "str", "max", "min", "list", "tuple", "isinstance", "repr", "all", "range", "bool"] : List Str) := by simpa using (show (["sorted", "sum", "zip", "enumerate", "set", "len", "int", "str", "max", "min", "list", "tuple", "isinstance", "repr", "all", "range", "bool"] : List Str).contains x = true from e)
    rcases List.mem_cons.mp e with rfl | e
    · exact PySem.W.mg_none_of X Gn b0
    rcases List.mem_cons.mp e with rfl | e
    · exact PySem.W.mg_none_of X Gn b1
    rcases List.mem_cons.mp e with rfl | e
    · exact PySem.W.mg_none_of X Gn b2
    rcases List.mem_cons.mp e with rfl | e
    · exact PySem.W.mg_none_of X Gn b3
    rcases List.mem_cons.mp e with rfl | e
    · exact PySem.W.mg_none_of X Gn b4
    rcases List.mem_cons.mp e with rfl | e
    · exact PySem.W.mg_none_of X Gn b5
    rcases List.mem_cons.mp e with rfl | e
    · exact PySem.W.mg_none_of X Gn b6
    rcases List.mem_cons.mp e with rfl | e
    · exact PySem.W.mg_none_of X Gn b7
    rcases List.mem_cons.mp e with rfl | e
    · exact PySem.W.mg_none_of X Gn b8
    rcases List.mem_cons.mp e with rfl | e
    · exact PySem.W.mg_none_of X Gn b9
    rcases List.mem_cons.mp e with rfl | e
    · exact PySem.W.mg_none_of X Gn b10
    rcases List.mem_cons.mp e with rfl | e
    · exact PySem.W.mg_none_of X Gn b11
    rcases List.mem_cons.mp e with rfl | e
    · exact PySem.W.mg_none_of X Gn b12
    rcases List.mem_cons.mp e with rfl | e
    · exact PySem.W.mg_none_of X Gn b13
    rcases List.mem_cons.mp e with rfl | e
    · exact PySem.W.mg_none_of X Gn b14
    rcases List.mem_cons.mp e with rfl | e
    · exact PySem.W.mg_none_of X Gn b15
    rcases List.mem_cons.mp e with rfl | e
    · exact PySem.W.mg_none_of X Gn b16
    exact (List.not_mem_nil e).elim
theorem T_all {K : PySem.W.Frag} {mg : Mg} (d0 : DefAt K mg "_law_deck" ft__law_deck) (d1 : DefAt K mg "_law_draw" ft__law_draw) (d2 : DefAt K mg "_law_pick" ft__law_pick) (d3 : DefAt K mg "_law_ladder" ft__law_ladder) (d4 : DefAt K mg "_law_drawn_game" ft__law_drawn_game) (d5 : DefAt K mg "_law_drawn_plan" ft__law_drawn_plan) (d6 : DefAt K mg "_law_drawn_controller" ft__law_drawn_controller) (d7 : DefAt K mg "_law_any" ft__law_any) (d8 : DefAt K mg "_law_instead" ft__law_instead) (d9 : DefAt K mg "_law_is_integer" ft__law_is_integer) (d10 : DefAt K mg "_law_bent" ft__law_bent) (d11 : DefAt K mg "_law_spoilt" ft__law_spoilt) (d12 : DefAt K mg "_law_near" ft__law_near) (d13 : DefAt K mg "_law_is_controller" ft__law_is_controller) (d14 : DefAt K mg "is_tuple" ft_is_tuple) (d15 : DefAt K mg "is_word" ft_is_word) (d16 : DefAt K mg "is_integer" ft_is_integer) (d17 : DefAt K mg "is_from" ft_is_from) (d18 : DefAt K mg "is_between" ft_is_between) (d19 : DefAt K mg "do_ascend" ft_do_ascend) (d20 : DefAt K mg "are_moves" ft_are_moves) (d21 : DefAt K mg "is_slip" ft_is_slip) (d22 : DefAt K mg "are_slips" ft_are_slips) (d23 : DefAt K mg "is_place_row" ft_is_place_row) (d24 : DefAt K mg "is_game_value" ft_is_game_value) (d25 : DefAt K mg "need_game" ft_need_game) (d26 : DefAt K mg "is_keepers" ft_is_keepers) (d27 : DefAt K mg "is_place_of" ft_is_place_of) (d28 : DefAt K mg "moves_of" ft_moves_of) (d29 : DefAt K mg "is_plan_item" ft_is_plan_item) (d30 : DefAt K mg "is_plan_value" ft_is_plan_value) (d31 : DefAt K mg "is_room" ft_is_room) (d32 : DefAt K mg "is_controller_value" ft_is_controller_value) (d33 : DefAt K mg "is_controller" ft_is_controller) (d34 : DefAt K mg "law" ft_law) : ∀ x t, T x = some t → DefAt K mg x t := by
  intro x t e
  unfold T at e
  by_cases h0 : x = "_law_deck"
  · rw [if_pos h0] at e; cases e; rw [h0]; exact d0
  rw [if_neg h0] at e
  by_cases h1 : x = "_law_draw"
  · rw [if_pos h1] at e; cases e; rw [h1]; exact d1
  rw [if_neg h1] at e
  by_cases h2 : x = "_law_pick"
  · rw [if_pos h2] at e; cases e; rw [h2]; exact d2
  rw [if_neg h2] at e
  by_cases h3 : x = "_law_ladder"
  · rw [if_pos h3] at e; cases e; rw [h3]; exact d3
  rw [if_neg h3] at e
  by_cases h4 : x = "_law_drawn_game"
  · rw [if_pos h4] at e; cases e; rw [h4]; exact d4
  rw [if_neg h4] at e
  by_cases h5 : x = "_law_drawn_plan"
  · rw [if_pos h5] at e; cases e; rw [h5]; exact d5
  rw [if_neg h5] at e
  by_cases h6 : x = "_law_drawn_controller"
  · rw [if_pos h6] at e; cases e; rw [h6]; exact d6
  rw [if_neg h6] at e
  by_cases h7 : x = "_law_any"
  · rw [if_pos h7] at e; cases e; rw [h7]; exact d7
  rw [if_neg h7] at e
  by_cases h8 : x = "_law_instead"
  · rw [if_pos h8] at e; cases e; rw [h8]; exact d8
  rw [if_neg h8] at e
  by_cases h9 : x = "_law_is_integer"
  · rw [if_pos h9] at e; cases e; rw [h9]; exact d9
  rw [if_neg h9] at e
  by_cases h10 : x = "_law_bent"
  · rw [if_pos h10] at e; cases e; rw [h10]; exact d10
  rw [if_neg h10] at e
  by_cases h11 : x = "_law_spoilt"
  · rw [if_pos h11] at e; cases e; rw [h11]; exact d11
  rw [if_neg h11] at e
  by_cases h12 : x = "_law_near"
  · rw [if_pos h12] at e; cases e; rw [h12]; exact d12
  rw [if_neg h12] at e
  by_cases h13 : x = "_law_is_controller"
  · rw [if_pos h13] at e; cases e; rw [h13]; exact d13
  rw [if_neg h13] at e
  by_cases h14 : x = "is_tuple"
  · rw [if_pos h14] at e; cases e; rw [h14]; exact d14
  rw [if_neg h14] at e
  by_cases h15 : x = "is_word"
  · rw [if_pos h15] at e; cases e; rw [h15]; exact d15
  rw [if_neg h15] at e
  by_cases h16 : x = "is_integer"
  · rw [if_pos h16] at e; cases e; rw [h16]; exact d16
  rw [if_neg h16] at e
  by_cases h17 : x = "is_from"
  · rw [if_pos h17] at e; cases e; rw [h17]; exact d17
  rw [if_neg h17] at e
  by_cases h18 : x = "is_between"
  · rw [if_pos h18] at e; cases e; rw [h18]; exact d18
  rw [if_neg h18] at e
  by_cases h19 : x = "do_ascend"
  · rw [if_pos h19] at e; cases e; rw [h19]; exact d19
  rw [if_neg h19] at e
  by_cases h20 : x = "are_moves"
  · rw [if_pos h20] at e; cases e; rw [h20]; exact d20
  rw [if_neg h20] at e
  by_cases h21 : x = "is_slip"
  · rw [if_pos h21] at e; cases e; rw [h21]; exact d21
  rw [if_neg h21] at e
  by_cases h22 : x = "are_slips"
  · rw [if_pos h22] at e; cases e; rw [h22]; exact d22
  rw [if_neg h22] at e
  by_cases h23 : x = "is_place_row"
  · rw [if_pos h23] at e; cases e; rw [h23]; exact d23
  rw [if_neg h23] at e
  by_cases h24 : x = "is_game_value"
  · rw [if_pos h24] at e; cases e; rw [h24]; exact d24
  rw [if_neg h24] at e
  by_cases h25 : x = "need_game"
  · rw [if_pos h25] at e; cases e; rw [h25]; exact d25
  rw [if_neg h25] at e
  by_cases h26 : x = "is_keepers"
  · rw [if_pos h26] at e; cases e; rw [h26]; exact d26
  rw [if_neg h26] at e
  by_cases h27 : x = "is_place_of"
  · rw [if_pos h27] at e; cases e; rw [h27]; exact d27
  rw [if_neg h27] at e
  by_cases h28 : x = "moves_of"
  · rw [if_pos h28] at e; cases e; rw [h28]; exact d28
  rw [if_neg h28] at e
  by_cases h29 : x = "is_plan_item"
  · rw [if_pos h29] at e; cases e; rw [h29]; exact d29
  rw [if_neg h29] at e
  by_cases h30 : x = "is_plan_value"
  · rw [if_pos h30] at e; cases e; rw [h30]; exact d30
  rw [if_neg h30] at e
  by_cases h31 : x = "is_room"
  · rw [if_pos h31] at e; cases e; rw [h31]; exact d31
  rw [if_neg h31] at e
  by_cases h32 : x = "is_controller_value"
  · rw [if_pos h32] at e; cases e; rw [h32]; exact d32
  rw [if_neg h32] at e
  by_cases h33 : x = "is_controller"
  · rw [if_pos h33] at e; cases e; rw [h33]; exact d33
  rw [if_neg h33] at e
  by_cases h34 : x = "law"
  · rw [if_pos h34] at e; cases e; rw [h34]; exact d34
  rw [if_neg h34] at e
  cases e
end K55
set_option maxHeartbeats 1000000
namespace K55
open PySem PySem.Spec L2 PI
open PyProof.Rows hiding St
theorem draw (L k : Nat) (xs : List Int) (hx : xs.length ≤ 63) (mx dr many : Int) (tl : Store) (h0 : 0 < many) (h1 : many < 1073741824) : ∃ (r : Int) (xs' : List Int) (mx' dr' : Int), fL (G L) T DEP (k + 1) ft__law_draw (DS xs mx dr tl) [.ref 1, .p (.int many)] = some (.p (.int r), DS xs' mx' dr' tl) ∧ (0 ≤ r ∧ r < many) ∧ xs'.length ≤ 63 := by
  have em (x : Int) : 0 ≤ x % many ∧ x % many < many := ⟨Int.emod_nonneg _ (by omega), Int.emod_lt_of_pos _ h0⟩
  rcases List.eq_nil_or_concat xs with rfl | ⟨ys, c, rfl⟩
  · have e : ∃ r, fL (G L) T DEP (k + 1) ft__law_draw (DS [] mx dr tl) [.ref 1, .p (.int many)] = some (.p (.int r), DS [] mx (dr + 1) tl) ∧ (0 ≤ r ∧ r < many) := by
      rw [e__law_draw, bodyF_e (h := rfl)]
      simp [startD, mkL, allP, h0, em]
    obtain ⟨r, e1, e2⟩ := e
    exact ⟨r, [], mx, dr + 1, e1, e2, hx⟩
  · rw [List.concat_eq_append, List.length_append, List.length_singleton] at hx
    rw [List.concat_eq_append]
    by_cases hc : 1000000000000000000 ≤ c
    · have hd : (if many > 2 then many else 2) < 1073741824 ∧ 0 < (if many > 2 then many else 2) := by split <;> omega
      refine ⟨c % many, ys ++ [c / (if many > 2 then many else 2)], mx, dr + 1, ?_, em c, by rw [List.length_append, List.length_singleton]; exact hx⟩
      rw [e__law_draw, bodyF_e (h := rfl)]
      simp [startD, mkL, allP, h0, em, hc, hd, ds_app ys mx (dr + 1) (c / (if many > 2 then many else 2)) tl (by omega)]
    · have e : ∃ r, fL (G L) T DEP (k + 1) ft__law_draw (DS (ys ++ [c]) mx dr tl) [.ref 1, .p (.int many)] = some (.p (.int r), DS ys ((mx * 39373 + c % 2147483629 + 79) % 2147483587) (dr + 1) tl) ∧ (0 ≤ r ∧ r < many) := by
        rw [e__law_draw, bodyF_e (h := rfl)]
        simp [startD, mkL, allP, h0, em, hc]
      obtain ⟨r, e1, e2⟩ := e
      exact ⟨r, ys, _, dr + 1, e1, e2, by omega⟩
theorem pick (L k : Nat) (xs : List Int) (hx : xs.length ≤ 63) (mx dr : Int) (tl : Store) (l : List PyData) (hl : 0 < l.length) (hz : l.length < 1073741824) : ∃ (x : PyData) (xs' : List Int) (mx' dr' : Int), fL (G L) T DEP (k + 2) ft__law_pick (DS xs mx dr tl) [.ref 1, .p (.list l)] = some (.p x, DS xs' mx' dr' tl) ∧ x ∈ l ∧ xs'.length ≤ 63 := by
  obtain ⟨r, xs', mx', dr', e1, ⟨h1, h2⟩, h3⟩ := draw L k xs hx mx dr l.length tl (by omega) (by omega)
  obtain ⟨x, hm, e2⟩ := ix_list (S := DS xs' mx' dr' tl) (l := l) h1 h2
  refine ⟨x, xs', mx', dr', ?_, hm, h3⟩
  rw [e__law_pick, bodyF_e (h := rfl)]
  simp [startD, e1, e2]
end K55
set_option maxHeartbeats 1000000
namespace K55
open PySem PySem.Spec L2 PI
open PyProof.Rows hiding St
theorem deck (L k : Nat) (hL : 1000 ≤ L) (ns : List Int) (hn : ns.length ≤ 63) (sd : Int) : ∃ (xs : List Int) (mx : Int), fL (G L) T DEP (k + 1) ft__law_deck [] [.p (.list (ns.map .int)), .p (.int sd)] = some (.ref 1, DS xs mx 0 []) ∧ xs.length ≤ 63 := by
  have cut1 : cutD (ns.map fun i => D.p (.int i)) none (some 63) = ns.map fun i => D.p (.int i) := cut_all (by rw [List.length_map]; exact hn)
  obtain ⟨ev', S', h1, m, c, rfl, rfl⟩ := forL_inv (xs := ns.map fun i => D.p (.int i)) (g := gNm 3) (body := b__law_deck_0 L k)
    (fun _ ev S => ∃ (m : Int) (c : Option D), ev = [some (.p (.list (ns.map .int))), some (.p (.int sd)), some (.p (.int m)), c] ∧ S = []) (fun i d ev S hd ⟨m, c, e1, e2⟩ => by
      subst e1 e2
      obtain ⟨j, hj, rfl⟩ : ∃ j : Int, ns[i]? = some j ∧ d = .p (.int j) := by
        rw [List.getElem?_map] at hd
        cases e : ns[i]? with
        | none => rw [e] at hd; cases hd
        | some j => rw [e] at hd; cases hd; exact ⟨j, rfl, rfl⟩
      simp [b__law_deck_0]) L 0 [some (.p (.list (ns.map .int))), some (.p (.int sd)), some (.p (.int sd)), none] [] (by rw [List.length_map]; show ns.length - 0 < L; omega) (Nat.zero_le _) ⟨_, _, rfl, rfl⟩
  rw [e__law_deck, bodyF_e (h := rfl)]
  have hz : ns.length ≤ sizeLine := Nat.le_trans hn (by decide)
  have e : mergeD [] [(Sum.inr (Str.ofString "left"), D.ref 0), (Sum.inr (Str.ofString "mixed"), D.p (.int m)), (Sum.inr (Str.ofString "draws"), D.p (.int 0))] = [(Sum.inr (Str.ofString "left"), D.ref 0), (Sum.inr (Str.ofString "mixed"), D.p (.int m)), (Sum.inr (Str.ofString "draws"), D.p (.int 0))] := rfl
  have h3 : 3 ≤ sizeLine := by decide
  simp [startD, slI, cut1, mkL, allP_ints, hz, h1, Function.comp_def, e, mkD, h3]
  refine ⟨ns.reverse, ⟨m, ?_⟩, by rw [List.length_reverse]; exact hn⟩
  unfold DS
  rw [List.map_reverse]
end K55
set_option maxHeartbeats 1000000
namespace K55
open PySem PySem.Spec L2 PI
open PyProof.Rows hiding St
section
variable (L k : Nat) (S : Store) (x : PyData)
theorem isint_ok : fL (G L) T DEP (k + 1) ft_is_integer S [.p x] = some (.p (.bool (isN x)), S) := by
  rw [e_is_integer, bodyF_e (h := rfl)]
  cases x <;> rfl
theorem from_ok (lo : Int) : fL (G L) T DEP (k + 2) ft_is_from S [.p x, .p (.int lo)] = some (.p (.bool (frm x lo)), S) := by
  rw [e_is_from, bodyF_e (h := rfl)]
  cases x <;> simp [startD, isint_ok, isN, frm]
theorem btw_ok (lo hi : Int) : fL (G L) T DEP (k + 2) ft_is_between S [.p x, .p (.int lo), .p (.int hi)] = some (.p (.bool (btw x lo hi)), S) := by
  rw [e_is_between, bodyF_e (h := rfl)]
  cases x with
  | int i => by_cases h : lo ≤ i <;> simp [startD, isint_ok, isN, btw, h]
  | _ => simp [startD, isint_ok, isN, btw]
theorem tup_ok (n : Int) : fL (G L) T DEP (k + 1) ft_is_tuple S [.p x, .p (.int n)] = some (.p (.bool (tupN x n)), S) := by
  rw [e_is_tuple, bodyF_e (h := rfl)]
  have e : ∀ a b : Int, eqI S (.p (.int a)) (.p (.int b)) = some (decide (a = b)) := fun a b => by
    show some (PyData.eqv (.int a) (.int b)) = _
    simp [PyData.eqv]
    rfl
  cases x <;> simp [startD, tupN, e]
theorem asc_ok (L k : Nat) (S : Store) (ns : List Int) (hL : 1000000 ≤ L) (hn : ns.length < 1000000) : fL (G L) T DEP (k + 1) ft_do_ascend S [.p (.tuple (ns.map .int))] = some (.p (.bool (asc ns)), S) := by
  rw [e_do_ascend, bodyF_e (h := rfl)]
  have h1 : (ns.map PyData.int).drop 1 = (ns.drop 1).map .int := by rw [List.map_drop]
  have lz : (pairsZ (ns.map .int) ((ns.drop 1).map .int)).length < 1000000 := by
    rw [pairs_int, List.length_map, List.length_zip]; omega
  have lc := lc_pure (f := srcZp (srcL ((ns.map PyData.int).map .p)) (srcL (((ns.drop 1).map PyData.int).map .p))) (srcZ_is _ _) (g := gTp 2 (gsCons (gNm 1) (gsCons (gNm 2) gsNil))) (c := mYes) (elt := b_do_ascend_0 L k) (ev := [some (.p (.tuple (ns.map .int))), none, none]) (S := S) (L := L) tAsc (by omega) (by omega) (fun d hd => by
    rw [pairs_int] at hd
    obtain ⟨p, _, rfl⟩ := List.mem_map.mp hd
    simp [lcTurn, b_do_ascend_0, tAsc])
  have ft : (pairsZ (ns.map .int) ((ns.drop 1).map .int)).filterMap tAsc = ((ns.zip (ns.drop 1)).map fun p => decide (p.1 < p.2)).map fun b => D.p (.bool b) := by
    rw [pairs_int, List.filterMap_map, List.map_map]
    rw [← List.filterMap_eq_map]
    rfl
  rw [ft] at lc
  have hw : wipeE [some (.p (.tuple (ns.map PyData.int))), none, none] [1, 2] = [some (.p (.tuple (ns.map PyData.int))), none, none] := rfl
  have al : allP (((ns.zip (ns.drop 1)).map fun p => decide (p.1 < p.2)).map fun b => D.p (.bool b)) = some (((ns.zip (ns.drop 1)).map fun p => decide (p.1 < p.2)).map .bool) := by
    rw [show (fun b => D.p (.bool b)) = D.p ∘ PyData.bool from rfl, ← List.map_map]
    exact allP_map _
  have fin : ∀ (xs ys : List PyData) (R : List D) (bs : List Bool), PI.cutD xs (some 1) none = ys → lcLoop (srcZp (srcL (xs.map .p)) (srcL (ys.map .p))) (gTp 2 (gsCons (gNm 1) (gsCons (gNm 2) gsNil))) mYes (b_do_ascend_0 L k) [some (.p (.tuple xs)), none, none] L 0 [] S = some (R, S) →
      allP R = some (bs.map .bool) → R.length ≤ 16777216 → (sSeq (sRet (mBlt bAll (mCons (mLc L false (mZip (mV 0) (mSl false (mV 0) (mOSome (mC (.p (.int 1)))) (mONone))) [1, 2] (gTp 2 (gsCons (gNm 1) (gsCons (gNm 2) (gsNil)))) (mYes) (b_do_ascend_0 L k)) (mNil)))) (sNil)) [some (.p (.tuple xs)), none, none] S = some (.rt (.p (.bool (bs.all id))), [some (.p (.tuple xs)), none, none], S) := fun xs ys R bs e1 e2 e3 e4 => by
    have hw : wipeE [some (D.p (.tuple xs)), none, none] [1, 2] = [some (.p (.tuple xs)), none, none] := rfl
    simp [slI, e1, hw, e2, mkL, e3, e4, sizeLine, all_bools]
  have r := fin (ns.map .int) ((ns.drop 1).map .int) _ _ (by rw [cut_1, h1]) lc al (by rw [List.length_map, List.length_map, List.length_zip]; omega)
  show ((sSeq _ _) [some (D.p (.tuple (ns.map .int))), none, none] S).bind kBody = _
  rw [r]
  show some (D.p (.bool _), S) = _
  unfold asc
  rw [List.all_map]
  rfl
theorem moves_ok (L k : Nat) (S : Store) (x : PyData) (many : Int) (hL : 1000000 ≤ L) (hn : ∀ xs, x = .tuple xs → xs.length < 1000000) : fL (G L) T DEP (k + 3) ft_are_moves S [.p x, .p (.int many)] = some (.p (.bool (mvB x many)), S) := by
  rw [e_are_moves, bodyF_e (h := rfl)]
  cases x with
  | tuple xs =>
    have hx := hn xs rfl
    have lc := lc_pure (f := srcL (xs.map .p)) (srcL_is _) (g := gNm 2) (c := mYes) (elt := b_are_moves_0 L (k + 2)) (ev := [some (.p (.tuple xs)), some (.p (.int many)), none]) (S := S) (L := L) (tBo fun y => btw y 0 (many - 1)) (by rw [List.length_map]; omega) (by rw [List.length_map]; omega) (fun d hd => by
      obtain ⟨y, _, rfl⟩ := List.mem_map.mp hd
      simp [lcTurn, b_are_moves_0, tBo, btw_ok L k S y])
    rw [tB_map] at lc
    have al := allP_bools (xs.map fun y => btw y 0 (many - 1))
    have ab := all_bools S (xs.map fun y => btw y 0 (many - 1))
    have hl : ((xs.map fun y => btw y 0 (many - 1)).map fun b => D.p (.bool b)).length ≤ 16777216 := by rw [List.length_map, List.length_map]; omega
    have ae : (xs.map fun y => btw y 0 (many - 1)).all id = xs.all fun y => btw y 0 (many - 1) := by rw [List.all_map]; rfl
    rw [ae] at ab
    generalize ((xs.map fun y => btw y 0 (many - 1)).map fun b => D.p (.bool b)) = R at lc al hl
    generalize ((xs.map fun y => btw y 0 (many - 1)).map PyData.bool) = Q at al ab
    have hw : wipeE [some (D.p (.tuple xs)), some (.p (.int many)), none] [2] = [some (.p (.tuple xs)), some (.p (.int many)), none] := rfl
    have ez : eqI S (.p (.tuple xs)) (.p (.tuple [])) = some xs.isEmpty := rfl
    have hm : mvB (.tuple xs) many = (!xs.isEmpty && (xs.all fun y => btw y 0 (many - 1)) && asc (numsL xs)) := rfl
    rw [hm]
    have ha : (xs.all fun y => btw y 0 (many - 1)) = true → fL (G L) T DEP (k + 2) ft_do_ascend S [.p (.tuple xs)] = some (.p (.bool (asc (numsL xs))), S) := fun h => by
      have e := numsL_of h
      have := asc_ok L (k + 1) S (numsL xs) hL (by have := congrArg List.length e; rw [List.length_map] at this; omega)
      rwa [← e] at this
    generalize (xs.all fun y => btw y 0 (many - 1)) = A at ab ha ⊢
    generalize asc (numsL xs) = C at ha ⊢
    generalize hE : xs.isEmpty = Z at ez ⊢
    generalize hs : (D.p (.tuple xs)) = X at lc ez ha hw ⊢
    have is1 : bIsi S [X, .ty .tup] = some (.p (.bool true), S) := by rw [← hs]; rfl
    have sr : srcOf S X = some (srcL (xs.map .p)) := by rw [← hs]; rfl
    cases Z with
    | true => simp [startD, mkT, allP, sizeLine, ez, is1]
    | false =>
      cases A with
      | false => simp [startD, mkT, allP, sizeLine, ez, is1, sr, hw, lc, mkL, al, hl, ab]
      | true => simp [startD, mkT, allP, sizeLine, ez, is1, sr, hw, lc, mkL, al, hl, ab, ha rfl]
  | _ => simp [startD, mvB]
theorem slip_ok (L k : Nat) (S : Store) (x : PyData) (many : Int) : fL (G L) T DEP (k + 3) ft_is_slip S [.p x, .p (.int many)] = some (.p (.bool (slB x many)), S) := by
  rw [e_is_slip, bodyF_e (h := rfl)]
  have t := tup_ok L (k + 1) S x 2
  by_cases h : ∃ a b, x = .tuple [a, b]
  · obtain ⟨a, b, rfl⟩ := h
    have i0 : ixI S (.p (.tuple [a, b])) (.p (.int 0)) = some (.p a) := rfl
    have i1 : ixI S (.p (.tuple [a, b])) (.p (.int 1)) = some (.p b) := rfl
    have t1 : tupN (.tuple [a, b]) 2 = true := by simp [tupN]
    rw [t1] at t
    have b1 := btw_ok L k S a 0 (many - 1)
    have b2 := from_ok L k S b 1
    have e : slB (.tuple [a, b]) many = (btw a 0 (many - 1) && frm b 1) := rfl
    rw [e]
    cases h1 : btw a 0 (many - 1) with
    | false => rw [h1] at b1; simp [startD, t, i0, i1, b1]
    | true => rw [h1] at b1; simp [startD, t, i0, i1, b1, b2]
  · have t0 : tupN x 2 = false := by
      cases x with
      | tuple xs =>
        have : xs.length ≠ 2 := fun q => by
          match xs, q with
          | [a, b], _ => exact h ⟨a, b, rfl⟩
        simp only [tupN, decide_eq_false_iff_not]
        omega
      | _ => rfl
    have e : slB x many = false := by
      unfold slB
      split
      · exact absurd ⟨_, _, rfl⟩ h
      · rfl
    rw [t0] at t
    rw [e]
    simp [startD, t]
theorem asc_okL (L k : Nat) (S : Store) (ns : List Int) (hL : 1000000 ≤ L) (hn : ns.length < 1000000) : fL (G L) T DEP (k + 1) ft_do_ascend S [.p (.list (ns.map .int))] = some (.p (.bool (asc ns)), S) := by
  rw [e_do_ascend, bodyF_e (h := rfl)]
  have lz : (pairsZ (ns.map .int) ((ns.drop 1).map .int)).length < 1000000 := by
    rw [pairs_int, List.length_map, List.length_zip]; omega
  have lc := lc_pure (f := srcZp (srcL ((ns.map PyData.int).map .p)) (srcL (((ns.drop 1).map PyData.int).map .p))) (srcZ_is _ _) (g := gTp 2 (gsCons (gNm 1) (gsCons (gNm 2) gsNil))) (c := mYes) (elt := b_do_ascend_0 L k) (ev := [some (.p (.list (ns.map .int))), none, none]) (S := S) (L := L) tAsc (by omega) (by omega) (fun d hd => by
    rw [pairs_int] at hd
    obtain ⟨p, _, rfl⟩ := List.mem_map.mp hd
    simp [lcTurn, b_do_ascend_0, tAsc])
  have ft : (pairsZ (ns.map .int) ((ns.drop 1).map .int)).filterMap tAsc = ((ns.zip (ns.drop 1)).map fun p => decide (p.1 < p.2)).map fun b => D.p (.bool b) := by
    rw [pairs_int, List.filterMap_map, List.map_map]
    rw [← List.filterMap_eq_map]
    rfl
  rw [ft] at lc
  have al := allP_bools ((ns.zip (ns.drop 1)).map fun p => decide (p.1 < p.2))
  have ab := all_bools S ((ns.zip (ns.drop 1)).map fun p => decide (p.1 < p.2))
  have hl : (((ns.zip (ns.drop 1)).map fun p => decide (p.1 < p.2)).map fun b => D.p (.bool b)).length ≤ 16777216 := by rw [List.length_map, List.length_map, List.length_zip]; omega
  have ea : ((ns.zip (ns.drop 1)).map fun p => decide (p.1 < p.2)).all id = asc ns := by unfold asc; rw [List.all_map]; rfl
  rw [ea] at ab
  have cut : slI false S (.p (.list (ns.map .int))) (some 1) none = some (.p (.list ((ns.drop 1).map .int)), S) := by
    show mkL false (PI.cutD ((ns.map PyData.int).map D.p) (some 1) none) S = _
    rw [cut_1, ← List.map_drop, ← List.map_drop]
    unfold mkL
    rw [if_pos (by rw [List.length_map, List.length_map, List.length_drop, show sizeLine = 16777216 from rfl]; omega), allP_map]
    rfl
  have hw : wipeE [some (D.p (.list (ns.map PyData.int))), none, none] [1, 2] = [some (.p (.list (ns.map .int))), none, none] := rfl
  generalize ((ns.zip (ns.drop 1)).map fun p => decide (p.1 < p.2)).map PyData.bool = Q at al ab
  generalize (((ns.zip (ns.drop 1)).map fun p => decide (p.1 < p.2)).map fun b => D.p (.bool b)) = R at lc al hl
  have zp := zp_ll S (ns.map .int) ((ns.drop 1).map .int)
  generalize srcZp (srcL ((ns.map PyData.int).map .p)) (srcL (((ns.drop 1).map PyData.int).map .p)) = F at lc zp
  generalize (D.p (.list ((ns.drop 1).map PyData.int))) = Y at cut zp
  generalize (D.p (.list (ns.map PyData.int))) = X at lc cut hw zp ⊢
  simp [startD, cut, zp, hw, lc, mkL, al, hl, sizeLine, ab]
theorem slips_ok (L k : Nat) (S : Store) (x : PyData) (many : Int) (hL : 1000000 ≤ L) (hn : ∀ xs, x = .tuple xs → xs.length < 1000000) : fL (G L) T DEP (k + 4) ft_are_slips S [.p x, .p (.int many)] = some (.p (.bool (slsB x many)), S) := by
  rw [e_are_slips, bodyF_e (h := rfl)]
  cases x with
  | tuple xs =>
    have hx := hn xs rfl
    have lc := lc_pure (f := srcL (xs.map .p)) (srcL_is _) (g := gNm 2) (c := mYes) (elt := b_are_slips_0 L (k + 3)) (ev := [some (.p (.tuple xs)), some (.p (.int many)), none]) (S := S) (L := L) (tBo fun y => slB y many) (by rw [List.length_map]; omega) (by rw [List.length_map]; omega) (fun d hd => by
      obtain ⟨y, _, rfl⟩ := List.mem_map.mp hd
      simp [lcTurn, b_are_slips_0, tBo, slip_ok L k S y])
    rw [tB_map] at lc
    have al := allP_bools (xs.map fun y => slB y many)
    have ab := all_bools S (xs.map fun y => slB y many)
    have hl : ((xs.map fun y => slB y many).map fun b => D.p (.bool b)).length ≤ 16777216 := by rw [List.length_map, List.length_map]; omega
    have ae : (xs.map fun y => slB y many).all id = xs.all fun y => slB y many := by rw [List.all_map]; rfl
    rw [ae] at ab
    have ha : (xs.all fun y => slB y many) = true → lcLoop (srcL (xs.map .p)) (gNm 2) mYes (b_are_slips_1 L (k + 3)) [some (.p (.tuple xs)), some (.p (.int many)), none] L 0 [] S = some ((firsts xs).map (fun i => D.p (.int i)), S) ∧ (firsts xs).length < 1000000 := fun h => by
      obtain ⟨f1, f2, f3⟩ := firsts_of h
      have lc2 := lc_pure (f := srcL (xs.map .p)) (srcL_is _) (g := gNm 2) (c := mYes) (elt := b_are_slips_1 L (k + 3)) (ev := [some (.p (.tuple xs)), some (.p (.int many)), none]) (S := S) (L := L) tF (by rw [List.length_map]; omega) (by rw [List.length_map]; omega) (fun d hd => by
        obtain ⟨y, hy, rfl⟩ := List.mem_map.mp hd
        obtain ⟨u, w, rfl⟩ := f3 y hy
        have i0 : ixI S (.p (.tuple [.int u, w])) (.p (.int 0)) = some (.p (.int u)) := rfl
        simp [lcTurn, b_are_slips_1, tF, i0])
      rw [f1] at lc2
      exact ⟨lc2, by omega⟩
    have hb := asc_okL L (k + 2) S (firsts xs) hL
    have al2 := allP_ints (firsts xs)
    have hl2 : ((firsts xs).map fun i => D.p (.int i)).length = (firsts xs).length := List.length_map _
    have hm : slsB (.tuple xs) many = ((xs.all fun y => slB y many) && asc (firsts xs)) := rfl
    rw [hm]
    generalize ((xs.map fun y => slB y many).map fun b => D.p (.bool b)) = R at lc al hl
    generalize ((xs.map fun y => slB y many).map PyData.bool) = Q at al ab
    have hw : wipeE [some (D.p (.tuple xs)), some (.p (.int many)), none] [2] = [some (.p (.tuple xs)), some (.p (.int many)), none] := rfl
    generalize (xs.all fun y => slB y many) = A at ab ha ⊢
    generalize asc (firsts xs) = C at hb ⊢
    generalize hQ : ((firsts xs).map fun i => D.p (.int i)) = R2 at ha al2 hl2
    generalize ((firsts xs).map PyData.int) = Q2 at al2 hb
    generalize (firsts xs).length = N at ha hb hl2
    generalize hs : (D.p (.tuple xs)) = X at lc ha hw ⊢
    have is1 : bIsi S [X, .ty .tup] = some (.p (.bool true), S) := by rw [← hs]; rfl
    have sr : srcOf S X = some (srcL (xs.map .p)) := by rw [← hs]; rfl
    generalize srcL (xs.map .p) = F at lc ha sr
    cases A with
    | false => simp [startD, is1, sr, hw, lc, mkL, al, hl, sizeLine, ab]
    | true =>
      obtain ⟨l2, n2⟩ := ha rfl
      have n3 : R2.length ≤ 16777216 := by omega
      simp [startD, is1, sr, hw, lc, mkL, al, hl, sizeLine, ab, l2, al2, n3, hb n2]
  | _ => simp [startD, slsB]
theorem word_ok (L k : Nat) (S : Store) (x : PyData) (h : okT x = true) : fL (G L) T DEP (k + 1) ft_is_word S [.p x, .p (.tuple [.str "keeper", .str "foe"])] = some (.p (.bool (wordB x)), S) := by
  rw [e_is_word, bodyF_e (h := rfl)]
  cases x with
  | str s =>
    have h : PyData.strOk s = true := h
    have m : PI.memI S (.p (.str s)) (.p (.tuple [.str "keeper", .str "foe"])) = some (wordB (.str s)) := by
      show (if SeqAt.shaped (.str s) = true ∧ PyData.canLayAll0 [.str "keeper", .str "foe"] = true then _ else none) = _
      rw [if_pos ⟨by unfold SeqAt.shaped; simp [PyData.canLay0, h, PyData.depth], by decide +kernel⟩]
      rfl
    simp [startD, m]
  | _ => simp [startD, wordB]
theorem row_ok (L k : Nat) (S : Store) (x : PyData) (many : Int) (hL : 1000000 ≤ L) (hx : Sml x) : fL (G L) T DEP (k + 5) ft_is_place_row S [.p x, .p (.int many)] = some (.p (.bool (rowB x many)), S) := by
  rw [e_is_place_row, bodyF_e (h := rfl)]
  have t := tup_ok L (k + 3) S x 4
  by_cases h : ∃ o m mv sl, x = .tuple [o, m, mv, sl]
  · obtain ⟨o, m, mv, sl, rfl⟩ := h
    have so := sm_mem hx (show o ∈ [o, m, mv, sl] by simp)
    have smv := sm_mem hx (show mv ∈ [o, m, mv, sl] by simp)
    have ssl := sm_mem hx (show sl ∈ [o, m, mv, sl] by simp)
    have i0 : ixI S (.p (.tuple [o, m, mv, sl])) (.p (.int 0)) = some (.p o) := rfl
    have i1 : ixI S (.p (.tuple [o, m, mv, sl])) (.p (.int 1)) = some (.p m) := rfl
    have i2 : ixI S (.p (.tuple [o, m, mv, sl])) (.p (.int 2)) = some (.p mv) := rfl
    have i3 : ixI S (.p (.tuple [o, m, mv, sl])) (.p (.int 3)) = some (.p sl) := rfl
    have t1 : tupN (.tuple [o, m, mv, sl]) 4 = true := by simp [tupN]
    rw [t1] at t
    have w1 := word_ok L (k + 3) S o (sm_okT so)
    have f1 := from_ok L (k + 2) S m 0
    have m1 := moves_ok L (k + 1) S mv many hL (sm_len smv)
    have s1 := slips_ok L k S sl many hL (sm_len ssl)
    have e : rowB (.tuple [o, m, mv, sl]) many = (wordB o && frm m 0 && mvB mv many && slsB sl many && (isK o || emp sl)) := rfl
    rw [e]
    have ek : wordB o = true → eqI S (.p o) (.p (.str "keeper")) = some (isK o) := fun h => by
      cases o with
      | str s => rfl
      | _ => cases h
    have es : slsB sl many = true → eqI S (.p sl) (.p (.tuple [])) = some (emp sl) := fun h => by
      cases sl with
      | tuple xs => rfl
      | _ => cases h
    generalize (D.p (.tuple [o, m, mv, sl])) = X at t i0 i1 i2 i3 ⊢
    cases h1 : wordB o with
    | false => rw [h1] at w1; simp [startD, t, i0, w1, mkT, allP, sizeLine]
    | true =>
      rw [h1] at w1
      have ek := ek h1
      cases h2 : frm m 0 with
      | false => rw [h2] at f1; simp [startD, t, i0, i1, w1, f1, mkT, allP, sizeLine]
      | true =>
        rw [h2] at f1
        cases h3 : mvB mv many with
        | false => rw [h3] at m1; simp [startD, t, i0, i1, i2, w1, f1, m1, mkT, allP, sizeLine]
        | true =>
          rw [h3] at m1
          cases h4 : slsB sl many with
          | false => rw [h4] at s1; simp [startD, t, i0, i1, i2, i3, w1, f1, m1, s1, mkT, allP, sizeLine]
          | true =>
            rw [h4] at s1
            have es := es h4
            cases h5 : isK o with
            | false => rw [h5] at ek; simp [startD, t, i0, i1, i2, i3, w1, f1, m1, s1, ek, es, mkT, allP, sizeLine]
            | true => rw [h5] at ek; simp [startD, t, i0, i1, i2, i3, w1, f1, m1, s1, ek, mkT, allP, sizeLine]
  · have t0 : tupN x 4 = false := by
      cases x with
      | tuple xs =>
        have : xs.length ≠ 4 := fun q => by
          match xs, q with
          | [a, b, c, d], _ => exact h ⟨a, b, c, d, rfl⟩
        simp only [tupN, decide_eq_false_iff_not]
        omega
      | _ => rfl
    have e : rowB x many = false := by
      unfold rowB
      split
      · exact absurd ⟨_, _, _, _, rfl⟩ h
      · rfl
    rw [t0] at t
    rw [e]
    simp [startD, t]
theorem game_ok (L k : Nat) (S : Store) (x : PyData) (hL : 1000000 ≤ L) (hx : Sml x) : fL (G L) T DEP (k + 6) ft_is_game_value S [.p x] = some (.p (.bool (gameB x)), S) := by
  rw [e_is_game_value, bodyF_e (h := rfl)]
  cases x with
  | tuple xs =>
    have hlen := sm_len hx xs rfl
    have lc := lc_pure (f := srcL (xs.map .p)) (srcL_is _) (g := gNm 1) (c := mYes) (elt := b_is_game_value_0 L (k + 5)) (ev := [some (.p (.tuple xs)), none]) (S := S) (L := L) (tBo fun y => rowB y xs.length) (by rw [List.length_map]; omega) (by rw [List.length_map]; omega) (fun d hd => by
      obtain ⟨y, hy, rfl⟩ := List.mem_map.mp hd
      simp [lcTurn, b_is_game_value_0, tBo, row_ok L k S y xs.length hL (sm_mem hx hy)])
    rw [tB_map] at lc
    have al := allP_bools (xs.map fun y => rowB y xs.length)
    have ab := all_bools S (xs.map fun y => rowB y xs.length)
    have hl : ((xs.map fun y => rowB y xs.length).map fun b => D.p (.bool b)).length ≤ 16777216 := by rw [List.length_map, List.length_map]; omega
    have ae : (xs.map fun y => rowB y xs.length).all id = xs.all fun y => rowB y xs.length := by rw [List.all_map]; rfl
    rw [ae] at ab
    have hm : gameB (.tuple xs) = (!xs.isEmpty && (xs.all fun y => rowB y xs.length)) := rfl
    rw [hm]
    have hw : wipeE [some (D.p (.tuple xs)), none] [1] = [some (.p (.tuple xs)), none] := rfl
    have ez : eqI S (.p (.tuple xs)) (.p (.tuple [])) = some xs.isEmpty := rfl
    generalize ((xs.map fun y => rowB y xs.length).map fun b => D.p (.bool b)) = R at lc al hl
    generalize ((xs.map fun y => rowB y xs.length).map PyData.bool) = Q at al ab
    generalize (xs.all fun y => rowB y xs.length) = A at ab ⊢
    generalize xs.isEmpty = Z at ez ⊢
    generalize hs : (D.p (.tuple xs)) = X at lc ez hw ⊢
    have is1 : bIsi S [X, .ty .tup] = some (.p (.bool true), S) := by rw [← hs]; rfl
    have sr : srcOf S X = some (srcL (xs.map .p)) := by rw [← hs]; rfl
    cases Z with
    | true => simp [startD, mkT, allP, sizeLine, ez, is1]
    | false => simp [startD, mkT, allP, sizeLine, ez, is1, sr, hw, lc, mkL, al, hl, ab]
  | _ => simp [startD, gameB]
theorem need_ok (L k : Nat) (S : Store) (x : PyData) (hL : 1000000 ≤ L) (hx : Sml x) (hg : gameB x = true) : fL (G L) T DEP (k + 7) ft_need_game S [.p x] = some (.p .none, S) := by
  rw [e_need_game, bodyF_e (h := rfl)]
  have g := game_ok L k S x hL hx
  rw [hg] at g
  simp [startD, g]
end
end K55
set_option maxHeartbeats 1000000
namespace K55
open PySem PySem.Spec L2 PI
open PyProof.Rows hiding St
section
variable (L k : Nat) (S : Store) {rows : List PyData} {v : Nat} {o m mv sl : PyData} (h : rows[v]? = some (.tuple [o, m, mv, sl]))
include h
theorem keepers_ok (z : Str) (ho : o = .str z) : fL (G L) T DEP (k + 1) ft_is_keepers S [.p (.tuple rows), .p (.int (v : Nat))] = some (.p (.bool (isK o)), S) := by
  rw [e_is_keepers, bodyF_e (h := rfl)]
  have i1 := ix_tup (S := S) h
  have i0 : ixI S (.p (.tuple [o, m, mv, sl])) (.p (.int 0)) = some (.p o) := rfl
  subst ho
  generalize (D.p (.tuple rows)) = X at i1 ⊢
  simp [startD, i1, i0, isK]
theorem movesof_ok : fL (G L) T DEP (k + 1) ft_moves_of S [.p (.tuple rows), .p (.int (v : Nat))] = some (.p mv, S) := by
  rw [e_moves_of, bodyF_e (h := rfl)]
  have i1 := ix_tup (S := S) h
  have i0 : ixI S (.p (.tuple [o, m, mv, sl])) (.p (.int 2)) = some (.p mv) := rfl
  generalize (D.p (.tuple rows)) = X at i1 ⊢
  simp [startD, i1, i0]
end
theorem placeof_ok (L k : Nat) (S : Store) (rows : List PyData) (x : PyData) : fL (G L) T DEP (k + 3) ft_is_place_of S [.p (.tuple rows), .p x] = some (.p (.bool (btw x 0 ((rows.length : Int) - 1))), S) := by
  rw [e_is_place_of, bodyF_e (h := rfl)]
  have b := btw_ok L k S x 0 ((rows.length : Int) - 1)
  simp [startD, b]
end K55
set_option maxHeartbeats 1000000
namespace K55
open PySem PySem.Spec L2 PI
open PyProof.Rows hiding St
section
variable (L k : Nat) (S : Store) {rs : List Rw}
theorem item_ok {v : Nat} {r : Rw} (h : rs[v]? = some r) (ok : r.Ok rs.length) (x : PyData) : fL (G L) T DEP (k + 4) ft_is_plan_item S [.p (gmD rs), .p (.int (v : Nat)), .p x] = some (.p (.bool (itB r x)), S) := by
  rw [e_is_plan_item, bodyF_e (h := rfl)]
  have h' : (rs.map Rw.d)[v]? = some (.tuple [.str (ownK r.k), .int r.m, .tuple (r.mv.map .int), .tuple (r.sl.map slD)]) := by rw [List.getElem?_map, h]; rfl
  have k1 := keepers_ok L (k + 2) S h' _ rfl
  have m1 := movesof_ok L (k + 2) S h'
  have p1 := placeof_ok L k S (rs.map Rw.d) x
  rw [isK_own] at k1
  rw [List.length_map] at p1
  have hm : ∀ i : Int, btw (.int i) 0 ((rs.length : Int) - 1) = false → decide (i ∈ r.mv) = false := fun i q => by
    rw [decide_eq_false_iff_not]
    intro q2
    have := ok.mvR i q2
    have q : (decide (0 ≤ i) && decide (i ≤ (rs.length : Int) - 1)) = false := q
    rw [Bool.and_eq_false_iff, decide_eq_false_iff_not, decide_eq_false_iff_not] at q
    omega
  have mi := fun i => mem_ints S i r.mv
  change fL (G L) T DEP (k + 3) ft_is_keepers S [.p (gmD rs), .p (.int (v : Nat))] = _ at k1
  change fL (G L) T DEP (k + 3) ft_moves_of S [.p (gmD rs), .p (.int (v : Nat))] = _ at m1
  change fL (G L) T DEP (k + 3) ft_is_place_of S [.p (gmD rs), .p x] = _ at p1
  generalize (D.p (gmD rs)) = X at k1 m1 p1 ⊢
  generalize PyData.tuple (r.mv.map .int) = Y at mi m1
  unfold itB
  cases hk : r.k with
  | false =>
    rw [hk] at k1
    cases x <;> simp [startD, k1, isD, cmpI, PI.isI]
  | true =>
    rw [hk] at k1
    cases x with
    | int i =>
      cases hb : btw (.int i) 0 ((rs.length : Int) - 1) with
      | false => rw [hb] at p1; simp [startD, k1, p1, hm i hb]
      | true => rw [hb] at p1; simp [startD, k1, p1, m1, mi]
    | _ => simp [startD, k1, p1, btw]
theorem plan_ok (hL : 1000000 ≤ L) (g : Gm rs) (x : PyData) (hx : Sml x) : fL (G L) T DEP (k + 5) ft_is_plan_value S [.p (gmD rs), .p x] = some (.p (.bool (planB rs x)), S) := by
  rw [e_is_plan_value, bodyF_e (h := rfl)]
  have t1 := tup_ok L (k + 3) S x rs.length
  have ln : bLen S [.p (gmD rs)] = some (.p (.int rs.length), S) := by unfold gmD; rw [len_t, List.length_map]
  cases x with
  | tuple xs =>
    have hl := sm_len hx xs rfl
    by_cases he : xs.length = rs.length
    · have al := all_lc (L := L) (mi := mEn (mV 1)) (own := [2, 3]) (g := gTp 2 (gsCons (gNm 2) (gsCons (gNm 3) gsNil))) (c := mYes) (elt := b_is_plan_value_0 L (k + 4)) (ev := [some (.p (gmD rs)), some (.p (.tuple xs)), none, none]) (S := S) (f := srcT xs) (xs := pairsI xs) (by simp) (srcT_is xs) (fun d => match d with
        | .p (.tuple [.int v, y]) => (match rs[v.toNat]? with
          | some r => itB r y
          | none => false)
        | _ => false) (by unfold pairsI; rw [List.length_mapIdx]; omega) (by unfold pairsI; rw [List.length_mapIdx]; omega) (fun d hd => by
          unfold pairsI at hd
          obtain ⟨i, hi, e⟩ := List.getElem_of_mem hd
          rw [List.length_mapIdx] at hi
          rw [List.getElem_mapIdx] at e
          subst e
          have hr : rs[i]? = some rs[i] := List.getElem?_eq_getElem (by omega)
          have i1 := item_ok L k S hr (g.ok _ (List.getElem_mem _)) xs[i]
          simp [lcTurn, wipeE, b_is_plan_value_0, i1, hr])
      rw [pairsI_all (rs := rs) he _ (fun r y => itB r y) (fun i r y h1 h2 => by simp [h1])] at al
      have t2 : tupN (.tuple xs) rs.length = true := by simp [tupN, he]
      rw [t2] at t1
      have e : planB rs (.tuple xs) = (rs.zip xs).all fun p => itB p.1 p.2 := by
        show (decide (xs.length = rs.length) && _) = _
        rw [decide_eq_true he]; rfl
      rw [e]
      simp only [mBlt_e, mCons_e, mNil_e] at al
      generalize (D.p (gmD rs)) = X at ln t1 al ⊢
      generalize (D.p (.tuple xs)) = Y at t1 al ⊢
      generalize ((rs.zip xs).all fun p => itB p.1 p.2) = A at al ⊢
      generalize mLc L false (mEn (mV 1)) [2, 3] (gTp 2 (gsCons (gNm 2) (gsCons (gNm 3) gsNil))) mYes (b_is_plan_value_0 L (k + 4)) = MM at al ⊢
      simp [startD, ln, t1, al]
    · have t2 : tupN (.tuple xs) rs.length = false := by simp [tupN]; omega
      rw [t2] at t1
      have e : planB rs (.tuple xs) = false := by
        show (decide (xs.length = rs.length) && _) = _
        rw [decide_eq_false he]; rfl
      rw [e]
      generalize (D.p (gmD rs)) = X at ln t1 ⊢
      simp [startD, ln, t1]
  | _ =>
    have t1 := t1
    simp only [tupN] at t1
    generalize (D.p (gmD rs)) = X at ln t1 ⊢
    simp [startD, ln, t1, planB]
def roomB (rs : List Rw) (many : Int) (x : PyData) : Bool := match x with
  | .tuple [a, b] => planB rs a && tupN b rs.length && tupB (fun y => btw y 0 (many - 1)) b
  | _ => false
theorem tup2 (x : PyData) : (∃ a b, x = .tuple [a, b]) ∨ (tupN x 2 = false ∧ ∀ rs many, roomB rs many x = false) := by
  cases x with
  | tuple xs =>
    match xs with
    | [] => exact .inr ⟨rfl, fun _ _ => rfl⟩
    | [a] => exact .inr ⟨rfl, fun _ _ => rfl⟩
    | [a, b] => exact .inl ⟨a, b, rfl⟩
    | a :: b :: c :: r => exact .inr ⟨by simp [tupN]; omega, fun _ _ => rfl⟩
  | _ => exact .inr ⟨rfl, fun _ _ => rfl⟩
theorem room_ok (hL : 1000000 ≤ L) (g : Gm rs) (x : PyData) (hx : Sml x) (many : Int) : fL (G L) T DEP (k + 6) ft_is_room S [.p (gmD rs), .p (.int many), .p x] = some (.p (.bool (roomB rs many x)), S) := by
  rw [e_is_room, bodyF_e (h := rfl)]
  have t1 := tup_ok L (k + 4) S x 2
  have ln : bLen S [.p (gmD rs)] = some (.p (.int rs.length), S) := by unfold gmD; rw [len_t, List.length_map]
  rcases tup2 x with ⟨a, b, rfl⟩ | ⟨e, e2⟩
  · have i0 : ixI S (.p (.tuple [a, b])) (.p (.int 0)) = some (.p a) := rfl
    have i1 : ixI S (.p (.tuple [a, b])) (.p (.int 1)) = some (.p b) := rfl
    have sa := sm_mem hx (show a ∈ [a, b] by simp)
    have sb := sm_mem hx (show b ∈ [a, b] by simp)
    have p1 := plan_ok L k S hL g a sa
    have t2 := tup_ok L (k + 4) S b rs.length
    have e : tupN (.tuple [a, b]) 2 = true := rfl
    rw [e] at t1
    show _ = some (D.p (.bool (planB rs a && tupN b rs.length && tupB (fun y => btw y 0 (many - 1)) b)), S)
    generalize (D.p (gmD rs)) = X at ln p1 ⊢
    generalize (D.p (.tuple [a, b])) = Y at t1 i0 i1 ⊢
    cases h1 : planB rs a with
    | false => rw [h1] at p1; simp [startD, t1, i0, p1]
    | true =>
      rw [h1] at p1
      cases h2 : tupN b rs.length with
      | false => rw [h2] at t2; simp [startD, t1, i0, i1, p1, ln, t2]
      | true =>
        rw [h2] at t2
        cases b with
        | tuple bs =>
          have hl := sm_len sb bs rfl
          have al := all_lc (L := L) (mi := mIter (mIx (mV 2) (mC (.p (.int 1))))) (own := [3]) (g := gNm 3) (c := mYes) (elt := b_is_room_0 L (k + 5)) (ev := [some X, some (.p (.int many)), some Y, none]) (S := S) (f := srcL (bs.map .p)) (xs := bs.map .p) (by simp [i1]) (srcL_is _) (fun d => match d with
            | .p y => btw y 0 (many - 1)
            | _ => false) (by rw [List.length_map]; omega) (by rw [List.length_map]; omega) (fun d hd => by
              obtain ⟨y, _, rfl⟩ := List.mem_map.mp hd
              have b1 := btw_ok L (k + 3) S y 0 (many - 1)
              simp [lcTurn, wipeE, b_is_room_0, b1])
          rw [List.all_map] at al
          simp only [mBlt_e, mCons_e, mNil_e] at al
          show _ = some (D.p (.bool (true && true && bs.all (fun y => btw y 0 (many - 1)))), S)
          change ((mLc L false (mIter (mIx (mV 2) (mC (.p (.int 1))))) [3] (gNm 3) mYes (b_is_room_0 L (k + 5)) [some X, some (.p (.int many)), some Y, none] S).bind _).bind _ = some (D.p (.bool (bs.all (fun y => btw y 0 (many - 1)))), S) at al
          generalize (bs.all (fun y => btw y 0 (many - 1))) = A at al ⊢
          generalize mLc L false (mIter (mIx (mV 2) (mC (.p (.int 1))))) [3] (gNm 3) mYes (b_is_room_0 L (k + 5)) = MM at al ⊢
          simp [startD, t1, i0, i1, p1, ln, t2, al]
        | _ => cases h2
  · have e2 := e2 rs many
    rw [e] at t1
    rw [e2]
    generalize (D.p (gmD rs)) = X at ln ⊢
    simp [startD, ln, t1]
def ctlB (rs : List Rw) (x : PyData) : Bool := match x with
  | .tuple xs => !xs.isEmpty && xs.all (roomB rs xs.length)
  | _ => false
theorem ctl_ok (hL : 1000000 ≤ L) (g : Gm rs) (x : PyData) (hx : Sml x) : fL (G L) T DEP (k + 7) ft_is_controller_value S [.p (gmD rs), .p x] = some (.p (.bool (ctlB rs x)), S) := by
  rw [e_is_controller_value, bodyF_e (h := rfl)]
  cases x with
  | tuple xs =>
    have hl := sm_len hx xs rfl
    have al := all_lc (L := L) (mi := mIter (mV 1)) (own := [2]) (g := gNm 2) (c := mYes) (elt := b_is_controller_value_0 L (k + 6)) (ev := [some (.p (gmD rs)), some (.p (.tuple xs)), none]) (S := S) (f := srcL (xs.map .p)) (xs := xs.map .p) (by simp) (srcL_is _) (fun d => match d with
      | .p y => roomB rs xs.length y
      | _ => false) (by rw [List.length_map]; omega) (by rw [List.length_map]; omega) (fun d hd => by
        obtain ⟨y, hy, rfl⟩ := List.mem_map.mp hd
        have b1 := room_ok L k S hL g y (sm_mem hx hy) xs.length
        simp [lcTurn, wipeE, b_is_controller_value_0, b1])
    rw [List.all_map] at al
    simp only [mBlt_e, mCons_e, mNil_e] at al
    change ((mLc L false (mIter (mV 1)) [2] (gNm 2) mYes (b_is_controller_value_0 L (k + 6)) [some (.p (gmD rs)), some (.p (.tuple xs)), none] S).bind _).bind _ = some (D.p (.bool (xs.all (roomB rs xs.length))), S) at al
    have ez : eqI S (.p (.tuple xs)) (.p (.tuple [])) = some xs.isEmpty := rfl
    have is1 : bIsi S [.p (.tuple xs), .ty .tup] = some (.p (.bool true), S) := rfl
    show _ = some (D.p (.bool (!xs.isEmpty && xs.all (roomB rs xs.length))), S)
    generalize (xs.all (roomB rs xs.length)) = A at al ⊢
    generalize xs.isEmpty = Z at ez ⊢
    generalize (D.p (gmD rs)) = X at al ⊢
    generalize (D.p (.tuple xs)) = Y at al ez is1 ⊢
    generalize mLc L false (mIter (mV 1)) [2] (gNm 2) mYes (b_is_controller_value_0 L (k + 6)) = MM at al ⊢
    cases Z with
    | true => simp [startD, mkT, allP, sizeLine, ez, is1]
    | false => simp [startD, mkT, allP, sizeLine, ez, is1, al]
  | _ => simp [startD, ctlB]
theorem isctl_ok (hL : 1000000 ≤ L) (g : Gm rs) (x : PyData) (hx : Sml x) : fL (G L) T DEP (k + 8) ft_is_controller S [.p (gmD rs), .p x] = some (.p (.bool (ctlB rs x)), S) := by
  rw [e_is_controller, bodyF_e (h := rfl)]
  have n1 := need_ok L k S (gmD rs) hL g.Sml g.gameB
  have c1 := ctl_ok L k S hL g x hx
  generalize (D.p (gmD rs)) = X at n1 c1 ⊢
  simp [startD, n1, c1]
end
end K55
set_option maxHeartbeats 1000000
namespace K55
open PySem PySem.Spec L2 PI
open PyProof.Rows hiding St
section
variable (L k : Nat) (S : Store) {rs : List Rw}
theorem lawint_ok (x : PyData) : fL (G L) T DEP (k + 1) ft__law_is_integer S [.p x] = some (.p (.bool (isN x)), S) := by
  rw [e__law_is_integer, bodyF_e (h := rfl)]
  cases x <;> rfl
theorem zip_turn (r : Rw) (x : PyData) (a b c d e : Option D) : fTurn (gTp 2 (gsCons (gNm 5) (gsCons (gNm 6) gsNil))) (b__law_is_controller_4 L (k + 1)) (.p (.tuple [x, r.d])) [a, b, c, none, none, d, e] S = some (if itB r x = true then .nx else .rt (.p (.bool false)), [a, b, c, none, none, some (.p x), some (.p r.d)], S) := by
  have i0 : ixI S (.p r.d) (.p (.int 0)) = some (.p (.str (ownK r.k))) := rfl
  have i2 : ixI S (.p r.d) (.p (.int 2)) = some (.p (.tuple (r.mv.map .int))) := rfl
  have li := lawint_ok L k S x
  have mi := fun i => mem_ints S i r.mv
  generalize PyData.tuple (r.mv.map .int) = Y at mi i2
  generalize r.d = Z at i0 i2 ⊢
  unfold itB
  rw [fTurn_e]
  cases hk : r.k with
  | false =>
    have o1 : (ownK false = ("foe" : Str)) = True := by decide +kernel
    have o2 : (ownK false = ("keeper" : Str)) = False := by decide +kernel
    rw [hk] at i0
    cases x <;> simp [b__law_is_controller_4, i0, o1, o2, isD, cmpI, PI.isI]
  | true =>
    have o1 : (ownK true = ("foe" : Str)) = False := by decide +kernel
    have o2 : (ownK true = ("keeper" : Str)) = True := by decide +kernel
    rw [hk] at i0
    cases x with
    | int i =>
      by_cases h : i ∈ r.mv <;> simp [b__law_is_controller_4, i0, i2, o1, o2, li, isN, mi, h]
    | _ => simp [b__law_is_controller_4, i0, o1, o2, li, isN]
theorem room_turn (hL : 1000000 ≤ L) (g : Gm rs) (xs : List PyData) (x : PyData) (hx : Sml x) (a b c : Option D) : ∃ a' b' c', fTurn (gNm 2) (b__law_is_controller_5 L (k + 1)) (.p x) [some (.p (gmD rs)), some (.p (.tuple xs)), a, none, none, b, c] S = some (if roomB rs xs.length x = true then .nx else .rt (.p (.bool false)), [some (.p (gmD rs)), some (.p (.tuple xs)), a', none, none, b', c'], S) := by
  rw [fTurn_e]
  unfold b__law_is_controller_5
  have ln : bLen S [.p (gmD rs)] = some (.p (.int rs.length), S) := by unfold gmD; rw [len_t, List.length_map]
  have ln2 : bLen S [.p (.tuple xs)] = some (.p (.int xs.length), S) := len_t S xs
  rcases tup2 x with ⟨u, v, rfl⟩ | ⟨e, e3⟩
  · have su := sm_mem hx (show u ∈ [u, v] by simp)
    have sv := sm_mem hx (show v ∈ [u, v] by simp)
    have i0 : ixI S (.p (.tuple [u, v])) (.p (.int 0)) = some (.p u) := rfl
    have i1 : ixI S (.p (.tuple [u, v])) (.p (.int 1)) = some (.p v) := rfl
    have c1 := some_lc (L := L) (mi := mIter (mV 2)) (own := [3]) (g := gNm 3) (c := b__law_is_controller_0 L (k + 1)) (elt := b__law_is_controller_1 L (k + 1)) (ev := [some (.p (gmD rs)), some (.p (.tuple xs)), some (.p (.tuple [u, v])), none, none, b, c]) (S := S) (f := srcL ([u, v].map .p)) (xs := [u, v].map .p) (by simp) (srcL_is _) (fun d => match d with
        | .p y => !tupN y rs.length
        | _ => true) (fun d => match d with
        | .p y => y
        | _ => .none) (by simp) (by simp; omega) (fun d hd => by
          obtain ⟨y, hy, rfl⟩ := List.mem_map.mp hd
          generalize (D.p (gmD rs)) = X at ln ⊢
          cases y with
          | tuple ys =>
            by_cases h : (ys.length : Int) = rs.length
            · simp [lcTurn, wipeE, b__law_is_controller_0, b__law_is_controller_1, ln, tupN, h]
            · simp [lcTurn, wipeE, b__law_is_controller_0, b__law_is_controller_1, ln, tupN, h]
          | _ => simp [lcTurn, wipeE, b__law_is_controller_0, b__law_is_controller_1, ln, tupN])
    have an : ([u, v].map D.p).any (fun d => match d with
        | .p y => !tupN y rs.length
        | _ => true) = !(tupN u rs.length && tupN v rs.length) := by
      show (!tupN u rs.length || (!tupN v rs.length || false)) = _
      cases tupN u rs.length <;> cases tupN v rs.length <;> rfl
    rw [an] at c1
    have ee : roomB rs xs.length (.tuple [u, v]) = (planB rs u && tupN v rs.length && tupB (fun y => btw y 0 ((xs.length : Int) - 1)) v) := rfl
    rw [ee]
    cases hu : tupN u rs.length with
    | false =>
      have hp : planB rs u = false := by
        cases u with
        | tuple us =>
          have hu : decide ((us.length : Int) = rs.length) = false := hu
          rw [decide_eq_false_iff_not] at hu
          show (decide (us.length = rs.length) && _) = false
          rw [decide_eq_false (by omega)]; rfl
        | _ => rfl
      rw [hu] at c1
      rw [hp]
      simp only [mCmp_e] at c1
      refine ⟨some (.p (.tuple [u, v])), b, c, ?_⟩
      generalize (D.p (gmD rs)) = X at ln c1 ⊢
      have tu : bIsi S [.p (.tuple [u, v]), .ty .tup] = some (.p (.bool true), S) := rfl
      have l2 : bLen S [.p (.tuple [u, v])] = some (.p (.int 2), S) := rfl
      generalize (D.p (.tuple [u, v])) = Y at c1 tu l2 ⊢
      generalize mLc L false (mIter (mV 2)) [3] (gNm 3) (b__law_is_controller_0 L (k + 1)) (b__law_is_controller_1 L (k + 1)) = MM at c1
      simp [tu, l2, c1]
    | true =>
      cases hv : tupN v rs.length with
      | false =>
        rw [hu, hv] at c1
        rw [Bool.and_false, Bool.false_and]
        simp only [mCmp_e] at c1
        refine ⟨some (.p (.tuple [u, v])), b, c, ?_⟩
        generalize (D.p (gmD rs)) = X at ln c1 ⊢
        have tu : bIsi S [.p (.tuple [u, v]), .ty .tup] = some (.p (.bool true), S) := rfl
        have l2 : bLen S [.p (.tuple [u, v])] = some (.p (.int 2), S) := rfl
        generalize (D.p (.tuple [u, v])) = Y at c1 tu l2 ⊢
        generalize mLc L false (mIter (mV 2)) [3] (gNm 3) (b__law_is_controller_0 L (k + 1)) (b__law_is_controller_1 L (k + 1)) = MM at c1
        simp [tu, l2, c1]
      | true =>
        rw [hu, hv] at c1
        rw [Bool.and_true]
        obtain ⟨us, rfl⟩ : ∃ us, u = .tuple us := by
          cases u with
          | tuple us => exact ⟨us, rfl⟩
          | _ => cases hu
        obtain ⟨vs, rfl⟩ : ∃ vs, v = .tuple vs := by
          cases v with
          | tuple vs => exact ⟨vs, rfl⟩
          | _ => cases hv
        have lu := sm_len su us rfl
        have lv := sm_len sv vs rfl
        have c2 := some_lc (L := L) (mi := mIter (mIx (mV 2) (mC (.p (.int 1))))) (own := [4]) (g := gNm 4) (c := b__law_is_controller_2 L (k + 1)) (elt := b__law_is_controller_3 L (k + 1)) (ev := [some (.p (gmD rs)), some (.p (.tuple xs)), some (.p (.tuple [.tuple us, .tuple vs])), none, none, b, c]) (S := S) (f := srcL (vs.map .p)) (xs := vs.map .p) (by simp [i1]) (srcL_is _) (fun d => match d with
            | .p y => !btw y 0 ((xs.length : Int) - 1)
            | _ => true) (fun d => match d with
            | .p y => y
            | _ => .none) (by rw [List.length_map]; omega) (by rw [List.length_map]; omega) (fun d hd => by
              obtain ⟨y, hy, rfl⟩ := List.mem_map.mp hd
              have li := lawint_ok L k S y
              generalize (D.p (gmD rs)) = X at ln ⊢
              cases y with
              | int i =>
                have hb : btw (.int i) 0 ((xs.length : Int) - 1) = (decide (0 ≤ i) && decide (i < xs.length)) := by
                  show (decide (0 ≤ i) && decide (i ≤ (xs.length : Int) - 1)) = _
                  congr 1
                  rw [decide_eq_decide]; omega
                by_cases h1 : 0 ≤ i
                · by_cases h2 : i < (xs.length : Int) <;> simp [lcTurn, wipeE, b__law_is_controller_2, b__law_is_controller_3, li, isN, hb, h1, h2, len_t]
                · simp [lcTurn, wipeE, b__law_is_controller_2, b__law_is_controller_3, li, isN, hb, h1]
              | _ => simp [lcTurn, wipeE, b__law_is_controller_2, b__law_is_controller_3, li, isN, btw])
        have av : (vs.map D.p).any (fun d => match d with
            | .p y => !btw y 0 ((xs.length : Int) - 1)
            | _ => true) = !(vs.all fun y => btw y 0 ((xs.length : Int) - 1)) := by
          rw [List.any_map, List.all_eq_not_any_not, Bool.not_not]; rfl
        rw [av] at c2
        have tb : tupB (fun y => btw y 0 ((xs.length : Int) - 1)) (.tuple vs) = vs.all fun y => btw y 0 ((xs.length : Int) - 1) := rfl
        rw [tb]
        have hul : us.length = rs.length := by
          have hu : decide ((us.length : Int) = rs.length) = true := hu
          rw [decide_eq_true_eq] at hu; omega
        have pb : planB rs (.tuple us) = (rs.zip us).all fun p => itB p.1 p.2 := by
          show (decide (us.length = rs.length) && _) = _
          rw [decide_eq_true hul]; rfl
        rw [pb]
        obtain ⟨ev', f1, ⟨b', c', rfl⟩⟩ := for_look (L := L) (S := S) (ev := [some (.p (gmD rs)), some (.p (.tuple xs)), some (.p (.tuple [.tuple us, .tuple vs])), none, none, b, c]) (g := gTp 2 (gsCons (gNm 5) (gsCons (gNm 6) gsNil))) (body := b__law_is_controller_4 L (k + 1)) (srcZ_is us (rs.map Rw.d)) itP (.p (.bool false))
          (fun ev => ∃ b' c', ev = [some (.p (gmD rs)), some (.p (.tuple xs)), some (.p (.tuple [.tuple us, .tuple vs])), none, none, b', c']) (by rw [pairsZ_len]; omega) ⟨b, c, rfl⟩ (fun d hd ev ⟨b', c', e⟩ => by
            subst e
            unfold pairsZ at hd
            obtain ⟨⟨y, w⟩, hp, rfl⟩ := List.mem_map.mp hd
            obtain ⟨r, hr, rfl⟩ := List.mem_map.mp (List.of_mem_zip hp).2
            refine ⟨_, ?_, some (.p y), some (.p r.d), rfl⟩
            have z := zip_turn L k S r y (some (.p (gmD rs))) (some (.p (.tuple xs))) (some (.p (.tuple [.tuple us, .tuple vs]))) b' c'
            have e : itP (.p (.tuple [y, r.d])) = itB r y := itD_d r y
            rw [e]
            exact z)
        rw [itP_all] at f1
        simp only [mCmp_e] at c1 c2
        have zz : zpSrc S (.p (.tuple us)) (.p (gmD rs)) = some (srcZp (srcL (us.map .p)) (srcL ((rs.map Rw.d).map .p)), S) := rfl
        have tu : bIsi S [.p (.tuple [.tuple us, .tuple vs]), .ty .tup] = some (.p (.bool true), S) := rfl
        have l2 : bLen S [.p (.tuple [.tuple us, .tuple vs])] = some (.p (.int 2), S) := rfl
        generalize ((rs.zip us).all fun p => itB p.1 p.2) = A at f1 ⊢
        generalize (vs.all fun y => btw y 0 ((xs.length : Int) - 1)) = A2 at c2 ⊢
        generalize (D.p (gmD rs)) = X at ln c1 c2 f1 zz ⊢
        generalize (D.p (.tuple [.tuple us, .tuple vs])) = Y at c1 c2 f1 tu l2 i0 i1 ⊢
        generalize (D.p (.tuple us)) = U at i0 zz
        generalize srcZp (srcL (us.map .p)) (srcL ((rs.map Rw.d).map .p)) = F at f1 zz
        generalize mLc L false (mIter (mV 2)) [3] (gNm 3) (b__law_is_controller_0 L (k + 1)) (b__law_is_controller_1 L (k + 1)) = MM at c1
        generalize mLc L false (mIter (mIx (mV 2) (mC (.p (.int 1))))) [4] (gNm 4) (b__law_is_controller_2 L (k + 1)) (b__law_is_controller_3 L (k + 1)) = M2 at c2
        cases A2 with
        | false =>
          refine ⟨some Y, b, c, ?_⟩
          cases A <;> simp [tu, l2, c1, c2]
        | true =>
          refine ⟨some Y, b', c', ?_⟩
          cases A <;> simp [tu, l2, c1, c2, i0, zz, f1]
  · rw [e3]
    refine ⟨some (.p x), b, c, ?_⟩
    cases x with
    | tuple ys =>
      have e : decide ((ys.length : Int) = 2) = false := e
      rw [decide_eq_false_iff_not] at e
      generalize (D.p (gmD rs)) = X at ln ⊢
      simp [e]
    | _ => simp
theorem look_ok (hL : 1000000 ≤ L) (g : Gm rs) (x : PyData) (hx : Sml x) : fL (G L) T DEP (k + 2) ft__law_is_controller S [.p (gmD rs), .p x] = some (.p (.bool (ctlB rs x)), S) := by
  rw [e__law_is_controller, bodyF_e (h := rfl)]
  cases x with
  | tuple xs =>
    have hl := sm_len hx xs rfl
    obtain ⟨ev', f1, _⟩ := for_look (L := L) (S := S) (ev := [some (.p (gmD rs)), some (.p (.tuple xs)), none, none, none, none, none]) (g := gNm 2) (body := b__law_is_controller_5 L (k + 1)) (srcL_is (xs.map .p)) (fun d => match d with
      | .p y => roomB rs xs.length y
      | _ => true) (.p (.bool false)) (fun ev => ∃ a b c, ev = [some (.p (gmD rs)), some (.p (.tuple xs)), a, none, none, b, c]) (by rw [List.length_map]; omega) ⟨_, _, _, rfl⟩ (fun d hd ev ⟨a, b, c, e⟩ => by
        subst e
        obtain ⟨y, hy, rfl⟩ := List.mem_map.mp hd
        obtain ⟨a', b', c', h⟩ := room_turn L k S hL g xs y (sm_mem hx hy) a b c
        exact ⟨_, h, _, _, _, rfl⟩)
    rw [List.all_map] at f1
    change forLoop _ _ _ L 0 _ S = some (if (xs.all (roomB rs xs.length)) = true then _ else _, ev', S) at f1
    have ez : eqI S (.p (.tuple xs)) (.p (.tuple [])) = some xs.isEmpty := rfl
    have is1 : bIsi S [.p (.tuple xs), .ty .tup] = some (.p (.bool true), S) := rfl
    have sr : srcOf S (.p (.tuple xs)) = some (srcL (xs.map .p)) := rfl
    show _ = some (D.p (.bool (!xs.isEmpty && xs.all (roomB rs xs.length))), S)
    generalize (xs.all (roomB rs xs.length)) = A at f1 ⊢
    generalize xs.isEmpty = Z at ez ⊢
    generalize (D.p (gmD rs)) = X at f1 ⊢
    generalize (D.p (.tuple xs)) = Y at f1 ez is1 sr ⊢
    generalize srcL (xs.map .p) = F at f1 sr
    cases Z with
    | true => simp [startD, mkT, allP, sizeLine, ez, is1]
    | false => cases A <;> simp [startD, mkT, allP, sizeLine, ez, is1, sr, f1]
  | _ => simp [startD, ctlB]
end
end K55
set_option maxHeartbeats 1000000
namespace K55
open PySem PySem.Spec L2 PI
open PyProof.Rows hiding St
section
variable {L k : Nat} {S tl : Store}
theorem draw_u (hD : Dk tl S) {many : Int} (h0 : 0 < many) (h1 : many < 1073741824) {Q : D × Store → Prop} (H : ∀ (i : Int) S', 0 ≤ i → i < many → Dk tl S' → Q (.p (.int i), S')) : WP (fL (G L) T DEP (k + 1) ft__law_draw S [.ref 1, .p (.int many)]) Q := by
  obtain ⟨xs, mx, dr, rfl, hx⟩ := hD
  obtain ⟨r, xs', mx', dr', e1, ⟨a, b⟩, c⟩ := draw L k xs hx mx dr many tl h0 h1
  exact wp_eq e1 (H r _ a b ⟨_, _, _, rfl, c⟩)
theorem pick_u (hD : Dk tl S) {l : List PyData} (hl : 0 < l.length) (hz : l.length < 1073741824) {Q : D × Store → Prop} (H : ∀ x S', x ∈ l → Dk tl S' → Q (.p x, S')) : WP (fL (G L) T DEP (k + 2) ft__law_pick S [.ref 1, .p (.list l)]) Q := by
  obtain ⟨xs, mx, dr, rfl, hx⟩ := hD
  obtain ⟨x, xs', mx', dr', e1, a, c⟩ := pick L k xs hx mx dr tl l hl hz
  exact wp_eq e1 (H x _ a ⟨_, _, _, rfl, c⟩)
theorem pickI_u (hD : Dk tl S) {l : List PyData} (lo hi : Int) (hb : (l.all fun y => btw y lo hi) = true) (hl : 0 < l.length) (hz : l.length < 1073741824) {Q : D × Store → Prop} (H : ∀ (j : Int) S', lo ≤ j → j ≤ hi → Dk tl S' → Q (.p (.int j), S')) : WP (fL (G L) T DEP (k + 2) ft__law_pick S [.ref 1, .p (.list l)]) Q :=
  pick_u hD hl hz fun x S' hx h => by
    obtain ⟨j, rfl, h1, h2⟩ := btw_inv (List.all_eq_true.mp hb x hx)
    exact H j S' h1 h2 h
/-- some drawn numbers below n -/
theorem nums_u (hL : 1000000 ≤ L) (hD : Dk tl S) {ev : EnvI} {n : Int} (h0 : 0 < n) (h1 : n < 1073741824) {c : Nat} (hc : c ≤ 60) {elt : M}
    (he : ∀ d S, (gNm 8 d ev S).bind (fun r => elt r.1 r.2) = fL (G L) T DEP (k + 2) ft__law_draw S [.ref 1, .p (.int n)]) {Q : List D × Store → Prop}
    (H : ∀ (ns : List Int) S', ns.length = c → (∀ u ∈ ns, 0 ≤ u ∧ u < n) → Dk tl S' → Q (ns.map fun i => .p (.int i), S')) : WP (lcLoop (srcN 0 c) (gNm 8) mYes elt ev L 0 [] S) Q := by
  refine wp_lcN (fun i acc S => ∃ ns : List Int, acc = (ns.map fun i => D.p (.int i)) ∧ ns.length = i ∧ (∀ u ∈ ns, 0 ≤ u ∧ u < n) ∧ Dk tl S) (by omega) (by omega) ⟨[], rfl, rfl, by simp, hD⟩ ?_ ?_
  · rintro i acc S1 hi ⟨ns, rfl, e2, e3, e4⟩
    have he := he (.p (.int (0 + i))) S1
    simp only [gNm_e, Option.bind_some] at he
    simp only [lcTurn, gNm_e, Option.bind_some, kL1_e, mYes_e, kL2_e, isTru_e, kL3_t, he, wp_bind]
    refine draw_u e4 h0 h1 fun j S2 j0 j1 hD2 => ?_
    simp only [kL4_e, wp_some]
    refine ⟨ns ++ [j], by simp, by simp [e2], fun u hu => ?_, hD2⟩
    rcases List.mem_append.mp hu with hu | hu
    · exact e3 u hu
    · rw [List.mem_singleton.mp hu]; exact ⟨j0, j1⟩
  · rintro acc S1 _ ⟨ns, rfl, e2, e3, e4⟩
    exact H ns S1 e2 e3 e4
/-- one turn of the drawn game -/
theorem game_turn (hL : 1000000 ≤ L) {n : Nat} (h0 : 0 < n) (hn : n ≤ 12) {marks : List Int} (hm : marks ≠ []) (hml : marks.length < 1000) (hmr : ∀ m ∈ marks, 0 ≤ m ∧ m ≤ 1000) {ws : List Rw} (hws : ∀ r ∈ ws, r.Ok n) (hwl : ws.length < 100) (hD : Dk (tl ++ [.lst (ws.map fun r => .p r.d)]) S) (a0 a2 : Option D) (left : Int) (a6 a7 a8 a9 a10 a11 a12 : Option D) {v : D}
    {R : Fl × EnvI × Store → Prop} {Inv : EnvI → Store → Prop}
    (H : ∀ (r : Rw) (left : Int) (a6 a7 a9 a10 a11 : Option D) S', r.Ok n → Dk (tl ++ [.lst ((ws ++ [r]).map fun r => .p r.d)]) S' → Inv [some (.ref 1), a0, some (.p (.list (marks.map .int))), some (.p (.int n)), some (.ref (tl.length + 2)), some (.p (.int left)), a6, a7, none, a9, a10, a11, none] S') :
    WP (fTurn (gNm 6) (b__law_drawn_game_3 L (k + 2)) v [some (.ref 1), a0, some (.p (.list (marks.map .int))), some (.p (.int n)), some (.ref (tl.length + 2)), some (.p (.int left)), a6, a7, none, a9, a10, a11, none] S) (Behind Inv R) := by
  rw [fTurn_e]
  unfold b__law_drawn_game_3
  simp [mkL, allP, sizeLine]
  refine pick_u hD (by simp) (by simp) fun ow S1 how hD1 => ?_
  obtain ⟨b, rfl⟩ : ∃ b, ow = .str (ownK b) := by
    simp at how
    rcases how with rfl | rfl
    · exact ⟨true, rfl⟩
    · exact ⟨false, rfl⟩
  clear how
  simp [mkL, allP, sizeLine]
  refine pickI_u hD1 1 3 (by decide) (by simp) (by simp) fun c S2 c0 c1 hD2 => ?_
  obtain ⟨c, rfl⟩ : ∃ c' : Nat, c = c' := ⟨c.toNat, by omega⟩
  simp [kR1_n S2 c (by omega), -kR1_e, wipeE]
  refine nums_u (k := k) hL hD2 (n := n) (by omega) (by omega) (c := c) (by omega) (fun d S => by simp [b__law_drawn_game_0]) ?_
  intro ns S3 n1 n2 hD3
  simp only [kLc2_e, mkL_nums ns S3 (by omega), sset_l S3 ns (by omega), wp_some, kSset_e]
  simp [mkL_nil, -sIf_e]
  have n0 : ns ≠ [] := fun e => by rw [e] at n1; simp at n1; omega
  refine WP.mono (P := fun q => ∃ (sl : List (Int × Int)) (x11 : Option D) (S4 : Store), q = (Fl.nx, [some (.ref 1), a0, some (.p (.list (marks.map .int))), some (.p (.int n)), some (.ref (tl.length + 2)), some (.p (.int left)), some v, some (.p (.str (ownK b))), none, some (.p (.list ((setL ns).map .int))), some (.p (.list (sl.map slD))), x11, none], S4) ∧ sl.length ≤ 2 ∧ (sl.map (·.1)).Pairwise (· < ·) ∧ (∀ p ∈ sl, 0 ≤ p.1 ∧ p.1 < n ∧ 1 ≤ p.2 ∧ p.2 ≤ 9) ∧ (b = false → sl = []) ∧ Dk (tl ++ [.lst (ws.map fun r => .p r.d)]) S4) ?_ ?_
  · cases b with
    | false => 
      simp [own_key]
      exact ⟨[], _, S3, ⟨⟨rfl, rfl⟩, rfl⟩, by simp, by simp, by simp, rfl, hD3⟩
    | true =>
      simp [own_key]
      refine draw_u hD3 (by decide) (by decide) fun z S4 z0 z1 hD4 => ?_
      by_cases hz : z = 0
      · simp [hz, mkL, allP, sizeLine]
        refine pickI_u hD4 1 2 (by decide) (by simp) (by simp) fun c S5 c0 c1 hD5 => ?_
        obtain ⟨c, rfl⟩ : ∃ c' : Nat, c = c' := ⟨c.toNat, by omega⟩
        simp [kR1_n S5 c (by omega), -kR1_e, wipeE]
        refine nums_u (k := k) hL hD5 (n := n) (by omega) (by omega) (c := c) (by omega) (fun d S => by simp [b__law_drawn_game_1]) ?_
        intro ms S6 m1 m2 hD6
        simp only [kLc2_e, mkL_nums ms S6 (by omega), sset_l S6 ms (by omega), wp_some, kSset_e]
        have ml := setL_len (ns := ms)
        simp [slI_l S6 ((setL ms).map .int) none (some left) (by rw [List.length_map]; omega), cut_map]
        have sub := cut_sub (setL ms) none (some left)
        have asc := (setL_asc ms).sublist sub
        have ran : ∀ u ∈ PI.cutD (setL ms) none (some left), 0 ≤ u ∧ u < (n : Int) := fun u hu => m2 u (mem_setL.mp (sub.subset hu))
        have len : (PI.cutD (setL ms) none (some left)).length ≤ 2 := by have := sub.length_le; omega
        generalize PI.cutD (setL ms) none (some left) = aims at asc ran len ⊢
        refine wp_lc (srcL_is _) (fun i acc S => ∃ sl : List (Int × Int), acc = (sl.map slD).map D.p ∧ sl.map (·.1) = aims.take i ∧ (∀ p ∈ sl, 1 ≤ p.2 ∧ p.2 ≤ 9) ∧ Dk (tl ++ [.lst (ws.map fun r => .p r.d)]) S) (by simp; omega) (by simp; omega) ⟨[], rfl, rfl, by simp, hD6⟩ ?_ ?_
        · rintro i d acc S7 hd ⟨sl, rfl, e2, e3, e4⟩
          obtain ⟨u, hu, rfl⟩ : ∃ u, aims[i]? = some u ∧ d = .p (.int u) := by
            rw [List.getElem?_map] at hd
            cases e : aims[i]? with
            | none => rw [e] at hd; cases hd
            | some u => rw [e] at hd; cases hd; exact ⟨u, rfl, rfl⟩
          simp [lcTurn, wipeE, b__law_drawn_game_2, mkL, allP, sizeLine]
          refine pickI_u e4 1 9 (by decide) (by simp) (by simp) fun w S8 w0 w1 hD8 => ?_
          simp [mkT, allP, sizeLine]
          refine ⟨sl ++ [(u, w)], by simp [slD], ?_, ?_, hD8⟩
          · rw [List.map_append, e2, List.take_add_one, hu]; rfl
          · intro x y hp
            rcases List.mem_append.mp hp with hp | hp
            · exact e3 _ hp
            · cases List.mem_singleton.mp hp; exact ⟨w0, w1⟩
        · rintro acc S7 _ ⟨sl, rfl, e2, e3, e4⟩
          rw [List.length_map, List.take_length] at e2
          have hl : sl.length ≤ 2 := by have := congrArg List.length e2; rw [List.length_map] at this; omega
          simp only [kLc2_e, mkL_map (sl.map slD) S7 (by rw [List.length_map]; omega), wp_some]
          simp
          refine ⟨sl, _, S7, ⟨⟨rfl, rfl⟩, rfl⟩, hl, by rw [e2]; exact asc, fun x y hp => ?_, e4⟩
          have := ran x (by rw [← e2]; exact List.mem_map.mpr ⟨_, hp, rfl⟩)
          have := e3 _ hp
          simp at this
          omega
      · simp [hz]
        exact ⟨[], _, S4, ⟨⟨rfl, rfl⟩, rfl⟩, by simp, by simp, by simp, hD4⟩
  · rintro _ ⟨sl, x11, S4, rfl, s1, s2, s3, s4, hD4⟩
    have tn := hD4.tn (n := tl.length) (get10 ..)
    simp [tn]
    refine pick_u hD4 (by simp; exact List.length_pos_iff.mpr hm) (by simp; omega) fun m S5 hm5 hD5 => ?_
    obtain ⟨m, hm6, rfl⟩ := List.mem_map.mp hm5
    have ml := setL_len (ns := ns)
    simp [bTuple_l S5 ((setL ns).map .int) (by rw [List.length_map]; omega), bTuple_l S5 (sl.map slD) (by rw [List.length_map]; omega), mkT, allP, sizeLine]
    refine hD5.append (n := tl.length) (get10 ..) (by rw [List.length_map]; omega) fun S6 hD6 => ?_
    rw [set10] at hD6
    simp
    have := hmr m hm6
    refine H ⟨b, m, setL ns, sl⟩ _ _ _ _ _ _ S6 ⟨this.1, this.2, setL_nil n0, setL_asc ns, fun u hu => n2 u (mem_setL.mp hu), (by show (setL ns).length ≤ 8; omega), s2, fun p hp => by have := s3 p hp; omega, (by show sl.length ≤ 8; omega), s4⟩ ?_
    have e : ws.map (fun r => D.p r.d) ++ [D.p (Rw.d ⟨b, m, setL ns, sl⟩)] = (ws ++ [(⟨b, m, setL ns, sl⟩ : Rw)]).map fun r => D.p r.d := by rw [List.map_append]; rfl
    rw [← e]
    exact hD6
end
end K55
set_option maxHeartbeats 1000000
namespace K55
open PySem PySem.Spec L2 PI
open PyProof.Rows hiding St
section
variable {L k : Nat} {S tl : Store}
/-- one turn of the loop that mixes -/
theorem mix_turn {o l : List Int} (hl : l ≠ []) (hll : l.length < 1000) (hol : o.length < 1000) (hD : Dk (tl ++ [.lst (iD o), .lst (iD l)]) S) (n a4 a5 a6 a7 a8 a9 : Option D) {R : Fl × EnvI × Store → Prop} {Inv : EnvI → Store → Prop}
    (H : ∀ (i : Nat) (u : Int) S', l[i]? = some u → Dk (tl ++ [.lst (iD (o ++ [u])), .lst (iD (l.eraseIdx i))]) S' → Inv [some (.ref 1), n, some (.ref (tl.length + 2)), some (.ref (tl.length + 1 + 2)), a4, a5, a6, a7, a8, a9] S') :
    WP (b__law_ladder_1 L (k + 2) [some (.ref 1), n, some (.ref (tl.length + 2)), some (.ref (tl.length + 1 + 2)), a4, a5, a6, a7, a8, a9] S) (Behind Inv R) := by
  have l0 := List.length_pos_iff.mpr hl
  have t1 := hD.tn (n := tl.length) (get20 ..)
  have t2 := hD.tn (n := tl.length + 1) (get21 ..)
  have ln := hD.bLen (n := tl.length + 1) (get21 ..)
  rw [iD_len] at ln
  unfold b__law_ladder_1
  simp [t1, t2, ln]
  refine draw_u hD (by omega) (by omega) fun i S1 i0 i1 hD1 => ?_
  simp
  obtain ⟨u, _, hu⟩ := iD_at i0 i1
  refine hD1.popAt (n := tl.length + 1) (get21 ..) i0 (by omega) (iD_get hu) fun S2 hD2 => ?_
  rw [set21] at hD2
  simp
  refine hD2.append (n := tl.length) (get20 ..) (by rw [iD_len]; omega) fun S3 hD3 => ?_
  rw [set20] at hD3
  simp
  refine H i.toNat u S3 hu ?_
  have e1 : iD o ++ [.p (.int u)] = iD (o ++ [u]) := by unfold iD; simp
  have e2 := iD_era l i.toNat
  rw [← e1, ← e2]
  exact hD3
theorem ladder_turn (hL : 1000000 ≤ L) {n : Nat} (h2 : 0 < n) (hn : n ≤ 12) {o : List Int} (hol : o.length = n) (hor : ∀ u ∈ o, 0 ≤ u ∧ u < n) {c1 : Cell} {kvs : List (Key × D)} {i : Nat} (hi : i < n) {v : Int} (hv : o[i]? = some v) (hk : kvs.length ≤ i) (hKv : Kv n kvs (o.take i)) (hD : Dk (tl ++ [.lst (iD o), c1, .dct kvs]) S) (a3 a5 a6 a7 a8 a9 : Option D)
    {R : Fl × EnvI × Store → Prop} {Inv : EnvI → Store → Prop}
    (H : ∀ (a5 a6 a7 a8 a9 : Option D) (kvs : List (Key × D)) S', kvs.length ≤ i + 1 → Kv n kvs (o.take (i + 1)) → Dk (tl ++ [.lst (iD o), c1, .dct kvs]) S' → Inv [some (.ref 1), some (.p (.int n)), some (.ref (tl.length + 2)), a3, some (.ref (tl.length + 2 + 2)), a5, a6, a7, a8, a9] S') :
    WP (fTurn (gTp 2 (gsCons (gNm 5) (gsCons (gNm 6) gsNil))) (b__law_ladder_2 L (k + 2)) (.p (.tuple [.int i, .int v])) [some (.ref 1), some (.p (.int n)), some (.ref (tl.length + 2)), a3, some (.ref (tl.length + 2 + 2)), a5, a6, a7, a8, a9] S) (Behind Inv R) := by
  have hvr := hor v (List.mem_of_getElem? hv)
  have tk : o.take (i + 1) = o.take i ++ [v] := by rw [List.take_add_one, hv]; rfl
  rw [fTurn_e]
  unfold b__law_ladder_2
  simp [-sIf_e]
  have fin : ∀ (r : Rw) (a5 a6 a7 a8 a9 : Option D) S', r.Ok n → Dk (tl ++ [.lst (iD o), c1, .dct (putD kvs (.inl v) (.p r.d))]) S' → Inv [some (.ref 1), some (.p (.int n)), some (.ref (tl.length + 2)), a3, some (.ref (tl.length + 2 + 2)), a5, a6, a7, a8, a9] S' := fun r a5 a6 a7 a8 a9 S' hr hd =>
    H a5 a6 a7 a8 a9 _ S' (by have := putD_len kvs (.inl v) (.p r.d); omega) (by rw [tk]; exact hKv.put hr v) hd
  clear H
  by_cases he : (i : Int) + 1 = n
  · simp [he, -mIf_e]
    refine WP.mono (P := fun r => ∃ (b : Bool) (S1 : Store), r = (.p (.str (ownK b)), S1) ∧ Dk (tl ++ [.lst (iD o), c1, .dct kvs]) S1) ?_ ?_
    · simp
      refine draw_u hD (by decide) (by decide) fun z S1 z0 z1 hD1 => ?_
      by_cases hz : z = 0
      · simp [hz]
        exact .inl ⟨_, ⟨rfl, rfl⟩, hD1⟩
      · simp [hz]
        exact .inr ⟨_, ⟨rfl, rfl⟩, hD1⟩
    · rintro _ ⟨b, S1, rfl, hD1⟩
      simp [mkT, allP, sizeLine]
      refine hD1.setD (n := tl.length + 2) (key := .inl v) (y := .int v) (get32 ..) (by omega) rfl fun S2 hD2 => ?_
      rw [set32] at hD2
      exact fin ⟨b, 1, [v], []⟩ _ _ _ _ _ S2 ⟨(by show (0 : Int) ≤ 1; decide), (by show (1 : Int) ≤ 1000; decide), by simp, by simp, by simp; omega, by simp, by simp, by simp, by simp, by simp⟩ hD2
  · simp [he]
    have lt : i + 1 < n := by omega
    refine draw_u hD (by omega) (by omega) fun z S1 z0 z1 hD1 => ?_
    obtain ⟨z, rfl⟩ : ∃ z' : Nat, z = z' := ⟨z.toNat, by omega⟩
    obtain ⟨x, hx⟩ : ∃ x, o[z]? = some x := ⟨o[z]'(by omega), List.getElem?_eq_getElem _⟩
    have x1 := hD1.ix (n := tl.length) (get30 ..) (iD_get hx)
    simp [x1]
    simp [mkL, allP, sizeLine]
    refine draw_u hD1 (by decide) (by decide) fun y S2 y0 y1 hD2 => ?_
    simp
    refine WP.mono (P := fun r => ∃ (ys : List Int) (S3 : Store), r = (.p (.list (ys.map .int)), S3) ∧ ys.length ≤ 1 ∧ (∀ u ∈ ys, u ∈ o) ∧ Dk (tl ++ [.lst (iD o), c1, .dct kvs]) S3) ?_ ?_
    · by_cases hy : y = 0
      · simp [hy]
        refine draw_u hD2 (by omega) (by omega) fun w S3 w0 w1 hD3 => ?_
        obtain ⟨w, rfl⟩ : ∃ w' : Nat, w = w' := ⟨w.toNat, by omega⟩
        obtain ⟨q, hq⟩ : ∃ q, o[w]? = some q := ⟨o[w]'(by omega), List.getElem?_eq_getElem _⟩
        have q1 := hD3.ix (n := tl.length) (get30 ..) (iD_get hq)
        simp [q1, mkL, allP, sizeLine]
        exact ⟨[q], _, ⟨rfl, rfl⟩, by simp, by simp; exact List.mem_of_getElem? hq, hD3⟩
      · simp [hy, mkL_nil]
        exact ⟨[], _, ⟨rfl, rfl⟩, by simp, by simp, hD2⟩
    rintro _ ⟨ys, S3, rfl, y2, y3, hD3⟩
    have cc : mkL false ([x].map (fun i => D.p (PyData.int i)) ++ (ys.map fun i => D.p (.int i))) S3 = some (.p (.list ((x :: ys).map .int)), S3) := by
      rw [← List.map_append]
      exact mkL_nums (x :: ys) S3 (by simp; omega)
    have e1 : PI.binI false .Add S3 (.p (.list [.int x])) (.p (.list (ys.map .int))) = some (.p (.list ((x :: ys).map .int)), S3) := by
      rw [cat_l, ← cc]
      simp
      rfl
    simp only [kBin2_e, e1, wp_some, kSset_e, sset_l S3 (x :: ys) (by simp; omega)]
    have m0 : ∀ u ∈ setL (x :: ys), 0 ≤ u ∧ u < (n : Int) := fun u hu => by
      refine hor u ?_
      rcases List.mem_cons.mp (mem_setL.mp hu) with rfl | hu
      · exact List.mem_of_getElem? hx
      · exact y3 u hu
    have m1 := setL_asc (x :: ys)
    have m2 : setL (x :: ys) ≠ [] := setL_nil (by simp)
    have m3 : (setL (x :: ys)).length ≤ 2 := by have := setL_len (ns := x :: ys); simp at this; omega
    generalize setL (x :: ys) = mv at m0 m1 m2 m3 ⊢
    simp
    refine draw_u hD3 (by decide) (by decide) fun w S4 w0 w1 hD4 => ?_
    simp
    refine WP.mono (P := fun r => ∃ (sl : List (Int × Int)) (S5 : Store), r = (.p (.tuple (sl.map slD)), S5) ∧ sl.length ≤ 1 ∧ (∀ p ∈ sl, 0 ≤ p.1 ∧ p.1 < n ∧ 1 ≤ p.2 ∧ p.2 ≤ 3) ∧ Dk (tl ++ [.lst (iD o), c1, .dct kvs]) S5) ?_ ?_
    · by_cases hw : 0 < w
      · obtain ⟨q, hq⟩ : ∃ q, o[i + 1]? = some q := ⟨o[i + 1]'(by omega), List.getElem?_eq_getElem _⟩
        have q1 := hD4.ix (n := tl.length) (i := i + 1) (get30 ..) (iD_get hq)
        have q2 := hor q (List.mem_of_getElem? hq)
        rw [show (((i + 1 : Nat) : Int)) = (i : Int) + 1 by omega] at q1
        simp [hw, q1, mkL, allP, sizeLine]
        refine pickI_u hD4 1 3 (by decide) (by simp) (by simp) fun p S5 p0 p1 hD5 => ?_
        simp [mkT, allP, sizeLine]
        exact ⟨[(q, p)], _, ⟨rfl, rfl⟩, by simp, by simp; omega, hD5⟩
      · simp [hw, mkT, allP, sizeLine]
        exact ⟨[], _, ⟨rfl, rfl⟩, by simp, by simp, hD4⟩
    rintro _ ⟨sl, S5, rfl, s1, s2, hD5⟩
    simp [-mIf_e]
    refine WP.mono (P := fun r => ∃ (b : Bool) (S6 : Store), r = (.p (.str (ownK b)), S6) ∧ (b = false → sl = []) ∧ Dk (tl ++ [.lst (iD o), c1, .dct kvs]) S6) ?_ ?_
    · by_cases hs : sl = []
      · subst hs
        simp [mkT, allP, sizeLine, eq_tnil]
        refine draw_u hD5 (by decide) (by decide) fun z S6 z0 z1 hD6 => ?_
        by_cases hz : z = 0
        · simp [hz]
          exact .inr ⟨_, ⟨rfl, rfl⟩, hD6⟩
        · simp [hz]
          exact .inl ⟨_, ⟨rfl, rfl⟩, hD6⟩
      · have : (sl.map slD).isEmpty = false := by cases sl with
          | nil => exact absurd rfl hs
          | cons a b => rfl
        simp [mkT, allP, sizeLine, eq_tnil, this, hs]
        exact ⟨_, ⟨rfl, rfl⟩, hD5⟩
    rintro _ ⟨b, S6, rfl, b1, hD6⟩
    simp [mkL, allP, sizeLine]
    refine pickI_u hD6 0 2 (by decide) (by simp) (by simp) fun m S7 m0' m1' hD7 => ?_
    simp [bTuple_l S7 (mv.map .int) (by rw [List.length_map]; omega), mkT, allP, sizeLine]
    refine hD7.setD (n := tl.length + 2) (key := .inl v) (y := .int v) (get32 ..) (by omega) rfl fun S8 hD8 => ?_
    rw [set32] at hD8
    exact fin ⟨b, m, mv, sl⟩ _ _ _ _ _ S8 ⟨m0', (by show m ≤ 1000; omega), m2, m1, m0, (by show mv.length ≤ 8; omega), (by
      show (sl.map (·.1)).Pairwise (· < ·)
      match sl, s1 with
      | [], _ => simp
      | [a], _ => simp), fun p hp => by have := s2 p hp; omega, (by show sl.length ≤ 8; omega), b1⟩ hD8
theorem ladder_u (hL : 1000000 ≤ L) (hD : Dk tl S) {n : Nat} (h0 : 0 < n) (hn : n ≤ 12) {Q : D × Store → Prop} (H : ∀ (rs : List Rw) tl' S', Gm rs → rs.length = n → Dk tl' S' → Q (.p (gmD rs), S')) : WP (fL (G L) T DEP (k + 3) ft__law_ladder S [.ref 1, .p (.int n)]) Q := by
  rw [e__law_ladder, bodyF_e (h := rfl)]
  generalize hM : mLrg1 true (mV 1) = MM
  simp [startD, -mLst_e]
  simp only [mLst_e, mNil_e, wp_bind, wp_some, kLst_e]
  refine hD.newL (by simp) fun S1 hD1 => ?_
  simp only [kCons1_e, mCons_e, wp_bind]
  rw [← hM]
  refine lrgM_u hD1 (n := n) (by omega) (by simp only [mV_e, List.getElem?_cons_zero, List.getElem?_cons_succ, Option.bind_some, kGet_some]) fun S2 hD2 => ?_
  rw [List.append_assoc] at hD2
  have el : (tl ++ [Cell.lst []]).length + 2 = tl.length + 1 + 2 := by simp
  rw [el]
  simp
  refine wp_while (fun m ev S => ∃ o l : List Int, m = l.length ∧ (o ++ l).Perm ((List.range n).map fun i : Nat => (i : Int)) ∧ ev = [some (.ref 1), some (.p (.int n)), some (.ref (tl.length + 2)), some (.ref (tl.length + 1 + 2)), none, none, none, none, none, none] ∧ Dk (tl ++ [.lst (iD o), .lst (iD l)]) S) ?_ L n _ S2 (by omega) ⟨[], (List.range n).map fun i : Nat => (i : Int), by simp, by simp, rfl, hD2⟩
  rintro m ev S3 ⟨o, l, rfl, hp, rfl, hD3⟩
  have hlen := hp.length_eq
  rw [List.length_append, List.length_map, List.length_range] at hlen
  have e0 := hD3.eq0 (n := tl.length + 1) (get21 ..)
  by_cases hl : l = []
  · subst hl
    have e0 : eqI S3 (D.ref (tl.length + 1 + 2)) (.p (.list [])) = some true := e0
    simp [b__law_ladder_0, mkL_nil, e0, mergeD]
    simp at hlen hp
    refine hD3.newD (by simp) fun S4 hD4 => ?_
    rw [List.append_assoc] at hD4
    have el : (tl ++ [Cell.lst (iD o), Cell.lst (iD [])]).length + 2 = tl.length + 2 + 2 := by simp
    rw [el]
    have en := enum_e hD4 (n := tl.length) (xs := iD o) (get30 ..)
    simp [en]
    refine wp_for0 (xs := pairsI (o.map .int)) (fun i ev S => ∃ (a5 a6 a7 a8 a9 : Option D) (kvs : List (Key × D)), ev = [some (.ref 1), some (.p (.int n)), some (.ref (tl.length + 2)), some (.ref (tl.length + 1 + 2)), some (.ref (tl.length + 2 + 2)), a5, a6, a7, a8, a9] ∧ kvs.length ≤ i ∧ Kv n kvs (o.take i) ∧ Dk (tl ++ [.lst (iD o), .lst (iD []), .dct kvs]) S) ?_ ?_ ?_ L 0 _ S4 (by unfold pairsI; rw [List.length_mapIdx, List.length_map]; omega) (Nat.zero_le _) ⟨_, _, _, _, _, [], rfl, by simp, fun v hv => by simp at hv, hD4⟩
    · rintro i ev S5 hi ⟨a5, a6, a7, a8, a9, kvs, rfl, k1, k2, hD5⟩
      exact enum_box hD5 (n := tl.length) (xs := o.map .int) (get30 ..) i
    · rintro i d ev S5 hd ⟨a5, a6, a7, a8, a9, kvs, rfl, k1, k2, hD5⟩
      unfold pairsI at hd
      rw [List.getElem?_mapIdx, List.getElem?_map] at hd
      obtain ⟨v, hv, rfl⟩ : ∃ v, o[i]? = some v ∧ d = .p (.tuple [.int i, .int v]) := by
        cases e : o[i]? with
        | none => rw [e] at hd; cases hd
        | some v => rw [e] at hd; cases hd; exact ⟨v, rfl, rfl⟩
      have hi : i < n := by have := (List.getElem?_eq_some_iff.mp hv).1; omega
      refine ladder_turn (k := k) hL h0 hn hlen (fun u hu => range_mem.mp (hp.mem_iff.mp hu)) hi hv k1 k2 hD5 _ a5 a6 a7 a8 a9 ?_
      intro a5 a6 a7 a8 a9 kvs S6 k1 k2 hD6
      exact ⟨a5, a6, a7, a8, a9, kvs, rfl, k1, k2, hD6⟩
    · rintro ev S5 ⟨a5, a6, a7, a8, a9, kvs, rfl, k1, k2, hD5⟩
      have hpl : (pairsI (o.map PyData.int)).length = n := by unfold pairsI; rw [List.length_mapIdx, List.length_map]; exact hlen
      rw [hpl, ← hlen, List.take_length] at k2
      simp [kR1_n S5 n (by omega), -kR1_e, wipeE]
      refine wp_lcN (fun i acc S => ∃ rs : List Rw, S = S5 ∧ acc = (rs.map Rw.d).map D.p ∧ rs.length = i ∧ ∀ r ∈ rs, r.Ok n) (by omega) (by omega) ⟨[], rfl, rfl, rfl, by simp⟩ ?_ ?_
      · rintro i acc S6 hi ⟨rs, rfl, rfl, e2, e3⟩
        obtain ⟨r, hr, hv⟩ := k2 (i : Int) (hp.mem_iff.mpr (range_mem.mpr (by omega)))
        rw [hlen] at hr
        have ix := hD5.ixD (n := tl.length + 2) (y := .int (0 + (i : Int))) (key := .inl (i : Int)) (get32 ..) (by rw [Int.zero_add]; rfl) hv
        simp [lcTurn, b__law_ladder_3] at ix ⊢
        simp [ix]
        refine ⟨rs ++ [r], by simp, by simp [e2], fun q hq => ?_⟩
        rcases List.mem_append.mp hq with hq | hq
        · exact e3 q hq
        · rw [List.mem_singleton.mp hq]; exact hr
      · rintro acc S6 _ ⟨rs, rfl, rfl, e2, e3⟩
        simp only [kLc2_e, mkL_map (rs.map Rw.d) S6 (by rw [List.length_map]; omega), wp_some]
        simp [bTuple_l S6 (rs.map Rw.d) (by rw [List.length_map]; omega)]
        exact H rs _ S6 ⟨fun e => by rw [e] at e2; simp at e2; omega, by omega, by rw [e2]; exact e3⟩ e2 hD5
  · have e0 : eqI S3 (D.ref (tl.length + 1 + 2)) (.p (.list [])) = some false := by
      rw [e0]
      cases l with
      | nil => exact absurd rfl hl
      | cons a b => rfl
    simp [b__law_ladder_0, mkL_nil, e0]
    have l0 := List.length_pos_iff.mpr hl
    refine mix_turn (k := k) hl (by omega) (by omega) hD3 _ _ _ _ _ _ _ fun i u S4 hu hD4 => ?_
    have hi := (List.getElem?_eq_some_iff.mp hu).1
    have hp2 : (u :: l.eraseIdx i).Perm l := by
      have e : l = l.take i ++ u :: l.drop (i + 1) := by
        rw [← (List.getElem?_eq_some_iff.mp hu).2, List.getElem_cons_drop, List.take_append_drop]
      rw [List.eraseIdx_eq_take_drop_succ]
      conv => rhs; rw [e]
      exact List.perm_middle.symm
    refine ⟨(l.eraseIdx i).length, by rw [List.length_eraseIdx_of_lt hi]; omega, o ++ [u], l.eraseIdx i, rfl, ?_, rfl, hD4⟩
    refine List.Perm.trans ?_ hp
    rw [List.append_assoc]
    exact hp2.append_left o
end
end K55
set_option maxHeartbeats 1000000
namespace K55
open PySem PySem.Spec L2 PI
open PyProof.Rows hiding St
section
variable {L k : Nat} {S tl : Store}
theorem pickT_u (hD : Dk tl S) {ns : List Int} (hl : ns ≠ []) (hz : ns.length < 1000) {Q : D × Store → Prop} (H : ∀ u S', u ∈ ns → Dk tl S' → Q (.p (.int u), S')) : WP (fL (G L) T DEP (k + 2) ft__law_pick S [.ref 1, .p (.tuple (ns.map .int))]) Q := by
  rw [e__law_pick, bodyF_e (h := rfl)]
  have l0 := List.length_pos_iff.mpr hl
  simp [startD]
  refine draw_u hD (by omega) (by omega) fun i S1 i0 i1 hD1 => ?_
  obtain ⟨i, rfl⟩ : ∃ i' : Nat, i = i' := ⟨i.toNat, by omega⟩
  have hi : i < ns.length := by omega
  have e : (ns.map PyData.int)[i]? = some (.int ns[i]) := by rw [List.getElem?_map, List.getElem?_eq_getElem hi]; rfl
  simp [ix_tup (S := S1) e]
  exact H _ S1 (List.getElem_mem hi) hD1
theorem game_u (hL : 1000000 ≤ L) (hD : Dk tl S) {most : Nat} (hm0 : 0 < most) (hm7 : most ≤ 12) {marks : List Int} (hm : marks ≠ []) (hml : marks.length < 1000) (hmr : ∀ m ∈ marks, 0 ≤ m ∧ m ≤ 1000) {Q : D × Store → Prop} (H : ∀ (rs : List Rw) tl' S', Gm rs → rs.length ≤ most → Dk tl' S' → Q (.p (gmD rs), S')) : WP (fL (G L) T DEP (k + 4) ft__law_drawn_game S [.ref 1, .p (.int most), .p (.list (marks.map .int))]) Q := by
  rw [e__law_drawn_game, bodyF_e (h := rfl)]
  simp [startD, mkL, allP, sizeLine]
  refine pickI_u hD 1 7 (by decide) (by simp) (by simp) fun j S1 j0 j1 hD1 => ?_
  simp [-sIf_e]
  obtain ⟨n, hn, n0, n1⟩ : ∃ n : Nat, (if j < (most : Int) then j else (most : Int)) = n ∧ 0 < n ∧ n ≤ most := by
    by_cases h : j < (most : Int)
    · exact ⟨j.toNat, by rw [if_pos h]; omega, by omega, by omega⟩
    · exact ⟨most, by rw [if_neg h], by omega, by omega⟩
  rw [hn]
  refine WP.mono (P := fun q => (∃ rs tl' S2 ev, q = (Fl.rt (.p (gmD rs)), ev, S2) ∧ Gm rs ∧ rs.length ≤ most ∧ Dk tl' S2) ∨ ∃ S2, q = (Fl.nx, [some (.ref 1), some (.p (.int most)), some (.p (.list (marks.map .int))), some (.p (.int n)), none, none, none, none, none, none, none, none, none], S2) ∧ Dk tl S2) ?_ ?_
  · simp
    refine draw_u hD1 (by decide) (by decide) fun z S2 z0 z1 hD2 => ?_
    by_cases hz : z = 0
    · by_cases h1 : (1 : Int) < (n : Int)
      · simp [hz, h1]
        refine ladder_u (k := k) hL hD2 n0 (by omega) fun rs tl' S3 hg hl hD3 => ?_
        simp
        exact ⟨rs, tl', S3, ⟨rfl, rfl⟩, hg, by omega, hD3⟩
      · simp [hz, h1]
        exact hD2
    · simp [hz]
      exact hD2
  rintro _ (⟨rs, tl', S2, ev, rfl, hg, hl, hD2⟩ | ⟨S2, rfl, hD2⟩)
  · simp
    exact H rs tl' S2 hg hl hD2
  simp [-mLst_e]
  simp only [mLst_e, mNil_e, wp_bind, wp_some, kLst_e]
  refine hD2.newL (by simp) fun S3 hD3 => ?_
  simp [kR1_n S3 n (by omega), -kR1_e]
  refine wp_forN (fun i ev S => ∃ (ws : List Rw) (left : Int) (a6 a7 a9 a10 a11 : Option D), ws.length = i ∧ (∀ r ∈ ws, r.Ok n) ∧ ev = [some (.ref 1), some (.p (.int most)), some (.p (.list (marks.map .int))), some (.p (.int n)), some (.ref (tl.length + 2)), some (.p (.int left)), a6, a7, none, a9, a10, a11, none] ∧ Dk (tl ++ [.lst (ws.map fun r => .p r.d)]) S) (by omega) ⟨[], 6, none, none, none, none, none, rfl, by simp, rfl, hD3⟩ ?_ ?_
  · rintro i ev S4 hi ⟨ws, left, a6, a7, a9, a10, a11, e1, e2, rfl, hD4⟩
    refine game_turn (k := k + 1) hL n0 (by omega) hm hml hmr e2 (by omega) hD4 _ none left a6 a7 none a9 a10 a11 none ?_
    intro r left a6 a7 a9 a10 a11 S5 hr hD5
    exact ⟨ws ++ [r], left, a6, a7, a9, a10, a11, by simp [e1], fun q hq => by
      rcases List.mem_append.mp hq with hq | hq
      · exact e2 q hq
      · rw [List.mem_singleton.mp hq]; exact hr, rfl, hD5⟩
  · rintro ev S4 ⟨ws, left, a6, a7, a9, a10, a11, e1, e2, rfl, hD4⟩
    have e3 : (ws.map fun r => D.p r.d) = (ws.map Rw.d).map D.p := by rw [List.map_map]; rfl
    rw [e3] at hD4
    have tp := hD4.tuple (n := tl.length) (get10 ..) (by rw [List.length_map]; omega)
    simp [tp]
    exact H ws _ S4 ⟨fun e => by rw [e] at e1; simp at e1; omega, by omega, by rw [e1]; exact e2⟩ (by omega) hD4
/-- a plan of a game -/
theorem plan_u (hL : 1000000 ≤ L) (hD : Dk tl S) {rs : List Rw} (hg : Gm rs) {Q : D × Store → Prop} (H : ∀ (xs : List PyData) S', xs.length = rs.length → (∀ x ∈ xs, x = .none ∨ ∃ i : Int, x = .int i ∧ 0 ≤ i ∧ i < rs.length) → Dk tl S' → Q (.p (.tuple xs), S')) : WP (fL (G L) T DEP (k + 3) ft__law_drawn_plan S [.ref 1, .p (gmD rs)]) Q := by
  rw [e__law_drawn_plan, bodyF_e (h := rfl)]
  have sr : ∀ S, srcOf S (.p (gmD rs)) = some (srcL ((rs.map Rw.d).map .p)) := fun S => rfl
  simp [startD, sr, wipeE]
  have l1 := hg.l1
  have wl := wp_lc (L := L) (g := gNm 2) (c := mYes) (elt := b__law_drawn_plan_0 L (k + 2)) (ev := [some (.ref 1), some (.p (gmD rs)), none]) (S := S) (srcL_is ((rs.map Rw.d).map .p)) (Q := fun r => ∃ (xs : List PyData), r.1 = xs.map D.p ∧ xs.length = rs.length ∧ (∀ x ∈ xs, x = .none ∨ ∃ i : Int, x = .int i ∧ 0 ≤ i ∧ i < rs.length) ∧ Dk tl r.2) (fun i acc S => ∃ xs : List PyData, acc = xs.map D.p ∧ xs.length = i ∧ (∀ x ∈ xs, x = .none ∨ ∃ i : Int, x = .int i ∧ 0 ≤ i ∧ i < rs.length) ∧ Dk tl S) (by simp; omega) (by simp; omega) ⟨[], rfl, rfl, by simp, hD⟩ ?_ ?_
  · simp at wl
    refine wl.mono ?_
    rintro ⟨acc, S1⟩ ⟨xs, e1, e2, e3, hD1⟩
    have e1 : acc = xs.map D.p := e1
    subst e1
    simp only [kLc2_e, mkL_map xs S1 (by omega), wp_some, kCons1_e, mNil_e, kCons2_e, Option.bind_some, wp_bind, kBlt_e, bTuple_l S1 xs (by omega), kRet_e, kSeq_rt, kBody_rt]
    exact H xs S1 e2 e3 hD1
  · rintro i d acc S1 hd ⟨xs, rfl, e2, e3, hD1⟩
    obtain ⟨r, hr, rfl⟩ : ∃ r, rs[i]? = some r ∧ d = .p r.d := by
      rw [List.getElem?_map, List.getElem?_map] at hd
      cases e : rs[i]? with
      | none => rw [e] at hd; cases hd
      | some r => rw [e] at hd; cases hd; exact ⟨r, rfl, rfl⟩
    have ok := hg.ok r (List.mem_of_getElem? hr)
    have i0 : ∀ S, ixI S (.p r.d) (.p (.int 0)) = some (.p (.str (ownK r.k))) := fun S => rfl
    have i2 : ∀ S, ixI S (.p r.d) (.p (.int 2)) = some (.p (.tuple (r.mv.map .int))) := fun S => rfl
    generalize r.d = Z at i0 i2 ⊢
    by_cases hk : r.k = true
    · simp [lcTurn, b__law_drawn_plan_0, i0, own_key, hk, i2]
      refine pickT_u hD1 ok.mv0 (by have := ok.mvL; omega) fun u S2 hu hD2 => ?_
      simp
      have := ok.mvR u hu
      refine ⟨xs ++ [.int u], by simp, by simp [e2], fun x hx => ?_, hD2⟩
      rcases List.mem_append.mp hx with hx | hx
      · exact e3 x hx
      · exact .inr ⟨u, List.mem_singleton.mp hx, this.1, this.2⟩
    · simp [lcTurn, b__law_drawn_plan_0, i0, own_key, hk]
      refine ⟨xs ++ [.none], by simp, by simp [e2], fun x hx => ?_, hD1⟩
      rcases List.mem_append.mp hx with hx | hx
      · exact e3 x hx
      · exact .inl (List.mem_singleton.mp hx)
  · rintro acc S1 _ ⟨xs, rfl, e2, e3, hD1⟩
    rw [List.length_map, List.length_map] at e2
    exact ⟨xs, rfl, e2, e3, hD1⟩
end
end K55
set_option maxHeartbeats 1000000
namespace K55
open PySem PySem.Spec L2 PI
open PyProof.Rows hiding St
section
variable {L k : Nat} {S tl : Store}
theorem gd_kd {xs : List PyData} {w d : Nat} (h : Ga w d xs) (n : Nat) (hn : n < 1000) : Gd (w + 3890) (d + 2) (.dict [(.str "key", .list xs), (.int 1, .int n)]) := by
  have h1 := h.l
  refine ⟨?_, ?_, ?_⟩
  · show (okS (.str "key") && okS (.list xs) && (okS (.int 1) && okS (.int n) && true)) = true
    exact bAnd (bAnd (strOk_of "key") h1.ok) (bAnd (bAnd (okS_small (by decide)) (okS_small (by omega))) rfl)
  · have e : (("key" : Str)).length = 3 := rfl
    have h2 := h1.w
    show (10 * (("key" : Str)).length + 2) + wt (.list xs) + 4 + (1922 + 1922 + 4 + 0) + 3 ≤ _
    omega
  · have h2 := h1.dp
    show max (max 0 (PyData.list xs).depth) (max (max 0 0) 0) + 1 ≤ d + 2
    omega
theorem instead_ok (xs : List PyData) (n : Nat) (y : PyData) (hl : xs.length ≤ 1000000) : fL (G L) T DEP (k + 1) ft__law_instead S [.p (.tuple xs), .p (.int n), .p y] = some (.p (.tuple (xs.take n ++ [y] ++ xs.drop (n + 1))), S) := by
  rw [e__law_instead, bodyF_e (h := rfl)]
  have c1 : PI.cutD xs (some ((n : Int) + 1)) none = xs.drop (n + 1) := cut_from xs (n + 1)
  have t1 : mkT (xs.take n ++ [y]) S = some (.p (.tuple (xs.take n ++ [y])), S) := mkT_e _ _ (by rw [List.length_append, List.length_take, List.length_singleton]; omega)
  have t2 : mkT (xs.take n ++ [y] ++ xs.drop (n + 1)) S = some (.p (.tuple (xs.take n ++ [y] ++ xs.drop (n + 1))), S) := mkT_e _ _ (by rw [List.length_append, List.length_append, List.length_take, List.length_drop, List.length_singleton]; omega)
  have t0 : mkT [y] S = some (.p (.tuple [y]), S) := mkT_e _ _ (by simp)
  generalize hA : xs.take n ++ [y] ++ xs.drop (n + 1) = A at t2 ⊢
  have b2 : PI.binI false .Add S (.p (.tuple (xs.take n ++ [y]))) (.p (.tuple (xs.drop (n + 1)))) = some (.p (.tuple A), S) := by rw [cat_t, hA]; exact t2
  have b1 : PI.binI false .Add S (.p (.tuple (xs.take n))) (.p (.tuple [y])) = some (.p (.tuple (xs.take n ++ [y])), S) := by rw [cat_t]; exact t1
  have s1 : slI false S (.p (.tuple xs)) none (some (n : Int)) = some (.p (.tuple (xs.take n)), S) := by rw [slI_t, cut_to]
  have s2 : slI false S (.p (.tuple xs)) (some ((n : Int) + 1)) none = some (.p (.tuple (xs.drop (n + 1))), S) := by rw [slI_t, c1]
  generalize xs.take n ++ [y] = B at b1 b2
  simp [startD, s1, s2, t0, b1, b2, allP, -cat_t]
theorem gdW (d : Nat) : 15600 ≤ 15600 * 4 ^ d := by
  have : 0 < 4 ^ d := Nat.pow_pos (by decide)
  omega
theorem any_u (hL : 1000000 ≤ L) : ∀ (d k : Nat) (S : Store) {Q : D × Store → Prop}, d < 20 → Dk tl S → (∀ x S', Gd (15600 * 4 ^ d) (2 * d + 2) x → Dk tl S' → Q (.p x, S')) → WP (fL (G L) T DEP (k + 3 + d) ft__law_any S [.ref 1, .p (.int d)]) Q
  | d, k, S, Q, hd20, hD, H => by
    have w0 := gdW d
    have lf : ∀ {x : PyData}, Gd 4000 1 x → Gd (15600 * 4 ^ d) (2 * d + 2) x := fun h => h.le (by omega) (by omega)
    have lev : ∀ f, fL (G L) T DEP (k + 3 + d) f = fL (G L) T DEP (k + 2 + d + 1) f := fun f => by rw [show k + 3 + d = k + 2 + d + 1 by omega]
    rw [lev, e__law_any, bodyF_e (h := rfl)]
    have p29 : PI.intOp .Pow 10 29 = some 100000000000000000000000000000 := by decide +kernel
    have dr : ∀ {S : Store} {many : Int}, Dk tl S → 0 < many → many < 1073741824 → ∀ {Q : D × Store → Prop}, (∀ (i : Int) S', 0 ≤ i → i < many → Dk tl S' → Q (.p (.int i), S')) → WP (fL (G L) T DEP (k + 2 + d) ft__law_draw S [.ref 1, .p (.int many)]) Q := fun hD h0 h1 Q H => by
      rw [show k + 2 + d = (k + d + 1) + 1 by omega]
      exact draw_u hD h0 h1 H
    have pk : ∀ {S : Store} {l : List PyData}, Dk tl S → 0 < l.length → l.length < 1073741824 → ∀ {Q : D × Store → Prop}, (∀ x S', x ∈ l → Dk tl S' → Q (.p x, S')) → WP (fL (G L) T DEP (k + 2 + d) ft__law_pick S [.ref 1, .p (.list l)]) Q := fun hD h0 h1 Q H => by
      rw [show k + 2 + d = (k + d) + 2 by omega]
      exact pick_u hD h0 h1 H
    simp [startD, mkL, allP, sizeLine]
    refine dr hD (by decide) (by decide) fun way S1 w1 w2 hD1 => ?_
    by_cases h1 : way < 2
    · simp [h1, mkL, allP, sizeLine, p29]
      refine pk hD1 (by simp) (by simp) fun x S2 hx hD2 => ?_
      simp
      refine H x S2 (lf ?_) hD2
      simp at hx
      rcases hx with rfl | rfl | rfl | rfl | rfl | rfl | rfl | rfl <;> exact (gd_int (Nat.lt_trans (show _ < 2 ^ 120 by decide) (by decide))).le (by decide) (by decide)
    by_cases h2 : way < 4
    · simp [h1, h2, mkL, allP, sizeLine]
      refine pk hD1 (by simp) (by simp) fun x S2 hx hD2 => ?_
      simp
      refine H x S2 (lf ?_) hD2
      simp at hx
      rcases hx with rfl | rfl | rfl | rfl | rfl | rfl <;> exact (gd_str (strOk_of _) 20 (by decide +kernel)).le (by decide) (by decide)
    by_cases h3 : way = 4
    · subst h3
      simp [mkL, allP, sizeLine]
      refine pk hD1 (by simp) (by simp) fun x S2 hx hD2 => ?_
      simp
      refine H x S2 (lf ?_) hD2
      simp at hx
      rcases hx with rfl | rfl | rfl
      · exact (gd_bool _).le (by decide) (by decide)
      · exact (gd_bool _).le (by decide) (by decide)
      · exact gd_non.le (by decide) (by decide)
    simp [h1, h2, h3, -mIf_e]
    refine WP.mono (P := fun r => ∃ xs S2, r = (.p (.list xs), S2) ∧ xs.length ≤ 3 ∧ Ga (3 * (15600 * 4 ^ d) / 4 + 6) (2 * d) xs ∧ Dk tl S2) ?_ ?_
    · by_cases h4 : 0 < d
      · obtain ⟨e, rfl⟩ : ∃ e, d = e + 1 := ⟨d - 1, by omega⟩
        simp
        refine dr hD1 (by decide) (by decide) fun c S2 c0 c1 hD2 => ?_
        obtain ⟨c, rfl⟩ : ∃ c' : Nat, c = c' := ⟨c.toNat, by omega⟩
        simp [kR1_n S2 c (by omega), -kR1_e, wipeE]
        refine wp_lcN (fun i acc S => ∃ xs : List PyData, acc = xs.map D.p ∧ xs.length = i ∧ (∀ x ∈ xs, Gd (15600 * 4 ^ e) (2 * e + 2) x) ∧ Dk tl S) (by omega) (by omega) ⟨[], rfl, rfl, by simp, hD2⟩ ?_ ?_
        · rintro i acc S3 hi ⟨xs, rfl, e2, e3, hD3⟩
          simp [lcTurn, b__law_any_0]
          rw [show k + 2 + (e + 1) = k + 3 + e by omega]
          refine any_u hL e k S3 (by omega) hD3 fun x S4 hx hD4 => ?_
          simp
          refine ⟨xs ++ [x], by simp, by simp [e2], fun y hy => ?_, hD4⟩
          rcases List.mem_append.mp hy with hy | hy
          · exact e3 y hy
          · rw [List.mem_singleton.mp hy]; exact hx
        · rintro acc S3 _ ⟨xs, rfl, e2, e3, hD3⟩
          simp only [kLc2_e, mkL_map xs S3 (by omega), wp_some]
          refine ⟨xs, S3, rfl, by omega, (ga_mem e3).le ?_ (by omega), hD3⟩
          have : xs.length ≤ 3 := by omega
          rw [Nat.pow_succ]
          generalize 4 ^ e = P
          have h1 : (15600 * P + 2) * xs.length ≤ (15600 * P + 2) * 3 := Nat.mul_le_mul_left _ this
          omega
      · simp [h4, mkL_nil]
        have : ¬ (0 : Int) < (d : Int) := by omega
        exact ⟨[], _, ⟨rfl, rfl⟩, by simp, ga_nil.le (by omega) (by omega), hD1⟩
    rintro _ ⟨xs, S2, rfl, l3, ga, hD2⟩
    by_cases h5 : way = 5
    · simp [h5]
      refine H _ S2 (ga.l.le ?_ (by omega)) hD2
      omega
    by_cases h6 : way = 6
    · have kl : ((2 : Nat) ≤ sizeLine) = True := eq_true (by decide)
      simp [h6, mkD, mergeD, putD, allKV, kl]
      refine H _ S2 ((gd_kd ga xs.length (by omega)).le ?_ (by omega)) hD2
      omega
    · simp [h5, h6, bTuple_l S2 xs (by omega)]
      refine H _ S2 (ga.t.le ?_ (by omega)) hD2
      omega
end
end K55
set_option maxHeartbeats 1000000
namespace K55
open PySem PySem.Spec L2 PI
open PyProof.Rows hiding St
section
variable {L k : Nat} {S tl : Store}
structure Cl (n : Nat) (cs : List PyData) : Prop where
  l0 : cs ≠ []
  l1 : cs.length ≤ 3
  ok : ∀ c ∈ cs, ∃ ps ns, c = .tuple [.tuple ps, .tuple ns] ∧ ps.length = n ∧ ns.length = n ∧ ∀ x ∈ ps ++ ns, Atm x
theorem ctl_cond (hL : 1000000 ≤ L) {rs : List Rw} (hg : Gm rs) {many : Int} (h0 : 0 < many) (h1 : many ≤ 4) (a c d e : Option D) : ∃ b, b__law_drawn_controller_1 L k [a, some (.p (gmD rs)), c, some (.p (.int many)), none, d, e] S = some (.p (.bool b), S) ∧ (b = true → 1 < many) := by
  have l1 := hg.l1
  have sr : ∀ S, srcOf S (.p (gmD rs)) = some (srcL ((rs.map Rw.d).map .p)) := fun S => rfl
  have ln : bLen S [.p (gmD rs)] = some (.p (.int rs.length), S) := by unfold gmD; rw [len_t, List.length_map]
  have lc := lc_val (L := L) (mi := mIter (mV 1)) (own := [4]) (g := gNm 4) (c := mYes) (elt := b__law_drawn_controller_0 L k) (ev := [a, some (.p (gmD rs)), c, some (.p (.int many)), none, d, e]) (S := S) (f := srcL ((rs.map Rw.d).map .p)) (xs := (rs.map Rw.d).map .p) (by simp [sr]) (srcL_is _) (fun _ => true) (fun d => match d with
    | .p (.tuple [_, _, _, .tuple sl]) => .int sl.length
    | _ => .none) (by simp; omega) (by simp; omega) (fun d hd => by
      obtain ⟨y, hy, rfl⟩ := List.mem_map.mp hd
      obtain ⟨r, hr, rfl⟩ := List.mem_map.mp hy
      have i3 : ixI S (.p r.d) (.p (.int 3)) = some (.p (.tuple (r.sl.map slD))) := rfl
      have ln : bLen S [.p (.tuple (r.sl.map slD))] = some (.p (.int (r.sl.map slD).length), S) := len_t S _
      show _ = some (some (D.p (.int (r.sl.map slD).length)), S)
      generalize (D.p (.tuple (r.sl.map slD))) = Y at i3 ln
      generalize r.d = Z at i3 ⊢
      generalize (r.sl.map slD).length = N at ln ⊢
      simp [lcTurn, wipeE, b__law_drawn_controller_0, i3, ln])
  have e1 : (((rs.map Rw.d).map D.p).filter fun _ => true).map (fun d => match d with
    | .p (.tuple [_, _, _, .tuple sl]) => PyData.int sl.length
    | _ => .none) = (rs.map fun r => (r.sl.length : Int)).map PyData.int := by
    rw [List.filter_eq_self.mpr (fun _ _ => rfl), List.map_map, List.map_map, List.map_map]
    refine List.map_congr_left fun r _ => ?_
    show PyData.int (r.sl.map slD).length = _
    rw [List.length_map]; rfl
  rw [e1] at lc
  have sm : bSum S [.p (.list ((rs.map fun r => (r.sl.length : Int)).map PyData.int))] = some (.p (.int (rs.map fun r => (r.sl.length : Int)).sum), S) := by
    show (numsOf S _).map _ = _
    rw [numsOf_l]; rfl
  generalize (rs.map fun r => (r.sl.length : Int)).sum = s at sm
  generalize (D.p (.list ((rs.map fun r => (r.sl.length : Int)).map PyData.int))) = Y at sm lc
  generalize (D.p (gmD rs)) = X at lc ln ⊢
  unfold b__law_drawn_controller_1
  have m1 : ((-18446744073709551616 < many ∧ many < 18446744073709551616) ∨ (-18446744073709551616 < (rs.length : Int) ∧ (rs.length : Int) < 18446744073709551616)) = True := eq_true (by omega)
  have m2 : ((-18446744073709551616 < many ∧ many < 18446744073709551616) ∨ (-18446744073709551616 < s ∧ s < 18446744073709551616)) = True := eq_true (by omega)
  generalize mLc L false (mIter (mV 1)) [4] (gNm 4) mYes (b__law_drawn_controller_0 L k) = MM at lc ⊢
  by_cases h2 : 1 < many
  · by_cases h3 : 12 < many * (rs.length : Int)
    · refine ⟨true, ?_, fun _ => h2⟩
      simp [h2, ln, m1, h3]
    · refine ⟨decide (12 < many * s), ?_, fun _ => h2⟩
      simp [h2, ln, m1, h3, lc, sm, m2]
  · refine ⟨false, ?_, fun h => by cases h⟩
    simp [h2]
theorem ctl_u (hL : 1000000 ≤ L) (hD : Dk tl S) {rs : List Rw} (hg : Gm rs) {Q : D × Store → Prop} (H : ∀ (cs : List PyData) S', Cl rs.length cs → Dk tl S' → Q (.p (.tuple cs), S')) : WP (fL (G L) T DEP (k + 4) ft__law_drawn_controller S [.ref 1, .p (gmD rs), .p (.int 3)]) Q := by
  rw [e__law_drawn_controller, bodyF_e (h := rfl)]
  have l1 := hg.l1
  have sr : ∀ S, srcOf S (.p (gmD rs)) = some (srcL ((rs.map Rw.d).map .p)) := fun S => rfl
  simp [startD]
  refine draw_u hD (by decide) (by decide) fun j S1 j0 j1 hD1 => ?_
  simp
  refine wp_while (fun m ev S => ∃ many : Int, m = many.toNat ∧ 0 < many ∧ many ≤ 3 ∧ ev = [some (.ref 1), some (.p (gmD rs)), some (.p (.int 3)), some (.p (.int many)), none, none, none] ∧ Dk tl S) ?_ L (1 + j).toNat _ S1 (by omega) ⟨1 + j, rfl, by omega, by omega, rfl, hD1⟩
  rintro m ev S2 ⟨many, rfl, m0, m1, rfl, hD2⟩
  obtain ⟨b, c1, c2⟩ := ctl_cond (k := k + 3) (S := S2) hL hg m0 (by omega) (some (.ref 1)) (some (.p (.int 3))) none none
  rw [c1, wp_some]
  refine ⟨b, rfl, ?_⟩
  cases b with
  | true =>
    have := c2 rfl
    rw [if_pos rfl]
    simp only [b__law_drawn_controller_2, sSeq_e, sAsg_e, mBin_e, mV_e, mC_e, List.getElem?_cons_succ, List.getElem?_cons_zero, Option.bind_some, kGet_some, kBin1_e, kBin2_e, binI_int, intOp_sub, kInt_e, kAsg_e, gNm_e, kEnd_e, kSeq_nx, sNil_e, wp_some, behind_nx, List.set_cons_succ, List.set_cons_zero]
    refine ⟨(many - 1).toNat, by omega, many - 1, rfl, by omega, by omega, rfl, hD2⟩
  | false =>
    rw [if_neg (by decide)]
    obtain ⟨n, rfl⟩ : ∃ n : Nat, many = n := ⟨many.toNat, by omega⟩
    simp [kR1_n S2 n (by omega), -kR1_e, wipeE]
    refine wp_lcN (fun i acc S => ∃ cs : List PyData, acc = cs.map D.p ∧ cs.length = i ∧ (∀ c ∈ cs, ∃ ps ns, c = .tuple [.tuple ps, .tuple ns] ∧ ps.length = rs.length ∧ ns.length = rs.length ∧ ∀ x ∈ ps ++ ns, Atm x) ∧ Dk tl S) (by omega) (by omega) ⟨[], rfl, rfl, by simp, hD2⟩ ?_ ?_
    · rintro i acc S3 hi ⟨cs, rfl, e2, e3, hD3⟩
      simp [lcTurn, b__law_drawn_controller_4]
      refine plan_u (k := k) hL hD3 hg fun ps S4 p1 p2 hD4 => ?_
      simp [sr, wipeE]
      have wl := wp_lc (L := L) (g := gNm 6) (c := mYes) (elt := b__law_drawn_controller_3 L (k + 3)) (ev := [some (.ref 1), some (.p (gmD rs)), some (.p (.int 3)), some (.p (.int n)), none, some (.p (.int i)), none]) (S := S4) (srcL_is ((rs.map Rw.d).map .p)) (Q := fun r => ∃ ns : List Int, r.1 = (ns.map .int).map D.p ∧ ns.length = rs.length ∧ (∀ u ∈ ns, 0 ≤ u ∧ u < n) ∧ Dk tl r.2) (fun i acc S => ∃ ns : List Int, acc = (ns.map .int).map D.p ∧ ns.length = i ∧ (∀ u ∈ ns, 0 ≤ u ∧ u < n) ∧ Dk tl S) (by simp; omega) (by simp; omega) ⟨[], rfl, rfl, by simp, hD4⟩ ?_ ?_
      · simp at wl
        refine wl.mono ?_
        rintro ⟨acc, S5⟩ ⟨ns, q1, q2, q3, hD5⟩
        have q1 : acc = (ns.map PyData.int).map D.p := by rw [show acc = _ from q1]; simp
        subst q1
        simp only [kLc2_e, mkL_map (ns.map PyData.int) S5 (by rw [List.length_map]; omega), wp_some, kCons1_e, mNil_e, kCons2_e, kBlt_e, bTuple_l S5 (ns.map .int) (by rw [List.length_map]; omega), Option.bind_some, wp_bind]
        simp [mkT, allP, sizeLine]
        refine ⟨cs ++ [.tuple [.tuple ps, .tuple (ns.map .int)]], by simp, by simp [e2], ?_, hD5⟩
        simp only [← List.mem_append]
        intro c hc
        rcases List.mem_append.mp hc with hc | hc
        · exact e3 c hc
        · refine ⟨ps, ns.map .int, List.mem_singleton.mp hc, p1, by rw [List.length_map]; exact q2, fun x hx => ?_⟩
          rcases List.mem_append.mp hx with hx | hx
          · rcases p2 x hx with h | ⟨u, h, h2, h3⟩
            · exact .inl h
            · exact .inr ⟨u, h, by omega⟩
          · obtain ⟨u, hu, rfl⟩ := List.mem_map.mp hx
            have := q3 u hu
            exact .inr ⟨u, rfl, by omega⟩
      · rintro i' d acc S5 hd ⟨ns, rfl, q2, q3, hD5⟩
        simp [lcTurn, b__law_drawn_controller_3]
        refine draw_u hD5 (by omega) (by omega) fun u S6 u0 u1 hD6 => ?_
        simp
        refine ⟨ns ++ [u], by simp, by simp [q2], fun v hv => ?_, hD6⟩
        rcases List.mem_append.mp hv with hv | hv
        · exact q3 v hv
        · rw [List.mem_singleton.mp hv]; exact ⟨u0, u1⟩
      · rintro acc S5 _ ⟨ns, rfl, q2, q3, hD5⟩
        rw [List.length_map, List.length_map] at q2
        exact ⟨ns, rfl, q2, q3, hD5⟩
    · rintro acc S3 _ ⟨cs, rfl, e2, e3, hD3⟩
      simp only [kLc2_e, mkL_map cs S3 (by omega), wp_some]
      simp [bTuple_l S3 cs (by omega)]
      exact H cs S3 ⟨fun e => by rw [e] at e2; simp at e2; omega, by omega, e3⟩ hD3
end
end K55
set_option maxHeartbeats 1000000
namespace K55
open PySem PySem.Spec L2 PI
open PyProof.Rows hiding St
section
variable {L : Nat} {tl : Store}
theorem bent_u (hL : 1000000 ≤ L) : ∀ (e k d : Nat) (S : Store) (x : PyData) {Q : D × Store → Prop}, e ≤ 1 → Pl d x → Dk tl S → (∀ y S', Out x y → Dk tl S' → Q (.p y, S')) → WP (fL (G L) T DEP (k + 6 + e) ft__law_bent S [.ref 1, .p x, .p (.int e)]) Q
  | e, k, d, S, x, Q, he, hx, hD, H => by
    have lev : ∀ f, fL (G L) T DEP (k + 6 + e) f = fL (G L) T DEP (k + 5 + e + 1) f := fun f => by rw [show k + 6 + e = k + 5 + e + 1 by omega]
    rw [lev, e__law_bent, bodyF_e (h := rfl)]
    have dr : ∀ {S : Store} {many : Int}, Dk tl S → 0 < many → many < 1073741824 → ∀ {Q : D × Store → Prop}, (∀ (i : Int) S', 0 ≤ i → i < many → Dk tl S' → Q (.p (.int i), S')) → WP (fL (G L) T DEP (k + 5 + e) ft__law_draw S [.ref 1, .p (.int many)]) Q := fun hD h0 h1 Q H => by
      rw [show k + 5 + e = (k + 4 + e) + 1 by omega]
      exact draw_u hD h0 h1 H
    have pk : ∀ {S : Store} {l : List PyData}, Dk tl S → 0 < l.length → l.length < 1073741824 → ∀ {Q : D × Store → Prop}, (∀ x S', x ∈ l → Dk tl S' → Q (.p x, S')) → WP (fL (G L) T DEP (k + 5 + e) ft__law_pick S [.ref 1, .p (.list l)]) Q := fun hD h0 h1 Q H => by
      rw [show k + 5 + e = (k + 3 + e) + 2 by omega]
      exact pick_u hD h0 h1 H
    have an : ∀ {S : Store}, Dk tl S → ∀ {Q : D × Store → Prop}, (∀ y S', Gd 249600 6 y → Dk tl S' → Q (.p y, S')) → WP (fL (G L) T DEP (k + 5 + e) ft__law_any S [.ref 1, .p (.int 2)]) Q := fun hD Q H => by
      rw [show k + 5 + e = (k + e) + 3 + 2 by omega]
      exact any_u hL 2 (k + e) _ (by decide) hD fun y S' hy hD' => H y S' (hy.le (by decide) (by decide)) hD'
    have li : ∀ S x, fL (G L) T DEP (k + 5 + e) ft__law_is_integer S [.p x] = some (.p (.bool (isN x)), S) := fun S x => by
      rw [show k + 5 + e = (k + 4 + e) + 1 by omega]
      exact lawint_ok L (k + 4 + e) S x
    have ins : ∀ S (xs : List PyData) (n : Nat) (y : PyData), xs.length ≤ 1000000 → fL (G L) T DEP (k + 5 + e) ft__law_instead S [.p (.tuple xs), .p (.int n), .p y] = some (.p (.tuple (xs.take n ++ [y] ++ xs.drop (n + 1))), S) := fun S xs n y h => by
      rw [show k + 5 + e = (k + 4 + e) + 1 by omega]
      exact instead_ok xs n y h
    have hok := hx.ok
    rcases hx.cases with hat | ⟨d', xs, rfl, rfl, hl, hxs⟩
    · rcases hat with rfl | ⟨i, rfl, hi⟩
      · simp [startD]
        refine dr hD (by decide) (by decide) fun way S1 w0 w1 hD1 => ?_
        simp [li, isN]
        by_cases hw : way = 0
        · simp [hw]
          refine an hD1 fun y S2 hy hD2 => ?_
          simp
          exact H y S2 (hy.out (by decide) (by decide)) hD2
        · simp [hw]
          refine an hD1 fun y S2 hy hD2 => ?_
          simp
          exact H y S2 (hy.out (by decide) (by decide)) hD2
      · simp [startD]
        refine dr hD (by decide) (by decide) fun way S1 w0 w1 hD1 => ?_
        simp [li, isN, bStr_i S1 (i := i) (by omega), bBool_i, mkT, mkL, allP, sizeLine]
        refine pk hD1 (by simp) (by simp) fun y S2 hy hD2 => ?_
        simp
        refine H y S2 ?_ hD2
        simp at hy
        have gi := gd_small (i := i) (by omega)
        rcases hy with rfl | rfl | rfl | rfl | rfl | rfl | rfl | rfl | rfl | rfl
        · exact (gd_small (by decide)).out (by decide) (by decide)
        · exact (gd_small (by omega)).out (by decide) (by decide)
        · exact (gd_small (by omega)).out (by decide) (by decide)
        · exact (gd_small (by omega)).out (by decide) (by decide)
        · exact (gd_bool _).out (by decide) (by decide)
        · exact (str_gd (by omega)).out (by decide) (by decide)
        · exact (gd_t1 gi).out (by decide) (by decide)
        · exact (gd_l1 gi).out (by decide) (by decide)
        · exact gd_non.out (by decide) (by decide)
        · exact (gd_small (by omega)).out (by decide) (by decide)
    · have gs := ga_self hok
      simp [startD, -sIf_e]
      refine wp_sIf (fun b S => Dk tl S ∧ (b = false → xs ≠ [] ∧ e = 1)) ?_ ?_ ?_
      · by_cases h1 : xs = []
        · subst h1
          simp [mkT, allP, sizeLine, eq_tnil]
          exact hD
        · have h2 : xs.isEmpty = false := by cases xs with
            | nil => exact absurd rfl h1
            | cons a b => rfl
          by_cases h3 : e = 0
          · simp [mkT, allP, sizeLine, eq_tnil, h2, h3, h1]
            exact hD
          · simp [mkT, allP, sizeLine, eq_tnil, h2, h3, h1]
            refine dr hD (by decide) (by decide) fun z S1 z0 z1 hD1 => ?_
            simp
            by_cases hz : z = 0
            · exact .inr ⟨hz, hD1⟩
            · exact .inl ⟨hz, hD1, by omega⟩
      · rintro S1 ⟨hD1, -⟩
        simp
        refine dr hD1 (by decide) (by decide) fun way S2 w0 w1 hD2 => ?_
        simp [li, isN]
        by_cases h0 : way = 0
        · simp [h0]
          refine an hD2 fun y S3 hy hD3 => ?_
          simp
          exact H y S3 (hy.out (by decide) (by decide)) hD3
        by_cases h4 : way < 4
        · have bl : bList false S2 [.p (.tuple xs)] = some (.p (.list xs), S2) := bList_t S2 xs (by omega)
          simp [h0, h4, bl]
          exact H _ S2 (ga_outL gs (by rw [wt_tup]; omega) (by rw [dp_tup]; omega)) hD2
        by_cases h6 : way < 6
        · simp [h0, h4, h6, mkT, mkL, allP, sizeLine]
          refine pk hD2 (by simp) (by simp) fun y S3 hy hD3 => ?_
          have hl2 : xs.length + 1 ≤ 16777216 := by omega
          simp [mkT, allP, sizeLine, hl2]
          have gy : Gd 2000 1 y := by
            simp at hy
            rcases hy with rfl | rfl | rfl | rfl | rfl | rfl
            · exact ⟨rfl, by decide, by decide⟩
            · exact (gd_small (by decide)).le (by decide) (by decide)
            · exact (gd_small (by decide)).le (by decide) (by decide)
            · exact (gd_t1 (gd_small (by decide))).le (by decide) (by decide)
            · exact gd_non.le (by decide) (by decide)
            · exact (gd_bool _).le (by decide) (by decide)
          have g2 := (gs.le (dp2 := PyData.depthAll xs + 1) (Nat.le_refl _) (by omega)).app (ga_one (gy.le (dp2 := PyData.depthAll xs + 1) (Nat.le_refl _) (by omega)))
          exact H _ S3 (ga_out g2 (by rw [wt_tup]; omega) (by rw [dp_tup]; omega)) hD3
        by_cases h9 : way < 9
        · simp [h0, h4, h6, h9, mkT_e xs.reverse S2 (by rw [List.length_reverse]; omega)]
          exact H _ S2 (ga_out gs.rev (by rw [wt_tup]; omega) (by rw [dp_tup]; omega)) hD2
        have c1 := cut_sub xs none (some 1)
        have c2 := cut_sub xs (some 1) none
        by_cases h11 : way < 11
        · simp [h0, h4, h6, h9, h11, slI_t, mkT_e (xs ++ PI.cutD xs none (some 1)) S2 (by rw [List.length_append]; have := c1.length_le; omega)]
          exact H _ S2 (ga_out (gs.app (gs.sub c1)) (by rw [wt_tup]; omega) (by rw [dp_tup]; omega)) hD2
        by_cases h13 : way < 13
        · simp [h0, h4, h6, h9, h11, h13, slI_t]
          exact H _ S2 (ga_out (gs.sub c2) (by rw [wt_tup]; omega) (by rw [dp_tup]; omega)) hD2
        · simp [h0, h4, h6, h9, h11, h13, mkT, allP, sizeLine]
          exact H _ S2 ((gd_t1 (gd_self hok)).le (by omega) (by omega)) hD2
      · rintro S1 ⟨hD1, hf⟩
        obtain ⟨hne, rfl⟩ := hf rfl
        have l0 := List.length_pos_iff.mpr hne
        simp
        refine dr hD1 (by omega) (by omega) fun z S2 z0 z1 hD2 => ?_
        obtain ⟨z, rfl⟩ : ∃ z' : Nat, z = z' := ⟨z.toNat, by omega⟩
        have hz : z < xs.length := by omega
        have ez : xs[z]? = some xs[z] := List.getElem?_eq_getElem hz
        simp [ix_tup (S := S2) ez]
        have le := bent_u hL 0 k d' S2 xs[z] (Q := fun r => ∃ y, r.1 = .p y ∧ Out xs[z] y ∧ Dk tl r.2) (by decide) (hxs _ (List.getElem_mem hz)) hD2 (fun y S3 hy hD3 => ⟨y, rfl, hy, hD3⟩)
        refine WP.mono (show WP (fL (G L) T DEP (k + 5 + 1) ft__law_bent S2 [.ref 1, .p xs[z], .p (.int 0)]) _ from le) ?_
        rintro ⟨_, S3⟩ ⟨y, rfl, hy, hD3⟩
        simp [ins _ _ _ _ (show xs.length ≤ 1000000 by omega)]
        have := Out.put hok ez hy
        simp at this
        exact H _ S3 this hD3
end
end K55
set_option maxHeartbeats 1000000
namespace K55
open PySem PySem.Spec L2 PI
open PyProof.Rows hiding St
section
variable {L : Nat} {tl : Store}
theorem spoilt_u (hL : 1000000 ≤ L) : ∀ (d k : Nat) (S : Store) (x : PyData) {Q : D × Store → Prop}, Pl d x → Dk tl S → (∀ y S', Out x y → Dk tl S' → Q (.p y, S')) → WP (fL (G L) T DEP (k + 8 + d) ft__law_spoilt S [.ref 1, .p x]) Q
  | d, k, S, x, Q, hx, hD, H => by
    have lev : ∀ f, fL (G L) T DEP (k + 8 + d) f = fL (G L) T DEP (k + 7 + d + 1) f := fun f => by rw [show k + 8 + d = k + 7 + d + 1 by omega]
    rw [lev, e__law_spoilt, bodyF_e (h := rfl)]
    have dr : ∀ {S : Store} {many : Int}, Dk tl S → 0 < many → many < 1073741824 → ∀ {Q : D × Store → Prop}, (∀ (i : Int) S', 0 ≤ i → i < many → Dk tl S' → Q (.p (.int i), S')) → WP (fL (G L) T DEP (k + 7 + d) ft__law_draw S [.ref 1, .p (.int many)]) Q := fun hD h0 h1 Q H => by
      rw [show k + 7 + d = (k + 6 + d) + 1 by omega]
      exact draw_u hD h0 h1 H
    have pk : ∀ {S : Store} {l : List PyData}, Dk tl S → 0 < l.length → l.length < 1073741824 → ∀ {Q : D × Store → Prop}, (∀ x S', x ∈ l → Dk tl S' → Q (.p x, S')) → WP (fL (G L) T DEP (k + 7 + d) ft__law_pick S [.ref 1, .p (.list l)]) Q := fun hD h0 h1 Q H => by
      rw [show k + 7 + d = (k + 5 + d) + 2 by omega]
      exact pick_u hD h0 h1 H
    have be : ∀ {S : Store}, Dk tl S → ∀ {Q : D × Store → Prop}, (∀ y S', Out x y → Dk tl S' → Q (.p y, S')) → WP (fL (G L) T DEP (k + 7 + d) ft__law_bent S [.ref 1, .p x, .p (.int 1)]) Q := fun hD Q H => by
      rw [show k + 7 + d = (k + d) + 6 + 1 by omega]
      exact bent_u hL 1 (k + d) d _ x (by decide) hx hD H
    have li : ∀ S x, fL (G L) T DEP (k + 7 + d) ft__law_is_integer S [.p x] = some (.p (.bool (isN x)), S) := fun S x => by
      rw [show k + 7 + d = (k + 6 + d) + 1 by omega]
      exact lawint_ok L (k + 6 + d) S x
    have ins : ∀ S (xs : List PyData) (n : Nat) (y : PyData), xs.length ≤ 1000000 → fL (G L) T DEP (k + 7 + d) ft__law_instead S [.p (.tuple xs), .p (.int n), .p y] = some (.p (.tuple (xs.take n ++ [y] ++ xs.drop (n + 1))), S) := fun S xs n y h => by
      rw [show k + 7 + d = (k + 6 + d) + 1 by omega]
      exact instead_ok xs n y h
    have hok := hx.ok
    rcases hx.cases with hat | ⟨d', xs, rfl, rfl, hl, hxs⟩
    · rcases hat with rfl | ⟨i, rfl, hi⟩
      · simp [startD, li, isN]
        refine be hD fun y S1 hy hD1 => ?_
        simp
        exact H y S1 hy hD1
      · simp [startD, li, isN]
        refine dr hD (by decide) (by decide) fun z S1 z0 z1 hD1 => ?_
        by_cases hz : z = 0
        · simp [hz, mkL, allP, sizeLine]
          refine pk hD1 (by simp) (by simp) fun y S2 hy hD2 => ?_
          simp at hy
          rcases hy with rfl | rfl | rfl <;> simp <;> exact H _ S2 ((gd_small (by omega)).out (by decide) (by decide)) hD2
        · simp [hz]
          refine be hD1 fun y S1 hy hD1 => ?_
          simp
          exact H y S1 hy hD1
    · have gs := ga_self hok
      have tail : ∀ S1, Dk tl S1 → xs ≠ [] → ∀ {Q : D × Store → Prop}, (∀ y S', Out (.tuple xs) y → Dk tl S' → Q (.p y, S')) → WP (fL (G L) T DEP (k + 7 + (d' + 1)) ft__law_draw S1 [.ref 1, .p (.int xs.length)]) fun r => WP (kAsg (gNm 2) [some (.ref 1), some (.p (.tuple xs)), none] r) fun r => WP (kSeq (sSeq (sRet (mCall (fL (G L) T DEP (k + 7 + (d' + 1)) ft__law_instead) [0, 1, 2] (mCons (mV 1) (mCons (mV 2) (mCons (mCall (fL (G L) T DEP (k + 7 + (d' + 1)) ft__law_spoilt) [0, 1] (mCons (mV 0) (mCons (mIx (mV 1) (mV 2)) (mNil))) (mNil)) (mNil)))) (mNil))) (sNil)) r) fun r => WP (kBody r) Q := fun S1 hD1 hne Q H => by
        have l0 := List.length_pos_iff.mpr hne
        refine dr hD1 (by omega) (by omega) fun z S2 z0 z1 hD2 => ?_
        obtain ⟨z, rfl⟩ : ∃ z' : Nat, z = z' := ⟨z.toNat, by omega⟩
        have hz : z < xs.length := by omega
        have ez : xs[z]? = some xs[z] := List.getElem?_eq_getElem hz
        simp [ix_tup (S := S2) ez]
        have le := spoilt_u hL d' k S2 xs[z] (Q := fun r => ∃ y, r.1 = .p y ∧ Out xs[z] y ∧ Dk tl r.2) (hxs _ (List.getElem_mem hz)) hD2 (fun y S3 hy hD3 => ⟨y, rfl, hy, hD3⟩)
        rw [show k + 7 + (d' + 1) = k + 8 + d' by omega]
        refine WP.mono le ?_
        rintro ⟨_, S3⟩ ⟨y, rfl, hy, hD3⟩
        have ins2 := ins S3 xs z y (show xs.length ≤ 1000000 by omega)
        rw [show k + 7 + (d' + 1) = k + 8 + d' by omega] at ins2
        have := Out.put hok ez hy
        generalize xs.take z ++ [y] ++ xs.drop (z + 1) = A at ins2 this
        simp [ins2]
        exact H _ S3 this hD3
      by_cases h1 : xs = []
      · subst h1
        simp [startD, mkT, allP, sizeLine, eq_tnil, li, isN]
        refine be hD fun y S1 hy hD1 => ?_
        simp
        exact H y S1 hy hD1
      · have h2 : xs.isEmpty = false := by cases xs with
          | nil => exact absurd rfl h1
          | cons a b => rfl
        simp [startD, mkT, allP, sizeLine, eq_tnil, h1, h2]
        refine dr hD (by decide) (by decide) fun z S1 z0 z1 hD1 => ?_
        by_cases hz : z = 0
        · simp [hz, slI_t]
          exact H _ S1 (ga_out (gs.sub (cut_sub xs none (some (-1)))) (by rw [wt_tup]; omega) (by rw [dp_tup]; omega)) hD1
        · simp [hz, mkT, allP, sizeLine, eq_tnil, h1, h2]
          refine dr hD1 (by decide) (by decide) fun w S2 w0 w1 hD2 => ?_
          by_cases hw : w = 0
          · simp [hw, li, isN]
            refine be hD2 fun y S3 hy hD3 => ?_
            simp
            exact H y S3 hy hD3
          · simp [hw]
            exact tail S2 hD2 h1 H
end
end K55
set_option maxHeartbeats 1000000
namespace K55
open PySem PySem.Spec L2 PI
open PyProof.Rows hiding St
theorem gd_pair {a b : PyData} {wa wb d : Nat} (ha : Gd wa d a) (hb : Gd wb d b) : Gd (wa + wb + 7) (d + 1) (.tuple [a, b]) := (Ga.t (xs := [a, b]) ((ga_one ha).app (ga_one hb))).le (by omega) (Nat.le_refl _)
theorem gd_pairL {a b : PyData} {wa wb d : Nat} (ha : Gd wa d a) (hb : Gd wb d b) : Gd (wa + wb + 7) (d + 1) (.list [a, b]) := (Ga.l (xs := [a, b]) ((ga_one ha).app (ga_one hb))).le (by omega) (Nat.le_refl _)
theorem Cl.pl {n : Nat} (hn : n ≤ 12) {cs : List PyData} (h : Cl n cs) : Pl 3 (.tuple cs) := by
  have h1 := h.l1
  refine .inr ⟨cs, rfl, by omega, fun c hc => ?_⟩
  obtain ⟨ps, ns, rfl, p1, p2, p3⟩ := h.ok c hc
  refine .inr ⟨_, rfl, by simp, fun y hy => ?_⟩
  simp at hy
  rcases hy with rfl | rfl
  · exact .inr ⟨ps, rfl, by omega, fun y hy => p3 y (List.mem_append.mpr (.inl hy))⟩
  · exact .inr ⟨ns, rfl, by omega, fun y hy => p3 y (List.mem_append.mpr (.inr hy))⟩
theorem ga_at {ps : List PyData} {n : Nat} (hn : n ≤ 12) (hl : ps.length = n) (h : ∀ x ∈ ps, Atm x) : Ga 23088 0 ps := (ga_mem fun x hx => (h x hx).gd).le (by rw [hl]; omega) (Nat.le_refl _)
theorem Cl.gd {n : Nat} (hn : n ≤ 12) {cs : List PyData} (h : Cl n cs) : Gd 138600 3 (.tuple cs) := by
  have h1 := h.l1
  refine (gd_tuple (w := 46190) (dp := 2) fun c hc => ?_).le (by omega) (Nat.le_refl _)
  obtain ⟨ps, ns, rfl, p1, p2, p3⟩ := h.ok c hc
  exact (gd_pair (ga_at hn p1 fun x hx => p3 x (List.mem_append.mpr (.inl hx))).t (ga_at hn p2 fun x hx => p3 x (List.mem_append.mpr (.inr hx))).t).le (by decide) (by decide)
section
variable {L : Nat} {tl : Store}
/-- a room put behind the rooms -/
theorem near_turn0 {k : Nat} {S : Store} {ps : List PyData} {n : PyData} {v : Nat} (hps : Ga 23088 0 ps) (hv : v < ps.length) (hn : Gd 24000 1 n) {x : PyData} (hx : Gd 2000 1 x) {rooms : List PyData} (hr : rooms.length < 1000) (hD : Dk (tl ++ [.lst (rooms.map .p)]) S) (a b c d e f g h i : Option D) {R : Fl × EnvI × Store → Prop} {Inv : EnvI → Store → Prop}
    (H : ∀ room S', Gd 52000 3 room → Dk (tl ++ [.lst ((rooms ++ [room]).map .p)]) S' → Inv [a, b, c, d, e, f, some (.p (.int v)), some (.p (.tuple ps)), some (.p n), some (.ref (tl.length + 2)), some (.p x), g, h] S') :
    WP (fTurn (gNm 10) (b__law_near_0 L (k + 1)) (.p x) [a, b, c, d, e, f, some (.p (.int v)), some (.p (.tuple ps)), some (.p n), some (.ref (tl.length + 2)), i, g, h] S) (Behind Inv R) := by
  rw [fTurn_e]
  have tn := hD.tn (n := tl.length) (get10 ..)
  have hpl := hps.len
  have ev : ps[v]? = some ps[v] := List.getElem?_eq_getElem hv
  have ins := instead_ok (L := L) (k := k) (S := S) ps v x (by omega)
  have g1 : Gd (23088 + 2000 + 3) 2 (.tuple (ps.take v ++ [x] ++ ps.drop (v + 1))) := (hps.put (w1 := 2000) (dp1 := 1) ev (hx.le (by omega) (Nat.le_refl _)) (by omega)).t
  generalize ps.take v ++ [x] ++ ps.drop (v + 1) = A at ins g1
  simp [b__law_near_0, tn, ins, mkT, allP, sizeLine]
  refine hD.append (n := tl.length) (get10 ..) (by rw [List.length_map]; omega) fun S2 hD2 => ?_
  rw [set10] at hD2
  simp
  refine H (.tuple [.tuple A, n]) S2 ((gd_pair g1 (hn.le (Nat.le_refl _) (by decide))).le (by decide) (by decide)) ?_
  have e : (rooms ++ [PyData.tuple [.tuple A, n]]).map D.p = rooms.map D.p ++ [D.p (.tuple [.tuple A, n])] := by simp
  rw [e]
  exact hD2
theorem near_turn1 {k : Nat} {S : Store} {ps : List PyData} {n : PyData} {v : Nat} (hps : Ga 23088 0 ps) (hv : v < ps.length) (hn : Gd 24000 1 n) {x : PyData} (hx : Gd 2000 1 x) {rooms : List PyData} (hr : rooms.length < 1000) (hD : Dk (tl ++ [.lst (rooms.map .p)]) S) (a b c d e f g h i : Option D) {R : Fl × EnvI × Store → Prop} {Inv : EnvI → Store → Prop}
    (H : ∀ room S', Gd 52000 3 room → Dk (tl ++ [.lst ((rooms ++ [room]).map .p)]) S' → Inv [a, b, c, d, e, f, some (.p (.int v)), some (.p n), some (.p (.tuple ps)), some (.ref (tl.length + 2)), some (.p x), g, h] S') :
    WP (fTurn (gNm 10) (b__law_near_1 L (k + 1)) (.p x) [a, b, c, d, e, f, some (.p (.int v)), some (.p n), some (.p (.tuple ps)), some (.ref (tl.length + 2)), i, g, h] S) (Behind Inv R) := by
  rw [fTurn_e]
  have tn := hD.tn (n := tl.length) (get10 ..)
  have hpl := hps.len
  have ev : ps[v]? = some ps[v] := List.getElem?_eq_getElem hv
  have ins := instead_ok (L := L) (k := k) (S := S) ps v x (by omega)
  have g1 : Gd (23088 + 2000 + 3) 2 (.tuple (ps.take v ++ [x] ++ ps.drop (v + 1))) := (hps.put (w1 := 2000) (dp1 := 1) ev (hx.le (by omega) (Nat.le_refl _)) (by omega)).t
  generalize ps.take v ++ [x] ++ ps.drop (v + 1) = A at ins g1
  simp [b__law_near_1, tn, ins, mkT, allP, sizeLine]
  refine hD.append (n := tl.length) (get10 ..) (by rw [List.length_map]; omega) fun S2 hD2 => ?_
  rw [set10] at hD2
  simp
  refine H (.tuple [n, .tuple A]) S2 ((gd_pair (hn.le (Nat.le_refl _) (by decide)) g1).le (by decide) (by decide)) ?_
  have e : (rooms ++ [PyData.tuple [n, .tuple A]]).map D.p = rooms.map D.p ++ [D.p (.tuple [n, .tuple A])] := by simp
  rw [e]
  exact hD2
theorem srcR_e {S : Store} {n : Nat} {xs : List D} (hD : Dk tl S) (h : tl[n]? = some (.lst xs)) : srcOf S (.ref (n + 2)) = some (srcR (n + 2)) := by
  show (match S[n + 2]? with
    | some (.lst _) => some (srcR (n + 2))
    | _ => none) = _
  rw [hD.get, h]
theorem srcR_at {S : Store} {n : Nat} {xs : List D} (hD : Dk tl S) (h : tl[n]? = some (.lst xs)) (i : Nat) : srcR (n + 2) i S = some xs[i]? := by
  unfold srcR
  rw [hD.get, h]
theorem near_u (hL : 1000000 ≤ L) (k : Nat) {S : Store} (hD : Dk tl S) {rs : List Rw} (hg : Gm rs) {cs : List PyData} (hc : Cl rs.length cs) {Q : D × Store → Prop} (H : ∀ y tl' S', Gd 600000 12 y → Dk tl' S' → Q (.p y, S')) : WP (fL (G L) T DEP (k + 12) ft__law_near S [.ref 1, .p (gmD rs), .p (.tuple cs)]) Q := by
  rw [e__law_near, bodyF_e (h := rfl)]
  have l1 := hg.l1
  have l0 := List.length_pos_iff.mpr hg.l0
  have c0 := List.length_pos_iff.mpr hc.l0
  have c1 := hc.l1
  have hn : rs.length ≤ 12 := l1
  have ln : ∀ S, bLen S [.p (gmD rs)] = some (.p (.int rs.length), S) := fun S => by unfold gmD; rw [len_t, List.length_map]
  simp [startD, ln]
  refine draw_u hD (by omega) (by omega) fun r S1 r0 r1 hD1 => ?_
  simp
  refine draw_u hD1 (by omega) (by omega) fun v S2 v0 v1 hD2 => ?_
  obtain ⟨r, rfl⟩ : ∃ r' : Nat, r = r' := ⟨r.toNat, by omega⟩
  obtain ⟨v, rfl⟩ : ∃ v' : Nat, v = v' := ⟨v.toNat, by omega⟩
  have hr : r < cs.length := by omega
  have er : cs[r]? = some cs[r] := List.getElem?_eq_getElem hr
  obtain ⟨ps, ns, ec, p1, p2, p3⟩ := hc.ok cs[r] (List.getElem_mem hr)
  rw [ec] at er
  have gp := ga_at hn p1 fun x hx => p3 x (List.mem_append.mpr (.inl hx))
  have gn := ga_at hn p2 fun x hx => p3 x (List.mem_append.mpr (.inr hx))
  simp [mkT, allP, sizeLine, ix_tup (S := S2) er]
  have sub1 := cut_sub ps none (some 1)
  have sub2 := cut_sub ps (some 1) none
  have sub3 := cut_sub ns (some 1) none
  have hlen : ps.length + (PI.cutD ps none (some 1)).length ≤ 16777216 := by have := sub1.length_le; omega
  have fb1 := bList_t S2 ps (by omega)
  have fb2 := bList_t S2 ns (by omega)
  have ml : mkL false [D.p (.tuple ps), D.p (.tuple ns)] S2 = some (.p (.list [.tuple ps, .tuple ns]), S2) := mkL_map [.tuple ps, .tuple ns] S2 (by simp)
  simp [slI_t, fb1, fb2, ml, mkT, allP, sizeLine, hlen]
  refine hD2.newL (by simp) fun S3 hD3 => ?_
  obtain ⟨rooms, hD3, hR, hRl⟩ : ∃ rooms : List PyData, Dk (tl ++ [.lst (rooms.map .p)]) S3 ∧ (∀ x ∈ rooms, Gd 52000 3 x) ∧ rooms.length = 9 := by
    refine ⟨[.tuple [.tuple (PI.cutD ps (some 1) none), .tuple ns], .tuple [.tuple ps, .tuple (PI.cutD ns (some 1) none)], .tuple [.tuple (ps ++ PI.cutD ps none (some 1)), .tuple ns], .tuple [.list ps, .tuple ns], .tuple [.tuple ps, .list ns], .tuple [.tuple ps], .tuple [.tuple ps, .tuple ns, .tuple []], .list [.tuple ps, .tuple ns], .none], hD3, fun x hx => ?_, rfl⟩
    have g1 : Gd 1922 0 (.none : PyData) := gd_non.le (by decide) (by decide)
    have gc : Ga 1924 0 (PI.cutD ps none (some 1)) := by
      have e : PI.cutD ps none (some 1) = ps.take 1 := cut_to ps 1
      rw [e]
      cases ps with
      | nil => exact ga_nil.le (by decide) (by decide)
      | cons a b => exact (ga_one (p3 a (by simp)).gd).le (by decide) (by decide)
    simp only [List.mem_cons, List.not_mem_nil, or_false] at hx
    rcases hx with rfl | rfl | rfl | rfl | rfl | rfl | rfl | rfl | rfl
    · exact (gd_pair (gp.sub sub2).t gn.t).le (by decide) (by decide)
    · exact (gd_pair gp.t (gn.sub sub3).t).le (by decide) (by decide)
    · exact (gd_pair (gp.app gc).t gn.t).le (by decide) (by decide)
    · exact (gd_pair gp.l gn.t).le (by decide) (by decide)
    · exact (gd_pair gp.t gn.l).le (by decide) (by decide)
    · exact (gd_t1 gp.t).le (by decide) (by decide)
    · exact (Ga.t (xs := [.tuple ps, .tuple ns, .tuple []]) ((ga_one gp.t).app ((ga_one gn.t).app (ga_one (Gd.le (ga_nil.t) (Nat.le_refl _) (Nat.le_refl _)))))).le (by decide) (by decide)
    · exact (gd_pairL gp.t gn.t).le (by decide) (by decide)
    · exact gd_non.le (by decide) (by decide)
  simp [mkT, allP, sizeLine]
  refine draw_u hD3 (by omega) (by omega) fun z1 S4 za zb hD4 => ?_
  simp
  refine draw_u hD4 (by omega) (by omega) fun z2 S5 zc zd hD5 => ?_
  simp [mkT, allP, sizeLine]
  refine wp_for (srcL_is _) (fun i ev S => ∃ (rooms : List PyData) (a : Option D), rooms.length = 9 + i ∧ (∀ x ∈ rooms, Gd 52000 3 x) ∧ ev = [some (.ref 1), some (.p (gmD rs)), some (.p (.tuple cs)), some (.p (.int rs.length)), some (.p (.int cs.length)), some (.p (.int r)), some (.p (.int v)), some (.p (.tuple ps)), some (.p (.tuple ns)), some (.ref (tl.length + 2)), a, none, none] ∧ Dk (tl ++ [.lst (rooms.map .p)]) S) (by simp; omega) ⟨rooms, _, hRl, hR, rfl, hD5⟩ ?_ ?_
  · rintro i d ev S6 hd ⟨rooms, a, q1, q2, rfl, hD6⟩
    have hi := (List.getElem?_eq_some_iff.mp hd).1
    simp at hi
    obtain ⟨x, rfl, hx⟩ : ∃ x, d = .p x ∧ Gd 2000 1 x := by
      have := List.mem_of_getElem? hd
      simp only [List.mem_cons, List.not_mem_nil, or_false] at this
      rcases this with rfl | rfl | rfl | rfl | rfl | rfl | rfl | rfl | rfl
      · exact ⟨_, rfl, gd_non.le (by decide) (by decide)⟩
      · exact ⟨_, rfl, (gd_bool _).le (by decide) (by decide)⟩
      · exact ⟨_, rfl, (gd_bool _).le (by decide) (by decide)⟩
      · exact ⟨_, rfl, (gd_small (by omega)).le (by decide) (by decide)⟩
      · exact ⟨_, rfl, (gd_small (by decide)).le (by decide) (by decide)⟩
      · exact ⟨_, rfl, (gd_str (strOk_of "move") 20 (by decide +kernel)).le (by decide) (by decide)⟩
      · exact ⟨_, rfl, (gd_t1 (gd_small (by decide))).le (by decide) (by decide)⟩
      · exact ⟨_, rfl, (gd_small (by omega)).le (by decide) (by decide)⟩
      · exact ⟨_, rfl, (gd_small (by omega)).le (by decide) (by decide)⟩
    refine near_turn0 (k := k + 10) gp (by omega) (gn.t.le (by decide) (by decide)) hx (by omega) hD6 _ _ _ _ _ _ _ _ _ ?_
    intro room S7 hroom hD7
    exact ⟨rooms ++ [room], _, by simp [q1]; omega, fun y hy => by
      rcases List.mem_append.mp hy with hy | hy
      · exact q2 y hy
      · rw [List.mem_singleton.mp hy]; exact hroom, rfl, hD7⟩
  rintro ev S6 ⟨rooms2, a, q1, q2, rfl, hD6⟩
  simp at q1
  simp
  refine draw_u hD6 (by omega) (by omega) fun z3 S7 ze zf hD7 => ?_
  simp [mkT, allP, sizeLine]
  refine wp_for (srcL_is _) (fun i ev S => ∃ (rooms : List PyData) (a : Option D), rooms.length = 18 + i ∧ (∀ x ∈ rooms, Gd 52000 3 x) ∧ ev = [some (.ref 1), some (.p (gmD rs)), some (.p (.tuple cs)), some (.p (.int rs.length)), some (.p (.int cs.length)), some (.p (.int r)), some (.p (.int v)), some (.p (.tuple ps)), some (.p (.tuple ns)), some (.ref (tl.length + 2)), a, none, none] ∧ Dk (tl ++ [.lst (rooms.map .p)]) S) (by simp; omega) ⟨rooms2, _, q1, q2, rfl, hD7⟩ ?_ ?_
  · rintro i d ev S6 hd ⟨rooms, a, q1, q2, rfl, hD6⟩
    have hi := (List.getElem?_eq_some_iff.mp hd).1
    simp at hi
    obtain ⟨x, rfl, hx⟩ : ∃ x, d = .p x ∧ Gd 2000 1 x := by
      have := List.mem_of_getElem? hd
      simp only [List.mem_cons, List.not_mem_nil, or_false] at this
      rcases this with rfl | rfl | rfl | rfl | rfl | rfl | rfl | rfl
      · exact ⟨_, rfl, gd_non.le (by decide) (by decide)⟩
      · exact ⟨_, rfl, (gd_bool _).le (by decide) (by decide)⟩
      · exact ⟨_, rfl, (gd_bool _).le (by decide) (by decide)⟩
      · exact ⟨_, rfl, (gd_small (by omega)).le (by decide) (by decide)⟩
      · exact ⟨_, rfl, (gd_small (by decide)).le (by decide) (by decide)⟩
      · exact ⟨_, rfl, (gd_str (strOk_of "0") 20 (by decide +kernel)).le (by decide) (by decide)⟩
      · exact ⟨_, rfl, (gd_small (by omega)).le (by decide) (by decide)⟩
      · exact ⟨_, rfl, (gd_small (by omega)).le (by decide) (by decide)⟩
    refine near_turn1 (k := k + 10) gn (by omega) (gp.t.le (by decide) (by decide)) hx (by omega) hD6 _ _ _ _ _ _ _ _ _ ?_
    intro room S7 hroom hD7
    exact ⟨rooms ++ [room], _, by simp [q1]; omega, fun y hy => by
      rcases List.mem_append.mp hy with hy | hy
      · exact q2 y hy
      · rw [List.mem_singleton.mp hy]; exact hroom, rfl, hD7⟩
  rintro ev S8 ⟨rooms3, a, q3, q4, rfl, hD8⟩
  simp at q3
  have sr := srcR_e hD8 (n := tl.length) (get10 ..)
  simp [sr, wipeE]
  have gcs := hc.gd hn
  have gca := gcs.ga
  have w0 := wp_lc0 (f := srcR (tl.length + 2)) (xs := rooms3.map .p) (g := gNm 11) (c := mYes) (elt := b__law_near_2 L (k + 11)) (ev := [some (.ref 1), some (.p (gmD rs)), some (.p (.tuple cs)), some (.p (.int rs.length)), some (.p (.int cs.length)), some (.p (.int r)), some (.p (.int v)), some (.p (.tuple ps)), some (.p (.tuple ns)), some (.ref (tl.length + 2)), a, none, none]) (fun i acc S => S = S8 ∧ ∃ ys : List PyData, acc = ys.map D.p ∧ ys.length = i ∧ ∀ y ∈ ys, Gd 300000 5 y) (by rw [List.length_map]; omega) (fun i acc S hi ⟨e, _⟩ => by
    subst e
    exact srcR_at hD8 (n := tl.length) (get10 ..) i) (fun i d acc S hd ⟨e, ys, e1, e2, e3⟩ => by
    subst e e1
    obtain ⟨y, hy, rfl⟩ : ∃ y, rooms3[i]? = some y ∧ d = .p y := by
      rw [List.getElem?_map] at hd
      cases e : rooms3[i]? with
      | none => rw [e] at hd; cases hd
      | some u => rw [e] at hd; cases hd; exact ⟨u, rfl, rfl⟩
    have gy := q4 y (List.mem_of_getElem? hy)
    have ins := instead_ok (L := L) (k := k + 10) (S := S) cs r y (by omega)
    have g1 := (gca.put (w1 := 52000) (dp1 := 3) er (gy.le (by omega) (Nat.le_refl _)) (by omega)).t
    generalize cs.take r ++ [y] ++ cs.drop (r + 1) = A at ins g1
    simp [lcTurn, b__law_near_2, ins]
    refine ⟨ys ++ [.tuple A], by simp, by simp [e2], fun z hz => ?_⟩
    rcases List.mem_append.mp hz with hz | hz
    · exact e3 z hz
    · rw [List.mem_singleton.mp hz]; exact g1.le (by decide) (by decide)) L 0 [] S8 (by rw [List.length_map]; omega) (Nat.zero_le _) (Nat.le_refl _) ⟨rfl, [], rfl, rfl, by simp⟩
  refine w0.mono ?_
  rintro ⟨acc, S9⟩ ⟨-, e0, ys, e1, e2, e3⟩
  obtain rfl : S8 = S9 := Eq.symm e0
  have e1 : acc = ys.map D.p := e1
  subst e1
  rw [List.length_map] at e2
  have ec0 : cs[0]? = some cs[0] := List.getElem?_eq_getElem c0
  have ix0 : ixI S8 (.p (.tuple cs)) (.p (.int 0)) = some (.p cs[0]) := ix_tup ec0
  have fb3 := bList_t S8 cs (by omega)
  have hl2 : cs.length + 1 ≤ 16777216 := by omega
  have cne : cs ≠ [] := hc.l0
  have cm : PI.binI false .Mult S8 (.p (.tuple cs)) (.p (.int 2)) = some (.p (.tuple (cs ++ cs)), S8) := by
    rw [mul_t, if_pos ⟨cne, by decide, by decide, by omega⟩]
    simp [List.replicate]
  simp only [kLc2_e, mkL_map ys S8 (by omega), wp_some]
  have ml6 : mkL false [D.p (.tuple []), D.p (.list cs), D.p (.tuple (cs ++ [.none])), D.p (.tuple [.tuple cs]), D.p cs[0], D.p (.tuple (cs ++ cs))] S8 = some (.p (.list [.tuple [], .list cs, .tuple (cs ++ [.none]), .tuple [.tuple cs], cs[0], .tuple (cs ++ cs)]), S8) := mkL_map [.tuple [], .list cs, .tuple (cs ++ [.none]), .tuple [.tuple cs], cs[0], .tuple (cs ++ cs)] S8 (by simp)
  have cc : PI.binI false .Add S8 (.p (.list ys)) (.p (.list [.tuple [], .list cs, .tuple (cs ++ [.none]), .tuple [.tuple cs], cs[0], .tuple (cs ++ cs)])) = some (.p (.list (ys ++ [.tuple [], .list cs, .tuple (cs ++ [.none]), .tuple [.tuple cs], cs[0], .tuple (cs ++ cs)])), S8) := by
    rw [cat_l, ← List.map_append]
    exact mkL_map _ S8 (by rw [List.length_append]; simp; omega)
  have g0 := gcs.mem (List.getElem_mem c0)
  have all : ∀ y ∈ ys ++ [.tuple [], .list cs, .tuple (cs ++ [.none]), .tuple [.tuple cs], cs[0], .tuple (cs ++ cs)], Gd 300000 5 y := fun y hy => by
    rcases List.mem_append.mp hy with hy | hy
    · exact e3 y hy
    · simp only [List.mem_cons, List.not_mem_nil, or_false] at hy
      rcases hy with rfl | rfl | rfl | rfl | rfl | rfl
      · exact ga_nil.t.le (by decide) (by decide)
      · exact gca.l.le (by decide) (by decide)
      · exact (gca.app (ga_one (gd_non.le (Nat.le_refl _) (by decide)))).t.le (by decide) (by decide)
      · exact (gd_t1 gcs).le (by decide) (by decide)
      · exact g0.le (by decide) (by decide)
      · exact (gca.app gca).t.le (by decide) (by decide)
  have alen : 0 < (ys ++ [PyData.tuple [], .list cs, .tuple (cs ++ [.none]), .tuple [.tuple cs], cs[0], .tuple (cs ++ cs)]).length ∧ (ys ++ [PyData.tuple [], .list cs, .tuple (cs ++ [.none]), .tuple [.tuple cs], cs[0], .tuple (cs ++ cs)]).length < 1073741824 := by
    rw [List.length_append]; simp; omega
  have d0 : mkT [] S8 = some (.p (.tuple []), S8) := mkT_e [] S8 (by simp)
  have d1 : mkT [.none] S8 = some (.p (.tuple [.none]), S8) := mkT_e [.none] S8 (by simp)
  have d2 : mkT (cs ++ [.none]) S8 = some (.p (.tuple (cs ++ [.none])), S8) := mkT_e _ S8 (by simp; omega)
  have d3 : mkT [.tuple cs] S8 = some (.p (.tuple [.tuple cs]), S8) := mkT_e [.tuple cs] S8 (by simp)
  have cat : PI.binI false .Add S8 (.p (.tuple cs)) (.p (.tuple [.none])) = some (.p (.tuple (cs ++ [.none])), S8) := by rw [cat_t]; exact d2
  generalize ys ++ [PyData.tuple [], .list cs, .tuple (cs ++ [.none]), .tuple [.tuple cs], cs[0], .tuple (cs ++ cs)] = zs at cc all alen
  generalize hc0 : cs[0] = c00 at ix0 ml6 cc
  simp [allP, d0, d1, d3, cat, fb3, ix0, cm, ml6, cc, -cat_t, -cat_l, -mul_t, -mIf_e]
  rw [mIf_e, wp_bind]
  simp
  refine draw_u hD8 (by decide) (by decide) fun z4 S9 zg zh hD9 => ?_
  by_cases hz4 : 0 < z4
  · simp [hz4]
    refine pick_u (k := k + 9) hD9 alen.1 alen.2 fun y S10 hy hD10 => ?_
    simp
    exact H y _ S10 ((all y hy).le (by decide) (by decide)) hD10
  · simp [hz4]
    refine spoilt_u (k := k) hL 3 S9 (.tuple cs) (hc.pl hn) hD9 fun y S10 hy hD10 => ?_
    simp
    have := gcs.w
    have := gcs.dp
    exact H y _ S10 (Gd.le hy (by omega) (by omega)) hD10
end
end K55
set_option maxHeartbeats 1000000
namespace K55
open PySem PySem.Spec L2 PI
open PyProof.Rows hiding St
theorem fine2 (a b : Bool) : Fine (.tuple [.bool a, .bool b]) := by
  cases a <;> cases b <;> decide +kernel
section
variable {L : Nat}
/-- what has been drawn is looked at -/
theorem look_turn (hL : 1000000 ≤ L) (k : Nat) {tl S : Store} (hD : Dk tl S) {rs : List Rw} (hg : Gm rs) {cs : List PyData} (hc : Cl rs.length cs) (sc tn th tx du go0 : Option D) (i : Int) (hi : 0 ≤ i) {R : Fl × EnvI × Store → Prop} {Inv : EnvI → Store → Prop}
    (H : ∀ go th tx du tl' S', Dk tl' S' → Inv [sc, some (.ref 1), tn, some (.p (gmD rs)), some (.p (.tuple cs)), go, th, tx, du] S') :
    WP (fTurn (gNm 5) (b_law_0 L (k + 12)) (.p (.int i)) [sc, some (.ref 1), tn, some (.p (gmD rs)), some (.p (.tuple cs)), go0, th, tx, du] S) (Behind Inv R) := by
  have hn : rs.length ≤ 12 := hg.l1
  rw [fTurn_e]
  unfold b_law_0
  simp [-mIf_e]
  refine WP.mono (P := fun r => ∃ y tl' S', r = (.p y, S') ∧ Gd 999000 12 y ∧ Dk tl' S') ?_ ?_
  · by_cases h0 : i = 0
    · simp [h0]
      exact ⟨_, _, _, ⟨rfl, rfl⟩, (hc.gd hn).le (by decide) (by decide), hD⟩
    · simp [h0]
      refine draw_u hD (by decide) (by decide) fun z S1 z0 z1 hD1 => ?_
      by_cases hz : z = 0
      · simp [hz]
        refine any_u hL 3 (k + 6) S1 (by decide) hD1 fun y S2 hy hD2 => ?_
        simp
        exact ⟨_, _, _, ⟨rfl, rfl⟩, hy.le (by decide) (by decide), hD2⟩
      · simp [hz]
        refine near_u hL k hD1 hg hc fun y tl' S2 hy hD2 => ?_
        simp
        exact ⟨_, _, _, ⟨rfl, rfl⟩, hy.le (by decide) (by decide), hD2⟩
  rintro _ ⟨y, tl', S1, rfl, gy, hD1⟩
  have ry := repr_fine (S := S1) (gy.fine (by decide) (by decide))
  have lk := look_ok L (k + 10) S1 hL hg y (gy.sml (by decide))
  have ic := isctl_ok L (k + 4) S1 hL hg y (gy.sml (by decide))
  have r2 := repr_fine (S := S1) (fine2 (ctlB rs y) (ctlB rs y))
  generalize (D.p (gmD rs)) = X at lk ic H ⊢
  generalize ctlB rs y = c at lk ic r2
  generalize (D.p (.tuple cs)) = Y at H ⊢
  simp [ry, lk, ic, r2, mkT, allP, sizeLine]
  exact H _ _ _ _ tl' S1 hD1
theorem game_go (hL : 1000000 ≤ L) (k : Nat) {tl S : Store} (hD : Dk tl S) (sc tn gm ct go th tx du : Option D) (i : Int) {R : Fl × EnvI × Store → Prop} {Inv : EnvI → Store → Prop}
    (H : ∀ tn gm ct go th tx du tl' S', Dk tl' S' → Inv [sc, some (.ref 1), tn, gm, ct, go, th, tx, du] S') :
    WP (fTurn (gNm 2) (b_law_1 L (k + 12)) (.p (.int i)) [sc, some (.ref 1), tn, gm, ct, go, th, tx, du] S) (Behind Inv R) := by
  rw [fTurn_e]
  unfold b_law_1
  simp [mkL, allP, sizeLine]
  refine game_u (k := k + 8) (marks := [0, 1, 2]) (most := 7) hL hD (by decide) (by decide) (by simp) (by simp) (by simp) fun rs tl1 S1 hg hl hD1 => ?_
  simp
  refine ctl_u (k := k + 8) hL hD1 hg fun cs S2 hc hD2 => ?_
  simp
  refine wp_forN (n := 9) (lo := 0) (fun _ ev S => ∃ go th tx du tl', ev = [sc, some (.ref 1), some (.p (.int i)), some (.p (gmD rs)), some (.p (.tuple cs)), go, th, tx, du] ∧ Dk tl' S) (by omega) ⟨go, th, tx, du, tl1, rfl, hD2⟩ ?_ ?_
  · rintro j ev S3 hj ⟨go, th, tx, du, tl', rfl, hD3⟩
    refine look_turn hL k hD3 hg hc _ _ _ _ _ _ _ (by omega) ?_
    intro go th tx du tl4 S4 hD4
    exact ⟨go, th, tx, du, tl4, rfl, hD4⟩
  · rintro ev S3 ⟨go, th, tx, du, tl', rfl, hD3⟩
    simp
    exact H _ _ _ _ _ _ _ tl' S3 hD3
theorem law_holds1 (hL : 1000000 ≤ L) (k : Nat) (ns : List Int) (hn : ns.length ≤ 63) : ∃ S' : Store, fL (G L) T DEP (k + 13) ft_law [] [.p (.list (ns.map .int))] = some (.p (.bool true), S') := by
  obtain ⟨xs, mx, e1, hx⟩ := deck L (k + 11) (by omega) ns hn 15371055
  have hD : Dk [] (DS xs mx 0 []) := ⟨xs, mx, 0, rfl, hx⟩
  have w : WP (fL (G L) T DEP (k + 13) ft_law [] [.p (.list (ns.map .int))]) fun r => r.1 = .p (.bool true) := by
    rw [e_law, bodyF_e (h := rfl)]
    simp [startD, e1]
    refine wp_forN (n := 3) (lo := 0) (fun _ ev S => ∃ tn gm ct go th tx du tl', ev = [some (.p (.list (ns.map .int))), some (.ref 1), tn, gm, ct, go, th, tx, du] ∧ Dk tl' S) (by omega) ⟨none, none, none, none, none, none, none, [], rfl, hD⟩ ?_ ?_
    · rintro j ev S3 hj ⟨tn, gm, ct, go, th, tx, du, tl', rfl, hD3⟩
      refine game_go hL k hD3 _ _ _ _ _ _ _ _ _ ?_
      intro tn gm ct go th tx du tl4 S4 hD4
      exact ⟨tn, gm, ct, go, th, tx, du, tl4, rfl, hD4⟩
    · rintro ev S3 ⟨tn, gm, ct, go, th, tx, du, tl', rfl, hD3⟩
      simp
  obtain ⟨⟨d, S'⟩, h1, h2⟩ := w
  have h2 : d = .p (.bool true) := h2
  subst h2
  exact ⟨S', h1⟩
theorem law_holds : ∀ ns : List Int, ns.length ≤ 63 → ∃ (f : BF) (S' : Store), cfL (G 1000000) T DEP 20 ("law" : Str) = some ([("script" : Str)], f) ∧ f [] [.p (.list (ns.map .int))] = some (.p (.bool true), S') := by
  intro ns hn
  obtain ⟨S', h⟩ := law_holds1 (L := 1000000) (by decide) 7 ns hn
  exact ⟨fL (G 1000000) T DEP 20 ft_law, S', by kernel_rfl, h⟩
end
end K55
namespace K55
abbrev LEV : Nat := 20
end K55
open PySem PySem.W PyProof.Rows in
set_option maxRecDepth 100000 in
set_option maxHeartbeats 0 in
theorem PySem.Challenge.cw_howmanyslips_k55_controllers_of_any_valu_holds : PySem.Challenge.rw_howmanyslips_k55_controllers_of_any_valu.Holds := by
  w_on; o_law; k_head; (case hw => w_witness2)
  k_fill
  refine PI.end_walk (l := PySem.Challenge.rw_howmanyslips_k55_controllers_of_any_valu) (n := 63) (k := K55.LEV) (dep := K55.DEP) (x := "script") (G := K55.G 1000000) (T := K55.T) rfl (by decide) rfl ?hq ⟨rfl, by decide, by decide⟩ (fun w h Y => PySem.W.kIn_of Y) ?nol ?tx K55.law_holds
  case hq => first | rfl | decide +kernel
  case nol => intro w; first | rfl | kernel_rfl | decide +kernel
  case tx =>
    intro w mg h X Gn
    refine' ⟨K55.txt X Gn ?zg0 ?zg1 ?zb0 ?zb1 ?zb2 ?zb3 ?zb4 ?zb5 ?zb6 ?zb7 ?zb8 ?zb9 ?zb10 ?zb11 ?zb12 ?zb13 ?zb14 ?zb15 ?zb16, K55.T_all (PI.def_mk (t := K55.ft__law_deck) (name := "_law_deck") (qual := "_law_deck") (params := L2.defArgs K55.s__law_deck) X Gn ?za0 ?zl0 ?zc0 ?zk0 ⟨rfl, rfl, rfl, rfl, rfl⟩ K55.sc__law_deck) (PI.def_mk (t := K55.ft__law_draw) (name := "_law_draw") (qual := "_law_draw") (params := L2.defArgs K55.s__law_draw) X Gn ?za1 ?zl1 ?zc1 ?zk1 ⟨rfl, rfl, rfl, rfl, rfl⟩ K55.sc__law_draw) (PI.def_mk (t := K55.ft__law_pick) (name := "_law_pick") (qual := "_law_pick") (params := L2.defArgs K55.s__law_pick) X Gn ?za2 ?zl2 ?zc2 ?zk2 ⟨rfl, rfl, rfl, rfl, rfl⟩ K55.sc__law_pick) (PI.def_mk (t := K55.ft__law_ladder) (name := "_law_ladder") (qual := "_law_ladder") (params := L2.defArgs K55.s__law_ladder) X Gn ?za3 ?zl3 ?zc3 ?zk3 ⟨rfl, rfl, rfl, rfl, rfl⟩ K55.sc__law_ladder) (PI.def_mk (t := K55.ft__law_drawn_game) (name := "_law_drawn_game") (qual := "_law_drawn_game") (params := L2.defArgs K55.s__law_drawn_game) X Gn ?za4 ?zl4 ?zc4 ?zk4 ⟨rfl, rfl, rfl, rfl, rfl⟩ K55.sc__law_drawn_game) (PI.def_mk (t := K55.ft__law_drawn_plan) (name := "_law_drawn_plan") (qual := "_law_drawn_plan") (params := L2.defArgs K55.s__law_drawn_plan) X Gn ?za5 ?zl5 ?zc5 ?zk5 ⟨rfl, rfl, rfl, rfl, rfl⟩ K55.sc__law_drawn_plan) (PI.def_mk (t := K55.ft__law_drawn_controller) (name := "_law_drawn_controller") (qual := "_law_drawn_controller") (params := L2.defArgs K55.s__law_drawn_controller) X Gn ?za6 ?zl6 ?zc6 ?zk6 ⟨rfl, rfl, rfl, rfl, rfl⟩ K55.sc__law_drawn_controller) (PI.def_mk (t := K55.ft__law_any) (name := "_law_any") (qual := "_law_any") (params := L2.defArgs K55.s__law_any) X Gn ?za7 ?zl7 ?zc7 ?zk7 ⟨rfl, rfl, rfl, rfl, rfl⟩ K55.sc__law_any) (PI.def_mk (t := K55.ft__law_instead) (name := "_law_instead") (qual := "_law_instead") (params := L2.defArgs K55.s__law_instead) X Gn ?za8 ?zl8 ?zc8 ?zk8 ⟨rfl, rfl, rfl, rfl, rfl⟩ K55.sc__law_instead) (PI.def_mk (t := K55.ft__law_is_integer) (name := "_law_is_integer") (qual := "_law_is_integer") (params := L2.defArgs K55.s__law_is_integer) X Gn ?za9 ?zl9 ?zc9 ?zk9 ⟨rfl, rfl, rfl, rfl, rfl⟩ K55.sc__law_is_integer) (PI.def_mk (t := K55.ft__law_bent) (name := "_law_bent") (qual := "_law_bent") (params := L2.defArgs K55.s__law_bent) X Gn ?za10 ?zl10 ?zc10 ?zk10 ⟨rfl, rfl, rfl, rfl, rfl⟩ K55.sc__law_bent) (PI.def_mk (t := K55.ft__law_spoilt) (name := "_law_spoilt") (qual := "_law_spoilt") (params := L2.defArgs K55.s__law_spoilt) X Gn ?za11 ?zl11 ?zc11 ?zk11 ⟨rfl, rfl, rfl, rfl, rfl⟩ K55.sc__law_spoilt) (PI.def_mk (t := K55.ft__law_near) (name := "_law_near") (qual := "_law_near") (params := L2.defArgs K55.s__law_near) X Gn ?za12 ?zl12 ?zc12 ?zk12 ⟨rfl, rfl, rfl, rfl, rfl⟩ K55.sc__law_near) (PI.def_mk (t := K55.ft__law_is_controller) (name := "_law_is_controller") (qual := "_law_is_controller") (params := L2.defArgs K55.s__law_is_controller) X Gn ?za13 ?zl13 ?zc13 ?zk13 ⟨rfl, rfl, rfl, rfl, rfl⟩ K55.sc__law_is_controller) (PI.def_mk (t := K55.ft_is_tuple) (name := "is_tuple") (qual := "is_tuple") (params := L2.defArgs K55.s_is_tuple) X Gn ?za14 ?zl14 ?zc14 ?zk14 ⟨rfl, rfl, rfl, rfl, rfl⟩ K55.sc_is_tuple) (PI.def_mk (t := K55.ft_is_word) (name := "is_word") (qual := "is_word") (params := L2.defArgs K55.s_is_word) X Gn ?za15 ?zl15 ?zc15 ?zk15 ⟨rfl, rfl, rfl, rfl, rfl⟩ K55.sc_is_word) (PI.def_mk (t := K55.ft_is_integer) (name := "is_integer") (qual := "is_integer") (params := L2.defArgs K55.s_is_integer) X Gn ?za16 ?zl16 ?zc16 ?zk16 ⟨rfl, rfl, rfl, rfl, rfl⟩ K55.sc_is_integer) (PI.def_mk (t := K55.ft_is_from) (name := "is_from") (qual := "is_from") (params := L2.defArgs K55.s_is_from) X Gn ?za17 ?zl17 ?zc17 ?zk17 ⟨rfl, rfl, rfl, rfl, rfl⟩ K55.sc_is_from) (PI.def_mk (t := K55.ft_is_between) (name := "is_between") (qual := "is_between") (params := L2.defArgs K55.s_is_between) X Gn ?za18 ?zl18 ?zc18 ?zk18 ⟨rfl, rfl, rfl, rfl, rfl⟩ K55.sc_is_between) (PI.def_mk (t := K55.ft_do_ascend) (name := "do_ascend") (qual := "do_ascend") (params := L2.defArgs K55.s_do_ascend) X Gn ?za19 ?zl19 ?zc19 ?zk19 ⟨rfl, rfl, rfl, rfl, rfl⟩ K55.sc_do_ascend) (PI.def_mk (t := K55.ft_are_moves) (name := "are_moves") (qual := "are_moves") (params := L2.defArgs K55.s_are_moves) X Gn ?za20 ?zl20 ?zc20 ?zk20 ⟨rfl, rfl, rfl, rfl, rfl⟩ K55.sc_are_moves) (PI.def_mk (t := K55.ft_is_slip) (name := "is_slip") (qual := "is_slip") (params := L2.defArgs K55.s_is_slip) X Gn ?za21 ?zl21 ?zc21 ?zk21 ⟨rfl, rfl, rfl, rfl, rfl⟩ K55.sc_is_slip) (PI.def_mk (t := K55.ft_are_slips) (name := "are_slips") (qual := "are_slips") (params := L2.defArgs K55.s_are_slips) X Gn ?za22 ?zl22 ?zc22 ?zk22 ⟨rfl, rfl, rfl, rfl, rfl⟩ K55.sc_are_slips) (PI.def_mk (t := K55.ft_is_place_row) (name := "is_place_row") (qual := "is_place_row") (params := L2.defArgs K55.s_is_place_row) X Gn ?za23 ?zl23 ?zc23 ?zk23 ⟨rfl, rfl, rfl, rfl, rfl⟩ K55.sc_is_place_row) (PI.def_mk (t := K55.ft_is_game_value) (name := "is_game_value") (qual := "is_game_value") (params := L2.defArgs K55.s_is_game_value) X Gn ?za24 ?zl24 ?zc24 ?zk24 ⟨rfl, rfl, rfl, rfl, rfl⟩ K55.sc_is_game_value) (PI.def_mk (t := K55.ft_need_game) (name := "need_game") (qual := "need_game") (params := L2.defArgs K55.s_need_game) X Gn ?za25 ?zl25 ?zc25 ?zk25 ⟨rfl, rfl, rfl, rfl, rfl⟩ K55.sc_need_game) (PI.def_mk (t := K55.ft_is_keepers) (name := "is_keepers") (qual := "is_keepers") (params := L2.defArgs K55.s_is_keepers) X Gn ?za26 ?zl26 ?zc26 ?zk26 ⟨rfl, rfl, rfl, rfl, rfl⟩ K55.sc_is_keepers) (PI.def_mk (t := K55.ft_is_place_of) (name := "is_place_of") (qual := "is_place_of") (params := L2.defArgs K55.s_is_place_of) X Gn ?za27 ?zl27 ?zc27 ?zk27 ⟨rfl, rfl, rfl, rfl, rfl⟩ K55.sc_is_place_of) (PI.def_mk (t := K55.ft_moves_of) (name := "moves_of") (qual := "moves_of") (params := L2.defArgs K55.s_moves_of) X Gn ?za28 ?zl28 ?zc28 ?zk28 ⟨rfl, rfl, rfl, rfl, rfl⟩ K55.sc_moves_of) (PI.def_mk (t := K55.ft_is_plan_item) (name := "is_plan_item") (qual := "is_plan_item") (params := L2.defArgs K55.s_is_plan_item) X Gn ?za29 ?zl29 ?zc29 ?zk29 ⟨rfl, rfl, rfl, rfl, rfl⟩ K55.sc_is_plan_item) (PI.def_mk (t := K55.ft_is_plan_value) (name := "is_plan_value") (qual := "is_plan_value") (params := L2.defArgs K55.s_is_plan_value) X Gn ?za30 ?zl30 ?zc30 ?zk30 ⟨rfl, rfl, rfl, rfl, rfl⟩ K55.sc_is_plan_value) (PI.def_mk (t := K55.ft_is_room) (name := "is_room") (qual := "is_room") (params := L2.defArgs K55.s_is_room) X Gn ?za31 ?zl31 ?zc31 ?zk31 ⟨rfl, rfl, rfl, rfl, rfl⟩ K55.sc_is_room) (PI.def_mk (t := K55.ft_is_controller_value) (name := "is_controller_value") (qual := "is_controller_value") (params := L2.defArgs K55.s_is_controller_value) X Gn ?za32 ?zl32 ?zc32 ?zk32 ⟨rfl, rfl, rfl, rfl, rfl⟩ K55.sc_is_controller_value) (PI.def_mk (t := K55.ft_is_controller) (name := "is_controller") (qual := "is_controller") (params := L2.defArgs K55.s_is_controller) X Gn ?za33 ?zl33 ?zc33 ?zk33 ⟨rfl, rfl, rfl, rfl, rfl⟩ K55.sc_is_controller) (PI.def_mk (t := K55.ft_law) (name := "law") (qual := "law") (params := L2.defArgs K55.s_law) X Gn ?za34 ?zl34 ?zc34 ?zk34 ⟨rfl, rfl, rfl, rfl, rfl⟩ K55.sc_law)⟩
    (case zg0 => k_is)
    (case zg1 => k_is)
    (case zb0 => k_is)
    (case zb1 => k_is)
    (case zb2 => k_is)
    (case zb3 => k_is)
    (case zb4 => k_is)
    (case zb5 => k_is)
    (case zb6 => k_is)
    (case zb7 => k_is)
    (case zb8 => k_is)
    (case zb9 => k_is)
    (case zb10 => k_is)
    (case zb11 => k_is)
    (case zb12 => k_is)
    (case zb13 => k_is)
    (case zb14 => k_is)
    (case zb15 => k_is)
    (case zb16 => k_is)
    (case za0 => k_is)
    (case zl0 => k_is)
    (case zc0 => k_is)
    (case zk0 => k_is)
    (case za1 => k_is)
    (case zl1 => k_is)
    (case zc1 => k_is)
    (case zk1 => k_is)
    (case za2 => k_is)
    (case zl2 => k_is)
    (case zc2 => k_is)
    (case zk2 => k_is)
    (case za3 => k_is)
    (case zl3 => k_is)
    (case zc3 => k_is)
    (case zk3 => k_is)
    (case za4 => k_is)
    (case zl4 => k_is)
    (case zc4 => k_is)
    (case zk4 => k_is)
    (case za5 => k_is)
    (case zl5 => k_is)
    (case zc5 => k_is)
    (case zk5 => k_is)
    (case za6 => k_is)
    (case zl6 => k_is)
    (case zc6 => k_is)
    (case zk6 => k_is)
    (case za7 => k_is)
    (case zl7 => k_is)
    (case zc7 => k_is)
    (case zk7 => k_is)
    (case za8 => k_is)
    (case zl8 => k_is)
    (case zc8 => k_is)
    (case zk8 => k_is)
    (case za9 => k_is)
    (case zl9 => k_is)
    (case zc9 => k_is)
    (case zk9 => k_is)
    (case za10 => k_is)
    (case zl10 => k_is)
    (case zc10 => k_is)
    (case zk10 => k_is)
    (case za11 => k_is)
    (case zl11 => k_is)
    (case zc11 => k_is)
    (case zk11 => k_is)
    (case za12 => k_is)
    (case zl12 => k_is)
    (case zc12 => k_is)
    (case zk12 => k_is)
    (case za13 => k_is)
    (case zl13 => k_is)
    (case zc13 => k_is)
    (case zk13 => k_is)
    (case za14 => k_is)
    (case zl14 => k_is)
    (case zc14 => k_is)
    (case zk14 => k_is)
    (case za15 => k_is)
    (case zl15 => k_is)
    (case zc15 => k_is)
    (case zk15 => k_is)
    (case za16 => k_is)
    (case zl16 => k_is)
    (case zc16 => k_is)
    (case zk16 => k_is)
    (case za17 => k_is)
    (case zl17 => k_is)
    (case zc17 => k_is)
    (case zk17 => k_is)
    (case za18 => k_is)
    (case zl18 => k_is)
    (case zc18 => k_is)
    (case zk18 => k_is)
    (case za19 => k_is)
    (case zl19 => k_is)
    (case zc19 => k_is)
    (case zk19 => k_is)
    (case za20 => k_is)
    (case zl20 => k_is)
    (case zc20 => k_is)
    (case zk20 => k_is)
    (case za21 => k_is)
    (case zl21 => k_is)
    (case zc21 => k_is)
    (case zk21 => k_is)
    (case za22 => k_is)
    (case zl22 => k_is)
    (case zc22 => k_is)
    (case zk22 => k_is)
    (case za23 => k_is)
    (case zl23 => k_is)
    (case zc23 => k_is)
    (case zk23 => k_is)
    (case za24 => k_is)
    (case zl24 => k_is)
    (case zc24 => k_is)
    (case zk24 => k_is)
    (case za25 => k_is)
    (case zl25 => k_is)
    (case zc25 => k_is)
    (case zk25 => k_is)
    (case za26 => k_is)
    (case zl26 => k_is)
    (case zc26 => k_is)
    (case zk26 => k_is)
    (case za27 => k_is)
    (case zl27 => k_is)
    (case zc27 => k_is)
    (case zk27 => k_is)
    (case za28 => k_is)
    (case zl28 => k_is)
    (case zc28 => k_is)
    (case zk28 => k_is)
    (case za29 => k_is)
    (case zl29 => k_is)
    (case zc29 => k_is)
    (case zk29 => k_is)
    (case za30 => k_is)
    (case zl30 => k_is)
    (case zc30 => k_is)
    (case zk30 => k_is)
    (case za31 => k_is)
    (case zl31 => k_is)
    (case zc31 => k_is)
    (case zk31 => k_is)
    (case za32 => k_is)
    (case zl32 => k_is)
    (case zc32 => k_is)
    (case zk32 => k_is)
    (case za33 => k_is)
    (case zl33 => k_is)
    (case zc33 => k_is)
    (case zk33 => k_is)
    (case za34 => k_is)
    (case zl34 => k_is)
    (case zc34 => k_is)
    (case zk34 => k_is)
