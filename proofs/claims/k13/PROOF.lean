import PyProof.Rows.All
import Wide.All
import OpenK.AllK
import Wide.FinOn
import HandS.ForMost
import HandS.Flow
import HandS.Style
import HandS.FStr
import HandS.TupAny
import HandS.TupMul
import HandS.TupLe
import HandS.IsInst
import HandS.Deep
import HandS.Text
import KE.SortData
import HandS.WordsDict
import HandS.RaiseMore
import PyProof.ListRange
import HandS.SetFor
import HandS.Strs
import KE.KDictPairs
import HandS.DictTup
import KE.KDictWalk
import HandS.Iter
import HandS.Zip
import KE.GoesEnum
import KE.GoesMore
import KE.GoesZip
import PyProof.StrLawsRepr
import PyProof.Rows.ReprOcc
import PySem.Challenge.RW_howmanyslips_k13_whole_paths_put_togethe
set_option Elab.async false
set_option linter.all false
set_option maxRecDepth 100000
set_option autoImplicit false
/-! Own text: pure data, boxed objects, and how they stand in the abstract heap. -/
namespace PI
open PySem L2

/-- built-in classes -/
inductive Tn where
  | non | bl | int | str | lst | tup | dct | set | obj
  deriving DecidableEq
def Tn.nm : Tn → String
  | .non => "NoneType" | .bl => "bool" | .int => "int" | .str => "str" | .lst => "list" | .tup => "tuple" | .dct => "dict" | .set => "set" | .obj => "object"
/-- a value of the small language: a datum, a boxed object, a def, a class, a built-in class -/
inductive D where
  | p (x : PyData)
  | ref (n : Nat)
  | fn (x : Str)
  | ty (t : Tn)

/-- a boxed object -/
inductive Cell where
  | lst (xs : List D)
  | dct (kvs : List (Key × D))
  | dead

/-- where the boxes stand (b), and what is being made meanwhile (t) -/
structure BT where
  b : List Addr
  t : List Addr
def BT.all (B : BT) : List Addr := B.b ++ B.t
def BT.nil : BT := ⟨[], []⟩
def BT.add (B : BT) (p : Addr) : BT := ⟨B.b ++ [p], B.t⟩
def BT.push (B : BT) (p : Addr) : BT := ⟨B.b, p :: B.t⟩
theorem BT.no_nil (a : Addr) : a ∉ BT.nil.all := by simp [BT.nil, BT.all]
abbrev Store := List Cell
abbrev EnvI := List (Option D)

/-! ### lists and tuples that no box owns -/
def SqLB (_K : PySem.W.Frag) (B : BT) (H : Hp) (a : Addr) (xs : List V) : Prop := Rd H a (.lst xs) ∧ a ∉ B.all
def SqTB (K : PySem.W.Frag) (B : BT) (H : Hp) (a : Addr) (xs : List V) : Prop :=
  (Rd H a (.tup xs) ∧ a ∉ B.all) ∨
    ∃ (o : Obj) (its : Array Value) (n : Nat), K.lookup a = some o ∧ o.cls = .type "tuple" ∧ o.data = .seq its n ∧ its.size ≤ sizeLine ∧ Vals xs its.toList
theorem SqLB.sq {K : PySem.W.Frag} {B : BT} {H : Hp} {a : Addr} {xs : List V} (h : SqLB K B H a xs) : SqL K H a xs := .inl h.1
theorem SqTB.sq {K : PySem.W.Frag} {B : BT} {H : Hp} {a : Addr} {xs : List V} (h : SqTB K B H a xs) : SqT K H a xs := h.imp (·.1) id

def kP : Key → PyData
  | .inl i => .int i
  | .inr x => .str x

/-- a pair of numbers -/
def pairP : PyData → Bool
  | .tuple [.int _, .int _] => true
  | _ => false
/-- what dict() may be asked to read: a tuple of pairs of numbers -/
def bareP (ds : List PyData) : Bool := ds.all pairP
/-- the object at a is known to have no attributes of its own -/
def Bare (K : PySem.W.Frag) (B : BT) (H : Hp) (a : Addr) : Prop := (∃ (o : Obj) (u : HO), H a = some (.frz o u) ∧ o.dict = none ∧ a ∉ B.all) ∨ ∃ o : Obj, K.lookup a = some o ∧ o.dict = none
mutual
/-- v is the datum d, read off objects that no box owns -/
inductive Dq (K : PySem.W.Frag) (B : BT) (H : Hp) : V → PyData → Prop
  | non : Dq K B H .non .none
  | bl (b : Bool) : Dq K B H (.bl b) (.bool b)
  | int (i : Int) : Dq K B H (.int i) (.int i)
  | str (x : Str) : Dq K B H (.str x) (.str x)
  | lst {a : Addr} {xs : List V} {ds : List PyData} : SqLB K B H a xs → DqAll K B H xs ds → Dq K B H (.ref a) (.list ds)
  | tup {a : Addr} {xs : List V} {ds : List PyData} : SqTB K B H a xs → DqAll K B H xs ds → (bareP ds = true → Bare K B H a) → Dq K B H (.ref a) (.tuple ds)
  | dct {a : Addr} {kvs : List (Key × V)} {ds : List (PyData × PyData)} : Rd H a (.dK kvs) → a ∉ B.all → DqKV K B H kvs ds → Dq K B H (.ref a) (.dict ds)
inductive DqAll (K : PySem.W.Frag) (B : BT) (H : Hp) : List V → List PyData → Prop
  | nil : DqAll K B H [] []
  | cons {v : V} {vs : List V} {d : PyData} {ds : List PyData} : Dq K B H v d → DqAll K B H vs ds → DqAll K B H (v :: vs) (d :: ds)
inductive DqKV (K : PySem.W.Frag) (B : BT) (H : Hp) : List (Key × V) → List (PyData × PyData) → Prop
  | nil : DqKV K B H [] []
  | cons {k : Key} {v : V} {vs : List (Key × V)} {d : PyData} {ds : List (PyData × PyData)} : Dq K B H v d → DqKV K B H vs ds → DqKV K B H ((k, v) :: vs) ((kP k, d) :: ds)
end

/-- what values lean on stays -/
structure Ex0 (B : BT) (H : Hp) (B' : BT) (H' : Hp) : Prop where
  keep : ∀ a o, a ∉ B.all → H a = some o → H' a = some o ∧ a ∉ B'.all
  pre : ∀ (n : Nat) a, B.b[n]? = some a → B'.b[n]? = some a
theorem Ex0.rd {B B' : BT} {H H' : Hp} (e : Ex0 B H B' H') {a : Addr} {u : HO} (h : Rd H a u) (n : a ∉ B.all) : Rd H' a u ∧ a ∉ B'.all := by
  rcases h with h | ⟨o, h⟩
  · exact ⟨.inl (e.keep _ _ n h).1, (e.keep _ _ n h).2⟩
  · exact ⟨.inr ⟨o, (e.keep _ _ n h).1⟩, (e.keep _ _ n h).2⟩
theorem Bare.ex {K : PySem.W.Frag} {B B' : BT} {H H' : Hp} (e : Ex0 B H B' H') {a : Addr} (h : Bare K B H a) : Bare K B' H' a := by
  rcases h with ⟨o, u, h1, h2, h3⟩ | h
  · exact .inl ⟨o, u, (e.keep _ _ h3 h1).1, h2, (e.keep _ _ h3 h1).2⟩
  · exact .inr h
mutual
theorem Dq.ex {K : PySem.W.Frag} {B B' : BT} {H H' : Hp} (e : Ex0 B H B' H') : ∀ {v : V} {d : PyData}, Dq K B H v d → Dq K B' H' v d
  | _, _, .non => .non
  | _, _, .bl b => .bl b
  | _, _, .int i => .int i
  | _, _, .str x => .str x
  | _, _, .lst h1 h2 => .lst (e.rd h1.1 h1.2) (DqAll.ex e h2)
  | _, _, .tup h1 h2 h3 => .tup (h1.imp (fun z => e.rd z.1 z.2) id) (DqAll.ex e h2) fun z => Bare.ex e (h3 z)
  | _, _, .dct h1 h2 h3 => .dct (e.rd h1 h2).1 (e.rd h1 h2).2 (DqKV.ex e h3)
theorem DqAll.ex {K : PySem.W.Frag} {B B' : BT} {H H' : Hp} (e : Ex0 B H B' H') : ∀ {v : List V} {d : List PyData}, DqAll K B H v d → DqAll K B' H' v d
  | _, _, .nil => .nil
  | _, _, .cons h1 h2 => .cons (Dq.ex e h1) (DqAll.ex e h2)
theorem DqKV.ex {K : PySem.W.Frag} {B B' : BT} {H H' : Hp} (e : Ex0 B H B' H') : ∀ {v : List (Key × V)} {d : List (PyData × PyData)}, DqKV K B H v d → DqKV K B' H' v d
  | _, _, .nil => .nil
  | _, _, .cons h1 h2 => .cons (Dq.ex e h1) (DqKV.ex e h2)
end
/-- the globals that values speak of -/
abbrev Mg := Str → Option Value
def RD (K : PySem.W.Frag) (mg : Mg) (B : BT) (H : Hp) : D → V → Prop
  | .p x, v => Dq K B H v x
  | .ref n, v => ∃ a, B.b[n]? = some a ∧ v = .ref a
  | .fn x, v => ∃ f, mg x = some (.ref f) ∧ v = .ref f
  | .ty t, v => v = .ty t.nm
theorem RD.ex {K : PySem.W.Frag} {mg : Mg} {B B' : BT} {H H' : Hp} (e : Ex0 B H B' H') {d : D} {v : V} (h : RD K mg B H d v) : RD K mg B' H' d v := by
  cases d with
  | p x => exact Dq.ex e h
  | ref n =>
    obtain ⟨a, h1, h2⟩ := h
    exact ⟨a, e.pre n a h1, h2⟩
  | fn x => exact h
  | ty n => exact h
abbrev RDs (K : PySem.W.Frag) (mg : Mg) (B : BT) (H : Hp) : List D → List V → Prop := Paired (RD K mg B H)
theorem RDs.ex {K : PySem.W.Frag} {mg : Mg} {B B' : BT} {H H' : Hp} (e : Ex0 B H B' H') {d : List D} {v : List V} (h : RDs K mg B H d v) : RDs K mg B' H' d v := Paired.mapP h fun _ _ r => RD.ex e r
abbrev RKV (K : PySem.W.Frag) (mg : Mg) (B : BT) (H : Hp) : List (Key × D) → List (Key × V) → Prop := Paired fun p q => p.1 = q.1 ∧ RD K mg B H p.2 q.2
theorem RKV.ex {K : PySem.W.Frag} {mg : Mg} {B B' : BT} {H H' : Hp} (e : Ex0 B H B' H') {d : List (Key × D)} {v : List (Key × V)} (h : RKV K mg B H d v) : RKV K mg B' H' d v := Paired.mapP h fun _ _ r => ⟨r.1, RD.ex e r.2⟩

def CRl (K : PySem.W.Frag) (mg : Mg) (B : BT) (H : Hp) (a : Addr) : Cell → Prop
  | .lst ds => ∃ vs, H a = some (.lst vs) ∧ RDs K mg B H ds vs
  | .dct ds => ∃ kvs, H a = some (.dK kvs) ∧ RKV K mg B H ds kvs
  | .dead => True
theorem CRl.ex {K : PySem.W.Frag} {mg : Mg} {B B' : BT} {H H' : Hp} {a : Addr} {c : Cell} (e : Ex0 B H B' H') (hk : ∀ o, H a = some o → H' a = some o) (h : CRl K mg B H a c) : CRl K mg B' H' a c := by
  cases c with
  | lst ds =>
    obtain ⟨vs, h1, h2⟩ := h
    exact ⟨vs, hk _ h1, RDs.ex e h2⟩
  | dct ds =>
    obtain ⟨vs, h1, h2⟩ := h
    exact ⟨vs, hk _ h1, RKV.ex e h2⟩
  | dead => trivial
/-- the boxes as they stand in the heap -/
structure SR (K : PySem.W.Frag) (mg : Mg) (B : BT) (H : Hp) (S : Store) : Prop where
  len : B.b.length = S.length
  nd : B.all.Nodup
  al : ∀ a ∈ B.all, ∃ o, H a = some o
  cell : ∀ (n : Nat) (c : Cell) (a : Addr), S[n]? = some c → B.b[n]? = some a → CRl K mg B H a c
/-- the slots -/
structure ER (K : PySem.W.Frag) (mg : Mg) (B : BT) (H : Hp) (ev : EnvI) (σ : St) : Prop where
  len : ev.length = σ.length
  at_ : ∀ (i : Nat) d, ev[i]? = some (some d) → ∃ v, σ[i]? = some (some v) ∧ RD K mg B H d v
theorem ER.ex {K : PySem.W.Frag} {mg : Mg} {B B' : BT} {H H' : Hp} {ev : EnvI} {σ : St} (e : Ex0 B H B' H') (h : ER K mg B H ev σ) : ER K mg B' H' ev σ :=
  ⟨h.len, fun i d q => let ⟨v, a, b⟩ := h.at_ i d q; ⟨v, a, RD.ex e b⟩⟩
theorem ER.set {K : PySem.W.Frag} {mg : Mg} {B : BT} {H : Hp} {ev : EnvI} {σ : St} (h : ER K mg B H ev σ) (i : Nat) {d : D} {v : V} (r : RD K mg B H d v) : ER K mg B H (ev.set i (some d)) (σ.set i (some v)) := by
  refine ⟨by simp [h.len], fun j d' q => ?_⟩
  by_cases hj : i = j
  · subst hj
    by_cases hl : i < ev.length
    · rw [List.getElem?_set_self hl] at q
      cases q
      exact ⟨v, by rw [List.getElem?_set_self (by rw [← h.len]; exact hl)], r⟩
    · rw [List.getElem?_eq_none (by simpa using hl)] at q; cases q
  · rw [List.getElem?_set_ne hj] at q ⊢
    exact h.at_ j d' q

/-- from one state of the boxes and the heap to a later one -/
structure Ext (B : BT) (H : Hp) (B' : BT) (H' : Hp) : Prop where
  more : ∃ m, B'.b = B.b ++ m ∧ ∀ a ∈ m, H a = none
  same : B'.t = B.t
  keep : ∀ a o, a ∉ B.all → H a = some o → H' a = some o
  tmp : ∀ a ∈ B.t, H' a = H a
  al : ∀ a ∈ B'.all, ∃ o, H' a = some o
theorem Ext.not_mem {B B' : BT} {H H' : Hp} (e : Ext B H B' H') {a : Addr} {o : HO} (h : H a = some o) (n : a ∉ B.all) : a ∉ B'.all := by
  obtain ⟨m, e1, hm⟩ := e.more
  intro q
  unfold BT.all at q n
  rw [e1, e.same, List.append_assoc] at q
  rcases List.mem_append.mp q with q | q
  · exact n (List.mem_append_left _ q)
  · rcases List.mem_append.mp q with q | q
    · rw [hm a q] at h; cases h
    · exact n (List.mem_append_right _ q)
theorem Ext.ex {B B' : BT} {H H' : Hp} (e : Ext B H B' H') : Ex0 B H B' H' :=
  ⟨fun a o n h => ⟨e.keep a o n h, e.not_mem h n⟩, fun n a h => by
    obtain ⟨m, e1, _⟩ := e.more
    rw [e1, List.getElem?_append_left (List.getElem?_eq_some_iff.mp h).1]; exact h⟩
theorem Ext.mem {B B' : BT} {H H' : Hp} (e : Ext B H B' H') {a : Addr} (h : a ∈ B.all) : a ∈ B'.all := by
  obtain ⟨m, e1, _⟩ := e.more
  unfold BT.all at *
  rw [e1, e.same]
  rcases List.mem_append.mp h with z | z
  · exact List.mem_append_left _ (List.mem_append_left _ z)
  · exact List.mem_append_right _ z
theorem Ext.none {B B' : BT} {H H' : Hp} (e : Ext B H B' H') {a : Addr} (h : H' a = none) : H a = none := by
  cases q : H a with
  | none => rfl
  | some o =>
    by_cases hb : a ∈ B.all
    · obtain ⟨u, hu⟩ := e.al a (e.mem hb)
      rw [h] at hu; cases hu
    · rw [e.keep a o hb q] at h; cases h
theorem Ext.refl {B : BT} {H : Hp} (al : ∀ a ∈ B.all, ∃ o, H a = some o) : Ext B H B H := ⟨⟨[], by simp, by simp⟩, rfl, fun _ _ _ h => h, fun _ _ => rfl, al⟩
theorem Ext.trans {B B1 B2 : BT} {H H1 H2 : Hp} (a : Ext B H B1 H1) (b : Ext B1 H1 B2 H2) : Ext B H B2 H2 := by
  obtain ⟨m1, e1, n1⟩ := a.more
  obtain ⟨m2, e2, n2⟩ := b.more
  refine ⟨⟨m1 ++ m2, by rw [e2, e1, List.append_assoc], fun x hx => ?_⟩, b.same.trans a.same, fun x o n h => b.keep x o (a.not_mem h n) (a.keep x o n h), fun x hx => (b.tmp x (by rw [a.same]; exact hx)).trans (a.tmp x hx), b.al⟩
  rcases List.mem_append.mp hx with q | q
  · exact n1 x q
  · exact a.none (n2 x q)
theorem Dq.ext {K : PySem.W.Frag} {B B' : BT} {H H' : Hp} (e : Ext B H B' H') {v : V} {d : PyData} (h : Dq K B H v d) : Dq K B' H' v d := Dq.ex e.ex h
theorem DqAll.ext {K : PySem.W.Frag} {B B' : BT} {H H' : Hp} (e : Ext B H B' H') {v : List V} {d : List PyData} (h : DqAll K B H v d) : DqAll K B' H' v d := DqAll.ex e.ex h
theorem RD.ext {K : PySem.W.Frag} {mg : Mg} {B B' : BT} {H H' : Hp} (e : Ext B H B' H') {d : D} {v : V} (h : RD K mg B H d v) : RD K mg B' H' d v := RD.ex e.ex h
theorem RDs.ext {K : PySem.W.Frag} {mg : Mg} {B B' : BT} {H H' : Hp} (e : Ext B H B' H') {d : List D} {v : List V} (h : RDs K mg B H d v) : RDs K mg B' H' d v := RDs.ex e.ex h
theorem RKV.ext {K : PySem.W.Frag} {mg : Mg} {B B' : BT} {H H' : Hp} (e : Ext B H B' H') {d : List (Key × D)} {v : List (Key × V)} (h : RKV K mg B H d v) : RKV K mg B' H' d v := RKV.ex e.ex h
theorem ER.ext {K : PySem.W.Frag} {mg : Mg} {B B' : BT} {H H' : Hp} {ev : EnvI} {σ : St} (e : Ext B H B' H') (h : ER K mg B H ev σ) : ER K mg B' H' ev σ := ER.ex e.ex h

theorem BT.mem_add {B : BT} {p a : Addr} (h : a ∈ (B.add p).all) : a ∈ B.all ∨ a = p := by
  unfold BT.add BT.all at *
  rw [List.append_assoc] at h
  rcases List.mem_append.mp h with h | h
  · exact .inl (List.mem_append_left _ h)
  · rcases List.mem_append.mp h with h | h
    · exact .inr (List.mem_singleton.mp h)
    · exact .inl (List.mem_append_right _ h)
theorem BT.nodup_add {B : BT} {p : Addr} (h : B.all.Nodup) (n : p ∉ B.all) : (B.add p).all.Nodup := by
  unfold BT.add BT.all at *
  have : (B.b ++ [p] ++ B.t).Perm (p :: (B.b ++ B.t)) := by
    rw [List.append_assoc]
    exact List.perm_middle
  exact this.nodup_iff.mpr (List.nodup_cons.mpr ⟨n, h⟩)
theorem BT.mem_push {B : BT} {p a : Addr} : a ∈ (B.push p).all ↔ a = p ∨ a ∈ B.all := by
  unfold BT.push BT.all
  simp only [List.mem_append, List.mem_cons]
  constructor
  · rintro (h | h | h)
    · exact .inr (.inl h)
    · exact .inl h
    · exact .inr (.inr h)
  · rintro (h | h | h)
    · exact .inr (.inl h)
    · exact .inl h
    · exact .inr (.inr h)
theorem BT.add_push {B : BT} {p a : Addr} (h : a ∈ (B.add p).all) : a ∈ (B.push p).all := by
  rcases BT.mem_add h with h | h
  · exact BT.mem_push.mpr (.inr h)
  · exact BT.mem_push.mpr (.inl h)
theorem BT.mem_b {B : BT} {a : Addr} {n : Nat} (h : B.b[n]? = some a) : a ∈ B.all := List.mem_append_left _ (List.mem_of_getElem? h)
theorem BT.perm_push (B : BT) (p : Addr) : (B.push p).all.Perm (p :: B.all) := List.perm_middle

section
variable {K : PySem.W.Frag} {mg : Mg} {B : BT} {H : Hp} {S : Store}
theorem SR.refl (h : SR K mg B H S) : Ext B H B H := Ext.refl h.al
theorem SR.fresh (h : SR K mg B H S) {p : Addr} (hp : H p = none) : p ∉ B.all := fun q => by
  obtain ⟨o, e⟩ := h.al p q
  rw [hp] at e; cases e
/-- a new object beside the boxes -/
theorem SR.ext_new (h : SR K mg B H S) {p : Addr} (hp : H p = none) (o : HO) : Ext B H B (upd H p o) :=
  ⟨⟨[], by simp, by simp⟩, rfl, fun a u _ e => by rw [upd_ne (ne_of_none e hp)]; exact e, fun a ha => upd_ne fun q => h.fresh hp (by rw [← q]; exact List.mem_append_right _ ha), fun a ha => by
    obtain ⟨u, e⟩ := h.al a ha
    exact ⟨u, by rw [upd_ne (ne_of_none e hp)]; exact e⟩⟩
theorem SR.new (h : SR K mg B H S) {p : Addr} (hp : H p = none) (o : HO) : SR K mg B (upd H p o) S :=
  ⟨h.len, h.nd, (h.ext_new hp o).al, fun n c a h1 h2 => (h.cell n c a h1 h2).ex (h.ext_new hp o).ex fun u e => by rw [upd_ne (ne_of_none e hp)]; exact e⟩
/-- a new box -/
theorem SR.ext_box (h : SR K mg B H S) {p : Addr} (hp : H p = none) (o : HO) : Ext B H (B.add p) (upd H p o) :=
  ⟨⟨[p], rfl, fun a ha => by rw [List.mem_singleton.mp ha]; exact hp⟩, rfl, fun a u _ e => by rw [upd_ne (ne_of_none e hp)]; exact e, (h.ext_new hp o).tmp, fun a ha => by
    rcases BT.mem_add ha with ha | ha
    · obtain ⟨u, e⟩ := h.al a ha
      exact ⟨u, by rw [upd_ne (ne_of_none e hp)]; exact e⟩
    · rw [ha]
      exact ⟨o, upd_same⟩⟩
theorem add_get {b : List Addr} {S : Store} {p a : Addr} {n : Nat} {c c' : Cell} (hl : b.length = S.length) (h1 : (S ++ [c])[n]? = some c') (h2 : (b ++ [p])[n]? = some a) : (S[n]? = some c' ∧ b[n]? = some a) ∨ (c' = c ∧ a = p) := by
  by_cases hn : n < S.length
  · rw [List.getElem?_append_left hn] at h1
    rw [List.getElem?_append_left (by rw [hl]; exact hn)] at h2
    exact .inl ⟨h1, h2⟩
  · have hn' : n = S.length := by
      have := (List.getElem?_eq_some_iff.mp h1).1
      simp at this
      omega
    subst hn'
    rw [List.getElem?_append_right (Nat.le_refl _)] at h1
    rw [List.getElem?_append_right (by rw [hl]; exact Nat.le_refl _), hl] at h2
    simp at h1 h2
    exact .inr ⟨h1.symm, h2.symm⟩
theorem SR.box (h : SR K mg B H S) {p : Addr} (hp : H p = none) {o : HO} {c : Cell} (hc : CRl K mg (B.add p) (upd H p o) p c) : SR K mg (B.add p) (upd H p o) (S ++ [c]) := by
  have e := h.ext_box hp o
  refine ⟨by simp [BT.add, h.len], BT.nodup_add h.nd (h.fresh hp), e.al, fun n c' a h1 h2 => ?_⟩
  rcases add_get h.len h1 h2 with ⟨h1, h2⟩ | ⟨rfl, rfl⟩
  · exact (h.cell n c' a h1 h2).ex e.ex fun u q => by rw [upd_ne (ne_of_none q hp)]; exact q
  · exact hc
theorem nodup_get {B : List Addr} (hB : B.Nodup) {i j : Nat} {x : Addr} (a : B[i]? = some x) (b : B[j]? = some x) : i = j := by
  obtain ⟨h1, e1⟩ := List.getElem?_eq_some_iff.mp a
  obtain ⟨h2, e2⟩ := List.getElem?_eq_some_iff.mp b
  exact (List.getElem_inj hB).mp (e1.trans e2.symm)
theorem SR.ndb (h : SR K mg B H S) : B.b.Nodup := (List.nodup_append.mp h.nd).1
/-- a box is written -/
theorem SR.ext_write (h : SR K mg B H S) {n : Nat} {a : Addr} (ha : B.b[n]? = some a) (o : HO) : Ext B H B (upd H a o) := by
  have hm := BT.mem_b ha
  refine ⟨⟨[], by simp, by simp⟩, rfl, fun b u hb e => by rw [upd_ne (fun q : b = a => hb (by rw [q]; exact hm))]; exact e, fun b hb => upd_ne fun q => (List.nodup_append.mp h.nd).2.2 a (List.mem_of_getElem? ha) b hb q.symm, fun b hb => ?_⟩
  by_cases q : b = a
  · subst q; exact ⟨o, upd_same⟩
  · obtain ⟨u, e⟩ := h.al b hb
    exact ⟨u, by rw [upd_ne q]; exact e⟩
theorem SR.write (h : SR K mg B H S) {n : Nat} {a : Addr} (ha : B.b[n]? = some a) {o : HO} {c : Cell} (hc : CRl K mg B (upd H a o) a c) : SR K mg B (upd H a o) (S.set n c) := by
  have e := h.ext_write ha o
  refine ⟨by simp [h.len], h.nd, e.al, fun m c' b h1 h2 => ?_⟩
  by_cases hm : n = m
  · subst hm
    rw [ha] at h2; cases h2
    have hl : n < S.length := by
      have := (List.getElem?_eq_some_iff.mp h1).1
      simpa using this
    rw [List.getElem?_set_self hl] at h1
    cases h1
    exact hc
  · rw [List.getElem?_set_ne hm] at h1
    have hb : b ≠ a := fun q => hm (nodup_get h.ndb ha (q ▸ h2))
    exact (h.cell m c' b h1 h2).ex e.ex fun u q => by rw [upd_ne hb]; exact q

/-! something new is being made: p is set aside, is written, and comes back -/
theorem ex_push {p : Addr} (hp : H p = none) (o : HO) : Ex0 B H (B.push p) (upd H p o) :=
  ⟨fun a u n h => ⟨by rw [upd_ne (ne_of_none h hp)]; exact h, fun q => (BT.mem_push.mp q).elim (ne_of_none h hp) n⟩, fun _ _ h => h⟩
theorem ex_pop {p : Addr} : Ex0 (B.push p) H B H := ⟨fun a u n h => ⟨h, fun q => n (BT.mem_push.mpr (.inr q))⟩, fun _ _ h => h⟩
theorem ex_kept {p : Addr} : Ex0 (B.push p) H (B.add p) H :=
  ⟨fun a u n h => ⟨h, fun q => n (BT.add_push q)⟩, fun n a h => by
    have h : B.b[n]? = some a := h
    show (B.b ++ [p])[n]? = some a
    rw [List.getElem?_append_left (List.getElem?_eq_some_iff.mp h).1]; exact h⟩
theorem ex_temp {p : Addr} (hp : p ∈ B.t) (o : HO) : Ex0 B H B (upd H p o) :=
  ⟨fun a u n h => ⟨by rw [upd_ne (fun q => n (by rw [q]; exact List.mem_append_right _ hp))]; exact h, n⟩, fun _ _ h => h⟩
theorem SR.push (h : SR K mg B H S) {p : Addr} (hp : H p = none) (o : HO) : SR K mg (B.push p) (upd H p o) S := by
  have ne : ∀ a ∈ B.all, a ≠ p := fun a ha q => h.fresh hp (q ▸ ha)
  refine ⟨h.len, (B.perm_push p).nodup_iff.mpr (List.nodup_cons.mpr ⟨h.fresh hp, h.nd⟩), fun a ha => ?_, fun n c a h1 h2 => (h.cell n c a h1 h2).ex (ex_push hp o) fun u e => by rw [upd_ne (ne_of_none e hp)]; exact e⟩
  rcases BT.mem_push.mp ha with rfl | ha
  · exact ⟨o, upd_same⟩
  · obtain ⟨u, e⟩ := h.al a ha
    exact ⟨u, by rw [upd_ne (ne a ha)]; exact e⟩
theorem SR.pop {p : Addr} (h : SR K mg (B.push p) H S) : SR K mg B H S :=
  ⟨h.len, (List.nodup_cons.mp ((B.perm_push p).nodup_iff.mp h.nd)).2, fun a ha => h.al a (BT.mem_push.mpr (.inr ha)), fun n c a h1 h2 => (h.cell n c a h1 h2).ex ex_pop fun _ z => z⟩
theorem SR.popped {p : Addr} (h : SR K mg (B.push p) H S) : p ∉ B.all := (List.nodup_cons.mp ((B.perm_push p).nodup_iff.mp h.nd)).1
/-- what is being made is written -/
theorem SR.temp (h : SR K mg B H S) {p : Addr} (hp : p ∈ B.t) (o : HO) : SR K mg B (upd H p o) S := by
  refine ⟨h.len, h.nd, fun a ha => ?_, fun m c' b h1 h2 => (h.cell m c' b h1 h2).ex (ex_temp hp o) fun u q => ?_⟩
  · by_cases q : a = p
    · subst q; exact ⟨o, upd_same⟩
    · obtain ⟨u, e⟩ := h.al a ha
      exact ⟨u, by rw [upd_ne q]; exact e⟩
  · rw [upd_ne fun q : b = p => (List.nodup_append.mp h.nd).2.2 b (List.mem_of_getElem? h2) p hp q]; exact q
/-- what was being made becomes a box -/
theorem SR.keepBox {p : Addr} (h : SR K mg (B.push p) H S) {c : Cell} (hc : CRl K mg (B.add p) H p c) : SR K mg (B.add p) H (S ++ [c]) := by
  have hl : B.b.length = S.length := h.len
  refine ⟨by simp [BT.add, hl], BT.nodup_add h.pop.nd h.popped, fun a ha => h.al a (BT.add_push ha), fun n c' a h1 h2 => ?_⟩
  rcases add_get hl h1 h2 with ⟨h1, h2⟩ | ⟨rfl, rfl⟩
  · exact (h.cell n c' a h1 h2).ex ex_kept fun _ z => z
  · exact hc
theorem Ext.keepBox {B0 : BT} {H0 : Hp} {p : Addr} (x : Ext B0 H0 B H) (hp : H0 p = Option.none) {o : HO} (ho : H p = some o) : Ext B0 H0 (B.add p) H := by
  obtain ⟨m, e1, hm⟩ := x.more
  refine ⟨⟨m ++ [p], by show B.b ++ [p] = _; rw [e1, List.append_assoc], fun a ha => ?_⟩, x.same, fun a u n h => x.keep a u n h, x.tmp, fun a ha => ?_⟩
  · rcases List.mem_append.mp ha with q | q
    · exact hm a q
    · rw [List.mem_singleton.mp q]; exact hp
  · rcases BT.mem_add ha with q | q
    · exact x.al a q
    · rw [q]; exact ⟨o, ho⟩
/-- a step that goes on while p is set aside -/
theorem Ext.inner {B0 B1 : BT} {H0 H1 : Hp} {p : Addr} (x : Ext B0 H0 B H) (hp : H0 p = Option.none) (y : Ext (B.push p) H (B1.push p) H1) : Ext B0 H0 B1 H1 := by
  obtain ⟨m1, e1, n1⟩ := x.more
  obtain ⟨m2, e2, n2⟩ := y.more
  have e2 : B1.b = B.b ++ m2 := e2
  have e3 : p :: B1.t = p :: B.t := y.same
  have e3 := (List.cons.inj e3).2
  refine ⟨⟨m1 ++ m2, by rw [e2, e1, List.append_assoc], fun a ha => ?_⟩, e3.trans x.same, fun a o n h => y.keep a o (fun q => (BT.mem_push.mp q).elim (ne_of_none h hp) (x.not_mem h n)) (x.keep a o n h), fun a ha => (y.tmp a (List.mem_cons_of_mem _ (by rw [x.same]; exact ha))).trans (x.tmp a ha), fun a ha => y.al a (BT.mem_push.mpr (.inr ha))⟩
  rcases List.mem_append.mp ha with q | q
  · exact n1 a q
  · exact x.none (n2 a q)
/-- what is set aside is written -/
theorem Ext.aside {B0 : BT} {H0 : Hp} {p : Addr} (x : Ext B0 H0 B H) (hp : H0 p = Option.none) (np : p ∉ B.all) (o : HO) : Ext B0 H0 B (upd H p o) := by
  refine ⟨x.more, x.same, fun a u n h => by rw [upd_ne (ne_of_none h hp)]; exact x.keep a u n h, fun a ha => ?_, fun a ha => ?_⟩
  · rw [upd_ne fun q => np (by rw [← q]; exact List.mem_append_right _ (by rw [x.same]; exact ha))]
    exact x.tmp a ha
  · obtain ⟨u, e⟩ := x.al a ha
    exact ⟨u, by rw [upd_ne fun q => np (by rw [← q]; exact ha)]; exact e⟩
theorem Ext.pushed {B1 : BT} {H1 : Hp} {p : Addr} (x : Ext (B.push p) H B1 H1) : ∃ B2 : BT, B1 = B2.push p := by
  obtain ⟨b, t⟩ := B1
  have e : t = p :: B.t := x.same
  subst e
  exact ⟨⟨b, B.t⟩, rfl⟩
end

/-! ### the meaning of a piece of syntax -/
abbrev M := EnvI → Store → Option (D × Store)
abbrev Ms := EnvI → Store → Option (List D × Store)
/-- how a statement ends -/
inductive Fl where
  | nx | rt (d : D) | bk | ct
abbrev MS := EnvI → Store → Option (Fl × EnvI × Store)
/-- a target -/
abbrev MG := D → EnvI → Store → Option (EnvI × Store)
/-- what is walked: all its items -/
abbrev MI := EnvI → Store → Option (List D × Store)

section
variable (K : PySem.W.Frag) (mg : Mg)
/-- ahead: the boxes and slots stand as ev, S -/
def At (B : BT) (H : Hp) (ev : EnvI) (σ : St) (S : Store) : Prop := SR K mg B H S ∧ ER K mg B H ev σ
def tM (m : M) : TE := fun σ H Q => ∃ B ev S d S', SR K mg B H S ∧ ER K mg B H ev σ ∧ m ev S = some (d, S') ∧
  ∀ B' H' v, Ext B H B' H' → SR K mg B' H' S' → RD K mg B' H' d v → Q v H'
def tMs (m : Ms) : TA := fun σ H Q => ∃ B ev S d S', SR K mg B H S ∧ ER K mg B H ev σ ∧ m ev S = some (d, S') ∧
  ∀ B' H' v, Ext B H B' H' → SR K mg B' H' S' → RDs K mg B' H' d v → Q v H'
/-- a test -/
def tMt (m : M) : TT := fun σ H Q => ∃ B ev S b S', SR K mg B H S ∧ ER K mg B H ev σ ∧ m ev S = some (.p (.bool b), S') ∧
  ∀ B' H', Ext B H B' H' → SR K mg B' H' S' → Q b H'
def tMS (m : MS) : TS := fun D σ H => ∃ B ev S f ev' S', SR K mg B H S ∧ ER K mg B H ev σ ∧ m ev S = some (f, ev', S') ∧
  ∀ B' H', Ext B H B' H' → SR K mg B' H' S' →
    match f with
    | .nx => ∀ σ', ER K mg B' H' ev' σ' → D.nx σ' H'
    | .bk => ∀ σ', ER K mg B' H' ev' σ' → D.bk σ' H'
    | .ct => ∀ σ', ER K mg B' H' ev' σ' → D.ct σ' H'
    | .rt d => ∀ v, RD K mg B' H' d v → D.rt v H'
def tMG (m : MG) : TG := fun v σ H Q => ∃ B ev S d ev' S', SR K mg B H S ∧ ER K mg B H ev σ ∧ RD K mg B H d v ∧ m d ev S = some (ev', S') ∧
  ∀ B' H' σ', Ext B H B' H' → SR K mg B' H' S' → ER K mg B' H' ev' σ' → Q σ' H'
end
end PI
set_option maxHeartbeats 1000000
/-! Own text: operators of the small language, and that they are the model's. -/
namespace PI
open PySem L2

/-! ### looking at values -/
def lstOf (S : Store) : D → Option (List D)
  | .p (.list xs) => some (xs.map .p)
  | .ref n => match S[n]? with
    | some (.lst ys) => some ys
    | _ => none
  | _ => none
def allP : List D → Option (List PyData)
  | [] => some []
  | .p x :: r => (allP r).map (x :: ·)
  | _ :: _ => none
theorem allP_eq : ∀ {xs : List D} {ys : List PyData}, allP xs = some ys → xs = ys.map .p
  | [], ys, h => by simp [allP] at h; subst h; rfl
  | .p x :: r, ys, h => by
    simp only [allP] at h
    cases e : allP r with
    | none => rw [e] at h; cases h
    | some zs =>
      rw [e] at h
      simp at h
      subst h
      rw [List.map_cons, ← allP_eq e]
  | .ref _ :: _, _, h => by simp [allP] at h
  | .fn _ :: _, _, h => by simp [allP] at h
  | .ty _ :: _, _, h => by simp [allP] at h
theorem allP_map : ∀ ys : List PyData, allP (ys.map .p) = some ys
  | [] => rfl
  | y :: ys => by simp [allP, allP_map ys]
/-- a new list; bx: boxed -/
def mkL (bx : Bool) (xs : List D) (S : Store) : Option (D × Store) :=
  if xs.length ≤ sizeLine then
    (if bx then some (.ref S.length, S ++ [.lst xs]) else (allP xs).map fun ys => (.p (.list ys), S))
  else none
def mkT (xs : List PyData) (S : Store) : Option (D × Store) := if xs.length ≤ sizeLine then some (.p (.tuple xs), S) else none
def isTru : D → Option Bool
  | .p (.bool b) => some b
  | _ => none
def keyP : PyData → Option Key
  | .int i => some (.inl i)
  | .str x => some (.inr x)
  | _ => none
theorem keyP_eq {x : PyData} {k : Key} (h : keyP x = some k) : x = kP k := by
  cases x <;> simp [keyP] at h <;> subst h <;> rfl

section
variable {K : PySem.W.Frag} {mg : Mg} {B : BT} {H : Hp} {S : Store}
theorem dqAll_map : ∀ {vs : List V} {ds : List PyData}, DqAll K B H vs ds ↔ RDs K mg B H (ds.map .p) vs
  | [], [] => ⟨fun _ => .nil, fun _ => .nil⟩
  | [], _ :: _ => ⟨fun h => (by cases h), fun h => (by cases h)⟩
  | _ :: _, [] => ⟨fun h => (by cases h), fun h => (by cases h)⟩
  | v :: vs, d :: ds => ⟨fun h => by
      cases h with
      | cons h1 h2 => exact .cons h1 (dqAll_map.mp h2), fun h => by
      cases h with
      | cons h1 h2 => exact .cons h1 (dqAll_map.mpr h2)⟩
theorem lst_ok (h : SR K mg B H S) {d : D} {v : V} {xs : List D} (r : RD K mg B H d v) (e : lstOf S d = some xs) : ∃ a vs, v = .ref a ∧ Rd H a (.lst vs) ∧ RDs K mg B H xs vs := by
  cases d with
  | p x =>
    cases x with
    | list ys =>
      simp only [lstOf, Option.some.injEq] at e
      subst e
      cases r with
      | lst h1 h2 => exact ⟨_, _, rfl, h1.1, dqAll_map.mp h2⟩
    | _ => simp [lstOf] at e
  | ref n =>
    obtain ⟨a, h1, rfl⟩ := r
    simp only [lstOf] at e
    cases q : S[n]? with
    | none => rw [q] at e; cases e
    | some c =>
      rw [q] at e
      cases c with
      | lst ys =>
        simp only [Option.some.injEq] at e
        subst e
        obtain ⟨vs, h2, h3⟩ := h.cell n _ a q h1
        exact ⟨a, vs, rfl, .inl h2, h3⟩
      | _ => cases e
  | fn _ => cases e
  | ty _ => cases e
theorem mkL_ok (h : SR K mg B H S) {bx : Bool} {xs : List D} {vs : List V} {d : D} {S' : Store} (r : RDs K mg B H xs vs) (e : mkL bx xs S = some (d, S')) {p : Addr} (hp : H p = none) :
    vs.length ≤ sizeLine ∧ ∃ B', Ext B H B' (upd H p (.lst vs)) ∧ SR K mg B' (upd H p (.lst vs)) S' ∧ RD K mg B' (upd H p (.lst vs)) d (.ref p) := by
  unfold mkL at e
  have hl := Paired.length r
  split at e
  · rename_i hz
    refine ⟨by rw [← hl]; exact hz, ?_⟩
    cases bx with
    | true =>
      simp only [if_true, Option.some.injEq, Prod.mk.injEq] at e
      obtain ⟨rfl, rfl⟩ := e
      have x := h.ext_box hp (.lst vs)
      exact ⟨B.add p, x, h.box hp ⟨vs, upd_same, RDs.ext x r⟩, p, (by show (B.b ++ [p])[S.length]? = some p; rw [← h.len]; simp), rfl⟩
    | false =>
      simp only [Bool.false_eq_true, if_false] at e
      cases q : allP xs with
      | none => rw [q] at e; cases e
      | some ys =>
        rw [q] at e
        simp only [Option.map_some, Option.some.injEq, Prod.mk.injEq] at e
        obtain ⟨rfl, rfl⟩ := e
        have hx := allP_eq q
        subst hx
        have x := h.ext_new hp (.lst vs)
        exact ⟨B, x, h.new hp _, .lst ⟨.inl upd_same, h.fresh hp⟩ (dqAll_map.mpr (RDs.ext x r))⟩
  · cases e
theorem mkT_ok (h : SR K mg B H S) {xs : List PyData} {vs : List V} {d : D} {S' : Store} (r : DqAll K B H vs xs) (e : mkT xs S = some (d, S')) {p : Addr} (hp : H p = none) :
    vs.length ≤ sizeLine ∧ ∀ o : Obj, o.dict = none → Ext B H B (upd H p (.frz o (.tup vs))) ∧ SR K mg B (upd H p (.frz o (.tup vs))) S' ∧ RD K mg B (upd H p (.frz o (.tup vs))) d (.ref p) := by
  unfold mkT at e
  have hl := Paired.length (dqAll_map (mg := mg).mp r)
  rw [List.length_map] at hl
  split at e
  · rename_i hz
    simp only [Option.some.injEq, Prod.mk.injEq] at e
    obtain ⟨rfl, rfl⟩ := e
    refine ⟨by rw [← hl]; exact hz, fun o ho => ?_⟩
    have x := h.ext_new hp (.frz o (.tup vs))
    exact ⟨x, h.new hp _, .tup (.inl ⟨.inr ⟨o, upd_same⟩, h.fresh hp⟩) (DqAll.ext x r) fun _ => .inl ⟨o, _, upd_same, ho, h.fresh hp⟩⟩
  · cases e
end

/-! ### the model's rules over lists that are read -/
section
variable {X : Cx} {pins : List (Addr × Obj)} {σ : St} {H : Hp} {s : Shared}
theorem lstR (I : Inv X pins σ H s) {l : Addr} {xs : List V} (hH : Rd H l (.lst xs)) : xs.length ≤ sizeLine ∧ ∃ (its : List Value) (n : Nat), Vals xs its ∧ xs.length = its.length ∧ s.heap.get? l = some { cls := .type "list", data := .seq its.toArray n } := by
  rcases hH.ok I.hok with ⟨small, us, m, same, there⟩
  exact ⟨small, us, m, same, same.length, there⟩
def rCatR : R2 := fun x y H Q => ∃ l b xs zs, x = .ref l ∧ y = .ref b ∧ Rd H l (.lst xs) ∧ Rd H b (.lst zs) ∧ xs.length + zs.length ≤ sizeLine ∧ ∀ p, H p = none → Q (.ref p) (upd H p (.lst (xs ++ zs)))
theorem op_catR : OpR X (binaryOp .Add) rCatR := fun pins s σ H x y v u Q I rx ry hh => by
  rcases hh with ⟨a, b, as, bs, ex, ey, ra, rb, room, q⟩
  subst ex ey
  obtain rfl : v = .ref a := rx
  obtain rfl : u = .ref b := ry
  rcases lstR I ra with ⟨_, va, na, pa, la, ga⟩
  rcases lstR I rb with ⟨_, vb, nb, pb, lb, gb⟩
  have small : va.toArray.size + vb.toArray.size ≤ sizeLine := by simpa [← la, ← lb] using room
  refine PySem.P.add_list ga gb ?_ small
  rw [show va.toArray ++ vb.toArray = (va ++ vb).toArray by simp]
  refine ⟨.ref _, _, I.lnew (t' := s.toks) (pa.append pb) ?_, rfl, q _ I.fresh⟩
  simpa using room
def rRepR : R2 := fun x y H Q => ∃ a m as, x = .ref a ∧ y = .int m ∧ Rd H a (.lst as) ∧ (-(2 ^ 63) ≤ m ∧ m < 2 ^ 63) ∧ as.length * m.toNat ≤ sizeLine ∧ ∀ p, H p = none → Q (.ref p) (upd H p (.lst (List.replicate m.toNat as).flatten))
/-- a tuple that was made just now -/
def newT (us : List Value) : Obj := { cls := .type "tuple", data := .seq us.toArray }
theorem laidT (I : Inv X pins σ H s) {xs : List V} {us : List Value} (r : Vals xs us) (small : xs.length ≤ sizeLine) (t : Tok) : Inv X pins σ (upd H s.heap.objs.size (.frz (newT us) (.tup xs))) { s with heap := s.heap.push (newT us), toks := t } :=
  I.laid (fun _ _ e => Heap.get?_push_of_some _ e) (Nat.le_refl _) ⟨Heap.get?_push_size _ rfl, small, us, r, PyProof.Rows.IsTup.new _ _⟩
/-- what is wanted of a tuple that is made -/
def NewT (H : Hp) (xs : List V) (Q : VK) : Prop := ∀ (p : Addr) (o : Obj), H p = none → o.dict = none → Q (.ref p) (upd H p (.frz o (.tup xs)))
theorem NewT.end {xs : List V} {us : List Value} {Q : VK} (q : NewT H xs Q) (I : Inv X pins σ H s) (r : Vals xs us) (small : xs.length ≤ sizeLine) : EP X pins σ Q (.ref s.heap.objs.size) { s with heap := s.heap.push (newT us) } :=
  ⟨.ref _, _, laidT I r small s.toks, rfl, q _ _ I.fresh rfl⟩
/-- t + u, the new tuple known -/
def rCatB (K : PySem.W.Frag) : R2 := fun x y H Q => ∃ a b as bs, x = .ref a ∧ y = .ref b ∧ SqT K H a as ∧ SqT K H b bs ∧ as.length + bs.length ≤ sizeLine ∧ (as = [] → Q (.ref b) H) ∧ (as ≠ [] → bs = [] → Q (.ref a) H) ∧ (as ≠ [] → bs ≠ [] → NewT H (as ++ bs) Q)
theorem op_catB : OpR X (binaryOp .Add) (rCatB X.K) := fun pins s σ H x y v u Q I rx ry hh => by
  rcases hh with ⟨a, b, as, bs, ex, ey, ta, tb, room, q0, q1, q2⟩
  subst ex ey
  by_cases ha : as = []
  · exact op_catA pins s σ H _ _ v u Q I rx ry ⟨a, b, as, bs, rfl, rfl, ta, tb, room, q0, fun n => absurd ha n, fun n => absurd ha n⟩
  by_cases hb : bs = []
  · exact op_catA pins s σ H _ _ v u Q I rx ry ⟨a, b, as, bs, rfl, rfl, ta, tb, room, fun n => absurd n ha, q1, fun _ n => absurd hb n⟩
  obtain rfl : v = .ref a := rx
  obtain rfl : u = .ref b := ry
  rcases I.tuple ta with ⟨va, pa, ga, _⟩
  rcases I.tuple tb with ⟨vb, pb, gb, _⟩
  refine HT.cat_tup ga gb (fun z => ha (pa.nil_iff.mp z)) (fun z => absurd (pb.nil_iff.mp z) hb) (fun _ => ?_) (by rw [← pa.length, ← pb.length]; exact room)
  exact (q2 ha hb).end I (pa.append pb) (by rw [List.length_append]; exact room)
/-! t * 1 is t, t * 0 a new empty tuple -/
theorem mul_one {l : Addr} {us : Array Value} {n : Nat} {dd : Option Addr} {sl : Array (Option Value)} {u : Tok} :
    Meets (Builtin.«tuple.__mul__» ⟨[.ref l, .int 1 u], []⟩) (fun _ R s => s.heap.get? l = some { cls := .type "tuple", dict := dd, data := .seq us n, slots := sl } ∧ R (.ok (.ret (.ref l))) s) := .of_wp fun prog w A R s h => by
  obtain ⟨hp, g, d, tk, os⟩ := s
  obtain ⟨hl, h⟩ := h
  have f1 := AutoSeq1.idx_int
  wp_walk using wpAny_loadPart' hl
  exact ⟨_, rfl, h⟩
theorem mul_zero {l : Addr} {us : Array Value} {n : Nat} {dd : Option Addr} {sl : Array (Option Value)} {u : Tok} (c1 : (us.isEmpty || (0 : Int) == 1) = false) :
    Meets (Builtin.«tuple.__mul__» ⟨[.ref l, .int 0 u], []⟩) (fun _ R s => s.heap.get? l = some { cls := .type "tuple", dict := dd, data := .seq us n, slots := sl } ∧ R (.ok (.ret (Value.ref s.heap.objs.size))) { s with heap := s.heap.push (newT []), toks := s.toks }) := .of_wp fun prog w A R s h => by
  obtain ⟨hp, g, d, tk, os⟩ := s
  obtain ⟨hl, h⟩ := h
  have f1 := AutoSeq1.idx_int
  wp_walk using wpAny_loadPart' hl
  repeat (first
      | (refine wpAny_ite_false (decide_eq_false (by rw [c1]; exact Bool.false_ne_true)) ?_; wp_walk using wpAny_loadPart' hl))
  exact ⟨_, rfl, h⟩
def rRep1 (K : PySem.W.Frag) : R2 := fun x y H Q => ∃ a as, x = .ref a ∧ y = .int 1 ∧ SqT K H a as ∧ Q (.ref a) H
theorem op_rep1 : OpR X (binaryOp .Mult) (rRep1 X.K) := fun pins s σ H x y v u Q I rx ry hh => by
  rcases hh with ⟨a, as, ex, ey, ta, q⟩
  subst ex ey
  obtain rfl : v = .ref a := rx
  obtain ⟨t, rfl⟩ : ∃ t, u = .int 1 t := ry
  rcases I.tuple ta with ⟨va, pa, ⟨⟨c, dd, dt, sl⟩, ga, hc, n, hd⟩, _⟩
  simp only at hc hd
  subst hc hd
  exact wpAny_binaryOp_repeat_ref (T := "tuple") (U := "int") (by decide) ⟨_, ga, rfl⟩ (fun r => typeIs_int r 1 t) noFill_tuple_mul F.fills_int_mul F.slot_int_rmul repeat_tuple F.slot_int_index.lookup
    (call_meets F.slot_int_rmul (typeIs_int s 1 t) F.entry_int_rmul (F.args_int_rmul_2 _ _) (int_rmul_tuple 1 t a va.toArray n dd sl) ⟨ga, rfl, ⟨_, ga, rfl⟩, call_meets F.slot_tuple_mul ⟨_, ga, rfl⟩ F.entry_tuple_mul (F.args_tuple_mul_2 _ _) mul_one ⟨ga, .ref _, _, I, rfl, q⟩⟩)
def rRep0 (K : PySem.W.Frag) : R2 := fun x y H Q => ∃ a as, x = .ref a ∧ y = .int 0 ∧ as ≠ [] ∧ SqT K H a as ∧ NewT H [] Q
theorem op_rep0 : OpR X (binaryOp .Mult) (rRep0 X.K) := fun pins s σ H x y v u Q I rx ry hh => by
  rcases hh with ⟨a, as, ex, ey, ne, ta, q⟩
  subst ex ey
  obtain rfl : v = .ref a := rx
  obtain ⟨t, rfl⟩ : ∃ t, u = .int 0 t := ry
  rcases I.tuple ta with ⟨va, pa, ⟨⟨c, dd, dt, sl⟩, ga, hc, n, hd⟩, _⟩
  simp only at hc hd
  subst hc hd
  have em : (va.toArray.isEmpty || (0 : Int) == 1) = false := by
    cases va with
    | nil => exact absurd (by cases pa; rfl) ne
    | cons x y => rfl
  exact wpAny_binaryOp_repeat_ref (T := "tuple") (U := "int") (by decide) ⟨_, ga, rfl⟩ (fun r => typeIs_int r 0 t) noFill_tuple_mul F.fills_int_mul F.slot_int_rmul repeat_tuple F.slot_int_index.lookup
    (call_meets F.slot_int_rmul (typeIs_int s 0 t) F.entry_int_rmul (F.args_int_rmul_2 _ _) (int_rmul_tuple 0 t a va.toArray n dd sl) ⟨ga, rfl, ⟨_, ga, rfl⟩, call_meets F.slot_tuple_mul ⟨_, ga, rfl⟩ F.entry_tuple_mul (F.args_tuple_mul_2 _ _) (mul_zero em) ⟨ga, q.end I .nil (Nat.zero_le _)⟩⟩)
/-- the folds that the rule tells -/
theorem fold_times (m : Nat) (us : List Value) : List.foldl (fun a b => a ++ b) #[] (List.replicate (if us.toArray.isEmpty = true then 0 else m) us.toArray) = (List.replicate m us).flatten.toArray := by
  have go : ∀ k : Nat, List.foldl (fun a b => a ++ b) #[] (List.replicate k us.toArray) = (List.replicate k us).flatten.toArray := fun k => by simpa using foldl_rep us k []
  by_cases h : us = []
  · subst h; rw [go]; simp
  · rw [go, if_neg (by simpa using h)]
def rRepN (K : PySem.W.Frag) : R2 := fun x y H Q => ∃ a k as, x = .ref a ∧ y = .int k ∧ SqT K H a as ∧ as ≠ [] ∧ 2 ≤ k ∧ k ≤ 1000 ∧ as.length ≤ 1000 ∧ NewT H (List.replicate k.toNat as).flatten Q
theorem op_repN : OpR X (binaryOp .Mult) (rRepN X.K) := fun pins s σ H x y v u Q I rx ry hh => by
  rcases hh with ⟨a, k, as, ex, ey, ta, ne, lo, hi, la, q⟩
  subst ex ey
  obtain rfl : v = .ref a := rx
  obtain ⟨t, rfl⟩ : ∃ t, u = .int k t := ry
  rcases I.tuple ta with ⟨va, pa, ⟨⟨c, dd, dt, sl⟩, ga, hc, n, hd⟩, _⟩
  simp only at hc hd
  subst hc hd
  have lv := pa.length
  have big : as.length * k.toNat ≤ 1000000 := (Nat.mul_le_mul la (by omega : k.toNat ≤ 1000) : _ ≤ 1000 * 1000)
  have em : va.toArray.isEmpty = false := by
    cases va with
    | nil => exact absurd (by cases pa; rfl) ne
    | cons x y => rfl
  have bigI : ((va.toArray.size : Nat) : Int) * k ≤ 1000000 := by
    have e : ((va.toArray.size : Nat) : Int) * k = ((as.length * k.toNat : Nat) : Int) := by
      rw [List.size_toArray, ← lv, Int.natCast_mul, Int.toNat_of_nonneg (by omega)]
    omega
  have room : (List.replicate k.toNat as).flatten.length ≤ sizeLine := by
    rw [PyProof.Rows.lm_len_rep_flat, Nat.mul_comm]
    exact Nat.le_trans big (by decide)
  have room2 : (List.replicate k.toNat va).flatten.length ≤ sizeLine := by
    rw [← (pa.rep k.toNat).length]
    exact room
  have f := fold_times k.toNat va
  rw [em, if_neg Bool.false_ne_true] at f
  refine wpAny_binaryOp_repeat_ref (T := "tuple") (U := "int") (by decide) ⟨_, ga, rfl⟩ (fun r => typeIs_int r k t) noFill_tuple_mul F.fills_int_mul F.slot_int_rmul repeat_tuple F.slot_int_index.lookup
    (call_meets F.slot_int_rmul (typeIs_int s k t) F.entry_int_rmul (F.args_int_rmul_2 _ _) (int_rmul_tuple k t a va.toArray n dd sl) ⟨ga, rfl, ⟨_, ga, rfl⟩, call_meets F.slot_tuple_mul ⟨_, ga, rfl⟩ F.entry_tuple_mul (F.args_tuple_mul_2 _ _)
      (tuple_mulW a va.toArray n dd sl k t (by simp; omega) (by simp [em]; omega) (by simp [em]; omega) (by omega) (decide_eq_false (by rw [show sizeLine = 16777216 from rfl]; omega)) (by rw [f, List.size_toArray]; exact room2)) ⟨ga, ?_⟩⟩)
  rw [f]
  exact q.end I (pa.rep k.toNat) room
theorem op_repR : OpR X (binaryOp .Mult) rRepR := fun pins s σ H x y v u Q I rx ry hh => by
  rcases hh with ⟨a, m, as, ex, ey, ra, ⟨lo, hi⟩, room, q⟩
  subst ex ey
  obtain rfl : v = .ref a := rx
  obtain ⟨t, rfl⟩ : ∃ t, u = .int m t := ry
  rcases lstR I ra with ⟨_, va, na, pa, la, ga⟩
  have small : va.toArray.size * m.toNat ≤ sizeLine := by simpa [← la] using room
  have cap : ¬ va.toArray.size * m.toNat > (2 ^ 63 - 1) / 8 := Nat.not_lt.mpr (Nat.le_trans small (by decide))
  have fit : ¬ (!Builtin.List.listFitsIndex m) = true := by simp [fitsIndex_both lo hi]
  have long : ¬ Builtin.List.listTooLong (va.toArray.size * m.toNat) = true := by rw [notLongL small]; decide
  have isL : s.TypeIs (.ref a) "list" := ⟨_, ga, rfl⟩
  refine wpAny_binaryOp_repeat_ref (T := "list") (U := "int") (by decide) isL (fun r => typeIs_int r m t) noFill_list_mul F.fills_int_mul F.slot_int_rmul repeat_list F.slot_int_index.lookup ?_
  refine call_meets F.slot_int_rmul (typeIs_int s m t) F.entry_int_rmul (F.args_int_rmul_2 _ _) (int___rmul___int_list m t a va.toArray na) ⟨ga, rfl, isL, ?_⟩
  refine call_meets F.slot_list_mul isL F.entry_list_mul (F.args_list_mul_2 _ _) (AutoListH.list___mul___list_int_3 a va.toArray na m t fit cap long) ⟨ga, ?_⟩
  rw [fold_times]
  refine ⟨.ref _, _, I.lnew (t' := s.toks) (pa.rep m.toNat) ?_, rfl, q _ I.fresh⟩
  rw [PyProof.Rows.lm_len_rep_flat, Nat.mul_comm]
  exact room
end

/-! ### binary operators -/
def intOp (op : Operator) (i j : Int) : Option Int := match op with
  | .Add => some (i + j)
  | .Sub => some (i - j)
  | .Mult => if (-(2 ^ 64) < i ∧ i < 2 ^ 64) ∨ (-(2 ^ 64) < j ∧ j < 2 ^ 64) then some (i * j) else none
  | .Mod => if 0 < j then some (i % j) else none
  | .FloorDiv => if 0 < j ∧ j < 1073741824 then some (i / j) else none
  | .Pow => if 0 ≤ j ∧ j ≤ 1000000 ∧ i.natAbs < 2 ^ 64 then some (i ^ j.toNat) else none
  | .LShift => if 0 ≤ j ∧ j ≤ 1000000 ∧ i.natAbs < 2 ^ 64 then some (i * 2 ^ j.toNat) else none
  | .RShift => if 0 ≤ j then some (i / 2 ^ j.toNat) else none
  | .BitAnd => some (Builtin.bitAnd i j)
  | .BitOr => some (Builtin.bitOr i j)
  | .BitXor => some (Builtin.bitXor i j)
  | _ => none
def seqOp (bx : Bool) (op : Operator) (S : Store) (x y : D) : Option (D × Store) := match op with
  | .Add => (match x, y with
    | .p (.str a), .p (.str b) => if a.length + b.length ≤ sizeLine then some (.p (.str (a ++ b)), S) else none
    | .p (.tuple a), .p (.tuple b) => mkT (a ++ b) S
    | _, _ => (match lstOf S x, lstOf S y with
      | some xs, some ys => mkL bx (xs ++ ys) S
      | _, _ => none))
  | .Mult => (match x, y with
    | .p (.tuple a), .p (.int k) => if a ≠ [] ∧ k = 1 then some (.p (.tuple a), S) else if a ≠ [] ∧ k = 0 then some (.p (.tuple []), S) else if a ≠ [] ∧ 2 ≤ k ∧ k ≤ 1000 ∧ a.length ≤ 1000 then some (.p (.tuple (List.replicate k.toNat a).flatten), S) else none
    | _, .p (.int k) => (match lstOf S x with
      | some xs => if -(2 ^ 63) ≤ k ∧ k < 2 ^ 63 then mkL bx (List.replicate k.toNat xs).flatten S else none
      | none => none)
    | _, _ => none)
  | _ => none
def binI (bx : Bool) (op : Operator) (S : Store) (x y : D) : Option (D × Store) := match x, y with
  | .p (.int i), .p (.int j) => (intOp op i j).map fun k => (.p (.int k), S)
  | _, _ => seqOp bx op S x y

/-- the wish: whatever stands behind -/
def Post (K : PySem.W.Frag) (mg : Mg) (B : BT) (H : Hp) (d : D) (S' : Store) (Q : VK) : Prop := ∀ B' H' v, Ext B H B' H' → SR K mg B' H' S' → RD K mg B' H' d v → Q v H'

section
variable {X : Cx} {pins : List (Addr × Obj)} {σ : St} {H : Hp} {s : Shared} {B : BT} {S S' : Store} {d dx dy : D} {vx vy : V} {v u : Value} {Q : VK}
theorem Post.same (h : SR X.K X.mg B H S) (p : Post X.K X.mg B H d S Q) {w : V} (r : RD X.K X.mg B H d w) : Q w H := p B H w h.refl h r
theorem intOp_ok (op : Operator) {i j k : Int} (I : Inv X pins σ H s) (rx : RelV (.int i) v) (ry : RelV (.int j) u) (e : intOp op i j = some k) (q : Q (.int k) H) :
    wpAny (model X.prog X.w) X.A (binaryOp op v u) (EP X pins σ Q) X.xe s := by
  cases op <;> simp only [intOp] at e
  case Add => cases e; exact op_add pins s σ H _ _ v u Q I rx ry ⟨_, _, rfl, rfl, q⟩
  case Sub => cases e; exact op_sub pins s σ H _ _ v u Q I rx ry ⟨_, _, rfl, rfl, q⟩
  case Mult =>
    split at e
    · cases e; exact op_mul pins s σ H _ _ v u Q I rx ry ⟨_, _, rfl, rfl, (by assumption), q⟩
    · cases e
  case Mod =>
    split at e
    · cases e; exact op_mod pins s σ H _ _ v u Q I rx ry ⟨_, _, rfl, rfl, (by assumption), q⟩
    · cases e
  case Pow =>
    split at e
    · cases e; exact op_pow pins s σ H _ _ v u Q I rx ry ⟨_, _, rfl, rfl, (by assumption), q⟩
    · cases e
  case LShift =>
    split at e
    · cases e; exact op_shl pins s σ H _ _ v u Q I rx ry ⟨_, _, rfl, rfl, (by assumption), q⟩
    · cases e
  case RShift =>
    split at e
    · cases e; exact op_shr pins s σ H _ _ v u Q I rx ry ⟨_, _, rfl, rfl, (by assumption), q⟩
    · cases e
  case BitOr => cases e; exact op_or pins s σ H _ _ v u Q I rx ry ⟨_, _, rfl, rfl, q⟩
  case BitXor => cases e; exact op_xor pins s σ H _ _ v u Q I rx ry ⟨_, _, rfl, rfl, q⟩
  case BitAnd => cases e; exact op_and pins s σ H _ _ v u Q I rx ry ⟨_, _, rfl, rfl, q⟩
  case FloorDiv =>
    split at e
    · cases e; exact op_fdiv pins s σ H _ _ v u Q I rx ry ⟨_, _, rfl, rfl, (by assumption), q⟩
    · cases e
  all_goals cases e

theorem dq_tup {K : PySem.W.Frag} {x : V} {ds : List PyData} (h : Dq K B H x (.tuple ds)) : ∃ a vs, x = .ref a ∧ SqTB K B H a vs ∧ DqAll K B H vs ds := by
  cases h with
  | tup h1 h2 h3 => exact ⟨_, _, rfl, h1, h2⟩
theorem dq_tupB {K : PySem.W.Frag} {x : V} {ds : List PyData} (h : Dq K B H x (.tuple ds)) : ∃ a vs, x = .ref a ∧ SqTB K B H a vs ∧ DqAll K B H vs ds ∧ (bareP ds = true → Bare K B H a) := by
  cases h with
  | tup h1 h2 h3 => exact ⟨_, _, rfl, h1, h2, h3⟩
theorem dq_str {K : PySem.W.Frag} {x : V} {z : Str} (h : Dq K B H x (.str z)) : x = .str z := by cases h; rfl
theorem dq_int {K : PySem.W.Frag} {x : V} {z : Int} (h : Dq K B H x (.int z)) : x = .int z := by cases h; rfl
theorem DqAll.append {K : PySem.W.Frag} : ∀ {xs ys : List V} {ds es : List PyData}, DqAll K B H xs ds → DqAll K B H ys es → DqAll K B H (xs ++ ys) (ds ++ es)
  | _, _, _, _, .nil, h => h
  | _, _, _, _, .cons h t, h2 => .cons h (DqAll.append t h2)
theorem DqAll.rep {K : PySem.W.Frag} {xs : List V} {ds : List PyData} (h : DqAll K B H xs ds) : ∀ k : Nat, DqAll K B H (List.replicate k xs).flatten (List.replicate k ds).flatten
  | 0 => by simp; exact .nil
  | k + 1 => by simp only [List.replicate_succ, List.flatten_cons]; exact DqAll.append h (DqAll.rep h k)
theorem DqAll.length {K : PySem.W.Frag} : ∀ {xs : List V} {ds : List PyData}, DqAll K B H xs ds → xs.length = ds.length
  | _, _, .nil => rfl
  | _, _, .cons _ t => by simp [DqAll.length t]
theorem RDs.append {K : PySem.W.Frag} {mg : Mg} : ∀ {xs ys : List D} {ds es : List V}, RDs K mg B H xs ds → RDs K mg B H ys es → RDs K mg B H (xs ++ ys) (ds ++ es)
  | _, _, _, _, .nil, h => h
  | _, _, _, _, .cons h t, h2 => .cons h (RDs.append t h2)
theorem RDs.rep {K : PySem.W.Frag} {mg : Mg} {xs : List D} {ds : List V} (h : RDs K mg B H xs ds) : ∀ k : Nat, RDs K mg B H (List.replicate k xs).flatten (List.replicate k ds).flatten
  | 0 => by simp; exact .nil
  | k + 1 => by simp only [List.replicate_succ, List.flatten_cons]; exact RDs.append h (RDs.rep h k)
theorem flat_rep {α : Type} (xs : List α) (k : Nat) : (List.replicate k xs).flatten.length = xs.length * k := by
  rw [PyProof.Rows.lm_len_rep_flat, Nat.mul_comm]

theorem cat_ok (bx : Bool) {xs ys : List D} (hS : SR X.K X.mg B H S) (I : Inv X pins σ H s) (rvx : RelV vx v) (rvy : RelV vy u) (rx : RD X.K X.mg B H dx vx) (ry : RD X.K X.mg B H dy vy)
    (e1 : lstOf S dx = some xs) (e2 : lstOf S dy = some ys) (e : mkL bx (xs ++ ys) S = some (d, S')) (q : Post X.K X.mg B H d S' Q) :
    wpAny (model X.prog X.w) X.A (binaryOp .Add v u) (EP X pins σ Q) X.xe s := by
  obtain ⟨a, xs', rfl, ha, r1⟩ := lst_ok hS rx e1
  obtain ⟨b, ys', rfl, hb, r2⟩ := lst_ok hS ry e2
  have hz : xs'.length + ys'.length ≤ sizeLine := by
    have z := (mkL_ok hS (RDs.append r1 r2) e (p := s.heap.objs.size) (I.hok.fresh (Nat.le_refl _))).1
    rw [List.length_append] at z
    exact z
  refine op_catR pins s σ H _ _ v u Q I rvx rvy ⟨a, b, xs', ys', rfl, rfl, ha, hb, hz, fun p hp => ?_⟩
  obtain ⟨_, B', x1, x2, x3⟩ := mkL_ok hS (RDs.append r1 r2) e hp
  exact q B' _ _ x1 x2 x3

theorem seqOp_ok (bx : Bool) (op : Operator) (hS : SR X.K X.mg B H S) (I : Inv X pins σ H s) (rvx : RelV vx v) (rvy : RelV vy u) (rx : RD X.K X.mg B H dx vx) (ry : RD X.K X.mg B H dy vy)
    (e : seqOp bx op S dx dy = some (d, S')) (q : Post X.K X.mg B H d S' Q) : wpAny (model X.prog X.w) X.A (binaryOp op v u) (EP X pins σ Q) X.xe s := by
  cases op <;> simp only [seqOp] at e
  case Add =>
    split at e
    · rename_i a b
      obtain rfl := dq_str rx
      obtain rfl := dq_str ry
      split at e
      · rename_i hz
        cases e
        exact op_add_str pins s σ H _ _ v u Q I rvx rvy ⟨_, _, rfl, rfl, hz, q.same hS (.str _)⟩
      · cases e
    · rename_i a b
      obtain ⟨x1, vs1, rfl, h1, g1⟩ := dq_tup rx
      obtain ⟨x2, vs2, rfl, h2, g2⟩ := dq_tup ry
      have hz : vs1.length + vs2.length ≤ sizeLine := by
        have z := (mkT_ok hS (DqAll.append g1 g2) e (p := s.heap.objs.size) (I.hok.fresh (Nat.le_refl _))).1
        rw [List.length_append] at z
        exact z
      refine op_catB pins s σ H _ _ v u Q I rvx rvy ⟨x1, x2, vs1, vs2, rfl, rfl, h1.sq, h2.sq, hz, fun n1 => ?_, fun _ n2 => ?_, fun _ n2 p o hp ho => ?_⟩
      · subst n1
        cases g1
        unfold mkT at e
        split at e
        · cases e
          exact q.same hS ry
        · cases e
      · subst n2
        cases g2
        unfold mkT at e
        split at e
        · cases e
          rw [List.append_nil] at q
          exact q.same hS rx
        · cases e
      · obtain ⟨y1, y2, y3⟩ := (mkT_ok hS (DqAll.append g1 g2) e hp).2 o ho
        exact q B _ _ y1 y2 y3
    · split at e
      · exact cat_ok bx hS I rvx rvy rx ry (by assumption) (by assumption) e q
      · cases e
  case Mult =>
    split at e
    · rename_i a k
      obtain ⟨x1, vs1, rfl, h1, g1⟩ := dq_tup rx
      obtain rfl := dq_int ry
      split at e
      · rename_i hc
        cases e
        obtain ⟨_, rfl⟩ := hc
        exact op_rep1 pins s σ H _ _ v u Q I rvx rvy ⟨x1, vs1, rfl, rfl, h1.sq, q.same hS rx⟩
      split at e
      · rename_i hc
        cases e
        obtain ⟨ne, rfl⟩ := hc
        refine op_rep0 pins s σ H _ _ v u Q I rvx rvy ⟨x1, vs1, rfl, rfl, fun z => ne (List.eq_nil_of_length_eq_zero (by rw [← g1.length, z]; rfl)), h1.sq, fun p o hp ho => ?_⟩
        obtain ⟨y1, y2, y3⟩ := (mkT_ok hS DqAll.nil (d := .p (.tuple [])) (S' := S) rfl hp).2 o ho
        exact q B _ _ y1 y2 y3
      split at e
      · rename_i hc
        cases e
        have hl := g1.length
        refine op_repN pins s σ H _ _ v u Q I rvx rvy ⟨x1, k, vs1, rfl, rfl, h1.sq, fun z => hc.1 (List.eq_nil_of_length_eq_zero (by rw [← hl, z]; rfl)), hc.2.1, hc.2.2.1, by rw [hl]; exact hc.2.2.2, fun p o hp ho => ?_⟩
        have room : (List.replicate k.toNat a).flatten.length ≤ sizeLine := by
          rw [flat_rep]
          exact Nat.le_trans (Nat.mul_le_mul hc.2.2.2 (by omega : k.toNat ≤ 1000)) (by decide)
        obtain ⟨y1, y2, y3⟩ := (mkT_ok hS (g1.rep k.toNat) (if_pos room : mkT _ S = _) hp).2 o ho
        exact q B _ _ y1 y2 y3
      · cases e
    · rename_i k _
      obtain rfl := dq_int ry
      split at e
      · rename_i xs e1
        obtain ⟨a, xs', rfl, ha, r1⟩ := lst_ok hS rx e1
        split at e
        · rename_i hc
          refine op_repR pins s σ H _ _ v u Q I rvx rvy ⟨a, k, xs', rfl, rfl, ha, hc, ?_, fun p hp => ?_⟩
          · have z := (mkL_ok hS (r1.rep k.toNat) e (p := s.heap.objs.size) (I.hok.fresh (Nat.le_refl _))).1
            rw [flat_rep] at z
            exact z
          · obtain ⟨_, B', x1, x2, x3⟩ := mkL_ok hS (r1.rep k.toNat) e hp
            exact q B' _ _ x1 x2 x3
        · cases e
      · cases e
    · cases e
  all_goals cases e
end
end PI
set_option maxHeartbeats 1000000
/-! Own text: comparisons, membership, subscripts, slices of the small language. -/
namespace PI
open PySem L2

/-- a value as one datum -/
def viewP (S : Store) : D → Option PyData
  | .p x => some x
  | .ref n => match S[n]? with
    | some (.lst ys) => (allP ys).map .list
    | _ => none
  | _ => none
/-- what a list or tuple holds -/
def seqP (S : Store) : D → Option (List PyData)
  | .p (.tuple xs) => some xs
  | d => (lstOf S d).bind allP
/-- a dict's entries -/
def keysP : List (PyData × PyData) → Option (List (Key × D))
  | [] => some []
  | (k, x) :: r => match keyP k, keysP r with
    | some k', some r' => some ((k', .p x) :: r')
    | _, _ => none
def dctOf (S : Store) : D → Option (List (Key × D))
  | .p (.dict kvs) => keysP kvs
  | .ref n => match S[n]? with
    | some (.dct kvs) => some kvs
    | _ => none
  | _ => none
def valD (kvs : List (Key × D)) (k : Key) : Option D := (kvs.find? fun kv => decide (kv.1 = k)).map (·.2)

section
variable {K : PySem.W.Frag} {mg : Mg} {B : BT} {H : Hp} {S : Store}
theorem Bare.weak {a : Addr} (h : Bare K B H a) : Bare K BT.nil H a := h.imp (fun ⟨o, u, h1, h2, _⟩ => ⟨o, u, h1, h2, BT.no_nil _⟩) id
mutual
theorem Dq.weak : ∀ {v : V} {d : PyData}, Dq K B H v d → Dq K BT.nil H v d
  | _, _, .non => .non
  | _, _, .bl b => .bl b
  | _, _, .int i => .int i
  | _, _, .str x => .str x
  | _, _, .lst h1 h2 => .lst ⟨h1.1, BT.no_nil _⟩ (DqAll.weak h2)
  | _, _, .tup h1 h2 h3 => .tup (h1.imp (fun z => ⟨z.1, BT.no_nil _⟩) id) (DqAll.weak h2) fun z => (h3 z).weak
  | _, _, .dct h1 h2 h3 => .dct h1 (BT.no_nil _) (DqKV.weak h3)
theorem DqAll.weak : ∀ {v : List V} {d : List PyData}, DqAll K B H v d → DqAll K BT.nil H v d
  | _, _, .nil => .nil
  | _, _, .cons h1 h2 => .cons (Dq.weak h1) (DqAll.weak h2)
theorem DqKV.weak : ∀ {v : List (Key × V)} {d : List (PyData × PyData)}, DqKV K B H v d → DqKV K BT.nil H v d
  | _, _, .nil => .nil
  | _, _, .cons h1 h2 => .cons (Dq.weak h1) (DqKV.weak h2)
end
theorem view_ok (h : SR K mg B H S) {d : D} {v : V} {x : PyData} (r : RD K mg B H d v) (e : viewP S d = some x) : Dq K BT.nil H v x := by
  cases d with
  | p y =>
    simp only [viewP, Option.some.injEq] at e
    subst e
    exact Dq.weak r
  | ref n =>
    obtain ⟨a, h1, rfl⟩ := r
    simp only [viewP] at e
    cases q : S[n]? with
    | none => rw [q] at e; cases e
    | some c =>
      rw [q] at e
      cases c with
      | lst ys =>
        simp only at e
        cases q2 : allP ys with
        | none => rw [q2] at e; cases e
        | some zs =>
          rw [q2] at e
          simp at e
          subst e
          have := allP_eq q2
          subst this
          obtain ⟨vs, h2, h3⟩ := h.cell n _ a q h1
          exact .lst ⟨.inl h2, BT.no_nil _⟩ (DqAll.weak (dqAll_map.mpr h3))
      | _ => cases e
  | fn _ => cases e
  | ty _ => cases e
theorem seqP_ok (h : SR K mg B H S) {d : D} {v : V} {xs : List PyData} (r : RD K mg B H d v) (e : seqP S d = some xs) : ∃ a vs, v = .ref a ∧ (SqL K H a vs ∨ SqT K H a vs) ∧ DqAll K B H vs xs := by
  have go : (lstOf S d).bind allP = some xs → ∃ a vs, v = .ref a ∧ (SqL K H a vs ∨ SqT K H a vs) ∧ DqAll K B H vs xs := fun e => by
    cases q : lstOf S d with
    | none => rw [q] at e; cases e
    | some zs =>
      rw [q] at e
      obtain ⟨a, vs, rfl, h1, h2⟩ := lst_ok h r q
      have := allP_eq e
      subst this
      exact ⟨a, vs, rfl, .inl (.inl h1), dqAll_map.mpr h2⟩
  cases d with
  | p x =>
    cases x with
    | tuple ys =>
      simp only [seqP, Option.some.injEq] at e
      subst e
      obtain ⟨a, vs, rfl, h1, h2⟩ := dq_tup r
      exact ⟨a, vs, rfl, .inr h1.sq, h2⟩
    | _ => exact go e
  | _ => exact go e
theorem keysP_ok : ∀ {kvs : List (Key × V)} {ds : List (PyData × PyData)} {es : List (Key × D)}, DqKV K B H kvs ds → keysP ds = some es → RKV K mg B H es kvs
  | _, _, es, .nil, e => by
    simp [keysP] at e
    subst e
    exact .nil
  | _, _, es, .cons (k := k) (d := d) (ds := ds) h1 h2, e => by
    have hk : keyP (kP k) = some k := by cases k <;> rfl
    simp only [keysP, hk] at e
    cases q : keysP ds with
    | none => rw [q] at e; cases e
    | some r =>
      rw [q] at e
      simp at e
      subst e
      exact .cons ⟨rfl, h1⟩ (keysP_ok h2 q)
theorem dct_ok (h : SR K mg B H S) {d : D} {v : V} {xs : List (Key × D)} (r : RD K mg B H d v) (e : dctOf S d = some xs) : ∃ a vs, v = .ref a ∧ Rd H a (.dK vs) ∧ RKV K mg B H xs vs := by
  cases d with
  | p x =>
    cases x with
    | dict ys =>
      cases r with
      | dct h1 h2 h3 => exact ⟨_, _, rfl, h1, keysP_ok h3 e⟩
    | _ => simp [dctOf] at e
  | ref n =>
    obtain ⟨a, h1, rfl⟩ := r
    simp only [dctOf] at e
    cases q : S[n]? with
    | none => rw [q] at e; cases e
    | some c =>
      rw [q] at e
      cases c with
      | dct ys =>
        simp only [Option.some.injEq] at e
        subst e
        obtain ⟨vs, h2, h3⟩ := h.cell n _ a q h1
        exact ⟨a, vs, rfl, .inl h2, h3⟩
      | _ => cases e
  | fn _ => cases e
  | ty _ => cases e
theorem RKV.val : ∀ {es : List (Key × D)} {kvs : List (Key × V)}, RKV K mg B H es kvs → ∀ k : Key,
    (valD es k = none ∧ valV kvs k = none) ∨ ∃ d v, valD es k = some d ∧ valV kvs k = some v ∧ RD K mg B H d v
  | _, _, .nil, k => .inl ⟨rfl, rfl⟩
  | (j, d) :: es, (j', v) :: kvs, .cons h1 h2, k => by
    obtain ⟨rfl, h1⟩ := h1
    by_cases hk : j = k
    · exact .inr ⟨d, v, by simp [valD, List.find?_cons, hk], by simp [valV, List.find?_cons, hk], h1⟩
    · have e1 : valD ((j, d) :: es) k = valD es k := by simp [valD, List.find?_cons, hk]
      have e2 : valV ((j, v) :: kvs) k = valV kvs k := by simp [valV, List.find?_cons, hk]
      rw [e1, e2]
      exact RKV.val h2 k
end


section
variable {X : Cx} {pins : List (Addr × Obj)} {σ : St} {H : Hp} {s : Shared} {B : BT}
theorem key_reads {h : Heap} {k : Key} {v : Value} (e : keyIs k v = true) : Reads h v (kP k) [] := by
  rcases keyIs_shape e with ⟨i, t, rfl, rfl⟩ | ⟨x, t, rfl, rfl⟩
  · exact .int i t
  · exact .str x t
theorem pairs_keys {P : Program} {w : World} {h : Heap} : ∀ {es : List DictEntry} {kvs : List (Key × Value)}, PySem.Pairs (mixKind P w) es kvs → ReadsAll h (es.map (·.key)) (kvs.map fun q => kP q.1) []
  | _, _, .nil => .nil
  | _, _, .cons h1 _ t => ReadsAll.cons (as := []) (bs := []) (key_reads h1) (pairs_keys t)
theorem pairs_vals {P : Program} {w : World} : ∀ {es : List DictEntry} {kvs : List (Key × Value)}, PySem.Pairs (mixKind P w) es kvs → es.map (·.val) = kvs.map (·.2)
  | _, _, .nil => rfl
  | _, _, .cons _ h2 t => by simp [h2, pairs_vals t]
/-- the modules' table is no object of ours -/
def NoSys (X : Cx) : Prop := ∃ o, X.base.get? sysModules = some o
theorem NoSys.rd (n : NoSys X) (I : Inv X pins σ H s) {a : Addr} {u : HO} (r : Rd H a u) : a ≠ sysModules := fun e => by
  obtain ⟨o, ho⟩ := n
  have z := (I.bs _ _ ho).2
  subst e
  rcases r with r | ⟨ob, r⟩ <;> rw [z] at r <;> cases r
mutual
theorem Dq.reads (I : Inv X pins σ H s) (n : NoSys X) : ∀ {d : PyData} {v : V} {u : Value}, Dq X.K B H v d → RelV v u → ∃ as, Reads s.heap u d as ∧ sysModules ∉ as
  | .none, _, _, h, r => by
    cases h; cases r
    exact ⟨_, .none, by simp⟩
  | .bool b, _, _, h, r => by
    cases h; cases r
    exact ⟨_, .bool b, by simp⟩
  | .int i, _, _, h, r => by
    cases h
    obtain ⟨t, rfl⟩ := r
    exact ⟨_, .int i t, by simp⟩
  | .str x, _, _, h, r => by
    cases h
    obtain ⟨t, rfl⟩ := r
    exact ⟨_, .str x t, by simp⟩
  | .list ds, _, _, h, r => by
    cases h with
    | lst hs ha =>
      cases r
      obtain ⟨z, its, k, rv, hl, e⟩ := lstR I hs.1
      obtain ⟨as, hr, na⟩ := DqAll.reads I n ha rv
      refine ⟨_, .list e rfl rfl hr, ?_⟩
      rw [List.mem_cons, not_or]
      exact ⟨fun q => n.rd I hs.1 q.symm, na⟩
  | .tuple ds, _, _, h, r => by
    cases h with
    | tup hs ha =>
      cases r
      obtain ⟨its, rv, ⟨o, ho, hc, k, hd⟩, _⟩ := I.tuple hs.sq
      obtain ⟨as, hr, na⟩ := DqAll.reads I n ha rv
      exact ⟨_, .tuple ho hc hd hr, na⟩
  | .dict kvs, _, _, h, r => by
    cases h with
    | dct h1 h2 h3 =>
      cases r
      obtain ⟨z, hd, vs, rel, ⟨o, es, ep, ho, hx, hdt, hk, hp, nd⟩⟩ := dk_rd I.hok h1
      obtain ⟨as, hr, na, ek⟩ := DqKV.reads I n h3 rel
      have e1 := pairs_keys (h := s.heap) hp
      have e2 := pairs_vals hp
      rw [ek] at e1
      rw [← e2] at hr
      refine ⟨_, .dict ho hx.1 hdt e1 hr, ?_⟩
      intro q
      rcases List.mem_append.mp q with q | q
      · exact n.rd I h1 (List.mem_singleton.mp q).symm
      · exact na q
theorem DqAll.reads (I : Inv X pins σ H s) (n : NoSys X) : ∀ {ds : List PyData} {vs : List V} {us : List Value}, DqAll X.K B H vs ds → Vals vs us → ∃ as, ReadsAll s.heap us ds as ∧ sysModules ∉ as
  | [], _, _, h, r => by
    cases h; cases r
    exact ⟨_, .nil, by simp⟩
  | d :: ds, _, _, h, r => by
    cases h with
    | cons h1 h2 =>
      cases r with
      | cons r1 r2 =>
        obtain ⟨as, q1, n1⟩ := Dq.reads I n h1 r1
        obtain ⟨bs, q2, n2⟩ := DqAll.reads I n h2 r2
        refine ⟨_, .cons q1 q2, ?_⟩
        rw [List.mem_append, not_or]
        exact ⟨n1, n2⟩
theorem DqKV.reads (I : Inv X pins σ H s) (n : NoSys X) : ∀ {ds : List (PyData × PyData)} {kvs : List (Key × V)} {vs : List (Key × Value)}, DqKV X.K B H kvs ds → KV kvs vs → ∃ as, ReadsAll s.heap (vs.map (·.2)) (ds.map (·.2)) as ∧ sysModules ∉ as ∧ (vs.map fun q => kP q.1) = ds.map (·.1)
  | [], _, _, h, r => by
    cases h; cases r
    exact ⟨_, .nil, by simp, rfl⟩
  | (k, d) :: ds, _, _, h, r => by
    cases h with
    | cons h1 h2 =>
      cases r with
      | cons r1 r2 =>
        obtain ⟨e, r1⟩ := r1
        obtain ⟨as, q1, n1⟩ := Dq.reads I n h1 r1
        obtain ⟨bs, q2, n2, n3⟩ := DqKV.reads I n h2 r2
        refine ⟨_, .cons q1 q2, ?_, ?_⟩
        · rw [List.mem_append, not_or]
          exact ⟨n1, n2⟩
        · simp only [List.map_cons, n3]
          rw [← e]
end
end

/-! ### comparisons -/
def ordI (op : CmpOp) (i j : Int) : Option Bool := match op with
  | .Lt => some (decide (i < j))
  | .LtE => some (decide (i ≤ j))
  | .Gt => some (decide (j < i))
  | .GtE => some (decide (j ≤ i))
  | _ => none
def isI (x y : PyData) : Option Bool := match y, x with
  | .none, .none => some true
  | .none, _ => some false
  | .bool b, .bool c => some (decide (c = b))
  | _, _ => none
/-- is None, is True: of any value -/
def isD (x y : D) : Option Bool := match x, y with
  | .p a, .p b => isI a b
  | .ref _, .p .none => some false
  | _, _ => none
def intsP : List PyData → Option (List Int)
  | [] => some []
  | .int i :: r => (intsP r).map (i :: ·)
  | _ :: _ => none
theorem intsP_eq : ∀ {xs : List PyData} {ns : List Int}, intsP xs = some ns → xs = ns.map .int
  | [], ns, h => by simp [intsP] at h; subst h; rfl
  | .int i :: r, ns, h => by
    simp only [intsP] at h
    cases e : intsP r with
    | none => rw [e] at h; cases h
    | some ms =>
      rw [e] at h
      simp at h
      subst h
      rw [List.map_cons, ← intsP_eq e]
  | .none :: _, _, h => by simp [intsP] at h
  | .bool _ :: _, _, h => by simp [intsP] at h
  | .str _ :: _, _, h => by simp [intsP] at h
  | .list _ :: _, _, h => by simp [intsP] at h
  | .tuple _ :: _, _, h => by simp [intsP] at h
  | .dict _ :: _, _, h => by simp [intsP] at h
def leT (ns ms : List Int) : Bool := Ob.lexAt (fun j => decide (ns.getD j 0 = ms.getD j 0)) (fun j => decide (ns.getD j 0 ≤ ms.getD j 0)) (decide (ns.length ≤ ms.length)) 0 (min ns.length ms.length)
def tupOrd (op : CmpOp) (ns ms : List Int) : Option Bool := match op with
  | .Lt => some (HT.lexLt ns ms)
  | .LtE => some (leT ns ms)
  | _ => none
/-- x in y -/
def memI (S : Store) (x y : D) : Option Bool := match y with
  | .p (.str z) => (match x with
    | .p (.str c) => (match c.cps.toList with
      | [n] => some (decide (n ∈ z.cps.toList))
      | _ => none)
    | _ => none)
  | _ => (match dctOf S y with
    | some kvs => (match x with
      | .p a => (keyP a).map fun k => (valD kvs k).isSome
      | _ => none)
    | none => (match seqP S y, viewP S x with
      | some xs, some a => if SeqAt.shaped a = true ∧ PyData.canLayAll0 xs = true then some (xs.any fun z => PyData.eqv z a) else none
      | _, _ => none))
def eqG (S : Store) (x y : D) : Option Bool := match viewP S x, viewP S y with
  | some a, some b => if SeqAt.shaped a = true ∧ SeqAt.shaped b = true then some (PyData.eqv a b) else none
  | _, _ => none
/-- x == [], x == () -/
def eqZ (S : Store) (x y : D) : Option Bool := match y with
  | .p (.list []) => (lstOf S x).map (·.isEmpty)
  | .p (.tuple []) => (match x with
    | .p (.tuple xs) => some xs.isEmpty
    | _ => none)
  | _ => none
def eqY (S : Store) (x y : D) : Option Bool := match eqZ S x y with
  | some c => some c
  | none => eqG S x y
/-- x == y: texts by themselves, with nothing by the length, all else as data -/
def eqI (S : Store) (x y : D) : Option Bool := match x, y with
  | .p (.str a), .p (.str b) => some (decide (a = b))
  | x, y => eqY S x y
theorem eqI_cases {S : Store} {x y : D} {c : Bool} (h : eqI S x y = some c) : (∃ a b, x = .p (.str a) ∧ y = .p (.str b) ∧ c = decide (a = b)) ∨ eqZ S x y = some c ∨ eqG S x y = some c := by
  unfold eqI at h
  split at h
  · cases h
    exact .inl ⟨_, _, rfl, rfl, rfl⟩
  · unfold eqY at h
    split at h
    · rename_i q
      cases h
      exact .inr (.inl q)
    · exact .inr (.inr h)
def ordD (op : CmpOp) (x y : D) : Option Bool := match x, y with
  | .p (.int i), .p (.int j) => ordI op i j
  | .p (.tuple xs), .p (.tuple ys) => (match intsP xs, intsP ys with
    | some ns, some ms => tupOrd op ns ms
    | _, _ => none)
  | _, _ => none
def cmpI (op : CmpOp) (S : Store) (x y : D) : Option Bool := match op with
  | .Eq => eqI S x y
  | .NotEq => (eqI S x y).map (!·)
  | .Is => isD x y
  | .IsNot => (isD x y).map (!·)
  | .In => memI S x y
  | .NotIn => (memI S x y).map (!·)
  | _ => ordD op x y

section
variable {X : Cx} {pins : List (Addr × Obj)} {σ : St} {H : Hp} {s : Shared} {B : BT} {S : Store} {dx dy : D} {vx vy : V} {v u : Value} {Q : VK} {b : Bool}
theorem dq_ints {K : PySem.W.Frag} : ∀ {ns : List Int} {vs : List V}, DqAll K B H vs (ns.map .int) → vs = ns.map V.int
  | [], _, h => by cases h; rfl
  | n :: ns, _, h => by
    cases h with
    | cons h1 h2 =>
      cases h1
      rw [dq_ints h2]; rfl
theorem isI_ok {K : PySem.W.Frag} {a c : PyData} (ra : Dq K B H vx a) (rc : Dq K B H vy c) (e : isI a c = some b) : (vy = .non ∧ b = decide (vx = .non)) ∨ ∃ k l, vx = .bl k ∧ vy = .bl l ∧ b = decide (k = l) := by
  cases rc <;> cases ra <;> simp [isI] at e <;> subst e <;> first | (exact .inl ⟨rfl, by simp⟩) | exact .inr ⟨_, _, rfl, rfl, rfl⟩
theorem isD_ok {K : PySem.W.Frag} {mg : Mg} (rx : RD K mg B H dx vx) (ry : RD K mg B H dy vy) (e : isD dx dy = some b) : (vy = .non ∧ b = decide (vx = .non)) ∨ ∃ k l, vx = .bl k ∧ vy = .bl l ∧ b = decide (k = l) := by
  cases dx with
  | p a =>
    cases dy with
    | p c => exact isI_ok rx ry e
    | _ => simp [isD] at e
  | ref n =>
    cases dy with
    | p c =>
      cases c <;> simp [isD] at e
      subst e
      obtain ⟨a, _, rfl⟩ := rx
      cases ry
      exact .inl ⟨rfl, by simp⟩
    | _ => simp [isD] at e
  | _ => simp [isD] at e
theorem lt_dim {A : Around} {n m : Nat} (h : m ≤ 64) (hu : A.units + 65 < cLine) : A.units + 1 + min n m < cLine := by
  have : min n m ≤ m := Nat.min_le_right _ _
  omega
theorem shaped_depth {d : PyData} (h : SeqAt.shaped d = true) : d.canLay0 = true ∧ d.depth ≤ 64 := by
  unfold SeqAt.shaped at h
  rw [Bool.and_eq_true] at h
  exact ⟨h.1, of_decide_eq_true h.2⟩

theorem one_sign {c : Str} {n : Nat} (h : c.cps.toList = [n]) : c = ⟨#[n]⟩ := by
  obtain ⟨a⟩ := c
  have : a = #[n] := by
    apply Array.toList_inj.mp
    exact h
  rw [this]
theorem memI_ok (neg : Bool) (hu : X.A.units + 65 < cLine) (n : NoSys X) (hS : SR X.K X.mg B H S) (I : Inv X pins σ H s) (rvx : RelV vx v) (rvy : RelV vy u) (rx : RD X.K X.mg B H dx vx) (ry : RD X.K X.mg B H dy vy)
    (e : memI S dx dy = some b) (q : Q (.bl (if neg then !b else b)) H) : wpAny (model X.prog X.w) X.A (compareOp (if neg then .NotIn else .In) v u) (EP X pins σ Q) X.xe s := by
  have hu1 : X.A.units + 1 < cLine := by omega
  unfold memI at e
  split at e
  · rename_i z
    obtain rfl := dq_str ry
    split at e
    · rename_i c
      obtain rfl := dq_str rx
      split at e
      · rename_i m hm
        have := one_sign hm
        subst this
        cases e
        cases neg with
        | false => exact op_in_sign pins s σ H _ _ v u Q I rvx rvy ⟨_, _, rfl, rfl, q⟩
        | true => exact op_notIn_sign pins s σ H _ _ v u Q I rvx rvy ⟨_, _, rfl, rfl, q⟩
      · cases e
    · cases e
  · split at e
    · rename_i kvs hk
      split at e
      · rename_i a
        cases hka : keyP a with
        | none => rw [hka] at e; cases e
        | some k =>
          rw [hka] at e
          simp only [Option.map_some, Option.some.injEq] at e
          subst e
          have ea := keyP_eq hka
          subst ea
          obtain ⟨p, vs, rfl, hp, rel⟩ := dct_ok hS ry hk
          cases rvy
          have ex : vx = kV k := by
            cases k with
            | inl i => exact dq_int rx
            | inr x => exact dq_str rx
          subst ex
          have g : DGet H p (kV k) (valV vs k) := .inl ⟨vs, k, hp, rfl, rfl⟩
          have eo : (valV vs k).isSome = (valD kvs k).isSome := by
            rcases rel.val k with ⟨h1, h2⟩ | ⟨d, v, h1, h2, _⟩ <;> rw [h1, h2] <;> rfl
          cases neg with
          | false => exact d_in hu1 I g rvx fun s' I' => ⟨.bl _, H, I', rfl, by rw [eo]; exact q⟩
          | true => exact d_notIn hu1 I g rvx fun s' I' => ⟨.bl _, H, I', rfl, by rw [eo]; exact q⟩
      · cases e
    · split at e
      · rename_i xs a h1 h2
        split at e
        · rename_i hc
          cases e
          obtain ⟨ca, da⟩ := shaped_depth hc.1
          obtain ⟨p, vs, rfl, hp, hd⟩ := seqP_ok hS ry h1
          obtain ⟨as, r1, _⟩ := Dq.reads I n (view_ok hS rx h2) rvx
          cases rvy
          rcases hp with hp | hp
          · obtain ⟨its, rv, ⟨o, k, e1, e2, _, e4⟩, _⟩ := I.list hp
            obtain ⟨bs, r2, _⟩ := DqAll.reads I n hd rv
            have r3 : Reads s.heap (.ref p) (.list xs) (p :: bs) := .list e1 e2 e4 r2
            cases neg with
            | false => exact SeqAt.in_list_reads r3 r1 hc.2 ca (lt_dim da hu) ⟨.bl _, H, I, rfl, q⟩
            | true => exact SeqAt.notIn_list_reads r3 r1 hc.2 ca (lt_dim da hu) ⟨.bl _, H, I, rfl, q⟩
          · obtain ⟨its, rv, ⟨o, e1, e2, k, e4⟩, _⟩ := I.tuple hp
            obtain ⟨bs, r2, _⟩ := DqAll.reads I n hd rv
            have r3 : Reads s.heap (.ref p) (.tuple xs) bs := .tuple e1 e2 e4 r2
            cases neg with
            | false => exact SeqAt.in_tuple_reads r3 r1 hc.2 ca (lt_dim da hu) ⟨.bl _, H, I, rfl, q⟩
            | true => exact SeqAt.notIn_tuple_reads r3 r1 hc.2 ca (lt_dim da hu) ⟨.bl _, H, I, rfl, q⟩
        · cases e
      · cases e

theorem ordD_ok (op : CmpOp) (hu0 : X.A.units < cLine) (I : Inv X pins σ H s) (rvx : RelV vx v) (rvy : RelV vy u) (rx : RD X.K X.mg B H dx vx) (ry : RD X.K X.mg B H dy vy)
    (e : ordD op dx dy = some b) (q : Q (.bl b) H) : wpAny (model X.prog X.w) X.A (compareOp op v u) (EP X pins σ Q) X.xe s := by
  unfold ordD at e
  split at e
  · obtain rfl := dq_int rx
    obtain rfl := dq_int ry
    cases op <;> simp only [ordI] at e <;> cases e
    · exact op_lt pins s σ H _ _ v u Q I rvx rvy ⟨_, _, rfl, rfl, q⟩
    · exact op_le pins s σ H _ _ v u Q I rvx rvy ⟨_, _, rfl, rfl, q⟩
    · exact op_gt pins s σ H _ _ v u Q I rvx rvy ⟨_, _, rfl, rfl, q⟩
    · exact op_ge pins s σ H _ _ v u Q I rvx rvy ⟨_, _, rfl, rfl, q⟩
  · rename_i xs ys
    split at e
    · rename_i ns ms h1 h2
      have e1 := intsP_eq h1
      have e2 := intsP_eq h2
      subst e1 e2
      obtain ⟨a, vs, rfl, ha, ga⟩ := dq_tup rx
      obtain ⟨c, ws, rfl, hc, gc⟩ := dq_tup ry
      have e3 := dq_ints ga
      have e4 := dq_ints gc
      subst e3 e4
      cases op <;> simp only [tupOrd] at e <;> cases e
      · exact op_ltT hu0 pins s σ H _ _ v u Q I rvx rvy ⟨a, c, ns, ms, rfl, rfl, ha.sq, hc.sq, q⟩
      · exact op_leT hu0 pins s σ H _ _ v u Q I rvx rvy ⟨a, c, ns, ms, rfl, rfl, ha.sq, hc.sq, q⟩
    · cases e
  · cases e
theorem eqZ_ok {c : Bool} (hu : X.A.units < cLine) (hS : SR X.K X.mg B H S) (I : Inv X pins σ H s) (rvx : RelV vx v) (rvy : RelV vy u) (rx : RD X.K X.mg B H dx vx) (ry : RD X.K X.mg B H dy vy) (e : eqZ S dx dy = some c) :
    SeqAt.RcAt X.A s v u c ∧ SeqAt.RcNeAt X.A s v u (!c) := by
  unfold eqZ at e
  split at e
  · cases hx : lstOf S dx with
    | none => rw [hx] at e; cases e
    | some xs =>
      rw [hx] at e
      cases e
      obtain ⟨a, ws, rfl, ha, r2⟩ := lst_ok hS rx hx
      obtain rfl : v = Value.ref a := rvx
      obtain ⟨its, rv, pl, _⟩ := I.list (.inl ha)
      cases ry with
      | lst h1 h2 =>
        rename_i b ys
        obtain rfl : u = Value.ref b := rvy
        obtain ⟨its2, rv2, pl2, _⟩ := I.list h1.sq
        cases h2
        cases rv2
        have hl := r2.length
        have hl2 := rv.length
        cases xs with
        | nil =>
          have e0 : its = [] := List.eq_nil_of_length_eq_zero (by rw [← hl2, ← hl]; rfl)
          subst e0
          exact ⟨SeqAt.RcAt.lists (e := fun _ => true) pl.isList pl2.isList rfl hu fun j h1 => absurd h1 (by simp), SeqAt.RcNeAt.lists (e := fun _ => true) pl.isList pl2.isList rfl hu fun j h1 => absurd h1 (by simp)⟩
        | cons x xs =>
          have ne : (its.toArray.size != ([] : List Value).toArray.size) = true := by
            rw [List.length_cons] at hl
            simp only [List.size_toArray, List.length_nil, bne_iff_ne, ne_eq]
            omega
          exact ⟨SeqAt.RcAt.lists_lengths pl.isList pl2.isList ne hu, SeqAt.RcNeAt.lists_lengths pl.isList pl2.isList ne hu⟩
  · split at e
    · rename_i xs
      cases e
      obtain ⟨a, ws, rfl, h1, h2⟩ := dq_tup rx
      obtain ⟨b, ys, rfl, h3, h4⟩ := dq_tup ry
      obtain rfl : v = Value.ref a := rvx
      obtain rfl : u = Value.ref b := rvy
      obtain ⟨its, rv, pl, _⟩ := I.tuple h1.sq
      obtain ⟨its2, rv2, pl2, _⟩ := I.tuple h3.sq
      cases h4
      cases rv2
      have hl := DqAll.length h2
      have hl2 := rv.length
      have t1 := SeqAt.RcAt.tuples (A := X.A) (s := s) (l := a) (b := b) (items := its.toArray) (items2 := ([] : List Value).toArray) (e := fun _ => true) pl pl2 hu fun j h1 h2 => absurd h2 (by simp)
      have t2 := SeqAt.RcNeAt.tuples (A := X.A) (s := s) (l := a) (b := b) (items := its.toArray) (items2 := ([] : List Value).toArray) (e := fun _ => true) pl pl2 hu fun j h1 h2 => absurd h2 (by simp)
      have es : ((List.range (min its.toArray.size ([] : List Value).toArray.size)).all (fun _ => true) && its.toArray.size == ([] : List Value).toArray.size) = xs.isEmpty := by
        cases xs with
        | nil =>
          have e0 : its = [] := List.eq_nil_of_length_eq_zero (by rw [← hl2, hl]; rfl)
          subst e0
          rfl
        | cons x xs =>
          cases its with
          | nil => rw [List.length_nil, hl] at hl2; simp at hl2
          | cons i its => simp
      rw [es] at t1 t2
      exact ⟨t1, t2⟩
    · cases e
  · cases e
theorem cmpI_ok (op : CmpOp) (hu : X.A.units + 65 < cLine) (n : NoSys X) (hS : SR X.K X.mg B H S) (I : Inv X pins σ H s) (rvx : RelV vx v) (rvy : RelV vy u) (rx : RD X.K X.mg B H dx vx) (ry : RD X.K X.mg B H dy vy)
    (e : cmpI op S dx dy = some b) (q : Q (.bl b) H) : wpAny (model X.prog X.w) X.A (compareOp op v u) (EP X pins σ Q) X.xe s := by
  have hu0 : X.A.units < cLine := by omega
  have hEq : ∀ {c : Bool}, eqG S dx dy = some c → ∃ a b as bs, Reads s.heap v a as ∧ Reads s.heap u b bs ∧ SeqAt.shaped a = true ∧ SeqAt.shaped b = true ∧ c = PyData.eqv a b := fun {c} e => by
    unfold eqG at e
    split at e
    · rename_i a b h1 h2
      split at e
      · rename_i hc
        cases e
        obtain ⟨as, r1, _⟩ := Dq.reads I n (view_ok hS rx h1) rvx
        obtain ⟨bs, r2, _⟩ := Dq.reads I n (view_ok hS ry h2) rvy
        exact ⟨a, b, as, bs, r1, r2, hc.1, hc.2, rfl⟩
      · cases e
    · cases e
  cases op with
  | Eq =>
    rcases eqI_cases e with ⟨a, c, rfl, rfl, rfl⟩ | e | e
    · obtain rfl := dq_str rx
      obtain rfl := dq_str ry
      exact op_eq pins s σ H _ _ v u Q I rvx rvy ⟨rfl, by rw [show decide (V.str a = V.str c) = decide (a = c) from decide_eq_decide.mpr ⟨fun z => V.str.inj z, fun z => by rw [z]⟩]; exact q⟩
    · exact (eqZ_ok hu0 hS I rvx rvy rx ry e).1 _ _ _ _ ⟨.bl _, H, I, rfl, q⟩
    obtain ⟨a, c, as, bs, r1, r2, s1, s2, rfl⟩ := hEq e
    exact SeqAt.compareEq_shaped r1 r2 s1 s2 (by omega) ⟨.bl _, H, I, rfl, q⟩
  | NotEq =>
    simp only [cmpI] at e
    cases e' : eqI S dx dy with
    | none => rw [e'] at e; cases e
    | some c =>
      rw [e'] at e
      cases e
      rcases eqI_cases e' with ⟨a, d, rfl, rfl, rfl⟩ | e' | e'
      · obtain rfl := dq_str rx
        obtain rfl := dq_str ry
        exact op_ne pins s σ H _ _ v u Q I rvx rvy ⟨rfl, by rw [show decide (V.str a = V.str d) = decide (a = d) from decide_eq_decide.mpr ⟨fun z => V.str.inj z, fun z => by rw [z]⟩]; exact q⟩
      · exact (eqZ_ok hu0 hS I rvx rvy rx ry e').2 _ _ _ _ ⟨.bl _, H, I, rfl, q⟩
      obtain ⟨a, c, as, bs, r1, r2, s1, s2, rfl⟩ := hEq e'
      exact SeqAt.compareNe_shaped r1 r2 s1 s2 (by omega) ⟨.bl _, H, I, rfl, q⟩
  | Is =>
    rcases isD_ok rx ry e with ⟨rfl, rfl⟩ | ⟨k, l, rfl, rfl, rfl⟩
    · exact op_isN pins s σ H _ _ v u Q I rvx rvy ⟨rfl, q⟩
    · exact op_isBl pins s σ H _ _ v u Q I rvx rvy ⟨_, _, rfl, rfl, q⟩
  | IsNot =>
    simp only [cmpI] at e
    cases e' : isD dx dy with
    | none => rw [e'] at e; cases e
    | some c =>
      rw [e'] at e
      cases e
      rcases isD_ok rx ry e' with ⟨rfl, rfl⟩ | ⟨k, l, rfl, rfl, rfl⟩
      · exact op_notN pins s σ H _ _ v u Q I rvx rvy ⟨rfl, q⟩
      · exact op_notBl pins s σ H _ _ v u Q I rvx rvy ⟨_, _, rfl, rfl, q⟩
  | In => exact memI_ok false hu n hS I rvx rvy rx ry e q
  | NotIn =>
    simp only [cmpI] at e
    cases e' : memI S dx dy with
    | none => rw [e'] at e; cases e
    | some c =>
      rw [e'] at e
      cases e
      exact memI_ok true hu n hS I rvx rvy rx ry e' q
  | Lt => exact ordD_ok _ hu0 I rvx rvy rx ry e q
  | LtE => exact ordD_ok _ hu0 I rvx rvy rx ry e q
  | Gt => exact ordD_ok _ hu0 I rvx rvy rx ry e q
  | GtE => exact ordD_ok _ hu0 I rvx rvy rx ry e q
end

/-! ### subscripts -/
def atD {α : Type} (xs : List α) (i : Int) : Option α := atI xs i
def ixI (S : Store) (x y : D) : Option D := match x, y with
  | .p (.tuple xs), .p (.int i) => (atI xs i).map .p
  | .p (.str z), .p (.int i) => if z.length ≤ sizeLine then (atI z.cps.toList i).map fun c => .p (.str ⟨#[c]⟩) else none
  | _, .p y => (match dctOf S x with
    | some kvs => (keyP y).bind (valD kvs)
    | none => (match y with
      | .int i => (lstOf S x).bind fun xs => atI xs i
      | _ => none))
  | _, _ => none
/-- x[lo:hi] -/
def cutD {α : Type} (xs : List α) (lo hi : Option Int) : List α := (xs.drop (HT.sIx xs.length 0 lo)).take (HT.sIx xs.length xs.length hi - HT.sIx xs.length 0 lo)
def slI (bx : Bool) (S : Store) (x : D) (lo hi : Option Int) : Option (D × Store) := match x with
  | .p (.tuple xs) => some (.p (.tuple (cutD xs lo hi)), S)
  | .p (.str z) => if z.length ≤ sizeLine then some (.p (.str (cutS z lo hi)), S) else none
  | _ => (lstOf S x).bind fun xs => mkL bx (cutD xs lo hi) S
theorem cutV_eq (xs : List V) (lo hi : Option Int) : cutV xs lo hi = cutD xs lo hi := rfl

theorem RDs.length {K : PySem.W.Frag} {mg : Mg} {B : BT} {H : Hp} {ds : List D} {vs : List V} (h : RDs K mg B H ds vs) : ds.length = vs.length := Paired.length h
theorem RDs.at {K : PySem.W.Frag} {mg : Mg} {B : BT} {H : Hp} : ∀ {ds : List D} {vs : List V} {i : Nat} {d : D}, RDs K mg B H ds vs → ds[i]? = some d → ∃ v, vs[i]? = some v ∧ RD K mg B H d v
  | _, _, _, _, .nil, e => by simp at e
  | _, _, 0, _, .cons r _, e => by simp at e; subst e; exact ⟨_, rfl, r⟩
  | _, _, i + 1, d, .cons _ t, e => by
    obtain ⟨v, h1, h2⟩ := RDs.at (i := i) (d := d) t (by simpa using e)
    exact ⟨v, by simpa using h1, h2⟩
theorem RDs.drop {K : PySem.W.Frag} {mg : Mg} {B : BT} {H : Hp} : ∀ {ds : List D} {vs : List V} (n : Nat), RDs K mg B H ds vs → RDs K mg B H (ds.drop n) (vs.drop n)
  | _, _, 0, r => r
  | _, _, _ + 1, .nil => .nil
  | _, _, n + 1, .cons _ t => RDs.drop n t
theorem RDs.take {K : PySem.W.Frag} {mg : Mg} {B : BT} {H : Hp} : ∀ {ds : List D} {vs : List V} (n : Nat), RDs K mg B H ds vs → RDs K mg B H (ds.take n) (vs.take n)
  | _, _, 0, _ => .nil
  | _, _, _ + 1, .nil => .nil
  | _, _, n + 1, .cons r t => .cons r (RDs.take n t)
theorem RDs.cut {K : PySem.W.Frag} {mg : Mg} {B : BT} {H : Hp} {ds : List D} {vs : List V} (h : RDs K mg B H ds vs) (lo hi : Option Int) : RDs K mg B H (cutD ds lo hi) (cutV vs lo hi) := by
  rw [cutV_eq]
  unfold cutD
  rw [h.length]
  exact (h.drop _).take _
theorem RDs.atI {K : PySem.W.Frag} {mg : Mg} {B : BT} {H : Hp} {ds : List D} {vs : List V} {i : Int} {d : D} (h : RDs K mg B H ds vs) (e : atI ds i = some d) : ∃ v, L2.atI vs i = some v ∧ RD K mg B H d v := by
  unfold L2.atI at e ⊢
  rw [h.length] at e
  cases q : ixN vs.length i with
  | none => rw [q] at e; cases e
  | some j =>
    rw [q] at e
    exact h.at e
theorem atI_map {α β : Type} (f : α → β) (xs : List α) (i : Int) : L2.atI (xs.map f) i = (L2.atI xs i).map f := by
  unfold L2.atI
  rw [List.length_map]
  cases ixN xs.length i with
  | none => rfl
  | some j => simp

section
variable {X : Cx} {pins : List (Addr × Obj)} {σ : St} {H : Hp} {s : Shared} {B : BT} {S S' : Store} {d dx dy : D} {vx vy : V} {v u : Value} {Q : VK}
/-- any subscript, by values -/
def rIxA (K : PySem.W.Frag) : R2 := fun x y H Q => rIx K x y H Q ∨ ∃ a v, x = .ref a ∧ DGet H a y (some v) ∧ Q v H
theorem ix_any (hu : X.A.units + 1 < cLine) : IxR X (rIxA X.K) := by
  intro value slice pins s σ H x y v u Q I rx ry h hs
  rcases h with h | ⟨a, w, rfl, g, q⟩
  · exact ix_seq value slice pins s σ H x y v u Q I rx ry h hs
  · cases rx
    exact PyProof.Rows.tail_any (dict_typeIs I g) PySem.F.slot_dict_getitem.lookup (d_getItem hu I g ry fun w' s3 I3 rw' => ⟨w, H, I3, rw', q⟩) hs
theorem ixI_ok (hS : SR X.K X.mg B H S) (rx : RD X.K X.mg B H dx vx) (ry : RD X.K X.mg B H dy vy) (e : ixI S dx dy = some d) (q : Post X.K X.mg B H d S Q) : rIxA X.K vx vy H Q := by
  unfold ixI at e
  split at e
  · rename_i xs i
    obtain ⟨a, vs, rfl, ha, ga⟩ := dq_tup rx
    obtain rfl := dq_int ry
    cases h : L2.atI xs i with
    | none => rw [h] at e; cases e
    | some z =>
      rw [h] at e
      cases e
      have r := dqAll_map (mg := X.mg).mp ga
      obtain ⟨w, h1, h2⟩ := RDs.atI (i := i) (d := .p z) r (by rw [atI_map, h]; rfl)
      exact .inl (.inr (.inl ⟨a, vs, i, w, rfl, rfl, ha.sq, h1, q.same hS h2⟩))
  · rename_i z i
    obtain rfl := dq_str rx
    obtain rfl := dq_int ry
    split at e
    · rename_i hz
      cases h : L2.atI z.cps.toList i with
      | none => rw [h] at e; cases e
      | some c =>
        rw [h] at e
        cases e
        exact .inl (.inr (.inr ⟨z, i, c, rfl, rfl, hz, h, q.same hS (.str _)⟩))
    · cases e
  · rename_i y _ _
    split at e
    · rename_i kvs hk
      obtain ⟨a, vs, rfl, ha, rel⟩ := dct_ok hS rx hk
      cases h : keyP y with
      | none => rw [h] at e; cases e
      | some k =>
        rw [h] at e
        have ey := keyP_eq h
        subst ey
        have ex : vy = kV k := by
          cases k with
          | inl i => exact dq_int ry
          | inr x => exact dq_str ry
        subst ex
        rcases rel.val k with ⟨h1, h2⟩ | ⟨d', w, h1, h2, h3⟩
        · rw [Option.bind_some, h1] at e
          cases e
        · rw [Option.bind_some, h1] at e
          cases e
          exact .inr ⟨a, w, rfl, .inl ⟨vs, k, ha, rfl, h2.symm⟩, q.same hS h3⟩
    · split at e
      · rename_i hne i hk
        obtain rfl := dq_int ry
        cases h : lstOf S dx with
        | none => rw [h] at e; cases e
        | some xs =>
          rw [h] at e
          obtain ⟨a, vs, rfl, ha, r⟩ := lst_ok hS rx h
          obtain ⟨w, h1, h2⟩ := RDs.atI r e
          exact .inl (.inl ⟨a, vs, _, w, rfl, rfl, .inl ha, h1, q.same hS h2⟩)
      · cases e
  · cases e
/-- t[lo:hi], a new tuple known -/
def rSlB (K : PySem.W.Frag) : V → Option Int → Option Int → Hp → VK → Prop := fun x lo hi H Q => ∃ a as, x = .ref a ∧ SqT K H a as ∧
  ((HT.sIx as.length 0 lo = 0 ∧ HT.sIx as.length as.length hi = as.length) → Q (.ref a) H) ∧ (¬(HT.sIx as.length 0 lo = 0 ∧ HT.sIx as.length as.length hi = as.length) → NewT H (cutV as lo hi) Q)
theorem sl_tupB : SlR X (rSlB X.K) := by
  rintro pins s σ H x v p1 p2 lo hi z Q I rx hz h1 h2 ⟨a, as, rfl, ta, q1, q2⟩
  by_cases w : HT.sIx as.length 0 lo = 0 ∧ HT.sIx as.length as.length hi = as.length
  · exact sl_tupA pins s σ H _ v p1 p2 lo hi z Q I rx hz h1 h2 ⟨a, as, rfl, ta, q1, fun n => absurd w n⟩
  obtain rfl : v = .ref a := rx
  rcases I.tuple ta with ⟨va, pa, ga, small⟩
  have la : va.toArray.size = as.length := by rw [List.size_toArray, ← pa.length]
  refine ⟨"tuple", _, PyProof.Rows.slot_tuple_getitem.lookup, ga.typeIs, HT.getItem_tuple_cut ga hz h1 h2 (by rw [la]; exact w) ?_ (by rw [la]; exact small)⟩
  rw [la]
  exact (q2 w).end I ((pa.drop (HT.sIx as.length 0 lo)).take (HT.sIx as.length as.length hi - HT.sIx as.length 0 lo)) (Nat.le_trans (cutV_length as lo hi) small)
def rSlAny (K : PySem.W.Frag) : V → Option Int → Option Int → Hp → VK → Prop := fun x lo hi H Q => rSlL K x lo hi H Q ∨ (rSlB K x lo hi H Q ∨ rSlS x lo hi H Q)
theorem sl_any : SlR X (rSlAny X.K) := sl_list.or (sl_tupB.or sl_str)
theorem DqAll.cut {K : PySem.W.Frag} {ds : List PyData} {vs : List V} (h : DqAll K B H vs ds) (lo hi : Option Int) : DqAll K B H (cutV vs lo hi) (cutD ds lo hi) := by
  have r := RDs.cut (dqAll_map (mg := fun _ => none).mp h) lo hi
  have e : cutD (ds.map D.p) lo hi = (cutD ds lo hi).map D.p := by
    unfold cutD
    rw [List.length_map, List.map_take, List.map_drop]
  rw [e] at r
  exact dqAll_map.mpr r
theorem whole_cut {α : Type} {xs : List α} {lo hi : Option Int} (h : HT.sIx xs.length 0 lo = 0 ∧ HT.sIx xs.length xs.length hi = xs.length) : cutD xs lo hi = xs := by
  unfold cutD
  rw [h.1, h.2]
  simp
theorem slI_ok (bx : Bool) {lo hi : Option Int} (hS : SR X.K X.mg B H S) (rx : RD X.K X.mg B H dx vx) (e : slI bx S dx lo hi = some (d, S')) (q : Post X.K X.mg B H d S' Q) : rSlAny X.K vx lo hi H Q := by
  unfold slI at e
  split at e
  · rename_i xs
    obtain ⟨a, vs, rfl, ha, ga⟩ := dq_tup rx
    cases e
    have hl := ga.length
    refine .inr (.inl ⟨a, vs, rfl, ha.sq, fun hw => ?_, fun _ p o hp ho => ?_⟩)
    · rw [hl] at hw
      rw [whole_cut hw] at q
      exact q.same hS rx
    · have x := hS.ext_new hp (.frz o (.tup (cutV vs lo hi)))
      exact q B _ _ x (hS.new hp _) (.tup (.inl ⟨.inr ⟨o, upd_same⟩, hS.fresh hp⟩) (DqAll.ext x (ga.cut lo hi)) fun _ => .inl ⟨o, _, upd_same, ho, hS.fresh hp⟩)
  · rename_i z
    obtain rfl := dq_str rx
    split at e
    · rename_i hz
      cases e
      exact .inr (.inr ⟨z, rfl, hz, q.same hS (.str _)⟩)
    · cases e
  · cases h : lstOf S dx with
    | none => rw [h] at e; cases e
    | some xs =>
      rw [h] at e
      obtain ⟨a, vs, rfl, ha, r⟩ := lst_ok hS rx h
      refine .inl ⟨a, vs, rfl, .inl ha, fun p hp => ?_⟩
      obtain ⟨_, B', x1, x2, x3⟩ := mkL_ok hS (r.cut lo hi) e hp
      exact q B' _ _ x1 x2 x3
end
end PI
set_option maxHeartbeats 1000000
/-! Own text: built-in functions and methods of the small language. -/
namespace PI
open PySem L2

abbrev BF := Store → List D → Option (D × Store)
/-- a built-in, by values: what f says is what the model does -/
def BR (X : Cx) (val : Value) (f : BF) : Prop :=
  ∀ (pins : List (Addr × Obj)) (s : Shared) (σ : St) (H : Hp) (B : BT) (S : Store) (ds : List D) (d : D) (S' : Store) (vs : List V) (us : List Value) (Q : VK),
    Inv X pins σ H s → SR X.K X.mg B H S → RDs X.K X.mg B H ds vs → Vals vs us → f S ds = some (d, S') → Post X.K X.mg B H d S' Q → wpAny (model X.prog X.w) X.A (call val us) (EP X pins σ Q) X.xe s

section
variable {K : PySem.W.Frag} {mg : Mg} {B : BT} {H : Hp} {S : Store}
theorem rds_nil {vs : List V} (r : RDs K mg B H [] vs) : vs = [] := by cases r; rfl
theorem rds1 {d : D} {vs : List V} (r : RDs K mg B H [d] vs) : ∃ v, vs = [v] ∧ RD K mg B H d v := by
  cases r with
  | cons h t => cases t; exact ⟨_, rfl, h⟩
theorem rds2 {d e : D} {vs : List V} (r : RDs K mg B H [d, e] vs) : ∃ v w, vs = [v, w] ∧ RD K mg B H d v ∧ RD K mg B H e w := by
  cases r with
  | cons h t =>
    obtain ⟨w, rfl, h2⟩ := rds1 t
    exact ⟨_, w, rfl, h, h2⟩
/-- list or tuple, its items as values -/
def seqD (S : Store) : D → Option (List D)
  | .p (.tuple xs) => some (xs.map .p)
  | d => lstOf S d
theorem seqD_ok (h : SR K mg B H S) {d : D} {v : V} {xs : List D} (r : RD K mg B H d v) (e : seqD S d = some xs) : ∃ a vs, v = .ref a ∧ (SqL K H a vs ∨ SqT K H a vs) ∧ RDs K mg B H xs vs := by
  have go : lstOf S d = some xs → ∃ a vs, v = .ref a ∧ (SqL K H a vs ∨ SqT K H a vs) ∧ RDs K mg B H xs vs := fun e => by
    obtain ⟨a, vs, rfl, h1, h2⟩ := lst_ok h r e
    exact ⟨a, vs, rfl, .inl (.inl h1), h2⟩
  cases d with
  | p x =>
    cases x with
    | tuple ys =>
      simp only [seqD, Option.some.injEq] at e
      subst e
      obtain ⟨a, vs, rfl, h1, h2⟩ := dq_tup r
      exact ⟨a, vs, rfl, .inr h1.sq, dqAll_map.mp h2⟩
    | _ => exact go e
  | _ => exact go e
end

/-! ### len, int, str, bool, max, min -/
def bLen : BF := fun S ds => match ds with
  | [.p (.str z)] => if z.length ≤ sizeLine then some (.p (.int z.length), S) else none
  | [x] => (match dctOf S x with
    | some kvs => some (.p (.int kvs.length), S)
    | none => (seqD S x).map fun xs => (.p (.int xs.length), S))
  | _ => none
theorem RKV.length {K : PySem.W.Frag} {mg : Mg} {B : BT} {H : Hp} {a : List (Key × D)} {b : List (Key × V)} (r : RKV K mg B H a b) : a.length = b.length := Paired.length r
theorem len_ok {X : Cx} : BR X (.builtin "len") bLen := by
  intro pins s σ H B S ds d S' vs us Q I hS r rv e q
  unfold bLen at e
  split at e
  · rename_i z
    obtain ⟨v, rfl, h⟩ := rds1 r
    obtain rfl := dq_str h
    split at e
    · rename_i hz
      cases e
      exact call_len pins s σ H _ us Q I rv ⟨_, _, rfl, ⟨hz, rfl⟩, q.same hS (.int _)⟩
    · cases e
  · rename_i x _
    obtain ⟨v, rfl, h⟩ := rds1 r
    split at e
    · rename_i kvs hk
      cases e
      obtain ⟨a, ws, rfl, ha, rel⟩ := dct_ok hS h hk
      obtain ⟨u, rfl, ru⟩ := vals1 rv
      cases ru
      exact d_len I ha fun t s' I' => ⟨.int kvs.length, H, I', by rw [rel.length]; exact ⟨t, rfl⟩, q.same hS (.int _)⟩
    · cases hx : seqD S x with
      | none => rw [hx] at e; cases e
      | some xs =>
        rw [hx] at e
        cases e
        obtain ⟨a, ws, rfl, ha, r2⟩ := seqD_ok hS h hx
        refine call_len pins s σ H _ us Q I rv ⟨_, ws.length, rfl, ?_, ?_⟩
        · rcases ha with ha | ha
          · exact .inl ⟨ws, ha, rfl⟩
          · exact .inr ⟨ws, ha, rfl⟩
        · rw [← r2.length]
          exact q.same hS (.int _)
  · cases e
def bInt : BF := fun S ds => match ds with
  | [.p (.int i)] => some (.p (.int i), S)
  | [.p (.bool b)] => some (.p (.int (if b then 1 else 0)), S)
  | [.p (.str z)] => if z.length ≤ 640 then (intText? z).map fun n => (.p (.int n), S) else none
  | _ => none
theorem dq_bl {K : PySem.W.Frag} {B : BT} {H : Hp} {x : V} {z : Bool} (h : Dq K B H x (.bool z)) : x = .bl z := by cases h; rfl
theorem int_ok {X : Cx} : BR X (.type "int") bInt := by
  intro pins s σ H B S ds d S' vs us Q I hS r rv e q
  unfold bInt at e
  split at e
  · obtain ⟨v, rfl, h⟩ := rds1 r
    obtain rfl := dq_int h
    cases e
    exact call_int1 pins s σ H _ us Q I rv (.inl ⟨_, rfl, q.same hS (.int _)⟩)
  · obtain ⟨v, rfl, h⟩ := rds1 r
    obtain rfl := dq_bl h
    cases e
    exact call_int1 pins s σ H _ us Q I rv (.inr ⟨_, rfl, q.same hS (.int _)⟩)
  · rename_i z
    obtain ⟨v, rfl, h⟩ := rds1 r
    obtain rfl := dq_str h
    split at e
    · rename_i hz
      cases h2 : intText? z with
      | none => rw [h2] at e; cases e
      | some n =>
        rw [h2] at e
        cases e
        exact call_int_str pins s σ H _ us Q I rv ⟨z, n, rfl, h2, hz, q.same hS (.int _)⟩
    · cases e
  · cases e
def bStr : BF := fun S ds => match ds with
  | [.p (.int i)] => if i.natAbs.log2 < 1920 then some (.p (.str (toString i)), S) else none
  | _ => none
theorem str_ok {X : Cx} : BR X (.type "str") bStr := by
  intro pins s σ H B S ds d S' vs us Q I hS r rv e q
  unfold bStr at e
  split at e
  · obtain ⟨v, rfl, h⟩ := rds1 r
    obtain rfl := dq_int h
    split at e
    · rename_i hz
      cases e
      exact call_str_int pins s σ H _ us Q I rv ⟨_, rfl, hz, q.same hS (.str _)⟩
    · cases e
  · cases e
def bMax : BF := fun S ds => match ds with
  | [.p (.int i), .p (.int j)] => some (.p (.int (if j > i then j else i)), S)
  | _ => none
theorem max_ok {X : Cx} (hc : X.calm = true) : BR X (.builtin "max") bMax := by
  intro pins s σ H B S ds d S' vs us Q I hS r rv e q
  unfold bMax at e
  split at e
  · obtain ⟨v, w, rfl, h1, h2⟩ := rds2 r
    obtain rfl := dq_int h1
    obtain rfl := dq_int h2
    cases e
    exact call_max2 hc pins s σ H _ us Q I rv ⟨_, _, rfl, q.same hS (.int _)⟩
  · cases e
def bMin : BF := fun S ds => match ds with
  | [.p (.int i), .p (.int j)] => some (.p (.int (if j < i then j else i)), S)
  | _ => none
theorem min_ok {X : Cx} (hc : X.calm = true) : BR X (.builtin "min") bMin := by
  intro pins s σ H B S ds d S' vs us Q I hS r rv e q
  unfold bMin at e
  split at e
  · obtain ⟨v, w, rfl, h1, h2⟩ := rds2 r
    obtain rfl := dq_int h1
    obtain rfl := dq_int h2
    cases e
    exact call_min2 hc pins s σ H _ us Q I rv ⟨_, _, rfl, q.same hS (.int _)⟩
  · cases e

/-! ### list, tuple -/
def bList (bx : Bool) : BF := fun S ds => match ds with
  | [x] => (seqD S x).bind fun xs => mkL bx xs S
  | _ => none
theorem list_ok {X : Cx} (bx : Bool) : BR X (.type "list") (bList bx) := by
  intro pins s σ H B S ds d S' vs us Q I hS r rv e q
  unfold bList at e
  split at e
  · rename_i x
    obtain ⟨v, rfl, h⟩ := rds1 r
    cases hx : seqD S x with
    | none => rw [hx] at e; cases e
    | some xs =>
      rw [hx] at e
      obtain ⟨a, ws, rfl, ha, r2⟩ := seqD_ok hS h hx
      refine call_list_of pins s σ H _ us Q I rv ⟨a, ws, rfl, ha, fun l hl => ?_⟩
      obtain ⟨_, B', x1, x2, x3⟩ := mkL_ok hS r2 e hl
      exact q B' _ _ x1 x2 x3
  · cases e
def bTuple : BF := fun S ds => match ds with
  | [.p (.tuple xs)] => some (.p (.tuple xs), S)
  | [x] => (lstOf S x).bind fun xs => (allP xs).bind fun ys => mkT ys S
  | _ => none
/-- tuple(xs) of a list, the new tuple known -/
theorem call_tupleB {X : Cx} : CallR X (.type "tuple") fun xs H Q => ∃ p as, xs = [.ref p] ∧ SqL X.K H p as ∧ NewT H as Q := by
  rintro pins s σ H xs us Q I r ⟨p, as, rfl, la, q⟩
  obtain ⟨u, rfl, hu⟩ := vals1 r
  obtain rfl : u = .ref p := hu
  rcases I.list la with ⟨va, pa, ga, small⟩
  refine call_tuple_list ga.isList (fun h2 keep => ?_) (by rw [List.size_toArray, ← pa.length]; exact small)
  have I2 : Inv X pins σ H { s with heap := h2 } := I.kept (t' := s.toks) keep
  exact q.end I2 pa small
theorem tuple_ok {X : Cx} : BR X (.type "tuple") bTuple := by
  intro pins s σ H B S ds d S' vs us Q I hS r rv e q
  unfold bTuple at e
  split at e
  · obtain ⟨v, rfl, h⟩ := rds1 r
    cases e
    obtain ⟨a, ws, rfl, h1, h2⟩ := dq_tup h
    exact call_tuple_of pins s σ H _ us Q I rv ⟨a, ws, rfl, .inr ⟨h1.sq, q.same hS h⟩⟩
  · rename_i x _
    obtain ⟨v, rfl, h⟩ := rds1 r
    cases hx : lstOf S x with
    | none => rw [hx] at e; cases e
    | some xs =>
      rw [hx, Option.bind_some] at e
      cases hy : allP xs with
      | none => rw [hy] at e; cases e
      | some ys =>
        rw [hy, Option.bind_some] at e
        have := allP_eq hy
        subst this
        obtain ⟨a, ws, rfl, ha, r2⟩ := lst_ok hS h hx
        refine call_tupleB pins s σ H _ us Q I rv ⟨a, ws, rfl, .inl ha, fun l o hl ho => ?_⟩
        obtain ⟨x1, x2, x3⟩ := (mkT_ok hS (dqAll_map.mpr r2) e hl).2 o ho
        exact q B _ _ x1 x2 x3
  · cases e

/-! ### isinstance -/
def tnOf (S : Store) : D → Option Tn
  | .p .none => some .non
  | .p (.bool _) => some .bl
  | .p (.int _) => some .int
  | .p (.str _) => some .str
  | .p (.list _) => some .lst
  | .p (.tuple _) => some .tup
  | .p (.dict _) => some .dct
  | .ref n => match S[n]? with
    | some (.lst _) => some .lst
    | some (.dct _) => some .dct
    | _ => none
  | _ => none
def isSub (a b : Tn) : Bool := a == b || (a == .bl && b == .int) || b == .obj
def bIsi : BF := fun S ds => match ds with
  | [x, .ty t] => (tnOf S x).map fun u => (.p (.bool (isSub u t)), S)
  | _ => none
theorem kit_all (a b : Tn) : kitB a.nm b.nm = some (isSub a b) := by
  cases a <;> cases b <;> decide +kernel
theorem rd_lst {K : PySem.W.Frag} {H : Hp} {a : Addr} {xs : List V} (h : Rd H a (.lst xs)) : TyX K H (.ref a) (.type "list") := by
  rcases h with h | ⟨o, h⟩
  · exact .base (.lst h)
  · exact .base (.frz h)
theorem rd_dct {K : PySem.W.Frag} {H : Hp} {a : Addr} {xs : List (Key × V)} (h : Rd H a (.dK xs)) : TyX K H (.ref a) (.type "dict") := by
  rcases h with h | ⟨o, h⟩
  · exact .base (.dK h)
  · exact .fDict h
theorem tn_ok {K : PySem.W.Frag} {mg : Mg} {B : BT} {H : Hp} {S : Store} (h : SR K mg B H S) {d : D} {v : V} {t : Tn} (r : RD K mg B H d v) (e : tnOf S d = some t) : TyX K H v (.type t.nm) := by
  cases d with
  | p x =>
    cases x with
    | none => cases e; cases r; exact .base .non
    | bool b => cases e; cases r; exact .base (.bl b)
    | int b => cases e; cases r; exact .base (.int b)
    | str b => cases e; cases r; exact .base (.str b)
    | list b =>
      cases e
      cases r with
      | lst h1 _ => exact rd_lst h1.1
    | tuple b =>
      cases e
      obtain ⟨a, vs, rfl, h1, h2⟩ := dq_tup r
      rcases h1 with ⟨⟨h1⟩ | ⟨o, h1⟩, _⟩ | ⟨o, its, n, hk, hc, _⟩
      · rename_i h1; exact .base (.tup h1)
      · exact .fTuple h1
      · exact .kTuple hk hc
    | dict b =>
      cases e
      cases r with
      | dct h1 _ => exact rd_dct h1
  | ref n =>
    obtain ⟨a, h1, rfl⟩ := r
    simp only [tnOf] at e
    cases q : S[n]? with
    | none => rw [q] at e; cases e
    | some c =>
      rw [q] at e
      cases c with
      | lst ys =>
        cases e
        obtain ⟨vs, h2, _⟩ := h.cell n _ a q h1
        exact rd_lst (.inl h2)
      | dct ys =>
        cases e
        obtain ⟨vs, h2, _⟩ := h.cell n _ a q h1
        exact rd_dct (.inl h2)
      | dead => cases e
  | fn _ => cases e
  | ty _ => cases e
theorem isi_ok {X : Cx} : BR X (.builtin "isinstance") bIsi := by
  intro pins s σ H B S ds d S' vs us Q I hS r rv e q
  unfold bIsi at e
  split at e
  · rename_i x t
    obtain ⟨v, w, rfl, h1, h2⟩ := rds2 r
    cases ht : tnOf S x with
    | none => rw [ht] at e; cases e
    | some u =>
      rw [ht] at e
      cases e
      obtain rfl : w = .ty t.nm := h2
      exact call_isi pins s σ H _ us Q I rv ⟨v, _, _, _, isSub u t, rfl, .ty _, tn_ok hS h1 ht, kit_ty (kit_all u t), q.same hS (.bl _)⟩
  · cases e

/-! ### repr -/
def bRepr : BF := fun S ds => match ds with
  | [x] => (viewP S x).bind fun a => if a.showable = true ∧ a.depth ≤ 64 ∧ a.shown.length ≤ sizeLine then some (.p (.str a.shown), S) else none
  | _ => none
theorem repr_ok {X : Cx} (hg : X.A.guards = some []) (hu : X.A.units + 65 < cLine) (n : NoSys X) : BR X (.builtin "repr") bRepr := by
  intro pins s σ H B S ds d S' vs us Q I hS r rv e q
  unfold bRepr at e
  split at e
  · rename_i x
    obtain ⟨v, rfl, h⟩ := rds1 r
    obtain ⟨u, rfl, ru⟩ := vals1 rv
    cases hx : viewP S x with
    | none => rw [hx] at e; cases e
    | some a =>
      rw [hx, Option.bind_some] at e
      split at e
      · rename_i hc
        obtain ⟨c1, c2, c3⟩ := hc
        cases e
        have dq := view_ok hS h hx
        have fin : ∀ (h' : Heap) (t : Tok) (tk : Nat), (∀ b o, s.heap.get? b = some o → h'.get? b = some o) → EP X pins σ Q (.str a.shown t) { s with heap := h', toks := tk } :=
          fun h' t tk k => ⟨.str _, H, I.kept k, ⟨t, rfl⟩, q.same hS (.str _)⟩
        obtain ⟨as, rr, na⟩ := Dq.reads I n dq ru
        cases rr with
        | none => exact PySem.P.repr_of_none (fin _ _ _ fun _ _ z => z)
        | bool b => exact PySem.P.repr_of_bool (fin _ _ _ fun _ _ z => z)
        | int i t =>
          have hz : i.natAbs.log2 < 1920 := of_decide_eq_true c1
          exact PySem.P.repr_of_int hz (fin _ _ _ fun _ _ z => z)
        | str x t => exact PySem.P.repr_of_str (hsz := c3) (fin _ _ _ fun _ _ z => z)
        | list h1 h2 h3 h4 => exact PySem.repr_of_reads' (.list h1 h2 h3 h4) c1 (fun _ => na) hg (by omega) (fun _ _ z => z) (fun h' u tk k => fin h' u tk k) c3
        | tuple h1 h2 h3 h4 => exact PySem.repr_of_reads' (.tuple h1 h2 h3 h4) c1 (fun _ => na) hg (by omega) (fun _ _ z => z) (fun h' u tk k => fin h' u tk k) c3
        | dict h1 h2 h3 h4 h5 => exact PySem.repr_of_reads' (.dict h1 h2 h3 h4 h5) c1 (fun _ => na) hg (by omega) (fun _ _ z => z) (fun h' u tk k => fin h' u tk k) c3
      · cases e
  · cases e
end PI
set_option maxHeartbeats 1000000
/-! Own text: sorted. -/
namespace PI
open PySem PySem.Spec L2

/-- may be sorted: alike, all filled tuples or none of them a tuple, not too deep -/
def sortOk (xs : List PyData) : Bool := (xs.all fun a => xs.all fun b => PySem.W.alike a b) && ((xs.all fun a => match a with
  | .tuple (_ :: _) => true
  | _ => false) || (xs.all fun a => match a with
  | .none => false
  | .tuple _ => false
  | _ => true)) && (xs.all fun a => decide (a.depth ≤ 60))
def sortP (xs : List PyData) : List PyData := xs.mergeSort (PySem.W.dataLe false id)
theorem sortOk_of {xs : List PyData} (h : sortOk xs = true) : PySem.W.AllAlike xs ∧ PySem.W.Sortable xs ∧ ∀ d ∈ xs, d.depth ≤ 60 := by
  unfold sortOk at h
  rw [Bool.and_eq_true, Bool.and_eq_true, Bool.or_eq_true] at h
  obtain ⟨⟨h1, h2⟩, h3⟩ := h
  refine ⟨fun d hd e he => List.all_eq_true.mp (List.all_eq_true.mp h1 d hd) e he, ?_, fun d hd => of_decide_eq_true (List.all_eq_true.mp h3 d hd)⟩
  rcases h2 with h2 | h2
  · refine .inl fun d hd => ?_
    have q := List.all_eq_true.mp h2 d hd
    split at q
    · exact ⟨_, _, rfl⟩
    · cases q
  · refine .inr fun d hd => ?_
    have q := List.all_eq_true.mp h2 d hd
    split at q
    · cases q
    · cases q
    · rename_i z1 z2
      exact ⟨fun e => z1 e, fun ys e => z2 ys e⟩
section
variable {X : Cx}
/-- values, with what they stand for -/
def Std (K : PySem.W.Frag) (B : BT) (H : Hp) (u : Value) (b : V × PyData) : Prop := RelV b.1 u ∧ Dq K B H b.1 b.2
theorem std_of {K : PySem.W.Frag} {B : BT} {H : Hp} : ∀ {vs : List V} {ds : List PyData} {its : List Value}, DqAll K B H vs ds → Vals vs its → PySem.W.EachIs (Std K B H) its (vs.zip ds)
  | [], [], its, _, r => by cases r; exact .nil
  | v :: vs, d :: ds, its, h, r => by
    cases h with
    | cons h1 h2 =>
      cases r with
      | cons r1 r2 => exact .cons ⟨r1, h1⟩ (std_of h2 r2)
  | [], _ :: _, _, h, _ => by cases h
  | _ :: _, [], _, h, _ => by cases h
theorem std_back {K : PySem.W.Frag} {B : BT} {H : Hp} : ∀ {bs : List (V × PyData)} {out : List Value}, PySem.W.EachIs (Std K B H) out bs → DqAll K B H (bs.map (·.1)) (bs.map (·.2)) ∧ Vals (bs.map (·.1)) out
  | [], out, h => by cases h; exact ⟨.nil, .nil⟩
  | b :: bs, out, h => by
    cases h with
    | cons h1 h2 =>
      obtain ⟨q1, q2⟩ := std_back h2
      exact ⟨.cons h1.2 q1, .cons h1.1 q2⟩
def bSorted (bx : Bool) : BF := fun S ds => match ds with
  | [x] => (lstOf S x).bind fun xs => (allP xs).bind fun ys => if sortOk ys then mkL bx ((sortP ys).map .p) S else none
  | _ => none
theorem sorted_ok (hu : X.A.units + 65 < cLine) (n : NoSys X) (bx : Bool) : BR X (.builtin "sorted") (bSorted bx) := by
  intro pins s σ H B S ds d S' vs us Q I hS r rv e q
  unfold bSorted at e
  split at e
  · rename_i x
    obtain ⟨v, rfl, h⟩ := rds1 r
    cases hx : lstOf S x with
    | none => rw [hx] at e; cases e
    | some xs =>
      rw [hx] at e
      cases hy : allP xs with
      | none =>
        rw [show (some xs).bind (fun xs => (allP xs).bind fun ys => if sortOk ys then mkL bx ((sortP ys).map .p) S else none) = none by show (allP xs).bind _ = _; rw [hy]; rfl] at e
        cases e
      | some ys =>
        replace e : (if sortOk ys then mkL bx ((sortP ys).map .p) S else none) = some (d, S') := by
          rw [← e]
          show _ = (allP xs).bind _
          rw [hy]; rfl
        split at e
        · rename_i hok
          obtain ⟨a, ws, rfl, ha, r2⟩ := lst_ok hS h hx
          obtain rfl := allP_eq hy
          have dq : DqAll X.K B H ws ys := dqAll_map.mpr r2
          obtain ⟨its, rvl, hl, hz⟩ := I.list (.inl ha)
          obtain ⟨q1, q2, q3⟩ := sortOk_of hok
          have hlen := DqAll.length dq
          have hsnd : (ws.zip ys).map (·.2) = ys := List.map_snd_zip (by omega)
          have st := std_of dq rvl
          have rd : PySem.W.EachIs (fun v b => ∃ as, Reads s.heap v ((·.2) b) as) its (ws.zip ys) := st.mono fun u b ⟨z1, z2⟩ => by
            obtain ⟨as, r, _⟩ := Dq.reads I n z2 z1
            exact ⟨as, r⟩
          rw [Vals.ref1 rv]
          refine PySem.W.sorted_data (enc := (·.2)) hl.isList st rd (by rw [hsnd]; exact q1) (by rw [hsnd]; exact q2) (by rw [List.length_zip]; omega) (fun b hb => ?_) fun out hol ho => ?_
          · have hm : b.2 ∈ ys := by rw [← hsnd]; exact List.mem_map_of_mem hb
            have := q3 _ hm
            omega
          · obtain ⟨d1, v1⟩ := std_back ho
            have es : ((ws.zip ys).mergeSort (PySem.W.dataLe false (·.2))).map (·.2) = sortP ys := by
              unfold sortP
              refine (List.map_mergeSort (f := fun b : V × PyData => b.2) (r := PySem.W.dataLe false fun b : V × PyData => b.2) (s := PySem.W.dataLe false id) fun a _ b _ => rfl).trans ?_
              rw [hsnd]
            rw [es] at d1
            obtain ⟨ep, he'⟩ := PyProof.Rows.sortedAll_at s.heap its out.toArray
            have fr : H (s.heap.objs.size + 1) = none := I.hok.fresh (Nat.le_succ _)
            obtain ⟨hz2, B', x1, x2, x3⟩ := mkL_ok hS (dqAll_map.mp d1) e fr
            exact ⟨.ref _, upd H (s.heap.objs.size + 1) (.lst _), I.laid (t' := s.toks) (fun _ _ => PyProof.Rows.sortedAll_old) (Nat.le_succ _) ⟨hz2, out, ep, v1, he'⟩, rfl, q B' _ _ x1 x2 x3⟩
        · cases e
  · cases e
/-- a list's numbers -/
def numsOf (S : Store) (x : D) : Option (List Int) := (lstOf S x).bind fun xs => (allP xs).bind intsP
theorem numsOf_ok {K : PySem.W.Frag} {mg : Mg} {B : BT} {H : Hp} {S : Store} (hS : SR K mg B H S) {x : D} {v : V} {ns : List Int} (h : RD K mg B H x v) (e : numsOf S x = some ns) : ∃ a, v = .ref a ∧ SqL K H a (ns.map V.int) := by
  unfold numsOf at e
  cases hx : lstOf S x with
  | none => rw [hx] at e; cases e
  | some xs =>
    rw [hx] at e
    replace e : (allP xs).bind intsP = some ns := e
    cases hy : allP xs with
    | none => rw [hy] at e; cases e
    | some ys =>
      rw [hy] at e
      replace e : intsP ys = some ns := e
      obtain ⟨a, ws, rfl, ha, r2⟩ := lst_ok hS h hx
      obtain rfl := allP_eq hy
      obtain rfl := intsP_eq e
      have dq : DqAll K B H ws (ns.map .int) := dqAll_map.mpr r2
      have := dq_ints dq
      subst this
      exact ⟨a, rfl, .inl ha⟩
def bSum : BF := fun S ds => match ds with
  | [x] => (numsOf S x).map fun ns => (.p (.int ns.sum), S)
  | _ => none
theorem sum_ok {X : Cx} (hc : X.calm = true) : BR X (.builtin "sum") bSum := by
  intro pins s σ H B S ds d S' vs us Q I hS r rv e q
  unfold bSum at e
  split at e
  · rename_i x
    obtain ⟨v, rfl, h⟩ := rds1 r
    cases hx : numsOf S x with
    | none => rw [hx] at e; cases e
    | some ns =>
      rw [hx] at e
      cases e
      obtain ⟨a, rfl, hl⟩ := numsOf_ok hS h hx
      exact cr_sum hc pins s σ H _ us Q I rv ⟨a, ns, rfl, hl, q.same hS (.int _)⟩
  · cases e
def bBool : BF := fun S ds => match ds with
  | [.p (.int i)] => some (.p (.bool (i != 0)), S)
  | [.p (.bool b)] => some (.p (.bool b), S)
  | _ => none
theorem bool_ok {X : Cx} : BR X (.type "bool") bBool := by
  intro pins s σ H B S ds d S' vs us Q I hS r rv e q
  unfold bBool at e
  split at e
  · obtain ⟨v, rfl, h⟩ := rds1 r
    cases e
    obtain rfl := dq_int h
    exact call_bool1 pins s σ H _ us Q I rv (.inl ⟨_, rfl, q.same hS (.bl _)⟩)
  · obtain ⟨v, rfl, h⟩ := rds1 r
    cases e
    obtain rfl := dq_bl h
    exact call_bool1 pins s σ H _ us Q I rv (.inr ⟨_, rfl, q.same hS (.bl _)⟩)
  · cases e
end
end PI
set_option maxHeartbeats 1000000
/-! Own text: methods of built-in objects; the names of built-ins. -/
namespace PI
open PySem L2

def blsP : List D → Option (List Bool)
  | [] => some []
  | .p (.bool b) :: r => (blsP r).map (b :: ·)
  | _ :: _ => none
theorem blsP_ok {K : PySem.W.Frag} {mg : Mg} {B : BT} {H : Hp} : ∀ {xs : List D} {bs : List Bool} {vs : List V}, blsP xs = some bs → RDs K mg B H xs vs → vs = bs.map V.bl
  | [], bs, _, h, r => by simp [blsP] at h; subst h; cases r; rfl
  | x :: r, bs, _, h, .cons h1 h2 => by
    cases x with
    | p y =>
      cases y with
      | bool b =>
        simp only [blsP] at h
        cases e : blsP r with
        | none => rw [e] at h; cases h
        | some ms =>
          rw [e] at h
          simp at h
          subst h
          cases h1
          rw [blsP_ok e h2]; rfl
      | _ => simp [blsP] at h
    | _ => simp [blsP] at h
def bAny : BF := fun S ds => match ds with
  | [x] => (lstOf S x).bind fun xs => (blsP xs).map fun bs => (.p (.bool (bs.any id)), S)
  | _ => none
def bAll : BF := fun S ds => match ds with
  | [x] => (lstOf S x).bind fun xs => (blsP xs).map fun bs => (.p (.bool (bs.all id)), S)
  | _ => none
theorem any_ok {X : Cx} (hc : X.calm = true) : BR X (.builtin "any") bAny := by
  intro pins s σ H B S ds d S' vs us Q I hS r rv e q
  unfold bAny at e
  split at e
  · rename_i x
    obtain ⟨v, rfl, h⟩ := rds1 r
    cases hx : lstOf S x with
    | none => rw [hx] at e; cases e
    | some xs =>
      rw [hx, Option.bind_some] at e
      cases hb : blsP xs with
      | none => rw [hb] at e; cases e
      | some bs =>
        rw [hb] at e
        cases e
        obtain ⟨a, ws, rfl, ha, r2⟩ := lst_ok hS h hx
        have := blsP_ok hb r2
        subst this
        exact cr_any hc pins s σ H _ us Q I rv ⟨a, bs, rfl, .inl ha, q.same hS (.bl _)⟩
  · cases e
theorem all_ok {X : Cx} (hc : X.calm = true) : BR X (.builtin "all") bAll := by
  intro pins s σ H B S ds d S' vs us Q I hS r rv e q
  unfold bAll at e
  split at e
  · rename_i x
    obtain ⟨v, rfl, h⟩ := rds1 r
    cases hx : lstOf S x with
    | none => rw [hx] at e; cases e
    | some xs =>
      rw [hx, Option.bind_some] at e
      cases hb : blsP xs with
      | none => rw [hb] at e; cases e
      | some bs =>
        rw [hb] at e
        cases e
        obtain ⟨a, ws, rfl, ha, r2⟩ := lst_ok hS h hx
        have := blsP_ok hb r2
        subst this
        exact cr_all hc pins s σ H _ us Q I rv ⟨a, bs, rfl, .inl ha, q.same hS (.bl _)⟩
  · cases e

/-! ### the built-ins by name -/
structure BK (X : Cx) : Prop where
  calm : X.calm = true
  gd : X.A.guards = some []
  hu : X.A.units + 65 < cLine
  sys : NoSys X
def IsB (v : Value) : Prop := (∃ id, v = .builtin id) ∨ ∃ T, v = .type T
/-- more of them -/
def bltF2 (bx : Bool) (x : Str) : Option BF :=
  if x = "sorted" then some (bSorted bx) else if x = "sum" then some bSum else if x = "bool" then some bBool else none
theorem blt2_ok {X : Cx} (h : BK X) {bx : Bool} {x : Str} {f : BF} (e : bltF2 bx x = some f) : ∃ v, bootBuiltins x = some v ∧ IsB v ∧ x ≠ "__name__" ∧ (x == ("__debug__" : Str)) = false ∧ BR X v f := by
  unfold bltF2 at e
  repeat' split at e
  all_goals first | (rename_i hx; cases e; subst hx) | (cases e)
  case _ => exact ⟨.builtin "sorted", by decide +kernel, .inl ⟨_, rfl⟩, by decide, by decide, sorted_ok h.hu h.sys bx⟩
  case _ => exact ⟨.builtin "sum", by decide +kernel, .inl ⟨_, rfl⟩, by decide, by decide, sum_ok h.calm⟩
  case _ => exact ⟨.type "bool", by decide +kernel, .inr ⟨_, rfl⟩, by decide, by decide, bool_ok⟩
def bltF (bx : Bool) (x : Str) : Option BF :=
  if x = "len" then some bLen else if x = "int" then some bInt else if x = "str" then some bStr else if x = "max" then some bMax else if x = "min" then some bMin else
  if x = "list" then some (bList bx) else if x = "tuple" then some bTuple else if x = "isinstance" then some bIsi else if x = "repr" then some bRepr else
  if x = "any" then some bAny else if x = "all" then some bAll else bltF2 bx x
/-- the value that a built-in's name has -/
theorem blt_ok {X : Cx} (h : BK X) {bx : Bool} {x : Str} {f : BF} (e : bltF bx x = some f) : ∃ v, bootBuiltins x = some v ∧ IsB v ∧ x ≠ "__name__" ∧ (x == ("__debug__" : Str)) = false ∧ BR X v f := by
  unfold bltF at e
  repeat' split at e
  all_goals first | (rename_i hx; cases e; subst hx) | (cases e) | exact blt2_ok h e
  case _ => exact ⟨.builtin "len", by decide +kernel, .inl ⟨_, rfl⟩, by decide, by decide, len_ok⟩
  case _ => exact ⟨.type "int", by decide +kernel, .inr ⟨_, rfl⟩, by decide, by decide, int_ok⟩
  case _ => exact ⟨.type "str", by decide +kernel, .inr ⟨_, rfl⟩, by decide, by decide, str_ok⟩
  case _ => exact ⟨.builtin "max", by decide +kernel, .inl ⟨_, rfl⟩, by decide, by decide, max_ok h.calm⟩
  case _ => exact ⟨.builtin "min", by decide +kernel, .inl ⟨_, rfl⟩, by decide, by decide, min_ok h.calm⟩
  case _ => exact ⟨.type "list", by decide +kernel, .inr ⟨_, rfl⟩, by decide, by decide, list_ok bx⟩
  case _ => exact ⟨.type "tuple", by decide +kernel, .inr ⟨_, rfl⟩, by decide, by decide, tuple_ok⟩
  case _ => exact ⟨.builtin "isinstance", by decide +kernel, .inl ⟨_, rfl⟩, by decide, by decide, isi_ok⟩
  case _ => exact ⟨.builtin "repr", by decide +kernel, .inl ⟨_, rfl⟩, by decide, by decide, repr_ok h.gd h.hu h.sys⟩
  case _ => exact ⟨.builtin "any", by decide +kernel, .inl ⟨_, rfl⟩, by decide, by decide, any_ok h.calm⟩
  case _ => exact ⟨.builtin "all", by decide +kernel, .inl ⟨_, rfl⟩, by decide, by decide, all_ok h.calm⟩
/-- built-in classes as values -/
def tyF (x : Str) : Option Tn :=
  if x = "int" then some .int else if x = "bool" then some .bl else if x = "str" then some .str else if x = "list" then some .lst else if x = "tuple" then some .tup else if x = "dict" then some .dct else none
theorem ty_ok {x : Str} {t : Tn} (e : tyF x = some t) : bootBuiltins x = some (.type t.nm) ∧ x ≠ "__name__" ∧ (x == ("__debug__" : Str)) = false := by
  unfold tyF at e
  repeat' split at e
  all_goals first | (rename_i hx; cases e; subst hx; exact ⟨by decide +kernel, by decide, by decide⟩) | (cases e)

/-! ### methods -/
abbrev MF := Store → D → List D → Option (D × Store)
/-- a method of the built-in class T by values -/
def MtS (X : Cx) (T : Tn) (name : Str) (f : MF) : Prop := ∃ id, PlainAttrs T.nm ∧ Slot T.nm name id ∧ typeOf (.builtin id) = pure (.type "method_descriptor") ∧
  ∀ (pins : List (Addr × Obj)) (s : Shared) (σ : St) (H : Hp) (B : BT) (S : Store) (dx : D) (ds : List D) (d : D) (S' : Store) (vx : V) (vs : List V) (v : Value) (us : List Value) (Q : VK),
    Inv X pins σ H s → SR X.K X.mg B H S → RD X.K X.mg B H dx vx → RDs X.K X.mg B H ds vs → RelV vx v → Vals vs us → f S dx ds = some (d, S') → Post X.K X.mg B H d S' Q →
    wpAny (model X.prog X.w) X.A (call (.builtin id) (v :: us)) (EP X pins σ Q) X.xe s
def mAppend : MF := fun S x ds => match x, ds with
  | .ref n, [y] => (match S[n]? with
    | some (.lst xs) => if xs.length < sizeLine then some (.p .none, S.set n (.lst (xs ++ [y]))) else none
    | _ => none)
  | _, _ => none
theorem append_ok {X : Cx} : MtS X .lst "append" mAppend := by
  refine ⟨_, PySem.F.plainAttrs_list, PySem.F.slot_list_append, PySem.F.type_list_append, ?_⟩
  intro pins s σ H B S dx ds d S' vx vs v us Q I hS rx r rvx rv e q
  unfold mAppend at e
  split at e
  · rename_i n y
    obtain ⟨a, ha, rfl⟩ := rx
    obtain ⟨w, rfl, ry⟩ := rds1 r
    split at e
    · rename_i xs hx
      split at e
      · rename_i hz
        cases e
        obtain ⟨ws, h1, h2⟩ := hS.cell n _ a hx ha
        refine mt_append pins s σ H _ _ v us Q I rvx rv ⟨a, ws, w, rfl, rfl, h1, by rw [← h2.length]; exact hz, ?_⟩
        have x := hS.ext_write ha (.lst (ws ++ [w]))
        exact q B _ .non x (hS.write ha ⟨_, upd_same, RDs.ext x (h2.append (.cons ry .nil))⟩) .non
      · cases e
    · cases e
  · cases e
def mPop : MF := fun S x ds => match x, ds with
  | .ref n, [] => (match S[n]? with
    | some (.lst xs) => (xs[xs.length - 1]?).map fun y => (y, S.set n (.lst xs.dropLast))
    | _ => none)
  | .ref n, [.p (.int i)] => (match S[n]? with
    | some (.lst xs) => if -(2 ^ 63) ≤ i ∧ i < 2 ^ 63 then (match seqIndex? i xs.length with
      | some k => (xs[k]?).map fun y => (y, S.set n (.lst (xs.eraseIdx k)))
      | none => none) else none
    | _ => none)
  | _, _ => none
theorem RDs.dropLast {K : PySem.W.Frag} {mg : Mg} {B : BT} {H : Hp} {ds : List D} {vs : List V} (h : RDs K mg B H ds vs) : RDs K mg B H ds.dropLast vs.dropLast := by
  rw [List.dropLast_eq_take, List.dropLast_eq_take, h.length]
  exact h.take _
theorem RDs.erase {K : PySem.W.Frag} {mg : Mg} {B : BT} {H : Hp} : ∀ {ds : List D} {vs : List V} (i : Nat), RDs K mg B H ds vs → RDs K mg B H (ds.eraseIdx i) (vs.eraseIdx i)
  | _, _, _, .nil => .nil
  | _, _, 0, .cons _ t => t
  | _, _, i + 1, .cons q t => .cons q (RDs.erase i t)
theorem pop_ok {X : Cx} : MtS X .lst "pop" mPop := by
  refine ⟨_, PySem.F.plainAttrs_list, PySem.F.slot_list_pop, PySem.F.type_list_pop, ?_⟩
  intro pins s σ H B S dx ds d S' vx vs v us Q I hS rx r rvx rv e q
  unfold mPop at e
  split at e
  · rename_i n
    obtain ⟨a, ha, rfl⟩ := rx
    obtain rfl := rds_nil r
    split at e
    · rename_i xs hx
      obtain ⟨ws, h1, h2⟩ := hS.cell n _ a hx ha
      cases hy : xs[xs.length - 1]? with
      | none => rw [hy] at e; cases e
      | some y =>
        rw [hy] at e
        cases e
        obtain ⟨w, hw, ry⟩ := h2.at hy
        refine mt_pop pins s σ H _ _ v us Q I rvx rv ⟨a, ws, w, rfl, rfl, h1, by rw [← h2.length]; exact hw, ?_⟩
        have x := hS.ext_write ha (.lst ws.dropLast)
        exact q B _ w x (hS.write ha ⟨_, upd_same, RDs.ext x h2.dropLast⟩) (RD.ext x ry)
    · cases e
  · rename_i n i
    obtain ⟨a, ha, rfl⟩ := rx
    obtain ⟨w0, rfl, ri⟩ := rds1 r
    obtain rfl := dq_int ri
    split at e
    · rename_i xs hx
      obtain ⟨ws, h1, h2⟩ := hS.cell n _ a hx ha
      split at e
      · rename_i hc
        split at e
        · rename_i k hk
          cases hy : xs[k]? with
          | none => rw [hy] at e; cases e
          | some y =>
            rw [hy] at e
            cases e
            obtain ⟨w, hw, ry⟩ := h2.at hy
            refine mt_popAt pins s σ H _ _ v us Q I rvx rv ⟨a, ws, i, k, w, rfl, rfl, h1, hc.1, hc.2, by rw [← h2.length]; exact hk, hw, ?_⟩
            have x := hS.ext_write ha (.lst (ws.eraseIdx k))
            exact q B _ w x (hS.write ha ⟨_, upd_same, RDs.ext x (h2.erase k)⟩) (RD.ext x ry)
        · cases e
      · cases e
    · cases e
  · cases e
def mUpper : MF := fun S x ds => match x, ds with
  | .p (.str z), [] => if z.length ≤ 5592405 then some (.p (.str (Txt.upper z)), S) else none
  | _, _ => none
theorem upper_ok {X : Cx} : MtS X .str "upper" mUpper := by
  refine ⟨_, PySem.F.plainAttrs_str, PySem.F.slot_str_upper, PySem.F.type_str_upper, ?_⟩
  intro pins s σ H B S dx ds d S' vx vs v us Q I hS rx r rvx rv e q
  unfold mUpper at e
  split at e
  · obtain rfl := dq_str rx
    obtain rfl := rds_nil r
    split at e
    · rename_i hz
      cases e
      exact mt_upper pins s σ H _ _ v us Q I rvx rv ⟨_, rfl, rfl, hz, q.same hS (.str _)⟩
    · cases e
  · cases e
def mGet : MF := fun S x ds => match ds with
  | [.p k] => (match dctOf S x, keyP k with
    | some kvs, some k' => some ((valD kvs k').getD (.p .none), S)
    | _, _ => none)
  | [.p k, z] => (match dctOf S x, keyP k with
    | some kvs, some k' => some ((valD kvs k').getD z, S)
    | _, _ => none)
  | _ => none
theorem kv_dq {K : PySem.W.Frag} {B : BT} {H : Hp} {k : Key} {x : V} (h : Dq K B H x (kP k)) : x = kV k := by
  cases k with
  | inl i => exact dq_int h
  | inr s => exact dq_str h
theorem get_ok {X : Cx} (hu : X.A.units + 1 < cLine) : MtS X .dct "get" mGet := by
  refine ⟨_, PySem.F.plainAttrs_dict, PySem.F.slot_dict_get, PySem.F.type_dict_get, ?_⟩
  intro pins s σ H B S dx ds d S' vx vs v us Q I hS rx r rvx rv e q
  unfold mGet at e
  split at e
  · obtain ⟨w, rfl, ry⟩ := rds1 r
    split at e
    · rename_i kvs k' hk hk'
      cases e
      have := keyP_eq hk'
      subst this
      obtain rfl := kv_dq ry
      obtain ⟨a, ws, rfl, ha, rel⟩ := dct_ok hS rx hk
      cases rvx
      obtain ⟨u, rfl, ru⟩ := vals1 rv
      have g : DGet H a (kV k') (valV ws k') := .inl ⟨ws, k', ha, rfl, rfl⟩
      refine d_get1 hu I g ru fun w' s' I' rw' => ⟨_, H, I', rw', ?_⟩
      rcases rel.val k' with ⟨h1, h2⟩ | ⟨d', v', h1, h2, h3⟩
      · rw [h1] at q
        rw [h2]
        exact q.same hS (.non)
      · rw [h1] at q
        rw [h2]
        exact q.same hS h3
    · cases e
  · rename_i z
    obtain ⟨w, w2, rfl, ry, rz⟩ := rds2 r
    split at e
    · rename_i kvs k' hk hk'
      cases e
      have := keyP_eq hk'
      subst this
      obtain rfl := kv_dq ry
      obtain ⟨a, ws, rfl, ha, rel⟩ := dct_ok hS rx hk
      cases rvx
      obtain ⟨u, u2, rfl, ru, ru2⟩ := vals2 rv
      have g : DGet H a (kV k') (valV ws k') := .inl ⟨ws, k', ha, rfl, rfl⟩
      refine d_get2 hu I g ru ru2 fun w' s' I' rw' => ⟨_, H, I', rw', ?_⟩
      rcases rel.val k' with ⟨h1, h2⟩ | ⟨d', v', h1, h2, h3⟩
      · rw [h1] at q
        rw [h2]
        exact q.same hS rz
      · rw [h1] at q
        rw [h2]
        exact q.same hS h3
    · cases e
  · cases e
def metF (t : Tn) (x : Str) : Option MF := match t with
  | .lst => if x = "append" then some mAppend else if x = "pop" then some mPop else none
  | .str => if x = "upper" then some mUpper else none
  | .dct => if x = "get" then some mGet else none
  | _ => none
theorem met_ok {X : Cx} (h : BK X) {t : Tn} {x : Str} {f : MF} (e : metF t x = some f) : MtS X t x f := by
  have hu : X.A.units + 1 < cLine := by have := h.hu; omega
  cases t <;> simp only [metF] at e
  all_goals repeat' split at e
  all_goals first | (rename_i hx; cases e; subst hx) | (cases e)
  · exact upper_ok
  · exact append_ok
  · exact pop_ok
  · exact get_ok hu
end PI
set_option maxHeartbeats 1000000
/-! Own text: what a piece of syntax means (M ..), and that the model does it: expressions. -/
namespace PI
open PySem PySem.Spec L2
open PyProof.Rows hiding St

/-! ### meanings put together -/
def mC (d : D) : M := fun _ S => some (d, S)
def mV (i : Nat) : M := fun ev S => match ev[i]? with
  | some (some d) => some (d, S)
  | _ => none
def mNo : M := fun _ _ => none
def mBin (bx : Bool) (op : Operator) (a b : M) : M := fun ev S => (a ev S).bind fun r => (b ev r.2).bind fun t => binI bx op t.2 r.1 t.1
def mCmp (op : CmpOp) (a b : M) : M := fun ev S => (a ev S).bind fun r => (b ev r.2).bind fun t => (cmpI op t.2 r.1 t.1).map fun c => (.p (.bool c), t.2)
def mChain (op op' : CmpOp) (a b c : M) : M := fun ev S => (a ev S).bind fun r => (b ev r.2).bind fun t => (cmpI op t.2 r.1 t.1).bind fun k =>
  if k then (c ev t.2).bind fun q => (cmpI op' q.2 t.1 q.1).map fun z => (.p (.bool z), q.2) else some (.p (.bool false), t.2)
def mNot (a : M) : M := fun ev S => (a ev S).bind fun r => (isTru r.1).map fun b => (.p (.bool (!b)), r.2)
def mAnd (a b : M) : M := fun ev S => (a ev S).bind fun r => (isTru r.1).bind fun k => if k then b ev r.2 else some (.p (.bool false), r.2)
def mOr (a b : M) : M := fun ev S => (a ev S).bind fun r => (isTru r.1).bind fun k => if k then some (.p (.bool true), r.2) else b ev r.2
def mIf (c a b : M) : M := fun ev S => (c ev S).bind fun r => (isTru r.1).bind fun k => if k then a ev r.2 else b ev r.2
def mNeg (a : M) : M := fun ev S => (a ev S).bind fun r => match r.1 with
  | .p (.int i) => some (.p (.int (-i)), r.2)
  | _ => none
def mNil : Ms := fun _ S => some ([], S)
def mCons (a : M) (b : Ms) : Ms := fun ev S => (a ev S).bind fun r => (b ev r.2).map fun t => (r.1 :: t.1, t.2)
def mTup (a : Ms) : M := fun ev S => (a ev S).bind fun r => (allP r.1).bind fun xs => mkT xs r.2
def mLst (bx : Bool) (a : Ms) : M := fun ev S => (a ev S).bind fun r => mkL bx r.1 r.2
def mIx (a b : M) : M := fun ev S => (a ev S).bind fun r => (b ev r.2).bind fun t => (ixI t.2 r.1 t.1).map fun d => (d, t.2)
abbrev MO := EnvI → Store → Option (Option Int × Store)
def mONone : MO := fun _ S => some (none, S)
def mOSome (a : M) : MO := fun ev S => (a ev S).bind fun r => match r.1 with
  | .p (.int i) => some (some i, r.2)
  | _ => none
def mSl (bx : Bool) (a : M) (lo hi : MO) : M := fun ev S => (a ev S).bind fun r => (lo ev r.2).bind fun l => (hi ev l.2).bind fun h => slI bx h.2 r.1 l.1 h.1
/-- x[::-1] -/
def revI (bx : Bool) (S : Store) (x : D) : Option (D × Store) := match x with
  | .p (.tuple xs) => mkT xs.reverse S
  | x => (lstOf S x).bind fun xs => mkL bx xs.reverse S
def mRev (bx : Bool) (a : M) : M := fun ev S => (a ev S).bind fun r => revI bx r.2 r.1
def mBlt (f : BF) (a : Ms) : M := fun ev S => (a ev S).bind fun r => f r.2 r.1
def mMet (x : Str) (o : M) (a : Ms) : M := fun ev S => (o ev S).bind fun r => (tnOf r.2 r.1).bind fun t => (metF t x).bind fun f => (a ev r.2).bind fun q => f q.2 r.1 q.1
def permD {α : Type} (l : List α) : List Nat → Option (List α)
  | [] => some []
  | i :: r => match l[i]?, permD l r with
    | some x, some xs => some (x :: xs)
    | _, _ => none
def mCall (cf : BF) (ix : List Nat) (a k : Ms) : M := fun ev S => (a ev S).bind fun r => (k ev r.2).bind fun t => (permD (r.1 ++ t.1) ix).bind fun full => cf t.2 full

/-! ### the model does it -/
section
variable (X : Cx)
/-- behind an expression -/
def RM (pins : List (Addr × Obj)) (σ : St) (B : BT) (H : Hp) (d : D) (S' : Store) (u : Value) (s' : Shared) : Prop :=
  ∃ v H' B', Inv X pins σ H' s' ∧ RelV v u ∧ Ext B H B' H' ∧ SR X.K X.mg B' H' S' ∧ RD X.K X.mg B' H' d v
def RMs (pins : List (Addr × Obj)) (σ : St) (B : BT) (H : Hp) (ds : List D) (S' : Store) (us : List Value) (s' : Shared) : Prop :=
  ∃ vs H' B', Inv X pins σ H' s' ∧ Vals vs us ∧ Ext B H B' H' ∧ SR X.K X.mg B' H' S' ∧ RDs X.K X.mg B' H' ds vs
def RT (pins : List (Addr × Obj)) (σ : St) (B : BT) (H : Hp) (k : Bool) (S' : Store) (b : Bool) (s' : Shared) : Prop :=
  b = k ∧ ∃ H' B', Inv X pins σ H' s' ∧ Ext B H B' H' ∧ SR X.K X.mg B' H' S'
def EM (e : Expr) (m : M) : Prop := ∀ (pins : List (Addr × Obj)) (s : Shared) (σ : St) (H : Hp) (B : BT) (ev : EnvI) (S : Store) (d : D) (S' : Store), Inv X pins σ H s → SR X.K X.mg B H S → ER X.K X.mg B H ev σ → m ev S = some (d, S') →
  wpAny (model X.prog X.w) X.A (eval e X.env) (RM X pins σ B H d S') X.xe s
def TM (e : Expr) (m : M) : Prop := ∀ (pins : List (Addr × Obj)) (s : Shared) (σ : St) (H : Hp) (B : BT) (ev : EnvI) (S : Store) (d : D) (S' : Store) (k : Bool), Inv X pins σ H s → SR X.K X.mg B H S → ER X.K X.mg B H ev σ → m ev S = some (d, S') → isTru d = some k →
  wpAny (model X.prog X.w) X.A (isTrue e X.env (eval e X.env)) (RT X pins σ B H k S') X.xe s
def AM (es : List Expr) (m : Ms) : Prop := ∀ (pos : Pos) (pins : List (Addr × Obj)) (s : Shared) (σ : St) (H : Hp) (B : BT) (ev : EnvI) (S : Store) (ds : List D) (S' : Store), Inv X pins σ H s → SR X.K X.mg B H S → ER X.K X.mg B H ev σ → m ev S = some (ds, S') →
  wpAny (model X.prog X.w) X.A (spliced (backTo pos (starEach es X.env))) (RMs X pins σ B H ds S') X.xe s
def KM (kws : List Keyword) (m : Ms) : Prop := ∀ (pos : Pos) (pins : List (Addr × Obj)) (s : Shared) (σ : St) (H : Hp) (B : BT) (ev : EnvI) (S : Store) (ds : List D) (S' : Store), Inv X pins σ H s → SR X.K X.mg B H S → ER X.K X.mg B H ev σ → m ev S = some (ds, S') →
  wpAny (model X.prog X.w) X.A (evalAll ((backToKw pos (keywordEach kws X.env)).map (·.2))) (RMs X pins σ B H ds S') X.xe s
end

section
variable {X : Cx} {a b c e : Expr} {ma mb mc : M} {pos : Pos}
theorem RM.post {pins : List (Addr × Obj)} {σ : St} {B B1 : BT} {H H1 : Hp} {d : D} {S' : Store} {u : Value} {s' : Shared} (x : Ext B H B1 H1) (h : RM X pins σ B1 H1 d S' u s') : RM X pins σ B H d S' u s' := by
  obtain ⟨v, H', B', h1, h2, h3, h4, h5⟩ := h
  exact ⟨v, H', B', h1, h2, x.trans h3, h4, h5⟩
/-- what a value must be behind: for the rules that speak of Post -/
def QM (X : Cx) (B : BT) (H : Hp) (d : D) (S' : Store) : VK := fun v H' => ∃ B', Ext B H B' H' ∧ SR X.K X.mg B' H' S' ∧ RD X.K X.mg B' H' d v
theorem post_QM {B : BT} {H : Hp} {d : D} {S' : Store} : Post X.K X.mg B H d S' (QM X B H d S') := fun B' _ _ x1 x2 x3 => ⟨B', x1, x2, x3⟩
theorem RM.of_EP {pins : List (Addr × Obj)} {σ : St} {B B1 : BT} {H H1 : Hp} {d : D} {S' : Store} {u : Value} {s' : Shared} (x : Ext B H B1 H1) (h : EP X pins σ (QM X B1 H1 d S') u s') : RM X pins σ B H d S' u s' := by
  obtain ⟨v, H', h1, h2, B', h3, h4, h5⟩ := h
  exact ⟨v, H', B', h1, h2, x.trans h3, h4, h5⟩
/-- EM as the layer's PE, and back -/
theorem EM.pe (h : EM X e ma) : PE X e (tM X.K X.mg ma) := ⟨fun pins s σ H Q I ⟨B, ev, S, d, S', hS, hE, em, q⟩ =>
  thn (h pins s σ H B ev S d S' I hS hE em) fun u s1 ⟨v, H1, B1, I1, r1, x1, S1, d1⟩ => ⟨v, H1, I1, r1, q B1 H1 v x1 S1 d1⟩⟩
theorem EM.of_pe {t : TE} (h : PE X e t) (g : ∀ σ H B ev S d S', SR X.K X.mg B H S → ER X.K X.mg B H ev σ → ma ev S = some (d, S') → t σ H (QM X B H d S')) : EM X e ma :=
  fun pins s σ H B ev S d S' I hS hE em => thn (h.run pins s σ H _ I (g σ H B ev S d S' hS hE em)) fun u s1 q => RM.of_EP hS.refl q
theorem RT.of {pins : List (Addr × Obj)} {σ : St} {B B1 : BT} {H H1 : Hp} {k : Bool} {S' : Store} {u : Bool} {s' : Shared} (x : Ext B H B1 H1) (h : RT X pins σ B1 H1 k S' u s') : RT X pins σ B H k S' u s' := by
  obtain ⟨h0, H', B', h1, h3, h4⟩ := h
  exact ⟨h0, H', B', h1, x.trans h3, h4⟩

theorem bind_some {α β : Type} {x : Option α} {f : α → Option β} {b : β} (h : x.bind f = some b) : ∃ a, x = some a ∧ f a = some b := by
  cases x with
  | none => cases h
  | some a => exact ⟨a, rfl, h⟩
theorem map_some {α β : Type} {x : Option α} {f : α → β} {b : β} (h : x.map f = some b) : ∃ a, x = some a ∧ f a = b := by
  cases x with
  | none => cases h
  | some a => exact ⟨a, rfl, Option.some.inj h⟩

theorem em_const {d : D} {v : V} (h : PE X e (tC v)) (r : ∀ B H, RD X.K X.mg B H d v) : EM X e (mC d) :=
  EM.of_pe h fun σ H B ev S d' S' hS hE em => by
    cases em
    exact ⟨B, hS.refl, hS, r B H⟩
theorem em_var {i : Nat} {x : Str} (hN : X.N[i]? = some x) (hv : Vis X.env.scope x) (hd : (x == ("__debug__" : Str)) = false) (hcd : (x == ("__classdict__" : Str)) = false) : EM X (.Name x pos) (mV i) :=
  EM.of_pe (pe_var hN hv hd hcd) fun σ H B ev S d S' hS hE em => by
    unfold mV at em
    split at em
    · rename_i d' h
      cases em
      obtain ⟨v, h1, h2⟩ := hE.at_ i _ h
      exact ⟨v, h1, B, hS.refl, hS, h2⟩
    · cases em
theorem binI_ok (bx : Bool) (op : Operator) {pins : List (Addr × Obj)} {σ : St} {H : Hp} {s : Shared} {B : BT} {S S' : Store} {d dx dy : D} {vx vy : V} {v u : Value} {Q : VK}
    (hS : SR X.K X.mg B H S) (I : Inv X pins σ H s) (rvx : RelV vx v) (rvy : RelV vy u) (rx : RD X.K X.mg B H dx vx) (ry : RD X.K X.mg B H dy vy)
    (e : binI bx op S dx dy = some (d, S')) (q : Post X.K X.mg B H d S' Q) : wpAny (model X.prog X.w) X.A (binaryOp op v u) (EP X pins σ Q) X.xe s := by
  unfold binI at e
  split at e
  · obtain rfl := dq_int rx
    obtain rfl := dq_int ry
    obtain ⟨k, h1, h2⟩ := map_some e
    cases h2
    exact intOp_ok op I rvx rvy h1 (q.same hS (.int _))
  · exact seqOp_ok bx op hS I rvx rvy rx ry e q
/-- two expressions in a row -/
theorem two (ha : EM X a ma) (hb : EM X b mb) {pins : List (Addr × Obj)} {s : Shared} {σ : St} {H : Hp} {B : BT} {ev : EnvI} {S S1 S2 : Store} {x y : D} (I : Inv X pins σ H s) (hS : SR X.K X.mg B H S) (hE : ER X.K X.mg B H ev σ)
    (e1 : ma ev S = some (x, S1)) (e2 : mb ev S1 = some (y, S2)) {α : Type} {Q : α → Shared → Prop} {f : Value → Value → Sem α}
    (hf : ∀ v u s2 vx vy H2 B2, Inv X pins σ H2 s2 → RelV vx v → RelV vy u → Ext B H B2 H2 → SR X.K X.mg B2 H2 S2 → RD X.K X.mg B2 H2 x vx → RD X.K X.mg B2 H2 y vy → wpAny (model X.prog X.w) X.A (f v u) Q X.xe s2) :
    wpAny (model X.prog X.w) X.A (eval a X.env) (fun v s₁ => wpAny (model X.prog X.w) X.A (eval b X.env) (fun u s₂ => wpAny (model X.prog X.w) X.A (f v u) Q X.xe s₂) X.xe s₁) X.xe s := by
  refine thn (ha pins s σ H B ev S x S1 I hS hE e1) fun v s1 ⟨vx, H1, B1, I1, r1, x1, hS1, d1⟩ => ?_
  refine thn (hb pins s1 σ H1 B1 ev S1 y S2 I1 hS1 (hE.ext x1) e2) fun u s2 ⟨vy, H2, B2, I2, r2, x2, hS2, d2⟩ => ?_
  exact hf v u s2 vx vy H2 B2 I2 r1 r2 (x1.trans x2) hS2 (RD.ext x2 d1) d2
theorem em_bin (bx : Bool) {op : Operator} (ha : EM X a ma) (hb : EM X b mb) : EM X (.BinOp a op b pos) (mBin bx op ma mb) := by
  intro pins s σ H B ev S d S' I hS hE em
  obtain ⟨⟨x, S1⟩, e1, em⟩ := bind_some em
  obtain ⟨⟨y, S2⟩, e2, em⟩ := bind_some em
  refine wpAny_BinOp (two ha hb I hS hE e1 e2 fun v u s2 vx vy H2 B2 I2 r1 r2 x2 hS2 d1 d2 => ?_)
  exact thn (binI_ok bx op hS2 I2 r1 r2 d1 d2 em post_QM) fun u s3 q => RM.of_EP x2 q
theorem isTru_p {d : D} {k : Bool} (h : isTru d = some k) : d = .p (.bool k) := by
  cases d with
  | p x => cases x <;> simp [isTru] at h; subst h; rfl
  | _ => cases h
theorem em_cmp (K : BK X) {op : CmpOp} (ha : EM X a ma) (hb : EM X b mb) (hm : behindInMarks op b = false) : EM X (.Compare a [op] [b] pos) (mCmp op ma mb) := by
  intro pins s σ H B ev S d S' I hS hE em
  obtain ⟨⟨x, S1⟩, e1, em⟩ := bind_some em
  obtain ⟨⟨y, S2⟩, e2, em⟩ := bind_some em
  obtain ⟨k, e3, em⟩ := map_some em
  cases em
  refine wpAny_Compare1 (two ha hb I hS hE e1 e2 fun v u s2 vx vy H2 B2 I2 r1 r2 x2 hS2 d1 d2 => ?_) hm
  exact thn (cmpI_ok op K.hu K.sys hS2 I2 r1 r2 d1 d2 e3 (Q := QM X B2 H2 (.p (.bool k)) S2) ⟨B2, hS2.refl, hS2, .bl k⟩) fun u s3 q => RM.of_EP x2 q
theorem tm_cmp (K : BK X) {op : CmpOp} (ha : EM X a ma) (hb : EM X b mb) (hm : behindInMarks op b = false) : TM X (.Compare a [op] [b] pos) (mCmp op ma mb) := by
  intro pins s σ H B ev S d S' k I hS hE em hk
  obtain rfl := isTru_p hk
  obtain ⟨⟨x, S1⟩, e1, em⟩ := bind_some em
  obtain ⟨⟨y, S2⟩, e2, em⟩ := bind_some em
  obtain ⟨k', e3, em⟩ := map_some em
  cases em
  refine wpAny_isTrue_Compare1 (thn (ha pins s σ H B ev S x S1 I hS hE e1) fun v s1 ⟨vx, H1, B1, I1, r1, x1, hS1, d1⟩ => thn (hb pins s1 σ H1 B1 ev S1 y S2 I1 hS1 (hE.ext x1) e2) fun u s2 ⟨vy, H2, B2, I2, r2, x2, hS2, d2⟩ =>
    thn (cmpI_ok op K.hu K.sys hS2 I2 r1 r2 (RD.ext x2 d1) d2 e3 (Q := QM X B2 H2 (.p (.bool k)) S2) ⟨B2, hS2.refl, hS2, .bl k⟩) fun c s3 q => ?_) hm
  obtain ⟨w, H3, I3, r3, B3, x3, hS3, d3⟩ := q
  cases d3
  cases r3
  exact wpAny_truthy_bool ⟨rfl, H3, B3, I3, (x1.trans x2).trans x3, hS3⟩
/-- a value that is a truth value, as a test -/
theorem tm_val (h : EM X e ma) (he : ∀ whole, isTrue e X.env whole = (do let v ← whole; standAt e.pos; holding [v] (truthy v))) : TM X e ma := by
  intro pins s σ H B ev S d S' k I hS hE em hk
  obtain rfl := isTru_p hk
  refine isTrue_plain (thn (h pins s σ H B ev S _ S' I hS hE em) fun v s1 ⟨x, H1, B1, I1, r1, x1, hS1, d1⟩ => ?_) (he _)
  cases d1
  cases r1
  exact wpAny_truthy_bool ⟨rfl, H1, B1, I1, x1, hS1⟩

theorem cmp_at (K : BK X) {op : CmpOp} {pins : List (Addr × Obj)} {σ : St} {H H2 : Hp} {s : Shared} {B B2 : BT} {S2 : Store} {x y : D} {vx vy : V} {v u : Value} {k : Bool} (x2 : Ext B H B2 H2) (hS : SR X.K X.mg B2 H2 S2) (I : Inv X pins σ H2 s)
    (r1 : RelV vx v) (r2 : RelV vy u) (d1 : RD X.K X.mg B2 H2 x vx) (d2 : RD X.K X.mg B2 H2 y vy) (e : cmpI op S2 x y = some k) :
    wpAny (model X.prog X.w) X.A (compareOp op v u) (fun c s3 => c = .bool k ∧ ∃ H3 B3, Inv X pins σ H3 s3 ∧ Ext B H B3 H3 ∧ Ext B2 H2 B3 H3 ∧ SR X.K X.mg B3 H3 S2) X.xe s := by
  refine thn (cmpI_ok op K.hu K.sys hS I r1 r2 d1 d2 e (Q := QM X B2 H2 (.p (.bool k)) S2) ⟨B2, hS.refl, hS, .bl k⟩) fun c s3 q => ?_
  obtain ⟨w, H3, I3, r3, B3, x3, hS3, d3⟩ := q
  cases d3
  cases r3
  exact ⟨rfl, H3, B3, I3, x2.trans x3, x3, hS3⟩
theorem em_chain (K : BK X) {op op' : CmpOp} (ha : EM X a ma) (hb : EM X b mb) (hc : EM X c mc) (hm : lastMarks [op, op'] [b, c] = false) : EM X (.Compare a [op, op'] [b, c] pos) (mChain op op' ma mb mc) := by
  intro pins s σ H B ev S d S' I hS hE em
  obtain ⟨⟨x, S1⟩, e1, em⟩ := bind_some em
  obtain ⟨⟨y, S2⟩, e2, em⟩ := bind_some em
  obtain ⟨k, e3, em⟩ := bind_some em
  refine Compare_chain (thn (ha pins s σ H B ev S x S1 I hS hE e1) fun v s1 ⟨vx, H1, B1, I1, r1, x1, hS1, d1⟩ => chain_link (thn (hb pins s1 σ H1 B1 ev S1 y S2 I1 hS1 (hE.ext x1) e2) fun u s2 ⟨vy, H2, B2, I2, r2, x2, hS2, d2⟩ =>
    thn (cmp_at K (x1.trans x2) hS2 I2 r1 r2 (RD.ext x2 d1) d2 e3) fun w s3 ⟨hw, H3, B3, I3, x3, y3, hS3⟩ => ?_)) hm
  subst hw
  refine wpAny_truthy_bool ?_
  cases k with
  | false =>
    cases em
    exact ite_ff ⟨.bl false, H3, B3, I3, rfl, x3, hS3, .bl false⟩
  | true =>
    obtain ⟨⟨z, S4⟩, e4, em⟩ := bind_some em
    obtain ⟨k2, e5, em⟩ := map_some em
    cases em
    refine ite_tt (chain_last (thn (hc pins s3 σ H3 B3 ev S2 z S4 I3 hS3 (hE.ext x3) e4) fun w' s4 ⟨vz, H4, B4, I4, r4, x4, hS4, d4⟩ => ?_))
    refine thn (cmp_at K (x3.trans x4) hS4 I4 r2 r4 (RD.ext x4 (RD.ext y3 d2)) d4 e5) fun w s5 ⟨hw, H5, B5, I5, x5, _, hS5⟩ => ?_
    subst hw
    exact ⟨.bl k2, H5, B5, I5, rfl, x5, hS5, .bl k2⟩
theorem tm_chain (K : BK X) {op op' : CmpOp} (ha : EM X a ma) (hb : EM X b mb) (hc : EM X c mc) (hm : lastMarks [op, op'] [b, c] = false) : TM X (.Compare a [op, op'] [b, c] pos) (mChain op op' ma mb mc) := by
  intro pins s σ H B ev S d S' kk I hS hE em hk
  obtain rfl := isTru_p hk
  obtain ⟨⟨x, S1⟩, e1, em⟩ := bind_some em
  obtain ⟨⟨y, S2⟩, e2, em⟩ := bind_some em
  obtain ⟨k, e3, em⟩ := bind_some em
  refine isTrue_chain (thn (ha pins s σ H B ev S x S1 I hS hE e1) fun v s1 ⟨vx, H1, B1, I1, r1, x1, hS1, d1⟩ => test_link (thn (hb pins s1 σ H1 B1 ev S1 y S2 I1 hS1 (hE.ext x1) e2) fun u s2 ⟨vy, H2, B2, I2, r2, x2, hS2, d2⟩ =>
    thn (cmp_at K (x1.trans x2) hS2 I2 r1 r2 (RD.ext x2 d1) d2 e3) fun w s3 ⟨hw, H3, B3, I3, x3, y3, hS3⟩ => ?_)) hm
  subst hw
  refine wpAny_truthy_bool ?_
  cases k with
  | false =>
    simp only [Bool.false_eq_true, if_false, Option.some.injEq, Prod.mk.injEq, D.p.injEq, PyData.bool.injEq] at em
    obtain ⟨rfl, rfl⟩ := em
    exact ite_ff ⟨rfl, H3, B3, I3, x3, hS3⟩
  | true =>
    obtain ⟨⟨z, S4⟩, e4, em⟩ := bind_some em
    obtain ⟨k2, e5, em⟩ := map_some em
    cases em
    refine ite_tt (test_last (thn (hc pins s3 σ H3 B3 ev S2 z S4 I3 hS3 (hE.ext x3) e4) fun w' s4 ⟨vz, H4, B4, I4, r4, x4, hS4, d4⟩ => ?_))
    refine thn (cmp_at K (x3.trans x4) hS4 I4 r2 r4 (RD.ext x4 (RD.ext y3 d2)) d4 e5) fun w s5 ⟨hw, H5, B5, I5, x5, _, hS5⟩ => ?_
    subst hw
    exact wpAny_truthy_bool ⟨rfl, H5, B5, I5, x5, hS5⟩

/-! not, and, or, if -/
theorem em_not (ha : EM X a ma) : EM X (.UnaryOp .Not a pos) (mNot ma) :=
  EM.of_pe (pe_not ha.pe) fun σ H B ev S d S' hS hE em => by
    obtain ⟨⟨x, S1⟩, e1, em⟩ := bind_some em
    obtain ⟨k, e2, em⟩ := map_some em
    cases em
    obtain rfl := isTru_p e2
    refine ⟨B, ev, S, _, _, hS, hE, e1, fun B' H' v x1 s1 d1 => ?_⟩
    cases d1
    exact ⟨k, rfl, B', x1, s1, .bl _⟩
theorem tm_not (ha : TM X a ma) : TM X (.UnaryOp .Not a pos) (mNot ma) := by
  intro pins s σ H B ev S d S' k I hS hE em hk
  obtain ⟨⟨x, S1⟩, e1, em⟩ := bind_some em
  obtain ⟨k2, e2, em⟩ := map_some em
  cases em
  obtain rfl : (!k2) = k := by simpa [isTru] using hk
  refine isTrue_not (thn (ha pins s σ H B ev S _ _ k2 I hS hE e1 e2) fun b s1 ⟨hb, q⟩ => ?_)
  subst hb
  exact ⟨rfl, q⟩
/-- one more conjunct -/
theorem em_one {op : BoolOp} (ha : EM X a ma) : EM X (.BoolOp op [a] pos) ma :=
  EM.of_pe (pe_one ha.pe) fun σ H B ev S d S' hS hE em => ⟨B, ev, S, d, S', hS, hE, em, fun B' H' v x1 s1 d1 => ⟨B', x1, s1, d1⟩⟩
theorem em_and {rest : List Expr} (ha : EM X a ma) (hb : EM X (.BoolOp .And (b :: rest) pos) mb) : EM X (.BoolOp .And (a :: b :: rest) pos) (mAnd ma mb) :=
  EM.of_pe (pe_and ha.pe hb.pe) fun σ H B ev S d S' hS hE em => by
    obtain ⟨⟨x, S1⟩, e1, em⟩ := bind_some em
    obtain ⟨k, e2, em⟩ := bind_some em
    obtain rfl := isTru_p e2
    refine ⟨B, ev, S, _, _, hS, hE, e1, fun B' H' v x1 s1 d1 => ?_⟩
    cases d1
    refine ⟨k, rfl, ?_⟩
    cases k with
    | false =>
      cases em
      exact ⟨B', x1, s1, .bl false⟩
    | true => exact ⟨B', ev, S1, d, S', s1, hE.ext x1, em, fun B2 H2 v x2 s2 d2 => ⟨B2, x1.trans x2, s2, d2⟩⟩
theorem em_or {rest : List Expr} (ha : EM X a ma) (hb : EM X (.BoolOp .Or (b :: rest) pos) mb) : EM X (.BoolOp .Or (a :: b :: rest) pos) (mOr ma mb) :=
  EM.of_pe (pe_or ha.pe hb.pe) fun σ H B ev S d S' hS hE em => by
    obtain ⟨⟨x, S1⟩, e1, em⟩ := bind_some em
    obtain ⟨k, e2, em⟩ := bind_some em
    obtain rfl := isTru_p e2
    refine ⟨B, ev, S, _, _, hS, hE, e1, fun B' H' v x1 s1 d1 => ?_⟩
    cases d1
    refine ⟨k, rfl, ?_⟩
    cases k with
    | true =>
      cases em
      exact ⟨B', x1, s1, .bl true⟩
    | false => exact ⟨B', ev, S1, d, S', s1, hE.ext x1, em, fun B2 H2 v x2 s2 d2 => ⟨B2, x1.trans x2, s2, d2⟩⟩
/-- a conjunction as a test, whatever its whole is -/
def WM (X : Cx) (e : Expr) (m : M) : Prop := ∀ (whole : Sem Value) (pins : List (Addr × Obj)) (s : Shared) (σ : St) (H : Hp) (B : BT) (ev : EnvI) (S : Store) (d : D) (S' : Store) (k : Bool), Inv X pins σ H s → SR X.K X.mg B H S → ER X.K X.mg B H ev σ → m ev S = some (d, S') → isTru d = some k →
  wpAny (model X.prog X.w) X.A (isTrue e X.env whole) (RT X pins σ B H k S') X.xe s
theorem WM.tm (h : WM X e ma) : TM X e ma := h _
theorem wm_and1 (ha : TM X a ma) : WM X (.BoolOp .And [a] pos) ma := by
  intro wh pins s σ H B ev S d S' k I hS hE em hk
  refine isTrue_and (thn (ha pins s σ H B ev S d S' k I hS hE em hk) fun c s1 q => ?_)
  cases c with
  | true => exact isTrue_and_nil q
  | false => exact q
theorem wm_or1 (ha : TM X a ma) : WM X (.BoolOp .Or [a] pos) ma := by
  intro wh pins s σ H B ev S d S' k I hS hE em hk
  refine isTrue_or (thn (ha pins s σ H B ev S d S' k I hS hE em hk) fun c s1 q => ?_)
  cases c with
  | false => exact isTrue_or_nil q
  | true => exact q
theorem wm_and {rest : List Expr} (ha : TM X a ma) (hb : WM X (.BoolOp .And (b :: rest) pos) mb) : WM X (.BoolOp .And (a :: b :: rest) pos) (mAnd ma mb) := by
  intro wh pins s σ H B ev S d S' k I hS hE em hk
  obtain ⟨⟨x, S1⟩, e1, em⟩ := bind_some em
  obtain ⟨k1, e2, em⟩ := bind_some em
  refine isTrue_and (thn (ha pins s σ H B ev S x S1 k1 I hS hE e1 e2) fun c s1 ⟨hc, H1, B1, I1, x1, hS1⟩ => ?_)
  subst hc
  cases c with
  | false =>
    cases em
    cases hk
    exact ⟨rfl, H1, B1, I1, x1, hS1⟩
  | true => exact thn (hb wh pins s1 σ H1 B1 ev S1 d S' k I1 hS1 (hE.ext x1) em hk) fun _ _ q => q.of x1
theorem wm_or {rest : List Expr} (ha : TM X a ma) (hb : WM X (.BoolOp .Or (b :: rest) pos) mb) : WM X (.BoolOp .Or (a :: b :: rest) pos) (mOr ma mb) := by
  intro wh pins s σ H B ev S d S' k I hS hE em hk
  obtain ⟨⟨x, S1⟩, e1, em⟩ := bind_some em
  obtain ⟨k1, e2, em⟩ := bind_some em
  refine isTrue_or (thn (ha pins s σ H B ev S x S1 k1 I hS hE e1 e2) fun c s1 ⟨hc, H1, B1, I1, x1, hS1⟩ => ?_)
  subst hc
  cases c with
  | true =>
    cases em
    cases hk
    exact ⟨rfl, H1, B1, I1, x1, hS1⟩
  | false => exact thn (hb wh pins s1 σ H1 B1 ev S1 d S' k I1 hS1 (hE.ext x1) em hk) fun _ _ q => q.of x1
theorem em_if (hc : TM X c mc) (ha : EM X a ma) (hb : EM X b mb) : EM X (.IfExp c a b pos) (mIf mc ma mb) := by
  intro pins s σ H B ev S d S' I hS hE em
  obtain ⟨⟨x, S1⟩, e1, em⟩ := bind_some em
  obtain ⟨k, e2, em⟩ := bind_some em
  refine wpAny_IfExp (thn (hc pins s σ H B ev S x S1 k I hS hE e1 e2) fun k' s1 ⟨hk, H1, B1, I1, x1, hS1⟩ => ?_)
  subst hk
  cases k' with
  | true => exact thn (ha pins s1 σ H1 B1 ev S1 d S' I1 hS1 (hE.ext x1) em) fun _ _ q => q.post x1
  | false => exact thn (hb pins s1 σ H1 B1 ev S1 d S' I1 hS1 (hE.ext x1) em) fun _ _ q => q.post x1
theorem tm_if (hc : TM X c mc) (ha : TM X a ma) (hb : TM X b mb) : TM X (.IfExp c a b pos) (mIf mc ma mb) := by
  intro pins s σ H B ev S d S' kk I hS hE em hkk
  obtain ⟨⟨x, S1⟩, e1, em⟩ := bind_some em
  obtain ⟨k, e2, em⟩ := bind_some em
  unfold PySem.isTrue
  refine wpAny_bind (thn (hc pins s σ H B ev S x S1 k I hS hE e1 e2) fun k' s1 ⟨hk, H1, B1, I1, x1, hS1⟩ => ?_)
  subst hk
  cases k' with
  | true => exact thn (ha pins s1 σ H1 B1 ev S1 d S' kk I1 hS1 (hE.ext x1) em hkk) fun _ _ q => q.of x1
  | false => exact thn (hb pins s1 σ H1 B1 ev S1 d S' kk I1 hS1 (hE.ext x1) em hkk) fun _ _ q => q.of x1
theorem em_neg (ha : EM X a ma) : EM X (.UnaryOp .USub a pos) (mNeg ma) :=
  EM.of_pe (pe_un un_neg ha.pe) fun σ H B ev S d S' hS hE em => by
    obtain ⟨⟨x, S1⟩, e1, em⟩ := bind_some em
    simp only at em
    split at em
    · rename_i i
      cases em
      refine ⟨B, ev, S, _, _, hS, hE, e1, fun B' H' v x1 s1 d1 => ?_⟩
      obtain rfl := dq_int d1
      exact ⟨i, rfl, B', x1, s1, .int _⟩
    · cases em

/-! argument lists, displays -/
def notStar : Expr → Bool
  | .Starred .. => false
  | _ => true
theorem star_cons {e : Expr} {es : List Expr} {env : Env} (h : notStar e = true) : starEach (e :: es) env = (false, eval e env) :: starEach es env := by
  cases e <;> first | rfl | cases h
theorem star_plain {env : Env} : ∀ {es : List Expr}, es.all notStar = true → (backTo pos (starEach es env)).any (·.1) = false
  | [], _ => rfl
  | e :: es, h => by
    rw [List.all_cons, Bool.and_eq_true] at h
    rw [star_cons h.1]
    show (false || (backTo pos (starEach es env)).any (·.1)) = false
    rw [star_plain h.2]; rfl
theorem star_few {env : Env} : ∀ {es : List Expr}, es.all notStar = true → (backTo pos (starEach es env)).all (fun x => !x.1) = true
  | [], _ => rfl
  | e :: es, h => by
    rw [List.all_cons, Bool.and_eq_true] at h
    rw [star_cons h.1]
    show (true && (backTo pos (starEach es env)).all (fun x => !x.1)) = true
    rw [star_few h.2]; rfl
theorem am_nil : AM X [] mNil := by
  intro pos pins s σ H B ev S ds S' I hS hE em
  cases em
  exact Calls.spliced_nil ⟨[], H, B, I, .nil, hS.refl, hS, .nil⟩
theorem am_cons {es : List Expr} {m : Ms} (ha : EM X a ma) (hr : AM X es m) (hs : notStar a = true) : AM X (a :: es) (mCons ma m) := by
  intro pos pins s σ H B ev S ds S' I hS hE em
  obtain ⟨⟨x, S1⟩, e1, em⟩ := bind_some em
  obtain ⟨⟨xs, S2⟩, e2, em⟩ := map_some em
  cases em
  rw [star_cons hs]
  show wpAny _ _ (spliced ((false, eval a X.env) :: backTo pos (starEach es X.env))) _ _ s
  refine Calls.spliced_cons (thn (ha pins s σ H B ev S x S1 I hS hE e1) fun u s1 ⟨vx, H1, B1, I1, r1, x1, hS1, d1⟩ => ?_)
  refine thn (hr pos pins s1 σ H1 B1 ev S1 xs _ I1 hS1 (hE.ext x1) e2) fun us s2 ⟨vs, H2, B2, I2, r2, x2, hS2, d2⟩ => ?_
  exact ⟨vx :: vs, H2, B2, I2, .cons r1 r2, x1.trans x2, hS2, .cons (RD.ext x2 d1) d2⟩
theorem AM.pa {es : List Expr} {m : Ms} (h : AM X es m) : PA X es (tMs X.K X.mg m) := ⟨fun pos pins s σ H Q I ⟨B, ev, S, d, S', hS, hE, em, q⟩ =>
  thn (h pos pins s σ H B ev S d S' I hS hE em) fun u s1 ⟨v, H1, B1, I1, r1, x1, S1, d1⟩ => ⟨v, H1, I1, r1, q B1 H1 v x1 S1 d1⟩⟩
/-- (a, .., c), the tuple known -/
def tTupB (t : TA) : TE := fun σ H Q => t σ H fun xs H1 => xs.length ≤ sizeLine ∧ NewT H1 xs Q
theorem pe_tupB {es : List Expr} {t : TA} {k : Nat} (h : PA X es t) : PE X (.Tuple es k pos) (tTupB t) := by
  refine ⟨fun pins s σ H Q I hq => wpAny_Tuple_spliced (thn (h.run pos pins s σ H _ I hq) ?_)⟩
  rintro us t1 ⟨xs, H1, I1, r, small, q⟩
  exact ⟨Nat.le_trans (Nat.le_of_eq r.length.symm) small, q.end I1 r small⟩
theorem em_tup {es : List Expr} {m : Ms} {k : Nat} (h : AM X es m) : EM X (.Tuple es k pos) (mTup m) :=
  EM.of_pe (pe_tupB h.pa) fun σ H B ev S d S' hS hE em => by
    obtain ⟨⟨xs, S1⟩, e1, em⟩ := bind_some em
    obtain ⟨ys, e2, em⟩ := bind_some em
    have := allP_eq e2
    simp only at this
    subst this
    refine ⟨B, ev, S, _, _, hS, hE, e1, fun B' H' v x1 s1 d1 => ?_⟩
    have hl : v.length ≤ sizeLine := by
      have q := em
      unfold mkT at q
      split at q
      · rename_i hz
        rw [← d1.length, List.length_map]; exact hz
      · cases q
    refine ⟨hl, fun p o hp ho => ?_⟩
    obtain ⟨y1, y2, y3⟩ := (mkT_ok s1 (dqAll_map.mpr d1) em hp).2 o ho
    exact ⟨B', x1.trans y1, y2, y3⟩
theorem em_lst (bx : Bool) {es : List Expr} {m : Ms} (h : AM X es m) : EM X (.List es pos) (mLst bx m) :=
  EM.of_pe (pe_lst h.pa) fun σ H B ev S d S' hS hE em => by
    obtain ⟨⟨xs, S1⟩, e1, em⟩ := bind_some em
    refine ⟨B, ev, S, _, _, hS, hE, e1, fun B' H' v x1 s1 d1 => ?_⟩
    have hl : v.length ≤ sizeLine := by
      have q := em
      unfold mkL at q
      split at q
      · rename_i hz
        rw [← d1.length]; exact hz
      · cases q
    refine ⟨hl, fun p hp => ?_⟩
    obtain ⟨_, B2, y1, y2, y3⟩ := mkL_ok s1 d1 em hp
    exact ⟨B2, x1.trans y1, y2, y3⟩

/-! subscripts, slices -/
def notSlice : Expr → Bool
  | .Slice .. => false
  | _ => true
theorem plainIx {b : Expr} (h : notSlice b = true) : PlainIx b := by
  intro o i
  cases b <;> first | rfl | cases h
theorem em_ix (K : BK X) (ha : EM X a ma) (hb : EM X b mb) (hs : notSlice b = true) : EM X (.Subscript a b pos) (mIx ma mb) :=
  EM.of_pe (pe_ix (ix_any (by have := K.hu; omega)) ha.pe hb.pe (plainIx hs)) fun σ H B ev S d S' hS hE em => by
    obtain ⟨⟨x, S1⟩, e1, em⟩ := bind_some em
    obtain ⟨⟨y, S2⟩, e2, em⟩ := bind_some em
    obtain ⟨z, e3, em⟩ := map_some em
    cases em
    refine ⟨B, ev, S, _, _, hS, hE, e1, fun B1 H1 v1 x1 s1 d1 => ⟨B1, ev, S1, _, _, s1, hE.ext x1, e2, fun B2 H2 v2 x2 s2 d2 => ?_⟩⟩
    exact ixI_ok s2 (RD.ext x2 d1) d2 e3 fun B3 H3 v3 x3 s3 d3 => ⟨B3, (x1.trans x2).trans x3, s3, d3⟩
/-- a part of a slice -/
def OM (X : Cx) (e : Option Expr) (m : MO) : Prop := PO X e fun σ H Q => ∃ B ev S o S', SR X.K X.mg B H S ∧ ER X.K X.mg B H ev σ ∧ m ev S = some (o, S') ∧ ∀ B' H', Ext B H B' H' → SR X.K X.mg B' H' S' → Q o H'
theorem om_none : OM X none mONone := ⟨fun pins s σ H Q I ⟨B, ev, S, o, S', hS, hE, em, q⟩ => by
  cases em
  exact (po_none (X := X)).run pins s σ H Q I (q B H hS.refl hS)⟩
theorem om_some (ha : EM X a ma) : OM X (some a) (mOSome ma) := ⟨fun pins s σ H Q I ⟨B, ev, S, o, S', hS, hE, em, q⟩ => by
  obtain ⟨⟨x, S1⟩, e1, em⟩ := bind_some em
  simp only at em
  split at em
  · rename_i i
    cases em
    refine (po_some ha.pe).run pins s σ H Q I ⟨B, ev, S, _, _, hS, hE, e1, fun B1 H1 v1 x1 s1 d1 => ?_⟩
    obtain rfl := dq_int d1
    exact ⟨i, rfl, q B1 H1 x1 s1⟩
  · cases em⟩
theorem em_sl (bx : Bool) {lo hi : Option Expr} {ml mh : MO} {p2 : Pos} (ha : EM X a ma) (hl : OM X lo ml) (hh : OM X hi mh) : EM X (.Subscript a (.Slice lo hi none p2) pos) (mSl bx ma ml mh) := by
  intro pins s σ H B ev S d S' I hS hE em
  obtain ⟨⟨x, S1⟩, e1, em⟩ := bind_some em
  obtain ⟨⟨l, S2⟩, e2, em⟩ := bind_some em
  obtain ⟨⟨h, S3⟩, e3, em⟩ := bind_some em
  refine thn ((pe_slice (r := rSlAny X.K) sl_any ha.pe hl hh).run pins s σ H (QM X B H d S') I ?_) fun u s1 q => RM.of_EP hS.refl q
  refine ⟨B, ev, S, _, _, hS, hE, e1, fun B1 H1 v1 x1 s1 d1 => ⟨B1, ev, S1, _, _, s1, hE.ext x1, e2, fun B2 H2 x2 s2 => ⟨B2, ev, S2, _, _, s2, hE.ext (x1.trans x2), e3, fun B3 H3 x3 s3 => ?_⟩⟩⟩
  exact slI_ok bx s3 (RD.ext x3 (RD.ext x2 d1)) em fun B4 H4 v4 x4 s4 d4 => ⟨B4, ((x1.trans x2).trans x3).trans x4, s4, d4⟩
theorem RDs.reverse {K : PySem.W.Frag} {mg : Mg} {B : BT} {H : Hp} : ∀ {ds : List D} {vs : List V}, RDs K mg B H ds vs → RDs K mg B H ds.reverse vs.reverse
  | _, _, .nil => .nil
  | _, _, .cons r t => by
    simp only [List.reverse_cons]
    exact RDs.append (RDs.reverse t) (.cons r .nil)
/-! a tuple's slice with the step -1 (own) -/
section
variable {prog : Program} {w : World} {A : Around} {E : Value → Shared → Prop} {s : Shared}
/-- the parts of [::-1], looked up -/
theorem parts_back {z : Addr} {p1 p2 p3 : Value} {k : Nat} {R : Int × Int × Nat → Shared → Prop} (hz : s.heap.IsSliceOf z p1 p2 p3) (h1 : IsPart p1 none) (h2 : IsPart p2 none) (h3 : IsPart p3 (some (-1))) (hR : R ((k : Int) - 1, -1, k) s) :
    wpAny (model prog w) A (Builtin.Slice.sliceApplied (.ref z) (pure (k : Int))) R E s := by
  have hb : Builtin.Slice.slicePlaces ((k : Int) - 1) (-1) (-1) = k := by
    unfold Builtin.Slice.slicePlaces
    rw [if_neg (show ¬ ((-1 : Int) > 0) by decide), show (- -1 : Int) = 1 by decide, Int.ediv_one]
    by_cases hk : (k : Int) - 1 > -1
    · rw [if_pos hk]; omega
    · rw [if_neg hk]; omega
  obtain ⟨ob, e1, _, e2⟩ := hz
  unfold Builtin.Slice.sliceApplied Builtin.Slice.sliceFields
  refine wpAny_bind (wpAny_bind (wpAny_field e1 e2 (x := p1) rfl (wpAny_bind (wpAny_field e1 e2 (x := p2) rfl (wpAny_bind (wpAny_field e1 e2 (x := p3) rfl (wpAny_pure (wpAny_bind (HT.slicePart_ h3 ?_)))))))))
  show wpAny _ _ (if ((-1 : Int) == 0) = true then _ else _) _ _ s
  rw [if_neg (by decide)]
  refine wpAny_bind (HT.slicePart_ h1 (wpAny_bind (HT.slicePart_ h2 (wpAny_bind (wpAny_pure ?_)))))
  show wpAny _ _ (pure ((k : Int) - 1, (-1 : Int), Builtin.Slice.slicePlaces ((k : Int) - 1) (-1) (-1))) _ _ s
  rw [hb]; exact wpAny_pure hR
theorem back_items (xs : Array Value) : ((List.range xs.size).filterMap fun (m : Nat) => xs[((xs.size : Int) - 1 + (m : Int) * -1).toNat]?).toArray = xs.toList.reverse.toArray := by
  have e : (fun (m : Nat) => xs[((xs.size : Int) - 1 + (m : Int) * -1).toNat]?) = (fun i => xs[i]?) ∘ fun k => xs.size - 1 - k := by
    funext m
    have : ((xs.size : Int) - 1 + (m : Int) * -1).toNat = xs.size - 1 - m := by omega
    show xs[_]? = xs[xs.size - 1 - m]?
    rw [this]
  rw [e, ← List.filterMap_map, PySem.W.krv_range, List.filterMap_reverse, PySem.W.krv_all]
/-- t[::-1], a new tuple -/
theorem tuple_back {t z : Addr} {xs : Array Value} {p1 p2 p3 : Value} {Q : Value → Shared → Prop} (ht : IsTup s.heap t xs) (hz : s.heap.IsSliceOf z p1 p2 p3) (h1 : IsPart p1 none) (h2 : IsPart p2 none) (h3 : IsPart p3 (some (-1))) (hs : xs.size ≤ sizeLine)
    (hQ : Q (.ref s.heap.objs.size) { s with heap := s.heap.push { cls := .type "tuple", data := .seq xs.toList.reverse.toArray } }) : wpAny (model prog w) A (getItem (.ref t) (.ref z)) Q E s := by
  have room : sizeOk (.seq xs.toList.reverse.toArray) := by show xs.toList.reverse.toArray.size ≤ _; simpa using hs
  have kind : s.TypeIs (.ref z) "slice" := let ⟨ob, e1, e2, _⟩ := hz; ⟨ob, e1, e2⟩
  have step : (((xs.size : Int) - 1 == 0) && ((-1 : Int) == 1) && (xs.size == xs.size)) = false := by rw [show ((-1 : Int) == 1) = false by decide, Bool.and_false, Bool.false_and]
  unfold getItem
  refine wpAny_holding (wpAny_bind (wpAny_sequenceKey ht.typeIs (by decide) (wpAny_bind (wpAny_callSpecial?_slot (name := Str.ofString "__getitem__") ht.typeIs PyProof.Rows.slot_tuple_getitem (wpAny_call_entry PyProof.Rows.slot_tuple_getitem ht.typeIs PyProof.Rows.entry_tuple_getitem ?_ (PyProof.Rows.args_tuple_getitem _ _))))))
  show wpAny _ _ (Builtin.Tuple.tupleItemsOf (.ref t) >>= _) _ _ s
  refine wpAny_bind (PyProof.Rows.tupleItemsOf_ ht (wpAny_bind (wpAny_typeOf kind ?_)))
  rw [if_pos (by decide)]
  refine wpAny_bind (parts_back hz h1 h2 h3 ?_)
  show wpAny _ _ (if (((xs.size : Int) - 1 == 0) && ((-1 : Int) == 1) && (xs.size == xs.size)) = true then _ else _) _ _ s
  rw [step, if_neg Bool.false_ne_true, back_items]
  exact wpAny_bind (wpAny_newObj_type (wpAny_pure ⟨_, rfl, wpAny_pure hQ⟩) room)
end
def tBack (K : PySem.W.Frag) (te : TE) : TE := fun σ H Q => te σ H fun x H1 => ∃ a xs, x = .ref a ∧ SqT K H1 a xs ∧ NewT H1 xs.reverse Q
theorem pe_back {e : Expr} {te : TE} {k : Nat} {p1 p2 p3 pos : Pos} (he : PE X e te) : PE X (.Subscript e (.Slice none none (some (.UnaryOp .USub (.Constant (.int 1) k p1) p2)) p3) pos) (tBack X.K te) := by
  have minus : PO X (some (.UnaryOp .USub (.Constant (.int 1) k p1) p2)) (tPart (tUn (rU fun i => .int (-i)) (tC (.int 1)))) := po_some (pe_un un_neg pe_int)
  refine ⟨fun pins s σ H Q I h => Subscript_ (thn (he.run pins s σ H _ I h) ?_)⟩
  rintro v t ⟨_, H1, I1, r1, a, xs, rfl, hx, q⟩
  obtain rfl : v = .ref a := r1
  refine wpAny_Slice (thn (po_none.run pins t σ H1 (fun o H2 => o = none ∧ H2 = H1) I1 ⟨rfl, rfl⟩) ?_)
  rintro lo t2 ⟨_, _, I2, plo, rfl, rfl⟩
  refine thn (po_none.run pins t2 σ _ (fun o H3 => o = none ∧ H3 = _) I2 ⟨rfl, rfl⟩) ?_
  rintro hi t3 ⟨_, _, I3, phi, rfl, rfl⟩
  refine thn (minus.run pins t3 σ _ (fun o H4 => o = some (-1) ∧ H4 = _) I3 ⟨1, rfl, -1, rfl, rfl, rfl⟩) ?_
  rintro st t4 ⟨_, _, I4, pst, rfl, rfl⟩
  have I5 := I4.kept (h' := t4.heap.push { cls := .type "slice", data := .fields #[lo, hi, st] }) (t' := t4.toks) fun b ob e => Heap.get?_push_of_some _ e
  obtain ⟨its, r, ht, hz⟩ := I5.tuple hx
  have hl : its.toArray.size ≤ sizeLine := by rw [List.size_toArray, ← r.length]; exact hz
  refine tail_any (ops := [.ref a, .ref t4.heap.objs.size]) ht.typeIs (PyProof.Rows.slot_tuple_getitem.lookup) ?_ (by with_unfolding_all rfl)
  refine tuple_back ht (Heap.IsSliceOf.new _ lo hi st) plo phi pst hl ?_
  exact q.end I5 r.reverse (by rw [List.length_reverse]; exact hz)
theorem pe_either {e : Expr} {t1 t2 : TE} (h1 : PE X e t1) (h2 : PE X e t2) : PE X e fun σ H Q => t1 σ H Q ∨ t2 σ H Q := ⟨fun pins s σ H Q I h => h.elim (h1.run pins s σ H Q I) (h2.run pins s σ H Q I)⟩
theorem revR {pins : List (Addr × Obj)} {σ : St} {H : Hp} {s : Shared} {k : Nat} {p1 p2 p3 : Pos} (bx : Bool) (ha : EM X a ma) : EM X (.Subscript a (.Slice none none (some (.UnaryOp .USub (.Constant (.int 1) k p1) p2)) p3) pos) (mRev bx ma) :=
  EM.of_pe (pe_either (pe_revL ha.pe) (pe_back ha.pe)) fun σ H B ev S d S' hS hE em => by
    obtain ⟨⟨x, S1⟩, e1, em⟩ := bind_some em
    replace em : revI bx S1 x = some (d, S') := em
    unfold revI at em
    split at em
    · rename_i xs
      refine .inr ⟨B, ev, S, _, _, hS, hE, e1, fun B1 H1 v1 x1 s1 d1 => ?_⟩
      obtain ⟨l, vs, rfl, hl, r⟩ := dq_tup d1
      refine ⟨l, vs, rfl, hl.sq, fun p o hp ho => ?_⟩
      obtain ⟨y1, y2, y3⟩ := (mkT_ok s1 (dqAll_map (mg := X.mg).mpr (by rw [List.map_reverse]; exact RDs.reverse (dqAll_map (mg := X.mg).mp r))) em hp).2 o ho
      exact ⟨B1, x1.trans y1, y2, y3⟩
    · obtain ⟨xs, e2, em⟩ := bind_some em
      refine .inl ⟨B, ev, S, _, _, hS, hE, e1, fun B1 H1 v1 x1 s1 d1 => ?_⟩
      obtain ⟨l, vs, rfl, hl, r⟩ := lst_ok s1 d1 e2
      refine ⟨l, vs, rfl, .inl hl, fun p hp => ?_⟩
      have rr := RDs.reverse r
      obtain ⟨_, B2, y1, y2, y3⟩ := mkL_ok s1 rr em hp
      exact ⟨B2, x1.trans y1, y2, y3⟩

/-! calls of built-ins, of methods -/
theorem em_blt {es : List Expr} {m : Ms} {x : Str} {f : BF} {p : Pos} {val : Value} (hc : BR X val f) (hB : IsB val) (hg : Gl X x) (hm : X.mg x = none) (hv : bootBuiltins x = some val) (hn : x ≠ "__name__") (hdb : (x == ("__debug__" : Str)) = false)
    (ha : AM X (a :: es) m) (hs : (a :: es).all notStar = true) : EM X (.Call (.Name x p) (a :: es) [] pos) (mBlt f m) := by
  intro pins s σ H B ev S d S' I hS hE em
  obtain ⟨⟨xs, S1⟩, e1, em⟩ := bind_some em
  have hs2 := hs
  rw [List.all_cons, Bool.and_eq_true] at hs2
  refine wpAny_Call_Name_kw (ld_blt I hg hm hv ?_ hn hdb)
  have go : wpAny (model X.prog X.w) X.A (spliced (backTo pos (starEach (a :: es) X.env))) (fun us s₁ => wpAny (model X.prog X.w) X.A (call val us) (RM X pins σ B H d S') X.xe s₁) X.xe s :=
    thn (ha pos pins s σ H B ev S xs S1 I hS hE e1) fun us s1 ⟨vs, H1, B1, I1, r1, x1, hS1, d1⟩ =>
      thn (hc pins s1 σ H1 B1 S1 xs d S' vs us (QM X B1 H1 d S') I1 hS1 d1 r1 em post_QM) fun u s2 q => RM.of_EP x1 q
  rcases hB with ⟨id, rfl⟩ | ⟨T, rfl⟩
  · exact PyProof.Rows.callWith_builtin1 go (star_cons hs2.1) (star_plain hs2.2)
  · exact PyProof.Rows.callWith_type1 go (star_cons hs2.1) (star_plain hs2.2)
/-- the receiver is written so that super() is not meant -/
def plainRecv : Expr → Bool
  | .Call (.Name _ _) [] [] _ => false
  | _ => true
theorem recv_base {o : Expr} {x : Str} {env : Env} (h : plainRecv o = true) : attributeBase o x env (eval o env) = eval o env := by
  unfold attributeBase
  split
  · cases h
  · rfl
theorem tyIs {pins : List (Addr × Obj)} {σ : St} {B : BT} {H : Hp} {S : Store} {s : Shared} {r : D} {vr : V} {v : Value} {t : Tn} {x : Str} {f : MF} (I : Inv X pins σ H s) (hS : SR X.K X.mg B H S) (d1 : RD X.K X.mg B H r vr) (r1 : RelV vr v)
    (e2 : tnOf S r = some t) (e3 : metF t x = some f) : s.TypeIs v t.nm ∧ ∀ l, v = .ref l → ∃ ob, s.heap.get? l = some ob ∧ ob.dict = none := by
  have hl : ∀ {a : Addr} {vs : List V}, Rd H a (.lst vs) → s.TypeIs (.ref a) "list" ∧ ∀ l, Value.ref a = .ref l → ∃ ob, s.heap.get? l = some ob ∧ ob.dict = none := fun {a vs} h => by
    obtain ⟨_, its, n, _, _, e⟩ := lstR I h
    exact ⟨⟨_, e, rfl⟩, fun l q => by cases q; exact ⟨_, e, rfl⟩⟩
  have hd : ∀ {a : Addr} {vs : List (Key × V)}, Rd H a (.dK vs) → s.TypeIs (.ref a) "dict" ∧ ∀ l, Value.ref a = .ref l → ∃ ob, s.heap.get? l = some ob ∧ ob.dict = none := fun {a vs} h => by
    obtain ⟨_, _, _, _, ⟨o, es, ep, e, ex, _⟩⟩ := dk_rd I.hok h
    exact ⟨⟨_, e, ex.1⟩, fun l q => by cases q; exact ⟨_, e, ex.2.1⟩⟩
  cases r with
  | p y =>
    cases y <;> simp only [tnOf, Option.some.injEq] at e2 <;> subst e2 <;> simp only [metF] at e3 <;> try (cases e3)
    · obtain rfl := dq_str d1
      obtain ⟨tk, rfl⟩ := r1
      exact ⟨typeIs_str s _ tk, fun _ q => nomatch q⟩
    · cases d1 with
      | lst h1 _ => cases r1; exact hl h1.1
    · cases d1 with
      | dct h1 _ => cases r1; exact hd h1
  | ref n =>
    obtain ⟨a, h1, rfl⟩ := d1
    cases r1
    simp only [tnOf] at e2
    cases q : S[n]? with
    | none => rw [q] at e2; cases e2
    | some c =>
      rw [q] at e2
      cases c with
      | lst ys =>
        cases e2
        obtain ⟨vs, h2, _⟩ := hS.cell n _ a q h1
        exact hl (.inl h2)
      | dct ys =>
        cases e2
        obtain ⟨vs, h2, _⟩ := hS.cell n _ a q h1
        exact hd (.inl h2)
      | dead => cases e2
  | fn _ => cases e2
  | ty _ => cases e2
theorem em_met (K : BK X) {o : Expr} {mo : M} {es : List Expr} {m : Ms} {x : Str} {apos : Pos} (ho : EM X o mo) (ha : AM X (a :: es) m) (hs : (a :: es).all notStar = true) (hl : es.length < 29) (hp : plainRecv o = true) (hline : (apos.endLine == pos.line) = true) :
    EM X (.Call (.Attribute o x apos) (a :: es) [] pos) (mMet x mo m) := by
  intro pins s σ H B ev S d S' I hS hE em
  obtain ⟨⟨r, S1⟩, e1, em⟩ := bind_some em
  obtain ⟨t, e2, em⟩ := bind_some em
  obtain ⟨f, e3, em⟩ := bind_some em
  obtain ⟨⟨xs, S2⟩, e4, em⟩ := bind_some em
  refine wpAny_Call_method_late (recv_base hp) ?_ hline rfl (thn (ho pins s σ H B ev S r S1 I hS hE e1) fun v s1 ⟨vr, H1, B1, I1, r1, x1, hS1, d1⟩ => ?_)
  · rw [star_few hs]
    show (true && true && decide _) = true
    simp only [List.length_cons, List.length_nil, Nat.add_zero, List.isEmpty_nil, if_true, Bool.true_and, decide_eq_true_eq]
    omega
  · obtain ⟨id, pa, slot, hty, rule⟩ := met_ok K e3
    have ty := tyIs I1 hS1 d1 r1 e2 e3
    refine ⟨t.nm, id, pa, slot, hty, ty.1, ty.2, ?_⟩
    have hA := ha pos pins s1 σ H1 B1 ev S1 xs S2 I1 hS1 (hE.ext x1) e4
    rw [List.all_cons, Bool.and_eq_true] at hs
    rw [star_cons hs.1] at hA ⊢
    refine Calls.callWith_builtin (by show (false || (backTo pos (starEach es X.env)).any (·.1)) = false; rw [star_plain hs.2] <;> rfl) (Calls.evalArgs_plain ?_)
    exact thn hA fun us s2 ⟨vs, H2, B2, I2, r2, x2, hS2, d2⟩ =>
      thn (rule pins s2 σ H2 B2 S2 r xs d S' vr vs v us (QM X B2 H2 d S') I2 hS2 (RD.ext x2 d1) d2 r1 r2 em post_QM) fun u s3 q => RM.of_EP (x1.trans x2) q
theorem em_met0 (K : BK X) {o : Expr} {mo : M} {x : Str} {apos : Pos} (ho : EM X o mo) (hp : plainRecv o = true) (hline : (apos.endLine == pos.line) = true) :
    EM X (.Call (.Attribute o x apos) [] [] pos) (mMet x mo mNil) := by
  intro pins s σ H B ev S d S' I hS hE em
  obtain ⟨⟨r, S1⟩, e1, em⟩ := bind_some em
  obtain ⟨t, e2, em⟩ := bind_some em
  obtain ⟨f, e3, em⟩ := bind_some em
  obtain ⟨⟨xs, S2⟩, e4, em⟩ := bind_some em
  cases e4
  refine wpAny_Call_method0_late (recv_base hp) hline (thn (ho pins s σ H B ev S r S1 I hS hE e1) fun v s1 ⟨vr, H1, B1, I1, r1, x1, hS1, d1⟩ => ?_)
  obtain ⟨id, pa, slot, hty, rule⟩ := met_ok K e3
  have ty := tyIs I1 hS1 d1 r1 e2 e3
  refine ⟨t.nm, id, pa, slot, hty, ty.1, ty.2, Calls.callWith_builtin rfl (PySem.evalArgs_none ?_)⟩
  exact thn (rule pins s1 σ H1 B1 S1 r [] d S' vr [] v [] (QM X B1 H1 d S') I1 hS1 d1 .nil r1 .nil em post_QM) fun u s3 q => RM.of_EP x1 q

/-! ### own defs -/
/-- a def keeps what cf says of it, for all arguments; no exception leaves it -/
structure FnI (P : Program) (w : World) (K : PySem.W.Frag) (mg : Mg) (base : Heap) (k : Nat) (f : Addr) (fd : FuncData) (ps : List Str) (cf : List D → Store → Option (D × Store)) : Prop where
  run : ∀ (A : Around) (outer : List Env) (s : Shared) (H : Hp) (args : Args) (us : List Value) (vs : List V) (B : BT) (S : Store) (ds : List D) (d : D) (S' : Store) (Q : VK), Room k A → A.guards = some [] → Env0 P w K mg base A outer s H →
    BindsTo s fd args (ps.zip us) → us.length = ps.length → Vals vs us → SR K mg B H S → RDs K mg B H ds vs → cf ds S = some (d, S') → Post K mg B H d S' Q → codeAny (model P w) A (.call (.ref f) args) (L2.CR CX0 outer P w H s Q E0) s
/-- where the parameters stand among the positional values and the keywords' -/
def argIx (ps ks : List Str) (n : Nat) : Option (List Nat) :=
  if n + ks.length = ps.length ∧ ks.Nodup ∧ (ks.all fun k => (ps.drop n).contains k) = true ∧ ((ps.drop n).all fun k => ks.contains k) = true then some (List.range n ++ (ps.drop n).map fun p => n + ks.idxOf p) else none
/-- how the parameters bind -/
def Bnd (fd : FuncData) (ps : List Str) : Prop := ∀ (s : Shared) (us ws full : List Value) (ks : List Str) (ix : List Nat), argIx ps ks us.length = some ix → ws.length = ks.length → permD (us ++ ws) ix = some full → BindsTo s fd ⟨us, ks.zip ws⟩ (ps.zip full)
theorem permD_vals : ∀ {ix : List Nat} {vs vs' : List V} {us : List Value}, Vals vs us → permD vs ix = some vs' → ∃ us', permD us ix = some us' ∧ Vals vs' us'
  | [], _, _, _, _, h => by simp [permD] at h; subst h; exact ⟨[], rfl, .nil⟩
  | i :: ix, vs, vs', us, r, h => by
    simp only [permD] at h
    cases h1 : vs[i]? with
    | none => rw [h1] at h; cases h
    | some x =>
      cases h2 : permD vs ix with
      | none => rw [h1, h2] at h; cases h
      | some xs =>
        rw [h1, h2] at h
        cases h
        obtain ⟨u, e1, r1⟩ := r.get h1
        obtain ⟨us', e2, r2⟩ := permD_vals r h2
        exact ⟨u :: us', by simp only [permD, e1, e2], .cons r1 r2⟩
theorem permD_rds {K : PySem.W.Frag} {mg : Mg} {B : BT} {H : Hp} : ∀ {ix : List Nat} {ds ds' : List D} {vs : List V}, RDs K mg B H ds vs → permD ds ix = some ds' → ∃ vs', permD vs ix = some vs' ∧ RDs K mg B H ds' vs'
  | [], _, _, _, _, h => by simp [permD] at h; subst h; exact ⟨[], rfl, .nil⟩
  | i :: ix, ds, ds', vs, r, h => by
    simp only [permD] at h
    cases h1 : ds[i]? with
    | none => rw [h1] at h; cases h
    | some x =>
      cases h2 : permD ds ix with
      | none => rw [h1, h2] at h; cases h
      | some xs =>
        rw [h1, h2] at h
        cases h
        obtain ⟨v, e1, r1⟩ := r.at h1
        obtain ⟨vs', e2, r2⟩ := permD_rds r h2
        exact ⟨v :: vs', by simp only [permD, e1, e2], .cons r1 r2⟩
theorem permD_len {α : Type} : ∀ {ix : List Nat} {l l' : List α}, permD l ix = some l' → l'.length = ix.length
  | [], _, _, h => by simp [permD] at h; subst h; rfl
  | i :: ix, l, l', h => by
    simp only [permD] at h
    cases h1 : l[i]? with
    | none => rw [h1] at h; cases h
    | some x =>
      cases h2 : permD l ix with
      | none => rw [h1, h2] at h; cases h
      | some xs => rw [h1, h2] at h; cases h; simp [permD_len h2]
theorem argIx_len {ps ks : List Str} {n : Nat} {ix : List Nat} (h : argIx ps ks n = some ix) : ix.length = ps.length ∧ n + ks.length = ps.length := by
  unfold argIx at h
  split at h
  · rename_i hc
    cases h
    refine ⟨?_, hc.1⟩
    simp
    omega
  · cases h
theorem run_own {pins : List (Addr × Obj)} {σ : St} {H : Hp} {s : Shared} {B : BT} {S S' : Store} {ds : List D} {d : D} {us us' : List Value} {vs' : List V} {kw : List (Str × Value)} {k : Nat} {f : Addr} {fd : FuncData} {ps : List Str} {cf : List D → Store → Option (D × Store)} {Q : VK}
    (F : FnI X.prog X.w X.K X.mg X.base k f fd ps cf) (hr : Room k X.A) (hg : X.A.guards = some []) (hx : X.xe = fun _ _ => False) (I : Inv X pins σ H s) (hb : BindsTo s fd ⟨us, kw⟩ (ps.zip us')) (hl : us'.length = ps.length) (rv : Vals vs' us') (hS : SR X.K X.mg B H S)
    (rd : RDs X.K X.mg B H ds vs') (e : cf ds S = some (d, S')) (q : Post X.K X.mg B H d S' Q) : wpAny (model X.prog X.w) X.A (call (.ref f) us kw) (EP X pins σ Q) X.xe s := by
  refine wpAny_call (codeAny_mono (F.run X.A X.stack s H ⟨us, kw⟩ us' vs' B S ds d S' Q hr hg I.env0 hb hl rv hS rd e q) fun r s' hq => ?_)
  cases r with
  | error e => exact hq.elim
  | ok fl =>
    cases fl with
    | ret u => exact I.after hq
    | next => exact False.elim hq
    | brk => exact False.elim hq
    | cont => exact False.elim hq
theorem km_nil : KM X [] mNil := by
  intro pos pins s σ H B ev S ds S' I hS hE em
  cases em
  exact wpAny_evalAll_nil ⟨[], H, B, I, .nil, hS.refl, hS, .nil⟩
theorem km_cons {kws : List Keyword} {m : Ms} {nm : Option Str} {kpos : Pos} (ha : EM X a ma) (hr : KM X kws m) : KM X (⟨nm, a, kpos⟩ :: kws) (mCons ma m) := by
  intro pos pins s σ H B ev S ds S' I hS hE em
  obtain ⟨⟨x, S1⟩, e1, em⟩ := bind_some em
  obtain ⟨⟨xs, S2⟩, e2, em⟩ := map_some em
  cases em
  show wpAny _ _ (evalAll ((do let v ← eval a X.env; standAt pos; pure v) :: (backToKw pos (keywordEach kws X.env)).map (·.2))) _ _ s
  refine wpAny_evalAll_cons (wpAny_bind (thn (ha pins s σ H B ev S x S1 I hS hE e1) fun u s1 ⟨vx, H1, B1, I1, r1, x1, hS1, d1⟩ => wpAny_bind (wpAny_standAt (wpAny_pure ?_))))
  refine thn (hr pos pins s1 σ H1 B1 ev S1 xs _ I1 hS1 (hE.ext x1) e2) fun us s2 ⟨vs, H2, B2, I2, r2, x2, hS2, d2⟩ => ?_
  exact ⟨vx :: vs, H2, B2, I2, .cons r1 r2, x1.trans x2, hS2, .cons (RD.ext x2 d1) d2⟩
def kwNames : List Keyword → Option (List Str)
  | [] => some []
  | ⟨some n, _, _⟩ :: r => (kwNames r).map (n :: ·)
  | ⟨none, _, _⟩ :: _ => none
theorem kw_all {env : Env} : ∀ {kws : List Keyword} {ks : List Str}, kwNames kws = some ks → (backToKw pos (keywordEach kws env)).all (·.1.isSome) = true ∧ (backToKw pos (keywordEach kws env)).filterMap (·.1) = ks ∧ (backToKw pos (keywordEach kws env)).any (·.1.isNone) = false
  | [], ks, h => by simp [kwNames] at h; subst h; exact ⟨rfl, rfl, rfl⟩
  | ⟨some n, v, p⟩ :: r, ks, h => by
    simp only [kwNames] at h
    obtain ⟨ms, e, rfl⟩ := map_some h
    obtain ⟨h1, h2, h3⟩ := kw_all (env := env) e
    refine ⟨?_, ?_, ?_⟩
    · show (true && (backToKw pos (keywordEach r env)).all (·.1.isSome)) = true
      rw [h1]; rfl
    · show n :: (backToKw pos (keywordEach r env)).filterMap (·.1) = n :: ms
      rw [h2]
    · show (false || (backToKw pos (keywordEach r env)).any (·.1.isNone)) = false
      rw [h3]; rfl
  | ⟨none, v, p⟩ :: r, ks, h => by cases h
theorem em_call {es : List Expr} {kws : List Keyword} {m mk : Ms} {x : Str} {p : Pos} {ks : List Str} {ix : List Nat} {k : Nat} {f : Addr} {fd : FuncData} {ps : List Str} {cf : BF}
    (F : FnI X.prog X.w X.K X.mg X.base k f fd ps (fun ds S => cf S ds)) (hr : Room k X.A) (hgd : X.A.guards = some []) (hx : X.xe = fun _ _ => False) (hb : Bnd fd ps) (hg : Gl X x) (hm : X.mg x = some (.ref f)) (hk : PySem.W.keepIn X.K (.ref f) = true) (hdb : (x == ("__debug__" : Str)) = false)
    (ha : AM X es m) (hs : es.all notStar = true) (hkw : KM X kws mk) (hks : kwNames kws = some ks) (hix : argIx ps ks es.length = some ix) (hm0 : es = [] → m = mNil) (hml : ∀ ev S ds S', m ev S = some (ds, S') → ds.length = es.length) (hkl : ∀ ev S ds S', mk ev S = some (ds, S') → ds.length = ks.length) :
    EM X (.Call (.Name x p) es kws pos) (mCall cf ix m mk) := by
  intro pins s σ H B ev S d S' I hS hE em
  obtain ⟨⟨xs, S1⟩, e1, em⟩ := bind_some em
  obtain ⟨⟨zs, S2⟩, e2, em⟩ := bind_some em
  obtain ⟨full, e3, em⟩ := bind_some em
  obtain ⟨k1, k2, k3⟩ := kw_all (pos := pos) (env := X.env) hks
  have l1 : xs.length = es.length := hml _ _ _ _ e1
  have l2 : zs.length = ks.length := hkl _ _ _ _ e2
  -- behind all arguments
  have fin : ∀ us s1, RMs X pins σ B H xs S1 us s1 → wpAny (model X.prog X.w) X.A (evalAll ((backToKw pos (keywordEach kws X.env)).map (·.2))) (fun ws s2 => X.K.In s2.heap ∧ wpAny (model X.prog X.w) X.A (call (.ref f) ([] ++ us) (((backToKw pos (keywordEach kws X.env)).filterMap (·.1)).zip ws)) (RM X pins σ B H d S') X.xe s2) X.xe s1 :=
    fun us s1 ⟨vs, H1, B1, I1, r1, x1, hS1, d1⟩ => by
      refine thn (hkw pos pins s1 σ H1 B1 ev S1 zs S2 I1 hS1 (hE.ext x1) e2) fun ws s2 ⟨vz, H2, B2, I2, r2, x2, hS2, d2⟩ => ⟨I2.kIn, ?_⟩
      rw [k2, List.nil_append]
      obtain ⟨vf, e4, df⟩ := permD_rds ((RDs.ext x2 d1).append d2) e3
      obtain ⟨uf, e5, rf⟩ := permD_vals (r1.append r2) e4
      have l3 : us.length = es.length := by rw [← r1.length, ← d1.length]; exact l1
      have l4 : ws.length = ks.length := by rw [← r2.length, ← d2.length]; exact l2
      have bnd : BindsTo s2 fd ⟨us, ks.zip ws⟩ (ps.zip uf) := hb s2 us ws uf ks ix (by rw [l3]; exact hix) l4 e5
      have lf : uf.length = ps.length := by rw [permD_len e5]; exact (argIx_len hix).1
      exact thn (run_own F hr hgd hx I2 bnd lf rf hS2 df em (post_QM (X := X))) fun u s3 q => RM.of_EP (x1.trans x2) q
  refine wpAny_Call_Name_kw (ld_glob I hg hm ?_ hdb)
  cases es with
  | nil =>
    cases hm0 rfl
    cases e1
    refine PySem.W.callWith_KW0 (h₀ := X.base) I.ok.mod.kin hk k1 (fin [] s ⟨[], H, B, I, .nil, hS.refl, hS, .nil⟩) ?_
    show (false || (backToKw pos (keywordEach kws X.env)).any (·.1.isNone)) = false
    rw [k3]; rfl
  | cons e es =>
    have hs2 := hs
    rw [List.all_cons, Bool.and_eq_true] at hs2
    refine PySem.W.callWith_KW (h₀ := X.base) I.ok.mod.kin hk k1 (thn (ha pos pins s σ H B ev S xs S1 I hS hE e1) fun us s1 q => fin us s1 q) ?_ (star_cons hs2.1)
    rw [star_plain hs, k3]; rfl
end
end PI
set_option maxHeartbeats 1000000
/-! Own text: dict displays, targets, statements, loops. -/
namespace PI
open PySem PySem.Spec L2
open PyProof.Rows hiding St

/-! ### dicts -/
def putD (kvs : List (Key × D)) (k : Key) (v : D) : List (Key × D) :=
  if kvs.any (fun kv => decide (kv.1 = k)) then kvs.map (fun kv => if kv.1 = k then (kv.1, v) else kv) else kvs ++ [(k, v)]
def mergeD (kvs more : List (Key × D)) : List (Key × D) := more.foldl (fun acc kv => putD acc kv.1 kv.2) kvs
def allKV : List (Key × D) → Option (List (PyData × PyData))
  | [] => some []
  | (k, .p x) :: r => (allKV r).map ((kP k, x) :: ·)
  | _ :: _ => none
/-- a new dict; bx: boxed -/
def mkD (bx : Bool) (kvs : List (Key × D)) (S : Store) : Option (D × Store) :=
  if kvs.length ≤ sizeLine then (if bx then some (.ref S.length, S ++ [.dct kvs]) else (allKV kvs).map fun ys => (.p (.dict ys), S)) else none

section
variable {K : PySem.W.Frag} {mg : Mg} {B : BT} {H : Hp} {S : Store}
theorem RKV.any {es : List (Key × D)} {kvs : List (Key × V)} (r : RKV K mg B H es kvs) (k : Key) : es.any (fun kv => decide (kv.1 = k)) = kvs.any (fun kv => decide (kv.1 = k)) := by
  induction r with
  | nil => rfl
  | cons h _ ih =>
    simp only [List.any_cons, ih, h.1]
theorem RKV.mapP {es : List (Key × D)} {kvs : List (Key × V)} (r : RKV K mg B H es kvs) (k : Key) {d : D} {v : V} (h : RD K mg B H d v) :
    RKV K mg B H (es.map (fun kv => if kv.1 = k then (kv.1, d) else kv)) (kvs.map (fun kv => if kv.1 = k then (kv.1, v) else kv)) := by
  induction r with
  | nil => exact .nil
  | @cons a b _ _ h1 _ ih =>
    obtain ⟨a1, a2⟩ := a
    obtain ⟨b1, b2⟩ := b
    obtain ⟨e, h2⟩ := h1
    simp only at e
    subst e
    simp only [List.map_cons]
    by_cases hk : a1 = k
    · simp only [hk, if_true]
      exact .cons ⟨rfl, h⟩ ih
    · simp only [hk, if_false]
      exact .cons ⟨rfl, h2⟩ ih
theorem RKV.append {es fs : List (Key × D)} {kvs lvs : List (Key × V)} (r : RKV K mg B H es kvs) (q : RKV K mg B H fs lvs) : RKV K mg B H (es ++ fs) (kvs ++ lvs) := by
  induction r with
  | nil => exact q
  | cons h _ ih => exact .cons h ih
theorem RKV.put {es : List (Key × D)} {kvs : List (Key × V)} (r : RKV K mg B H es kvs) (k : Key) {d : D} {v : V} (h : RD K mg B H d v) : RKV K mg B H (putD es k d) (putK kvs k v) := by
  unfold putD putK
  rw [r.any k]
  split
  · exact r.mapP k h
  · exact r.append (.cons ⟨rfl, h⟩ .nil)
theorem RKV.merge {fs : List (Key × D)} {lvs : List (Key × V)} (q : RKV K mg B H fs lvs) : ∀ {es : List (Key × D)} {kvs : List (Key × V)}, RKV K mg B H es kvs → RKV K mg B H (mergeD es fs) (mergeK kvs lvs) := by
  induction q with
  | nil => intro es kvs r; exact r
  | @cons a b _ _ h _ ih =>
    intro es kvs r
    obtain ⟨a1, a2⟩ := a
    obtain ⟨b1, b2⟩ := b
    obtain ⟨e, h⟩ := h
    simp only at e
    subst e
    exact ih (r.put a1 h)
theorem allKV_dq : ∀ {es : List (Key × D)} {ys : List (PyData × PyData)} {kvs : List (Key × V)}, allKV es = some ys → RKV K mg B H es kvs → DqKV K B H kvs ys
  | [], ys, _, h, r => by simp [allKV] at h; subst h; cases r; exact .nil
  | (k, d) :: es, ys, _, h, .cons (b := b) h1 h2 => by
    cases d with
    | p x =>
      simp only [allKV] at h
      obtain ⟨zs, e, rfl⟩ := map_some h
      obtain ⟨e1, h1⟩ := h1
      obtain ⟨b1, b2⟩ := b
      simp only at e1
      subst e1
      exact .cons h1 (allKV_dq e h2)
    | _ => simp [allKV] at h
/-- a finished dict, list at p, which was set aside -/
theorem mkD_fin {bx : Bool} {p : Addr} {es : List (Key × D)} {kvs : List (Key × V)} {d : D} {S' : Store} (h : SR K mg (B.push p) H S) (hp : H p = some (.dK kvs)) (r : RKV K mg (B.push p) H es kvs) (e : mkD bx es S = some (d, S')) :
    ∃ B', SR K mg B' H S' ∧ RD K mg B' H d (.ref p) ∧ (∀ B0 H0, Ext B0 H0 B H → H0 p = none → Ext B0 H0 B' H) := by
  unfold mkD at e
  split at e
  · cases bx with
    | true =>
      simp only [if_true, Option.some.injEq, Prod.mk.injEq] at e
      obtain ⟨rfl, rfl⟩ := e
      have hl : B.b.length = S.length := h.len
      exact ⟨B.add p, h.keepBox ⟨kvs, hp, RKV.ex ex_kept r⟩, ⟨p, by show (B.b ++ [p])[S.length]? = some p; rw [← hl]; simp, rfl⟩, fun B0 H0 x q => x.keepBox q hp⟩
    | false =>
      simp only [Bool.false_eq_true, if_false] at e
      obtain ⟨ys, e1, e2⟩ := map_some e
      cases e2
      exact ⟨B, h.pop, .dct (.inl hp) h.popped (allKV_dq e1 (RKV.ex ex_pop r)), fun _ _ x _ => x⟩
  · cases e
theorem mkL_fin {bx : Bool} {p : Addr} {es : List D} {vs : List V} {d : D} {S' : Store} (h : SR K mg (B.push p) H S) (hp : H p = some (.lst vs)) (r : RDs K mg (B.push p) H es vs) (e : mkL bx es S = some (d, S')) :
    ∃ B', SR K mg B' H S' ∧ RD K mg B' H d (.ref p) ∧ (∀ B0 H0, Ext B0 H0 B H → H0 p = none → Ext B0 H0 B' H) := by
  unfold mkL at e
  split at e
  · cases bx with
    | true =>
      simp only [if_true, Option.some.injEq, Prod.mk.injEq] at e
      obtain ⟨rfl, rfl⟩ := e
      have hl : B.b.length = S.length := h.len
      exact ⟨B.add p, h.keepBox ⟨vs, hp, RDs.ex ex_kept r⟩, ⟨p, by show (B.b ++ [p])[S.length]? = some p; rw [← hl]; simp, rfl⟩, fun B0 H0 x q => x.keepBox q hp⟩
    | false =>
      simp only [Bool.false_eq_true, if_false] at e
      obtain ⟨ys, e1, e2⟩ := map_some e
      cases e2
      have := allP_eq e1
      subst this
      exact ⟨B, h.pop, .lst ⟨.inl hp, h.popped⟩ (dqAll_map.mpr (RDs.ex ex_pop r)), fun _ _ x _ => x⟩
  · cases e
end

/-! ### dict displays -/
abbrev Mp := EnvI → Store → Option (List (Key × D) × Store)
def mpNil : Mp := fun _ S => some ([], S)
def mpCons (k v : M) (r : Mp) : Mp := fun ev S => (k ev S).bind fun a => match a.1 with
  | .p x => (keyP x).bind fun k' => (v ev a.2).bind fun b => (r ev b.2).map fun c => ((k', b.1) :: c.1, c.2)
  | _ => none
def mDic (bx : Bool) (r : Mp) : M := fun ev S => (r ev S).bind fun a => if a.1.length ≤ 15 then mkD bx (mergeD [] a.1) a.2 else none
def DM (X : Cx) (pos : Pos) (keys : List (Option Expr)) (values : List Expr) (m : Mp) : Prop := ∀ (pins : List (Addr × Obj)) (s : Shared) (σ : St) (H : Hp) (B : BT) (ev : EnvI) (S : Store) (es : List (Key × D)) (S' : Store), Inv X pins σ H s → SR X.K X.mg B H S → ER X.K X.mg B H ev σ → m ev S = some (es, S') →
  wpAny (model X.prog X.w) X.A (evalPairs (pairTrees keys values X.env pos)) (fun vs s' => ∃ kvs H' B', Inv X pins σ H' s' ∧ VV (kvs.map fun kv => (kV kv.1, kv.2)) vs ∧ Ext B H B' H' ∧ SR X.K X.mg B' H' S' ∧ RKV X.K X.mg B' H' es kvs) X.xe s
section
variable {X : Cx} {a b c e : Expr} {ma mb mc : M} {pos : Pos}
theorem dm_nil : DM X pos [] [] mpNil := by
  intro pins s σ H B ev S es S' I hS hE em
  cases em
  exact pairTrees_nil_walk ⟨[], H, B, I, .nil, hS.refl, hS, .nil⟩
theorem dm_cons {ks : List (Option Expr)} {vs : List Expr} {m : Mp} (ha : EM X a ma) (hb : EM X b mb) (hr : DM X pos ks vs m) : DM X pos (some a :: ks) (b :: vs) (mpCons ma mb m) := by
  intro pins s σ H B ev S es S' I hS hE em
  obtain ⟨⟨x, S1⟩, e1, em⟩ := bind_some em
  cases x with
  | p x =>
    obtain ⟨k, e2, em⟩ := bind_some em
    obtain ⟨⟨y, S2⟩, e3, em⟩ := bind_some em
    obtain ⟨⟨zs, S3⟩, e4, em⟩ := map_some em
    cases em
    have ek := keyP_eq e2
    subst ek
    refine pairTrees_cons_walk (thn (ha pins s σ H B ev S _ S1 I hS hE e1) fun u s1 ⟨vx, H1, B1, I1, r1, x1, hS1, d1⟩ => thn (hb pins s1 σ H1 B1 ev S1 y S2 I1 hS1 (hE.ext x1) e3) fun w s2 ⟨vy, H2, B2, I2, r2, x2, hS2, d2⟩ =>
      thn (hr pins s2 σ H2 B2 ev S2 zs _ I2 hS2 (hE.ext (x1.trans x2)) e4) fun us s3 ⟨kvs, H3, B3, I3, r3, x3, hS3, d3⟩ => ?_)
    obtain rfl := kv_dq d1
    exact ⟨(k, vy) :: kvs, H3, B3, I3, .cons ⟨r1, r2⟩ r3, (x1.trans x2).trans x3, hS3, .cons ⟨rfl, RD.ext x3 d2⟩ d3⟩
  | _ => cases em
theorem em_dic0 (bx : Bool) : EM X (.Dict [] [] pos) (mDic bx mpNil) :=
  EM.of_pe pe_dnewK fun σ H B ev S d S' hS hE em => by
    obtain ⟨⟨x, S1⟩, e1, em⟩ := bind_some em
    cases e1
    simp only [List.length_nil, Nat.zero_le, if_true] at em
    intro p hp
    obtain ⟨B', y1, y2, y3⟩ := mkD_fin (hS.push hp (.dK [])) upd_same .nil em
    exact ⟨B', y3 B H (hS.ext_new hp _) hp, y1, y2⟩
theorem em_dic (bx : Bool) {keys : List (Option Expr)} {values : List Expr} {m : Mp} (h : DM X pos keys values m) (hall : keys.all (·.isSome) = true) (hl : keys.length = values.length) (h0 : keys ≠ []) (h15 : keys.length ≤ 15) : EM X (.Dict keys values pos) (mDic bx m) := by
  intro pins s σ H B ev S d S' I hS hE em
  obtain ⟨⟨es, S1⟩, e1, em⟩ := bind_some em
  split at em
  · rename_i hz
    have hn := I.hok.fresh (Nat.le_refl s.heap.objs.size)
    have I1 := I.laid (a := s.heap.objs.size) (o := .dK []) (h' := s.heap.push { cls := .type "dict", data := .dict #[] }) (t' := s.toks) (fun _ _ q => Heap.get?_push_of_some _ q) (Nat.le_refl _) (dk_empty s.heap I.big)
    refine wpAny_Dict_walk (knd := mixKind X.prog X.w) hall hl h0 h15 (thn (h pins _ σ _ (B.push s.heap.objs.size) ev S es S1 I1 (hS.push hn _) (ER.ex (ex_push hn _) hE) e1) fun ws s2 ⟨kvs, H2, B2, I2, rel, x2, hS2, d2⟩ => ?_)
    obtain ⟨rs, c, rk⟩ := carries_of (P := X.prog) (w := X.w) rel
    obtain ⟨B3, rfl⟩ := x2.pushed
    have e : H2 s.heap.objs.size = some (.dK []) := (x2.tmp _ List.mem_cons_self).trans upd_same
    obtain ⟨z, hd, vs0, r0, dd⟩ := dk_of I2.hok e
    cases r0
    have hl2 : kvs.length ≤ 15 := by rw [← d2.length]; exact hz
    have hz2 : (mergeK [] kvs).length ≤ sizeLine := by
      have h1 := length_mergeK kvs []
      rw [List.length_nil] at h1
      rw [sizeLine_eq]; omega
    refine ⟨rs, c, dd, fun h' dd' hs => ?_⟩
    have he : ∃ q, h'.get? s.heap.objs.size = some q := let ⟨q, _, _, hq, _⟩ := dd'; ⟨q, hq⟩
    have hT : s.heap.objs.size ∈ (B3.push s.heap.objs.size).t := List.mem_cons_self
    have x0 : Ext B H B3 H2 := (hS.ext_new hn (.dK [])).inner hn x2
    have x3 := x0.aside hn hS2.popped (.dK (mergeK [] kvs))
    have d3 : RKV X.K X.mg (B3.push s.heap.objs.size) (upd H2 s.heap.objs.size (.dK (mergeK [] kvs))) (mergeD [] es) (mergeK [] kvs) := (RKV.ex (ex_temp hT _) d2).merge .nil
    obtain ⟨B', y1, y2, y3⟩ := mkD_fin (hS2.temp hT _) upd_same d3 em
    exact ⟨.ref s.heap.objs.size, _, B', d_write I2 (by rw [e]; exact True.intro) hs he (dk_new hz2 hd (rk.merge .nil) dd'), rfl, y3 B H x3 hn, y1, y2⟩
  · cases em

/-! ### targets -/
def gNm (i : Nat) : MG := fun d ev S => some (ev.set i (some d), S)
def gsNil : List D → EnvI → Store → Option (EnvI × Store) := fun ds ev S => match ds with
  | [] => some (ev, S)
  | _ => none
def gsCons (g : MG) (r : List D → EnvI → Store → Option (EnvI × Store)) : List D → EnvI → Store → Option (EnvI × Store) := fun ds ev S => match ds with
  | d :: ds => (g d ev S).bind fun a => r ds a.1 a.2
  | [] => none
/-- (a, b, ..) = a tuple of just so many -/
def gTp (n : Nat) (r : List D → EnvI → Store → Option (EnvI × Store)) : MG := fun d ev S => match d with
  | .p (.tuple xs) => if xs.length = n then r (xs.map .p) ev S else none
  | _ => none
def setI (S : Store) (o i d : D) : Option Store := match o with
  | .ref n => (match S[n]? with
    | some (.lst xs) => (match i with
      | .p (.int k) => (ixN xs.length k).map fun j => S.set n (.lst (xs.set j d))
      | _ => none)
    | some (.dct kvs) => (match i with
      | .p x => if kvs.length < sizeLine then (keyP x).map fun k => S.set n (.dct (putD kvs k d)) else none
      | _ => none)
    | _ => none)
  | _ => none
/-- o[i] = .. -/
def gSb (o i : M) : MG := fun d ev S => (o ev S).bind fun a => (i ev a.2).bind fun b => (setI b.2 a.1 b.1 d).map fun S' => (ev, S')
/-- a target that stores at the slots is -/
def GM (X : Cx) (tg : Expr) (is : List Nat) (m : MG) : Prop := ∀ (pins : List (Addr × Obj)) (s : Shared) (σ : St) (H : Hp) (B : BT) (ev : EnvI) (S : Store) (d : D) (v : V) (u : Value) (ev' : EnvI) (S' : Store), Inv X pins σ H s → SR X.K X.mg B H S → ER X.K X.mg B H ev σ → RD X.K X.mg B H d v → RelV v u → m d ev S = some (ev', S') →
  wpAny (model X.prog X.w) X.A (assign tg X.env u) (fun _ s' => ∃ σ' H' B', Inv X pins σ' H' s' ∧ Ext B H B' H' ∧ SR X.K X.mg B' H' S' ∧ ER X.K X.mg B' H' ev' σ' ∧ ∀ j, j ∉ is → σ'[j]? = σ[j]?) X.xe s
def GsM (X : Cx) (tgs : List Expr) (is : List Nat) (m : List D → EnvI → Store → Option (EnvI × Store)) : Prop := ∀ (pins : List (Addr × Obj)) (s : Shared) (σ : St) (H : Hp) (B : BT) (ev : EnvI) (S : Store) (ds : List D) (vs : List V) (us : List Value) (ev' : EnvI) (S' : Store), Inv X pins σ H s → SR X.K X.mg B H S → ER X.K X.mg B H ev σ → RDs X.K X.mg B H ds vs → Vals vs us → m ds ev S = some (ev', S') →
  wpAny (model X.prog X.w) X.A (assignInOrder ((assignEach tgs X.env).map (·.2)) us) (fun _ s' => ∃ σ' H' B', Inv X pins σ' H' s' ∧ Ext B H B' H' ∧ SR X.K X.mg B' H' S' ∧ ER X.K X.mg B' H' ev' σ' ∧ ∀ j, j ∉ is → σ'[j]? = σ[j]?) X.xe s
theorem gm_name {i : Nat} {x : Str} (hN : X.N.Nodup) (hi : X.N[i]? = some x) (hx : Loc X.env.scope x) (hf : X.fn x = true ∨ X.env.scope.names.lookup x = some .local) : GM X (.Name x pos) [i] (gNm i) := by
  intro pins s σ H B ev S d v u ev' S' I hS hE rd rv em
  cases em
  exact wpAny_assign_Name (store_ok I hN hi hx rv (fun s' I' => ⟨_, H, B, I', hS.refl, hS, hE.set i rd, fun j hj => List.getElem?_set_ne (fun q => hj (by rw [q]; exact List.mem_singleton_self _))⟩) hf)
theorem gs_nil : GsM X [] [] gsNil := by
  intro pins s σ H B ev S ds vs us ev' S' I hS hE rd rv em
  unfold gsNil at em
  split at em
  · cases em
    cases rd
    cases rv
    exact assignInOrder_nil ⟨σ, H, B, I, hS.refl, hS, hE, fun _ _ => rfl⟩
  · cases em
theorem each_cons {e : Expr} {es : List Expr} {env : Env} (h : notStar e = true) : assignEach (e :: es) env = (false, assign e env) :: assignEach es env := by
  cases e <;> first | rfl | cases h
theorem gs_cons {e : Expr} {es : List Expr} {is js : List Nat} {g : MG} {r : List D → EnvI → Store → Option (EnvI × Store)} (h1 : GM X e is g) (h2 : GsM X es js r) (hs : notStar e = true) : GsM X (e :: es) (is ++ js) (gsCons g r) := by
  intro pins s σ H B ev S ds vs us ev' S' I hS hE rd rv em
  unfold gsCons at em
  split at em
  · obtain ⟨⟨ev1, S1⟩, e1, em⟩ := bind_some em
    cases rd with
    | cons d1 d2 =>
      cases rv with
      | cons r1 r2 =>
        rw [each_cons hs]
        refine assignInOrder_cons (thn (h1 pins s σ H B ev S _ _ _ ev1 S1 I hS hE d1 r1 e1) fun _ s1 ⟨σ1, H1, B1, I1, x1, hS1, hE1, u1⟩ => ?_)
        refine thn (h2 pins s1 σ1 H1 B1 ev1 S1 _ _ _ ev' S' I1 hS1 hE1 (RDs.ext x1 d2) r2 em) fun _ s2 ⟨σ2, H2, B2, I2, x2, hS2, hE2, u2⟩ => ?_
        exact ⟨σ2, H2, B2, I2, x1.trans x2, hS2, hE2, fun j hj => (u2 j fun q => hj (List.mem_append_right _ q)).trans (u1 j fun q => hj (List.mem_append_left _ q))⟩
  · cases em
theorem each_len {env : Env} : ∀ {es : List Expr}, es.all notStar = true → (assignEach es env).length = es.length ∧ (assignEach es env).findIdx? (·.1) = none
  | [], _ => ⟨rfl, rfl⟩
  | e :: es, h => by
    rw [List.all_cons, Bool.and_eq_true] at h
    rw [each_cons h.1]
    obtain ⟨h1, h2⟩ := each_len (env := env) h.2
    refine ⟨by simp [h1], ?_⟩
    rw [List.findIdx?_cons, if_neg (by simp), h2]; rfl
/-- a tuple's items go to the targets: from any tuple that is read -/
theorem gm_items {es : List Expr} {is : List Nat} {k : Nat} {r : List D → EnvI → Store → Option (EnvI × Store)} (K : BK X) (h : GsM X es is r) (hs : es.all notStar = true) {pins : List (Addr × Obj)} {s : Shared} {σ : St} {H : Hp} {B : BT} {ev : EnvI} {S : Store} {ds : List D} {a : Addr} {vs : List V} {ev' : EnvI} {S' : Store}
    (I : Inv X pins σ H s) (hS : SR X.K X.mg B H S) (hE : ER X.K X.mg B H ev σ) (hq : SqT X.K H a vs) (rd : RDs X.K X.mg B H ds vs) (hl : ds.length = es.length) (em : r ds ev S = some (ev', S')) :
    wpAny (model X.prog X.w) X.A (assign (.Tuple es k pos) X.env (.ref a)) (fun _ s' => ∃ σ' H' B', Inv X pins σ' H' s' ∧ Ext B H B' H' ∧ SR X.K X.mg B' H' S' ∧ ER X.K X.mg B' H' ev' σ' ∧ ∀ j, j ∉ is → σ'[j]? = σ[j]?) X.xe s := by
  obtain ⟨its, rv, ht, hz⟩ := I.tuple hq
  obtain ⟨l1, l2⟩ := each_len (env := X.env) hs
  refine PyProof.Rows.assign_Tuple_tuple (I.ok.hd K.calm) ht (by rw [l1, List.size_toArray, ← rv.length, ← rd.length, hl]) l2 fun h' hx => ?_
  have I1 : Inv X pins σ H { s with heap := h' } := I.kept (t' := s.toks) fun b o e => hx b o (Nat.ne_of_lt (Heap.lt_size e)) e
  exact h pins _ σ H B ev S ds vs _ ev' S' I1 hS hE rd (by simpa using rv) em
theorem gm_tup {es : List Expr} {is : List Nat} {k : Nat} {r : List D → EnvI → Store → Option (EnvI × Store)} (K : BK X) (h : GsM X es is r) (hs : es.all notStar = true) : GM X (.Tuple es k pos) is (gTp es.length r) := by
  intro pins s σ H B ev S d v u ev' S' I hS hE rd rv em
  unfold gTp at em
  split at em
  · rename_i xs
    split at em
    · rename_i hl
      obtain ⟨a, vs, rfl, h1, h2⟩ := dq_tup rd
      cases rv
      exact gm_items K h hs I hS hE h1.sq (dqAll_map.mp h2) (by rw [List.length_map]; exact hl) em
    · cases em
  · cases em
theorem RDs.set {K : PySem.W.Frag} {mg : Mg} {B : BT} {H : Hp} {d : D} {v : V} (h : RD K mg B H d v) : ∀ {ds : List D} {vs : List V} (i : Nat), RDs K mg B H ds vs → RDs K mg B H (ds.set i d) (vs.set i v)
  | _, _, _, .nil => .nil
  | _, _, 0, .cons _ t => .cons h t
  | _, _, i + 1, .cons q t => .cons q (RDs.set h i t)
theorem setI_ok (K : BK X) {pins : List (Addr × Obj)} {s : Shared} {σ : St} {H : Hp} {B : BT} {S S' : Store} {o i d : D} {vo vi v : V} {ov iv u : Value} (I : Inv X pins σ H s) (hS : SR X.K X.mg B H S) (d1 : RD X.K X.mg B H o vo) (d2 : RD X.K X.mg B H i vi) (d3 : RD X.K X.mg B H d v)
    (r1 : RelV vo ov) (r2 : RelV vi iv) (r3 : RelV v u) (e : setI S o i d = some S') : wpAny (model X.prog X.w) X.A (setItem ov iv u) (fun _ s' => ∃ H', Inv X pins σ H' s' ∧ Ext B H B H' ∧ SR X.K X.mg B H' S') X.xe s := by
  unfold setI at e
  split at e
  · rename_i n
    obtain ⟨a, ha, rfl⟩ := d1
    split at e
    · rename_i xs hx
      obtain ⟨vs, h1, h2⟩ := hS.cell n _ a hx ha
      split at e
      · rename_i k
        obtain rfl := dq_int d2
        obtain ⟨j, hj, rfl⟩ := map_some e
        refine thn (set_list pins s σ H _ _ v ov iv u (fun H' => Ext B H B H' ∧ SR X.K X.mg B H' (S.set n (.lst (xs.set j d)))) I r1 r2 r3 ⟨a, vs, k, j, rfl, rfl, h1, by rw [← h2.length]; exact hj, ?_⟩) fun _ s' ⟨H', I', q⟩ => ⟨H', I', q⟩
        have x := hS.ext_write ha (.lst (vs.set j v))
        exact ⟨x, hS.write ha ⟨_, upd_same, RDs.ext x (RDs.set d3 j h2)⟩⟩
      · cases e
    · rename_i kvs hx
      obtain ⟨vs, h1, h2⟩ := hS.cell n _ a hx ha
      split at e
      · split at e
        · rename_i hz
          obtain ⟨k, hk, rfl⟩ := map_some e
          have ek := keyP_eq hk
          subst ek
          obtain rfl := kv_dq d2
          cases r1
          refine d_setItem (by have := K.hu; omega) I (DPut.k h1 (by rw [← h2.length]; exact hz)) r2 r3 fun s' I' => ?_
          have x := hS.ext_write ha (.dK (putK vs k v))
          exact ⟨_, I', x, hS.write ha ⟨_, upd_same, RKV.ext x (h2.put k d3)⟩⟩
        · cases e
      · cases e
    · cases e
  · cases e
theorem gm_sub (K : BK X) {o i : Expr} {mo mi : M} (ho : EM X o mo) (hi : EM X i mi)
    (ha : ∀ v, assign (.Subscript o i pos) X.env v = (do
      let ov ← holding [v] (eval o X.env)
      let iv ← holding [v, ov] (eval i X.env)
      standAt pos
      holding [v, ov, iv] (setItem ov iv v)
      release [v, ov, iv] [])) : GM X (.Subscript o i pos) [] (gSb mo mi) := by
  intro pins s σ H B ev S d v u ev' S' I hS hE rd rv em
  obtain ⟨⟨x, S1⟩, e1, em⟩ := bind_some em
  obtain ⟨⟨y, S2⟩, e2, em⟩ := bind_some em
  obtain ⟨S3, e3, em⟩ := map_some em
  cases em
  rw [ha]
  refine wpAny_bind (wpAny_holding (thn (ho pins s σ H B ev S x S1 I hS hE e1) fun ov s1 ⟨vo, H1, B1, I1, r1, x1, hS1, d1⟩ => ?_))
  refine wpAny_bind (wpAny_holding (thn (hi pins s1 σ H1 B1 ev S1 y S2 I1 hS1 (hE.ext x1) e2) fun iv s2 ⟨vi, H2, B2, I2, r2, x2, hS2, d2⟩ => ?_))
  refine wpAny_bind (wpAny_standAt (wpAny_bind (wpAny_holding (thn (setI_ok K I2 hS2 (RD.ext x2 d1) d2 (RD.ext (x1.trans x2) rd) r1 r2 rv e3) fun _ s3 ⟨H3, I3, x3, hS3⟩ => ?_))))
  exact wpAny_release ⟨σ, H3, B2, I3, (x1.trans x2).trans x3, hS3, hE.ext ((x1.trans x2).trans x3), fun _ _ => rfl⟩
end
end PI
set_option maxHeartbeats 1000000
/-! Own text: list(range(..)), sorted(set(..)). -/
namespace PI
open PySem PySem.Spec L2
open PyProof.Rows hiding St

def rngL (lo : Int) (n : Nat) : List D := (List.range n).map fun i => .p (.int (lo + (i : Nat)))
def rngV (lo : Int) (n : Nat) : List V := (List.range n).map fun i => .int (lo + (i : Nat))
theorem rng_rds {K : PySem.W.Frag} {mg : Mg} {B : BT} {H : Hp} {lo : Int} : ∀ l : List Nat, RDs K mg B H (l.map fun i => .p (.int (lo + (i : Nat)))) (l.map fun i => V.int (lo + (i : Nat)))
  | [] => .nil
  | i :: r => .cons (Dq.int _) (rng_rds r)
theorem vals_at : ∀ {xs : List V} {us : List Value}, xs.length = us.length → (∀ (i : Nat) (x : V) (u : Value), xs[i]? = some x → us[i]? = some u → RelV x u) → Vals xs us
  | [], [], _, _ => .nil
  | x :: xs, u :: us, hl, h => .cons (h 0 x u rfl rfl) (vals_at (by simpa using hl) fun i y w e1 e2 => h (i + 1) y w e1 e2)
  | [], _ :: _, hl, _ => by cases hl
  | _ :: _, [], hl, _ => by cases hl
section
variable {X : Cx}
theorem lrange_run (hc : X.calm = true) {pins : List (Addr × Obj)} {σ : St} {H : Hp} {s : Shared} {B : BT} {S S' : Store} {bx : Bool} {d : D} {lo hi : Int} {t u v : Tok} {tk : Nat} (I : Inv X pins σ H s) (hS : SR X.K X.mg B H S) (h1 : -(2 ^ 62) ≤ lo) (h2 : lo < 2 ^ 62) (h3 : -(2 ^ 62) ≤ hi) (h4 : hi < 2 ^ 62)
    (hz : (hi - lo).toNat ≤ 16777216) (e : mkL bx (rngL lo (hi - lo).toNat) S = some (d, S')) :
    wpAny (model X.prog X.w) X.A (call (.type "list") [.ref s.heap.objs.size]) (RM X pins σ B H d S') X.xe { s with heap := s.heap.push { cls := .type "range", data := .fields #[.int lo t, .int hi u, .int 1 v] }, toks := tk } := by
  have I1 : Inv X pins σ H { s with heap := s.heap.push { cls := .type "range", data := .fields #[.int lo t, .int hi u, .int 1 v] }, toks := tk } := I.kept fun b o e => Heap.get?_push_of_some _ e
  refine call_list_range (n := (hi - lo).toNat) (I.ok.hd hc) (IsRange.new ..) (small_one h1 h2 h3 h4) (by rw [rangeSize_one]; split <;> omega) hz fun h' tk' acc c hk ho hit => ?_
  have fr := I1.hok.fresh (Nat.le_refl (s.heap.push { cls := .type "range", data := .fields #[.int lo t, .int hi u, .int 1 v] }).objs.size)
  obtain ⟨hz2, B', x1, x2, x3⟩ := mkL_ok hS (rng_rds (lo := lo) (List.range (hi - lo).toNat)) e fr
  refine ⟨.ref _, upd H _ (.lst _), B', I1.laid (t' := tk') hk (Nat.le_refl _) ⟨hz2, acc.toList, c, vals_at ?_ ?_, by rw [Array.toArray_toList]; exact ho⟩, rfl, x1, x2, x3⟩
  · rw [List.length_map, List.length_range, Array.length_toList]
    exact hit.1.symm
  · intro i x w e1 e2
    rw [List.getElem?_map] at e1
    have hi' : i < (hi - lo).toNat := by
      by_cases q : i < (hi - lo).toNat
      · exact q
      · rw [List.getElem?_eq_none (by rw [List.length_range]; omega)] at e1; cases e1
    rw [List.getElem?_range hi'] at e1
    cases e1
    obtain ⟨z, hz'⟩ := hit.2 i w (by simpa using e2)
    exact ⟨z, by rw [hz', Int.mul_one]⟩
variable {a b : Expr} {ma mb : M} {p p2 q pos : Pos}
def lrg1 (bx : Bool) (S : Store) : D → Option (D × Store)
  | .p (.int j) => if j.natAbs < 2 ^ 62 ∧ j.toNat ≤ 16777216 then mkL bx (rngL 0 j.toNat) S else none
  | _ => none
theorem lrg1_inv {bx : Bool} {S S' : Store} {x d : D} (h : lrg1 bx S x = some (d, S')) : ∃ j, x = .p (.int j) ∧ (-(2 ^ 62) ≤ j ∧ j < 2 ^ 62 ∧ j.toNat ≤ 16777216) ∧ mkL bx (rngL 0 j.toNat) S = some (d, S') := by
  unfold lrg1 at h
  split at h
  · rename_i j
    split at h
    · rename_i hc
      exact ⟨j, rfl, by omega, h⟩
    · cases h
  · cases h
def mLrg1 (bx : Bool) (a : M) : M := fun ev S => (a ev S).bind fun r => lrg1 bx r.2 r.1
theorem em_lrg1 (bx : Bool) (K : BK X) (hg : Gl X "list") (hm : X.mg "list" = none) (hg2 : Gl X "range") (hm2 : X.mg "range" = none) (ha : EM X a ma) (hs : notStar a = true) :
    EM X (.Call (.Name "list" p) [.Call (.Name "range" p2) [a] [] q] [] pos) (mLrg1 bx ma) := by
  intro pins s σ H B ev S d S' I hS hE em
  obtain ⟨⟨x, S1⟩, e1, em⟩ := bind_some em
  replace em : lrg1 bx S1 x = some (d, S') := em
  refine Call_ (ld_blt I hg hm (show bootBuiltins "list" = some (.type "list") by decide +kernel) ?_)
  refine PyProof.Rows.callWith_type1 (PyProof.Rows.args_cons ?_ rfl) rfl rfl
  refine Call_ (ld_blt I hg2 hm2 (show bootBuiltins "range" = some (.type "range") by decide +kernel) ?_)
  refine PyProof.Rows.callWith_type1 (PyProof.Rows.args_cons (thn (ha pins s σ H B ev S x S1 I hS hE e1) fun v s1 ⟨vx, H1, B1, I1, r1, x1, hS1, d1⟩ => PyProof.Rows.args_nil ?_) (star_cons hs)) (star_cons hs) rfl
  obtain ⟨j, rfl, hc, em⟩ := lrg1_inv em
  obtain rfl := dq_int d1
  obtain ⟨t, rfl⟩ := r1
  refine call_range_1 (PyProof.Rows.args_nil (thn (lrange_run K.calm (lo := 0) (hi := j) I1 hS1 (by omega) (by omega) hc.1 hc.2.1 (by have := hc.2.2; omega) (by rw [show (j - 0).toNat = j.toNat by omega]; exact em)) fun u s3 z => RM.post x1 z))
/-- the numbers of a list, each once, ascending -/
def setL (ns : List Int) : List Int := (PyProof.Rows.firstMet (fun i => ns.getD i 0) ns.length).mergeSort fun a b => decide (a ≤ b)
def sset (bx : Bool) (S : Store) (x : D) : Option (D × Store) := (numsOf S x).bind fun ns => if ns.length < 64 then mkL bx ((setL ns).map fun i => .p (.int i)) S else none
def mSset (bx : Bool) (a : M) : M := fun ev S => (a ev S).bind fun r => sset bx r.2 r.1
theorem ints_rds {K : PySem.W.Frag} {mg : Mg} {B : BT} {H : Hp} : ∀ l : List Int, RDs K mg B H (l.map fun i => .p (.int i)) (l.map V.int)
  | [] => .nil
  | i :: r => .cons (Dq.int _) (ints_rds r)
theorem asc_unique : ∀ {l m : List Int}, l.Pairwise (· < ·) → m.Pairwise (· < ·) → (∀ k, k ∈ l ↔ k ∈ m) → l = m
  | [], [], _, _, _ => rfl
  | [], b :: m, _, _, h => by have := (h b).mpr List.mem_cons_self; cases this
  | a :: l, [], _, _, h => by have := (h a).mp List.mem_cons_self; cases this
  | a :: l, b :: m, h1, h2, h => by
    rw [List.pairwise_cons] at h1 h2
    have e : a = b := by
      have q1 := (h a).mp List.mem_cons_self
      have q2 := (h b).mpr List.mem_cons_self
      rcases List.mem_cons.mp q1 with q1 | q1
      · exact q1
      · rcases List.mem_cons.mp q2 with q2 | q2
        · exact q2.symm
        · have := h1.1 _ q2
          have := h2.1 _ q1
          omega
    subst e
    congr 1
    refine asc_unique h1.2 h2.2 fun k => ⟨fun q => ?_, fun q => ?_⟩
    · rcases List.mem_cons.mp ((h k).mp (List.mem_cons_of_mem _ q)) with z | z
      · have := h1.1 _ q; omega
      · exact z
    · rcases List.mem_cons.mp ((h k).mpr (List.mem_cons_of_mem _ q)) with z | z
      · have := h2.1 _ q; omega
      · exact z
end
end PI
set_option maxHeartbeats 4000000
/-! Own text: set(a list of numbers), sorted. -/
namespace PI
open PySem PySem.Spec L2
open PyProof.Rows hiding St
section
variable {P : Program} {w : World} {A : Around} {E : Value → Shared → Prop} {s : Shared}
/-- T(..) by what its __new__ and __init__ do, the arguments looked at by a rule -/
theorem type_call {T newId initId : String} {Bi : Builtin} {args : List Value} {Q Q1 : Value → Shared → Prop} (ft : TypeCalled T newId initId) (ct : checkTypeCall T ⟨args, []⟩ = pure ()) (eI : entryFor table initId = some Bi)
    (hn : codeAny (model P w) A.in1 (.call (.builtin newId) ⟨.type T :: args, []⟩) (wants Q1 E) s)
    (hi : ∀ v s1, Q1 v s1 → s1.TypeIs v T ∧ codeAny (model P w) A.in1 (.call (.builtin initId) ⟨v :: args, []⟩) (wants (fun r s2 => r = .none ∧ Q v s2) E) s1) : wpAny (model P w) A (call (.type T) args) Q E s := by
  obtain ⟨c, tl, km⟩ := ft.mro
  have kd := ft.made
  have kb := ft.sub
  refine wpAny_call (codeAny_of_tree (show wpAny _ _ (callAny (.type T) _) _ _ _ from wpAny_pure ⟨Code.quiet_builtin _ (by decide +kernel), codeAny_builtin F.entry_type_call ?_⟩))
  rw [Around.under_plain (weight_type_call_type T args []) rfl]
  have k1 := ft.notType
  have k2 := ft.canCreate
  repeat any_goals first | assumption | wp_step
  refine codeAny_mono hn fun r s1 rr => ?_
  cases r with
  | error e => exact rr
  | ok fl =>
    cases fl with
    | ret v =>
      obtain ⟨kt, hi⟩ := hi v s1 rr
      have kl := ft.init.lookup
      have ki := ft.init.bind v
      repeat any_goals first | assumption | wp_step
      refine codeAny_mono hi fun r2 s2 r3 => ?_
      cases r2 with
      | error e => exact r3
      | ok fl2 =>
        cases fl2 with
        | ret u =>
          obtain ⟨rfl, z⟩ := r3
          repeat any_goals first | assumption | wp_step
        | _ => exact r3.elim
    | _ => exact rr.elim
end
section
variable {P : Program} {w : World} {A : Around} {E : Value → Shared → Prop} {s : Shared}
/-- set(a list of numbers) -/
theorem set_nums {l : Addr} {its : Array Value} (ns : List Int) {Q : Value → Shared → Prop} (hh : A.handled = none) (hl : s.heap.IsList l its) (ia : IntsAre its.toList ns) (room : ns.length + 1 < scanBound)
    (h : ∀ (hp : Heap) (tk c : Nat), SetR w hp s.heap.objs.size (fun j => decide (j ∈ ns)) c → c ≤ ns.length → (∀ b o, s.heap.get? b = some o → hp.get? b = some o) → Q (.ref s.heap.objs.size) { s with heap := hp, toks := tk }) :
    wpAny (model P w) A (call (.type "set") [.ref l]) Q E s := by
  have sz : its.size = ns.length := by
    have q := IntsAre.length ia
    rwa [Array.length_toList] at q
  let ob : Obj := { cls := .type "set", dict := none, data := .set #[] 0 (.fresh 0 0 (!w.params.followText "set-order")) }
  have e0 : (s.heap.push ob).get? s.heap.objs.size = some ob := Heap.get?_push_size _ rfl
  have il : (s.heap.push ob).IsList l its := by
    obtain ⟨o, z, zc, n, zd⟩ := hl
    exact ⟨o, Heap.get?_push_of_some _ z, zc, n, zd⟩
  refine type_call (Q1 := fun v s1 => v = .ref s.heap.objs.size ∧ s1 = { s with heap := s.heap.push ob }) F.called_set (F.typeCall_set_1 _) F.entry_set_init (code_set_led1 _ ⟨rfl, rfl⟩) fun v s1 q => ?_
  obtain ⟨rfl, rfl⟩ := q
  have ty : Shared.TypeIs { s with heap := s.heap.push ob } (.ref s.heap.objs.size) "set" := ⟨_, e0, rfl⟩
  refine ⟨ty, codeAny_call_builtin F.called_set.init.plain F.entry_set_init (check_set_init_1 ty ?_)⟩
  obtain ⟨⟨oc, od, oda, osl⟩, z, zc, n, zd⟩ := id hl
  simp only at zc zd
  subst zc zd
  have z1 := Heap.get?_push_of_some ob z
  have s1 := F.sub_list_set
  have s2 := F.sub_list_frozenset
  have nd : (Value.type "list" == Value.type "dict") = false := by decide
  unfold Builtin.«set.__init__» noKeywords
  unfold Builtin.Frozenset.updateFrom
  generalize ePI : pyIter = PI
  wp_walk
  subst ePI
  refine wpAny_pyIter_list il (wpAny_bind (wpAny_runValue ?_))
  have ls : l < s.heap.objs.size := Heap.lt_size z
  have es : (s.heap.push ob).objs.size = s.heap.objs.size + 1 := Heap.size_push ..
  have nI : l ≠ (s.heap.push ob).objs.size := fun q => Nat.ne_of_lt (Nat.lt_succ_of_lt ls) (q.trans es)
  have nS : s.heap.objs.size ∉ [(s.heap.push ob).objs.size, l] := fun q => by
    rcases List.mem_cons.mp q with q | q
    · exact Nat.ne_of_lt (Nat.lt_succ_self _) (q.trans es)
    · exact Nat.ne_of_gt ls (List.mem_singleton.mp q)
  have val : ∀ (i : Nat) (v : Value), its[i]? = some v → ∃ k t, ns[i]? = some k ∧ v = .int k t := fun i v hv => by
    have hi : i < ns.length := by
      rw [← sz]
      exact (Array.getElem?_eq_some_iff.mp hv).1
    obtain ⟨t, e⟩ := IntsAre.int_at ia i v (by rw [Array.getElem?_toList]; exact hv)
    rw [List.getD_eq_getElem?_getD, List.getElem?_eq_getElem hi] at e
    exact ⟨ns[i], t, List.getElem?_eq_getElem hi, e⟩
  have g0 : SetR w ((s.heap.push ob).push { cls := .type "list_iterator", data := .fields #[.ref l, .int 0 0] }) s.heap.objs.size (fun j => decide (j ∈ ns.take 0)) 0 := setR_new_at (Heap.get?_push_of_some _ e0)
  refine set_update_ints ((Walks.list (by simp [hh]) _ l nI its).toS) s.heap.objs.size nS ns sz room val (its.size - 0) 0 _ (by omega) (Nat.zero_le _) ⟨⟨_, Heap.get?_push_size _ rfl, rfl, rfl⟩, il.push _⟩ ⟨0, Nat.le_refl 0, g0⟩ ?_
  intro s5 c m cz R5
  obtain ⟨hp, g, d, tk, os⟩ := s5
  have eg : g = s.gens := m.gens
  have ed : d = s.drawn := m.drawn
  have eo : os = s.os := m.os
  subst eg ed eo
  rw [sz] at cz
  refine wpAny_pure (wpAny_pure ⟨rfl, h hp tk c R5 cz fun b o e => ?_⟩)
  have lb := Heap.lt_size e
  refine m.heap b o (fun q => ?_) (Heap.get?_push_of_some _ (Heap.get?_push_of_some _ e))
  rcases List.mem_cons.mp q with q | q
  · exact Nat.ne_of_lt lb q
  · exact Nat.ne_of_lt (Nat.lt_succ_of_lt lb) ((List.mem_singleton.mp q).trans es)
end

theorem met_nodup (f : Nat → Int) : ∀ n, (PyProof.Rows.firstMet f n).Nodup
  | 0 => List.nodup_nil
  | n + 1 => by
    have ih := met_nodup f n
    rw [PyProof.Rows.firstMet_succ]
    unfold PyProof.Rows.step_dedup
    split
    · exact ih
    · rename_i h
      rw [List.nodup_append]
      refine ⟨ih, List.pairwise_singleton _ _, fun x hx y hy e => h ?_⟩
      rw [List.mem_singleton.mp hy] at e
      subst e
      exact List.any_eq_true.mpr ⟨_, hx, beq_self_eq_true _⟩
theorem setL_asc (ns : List Int) : (setL ns).Pairwise (· < ·) := by
  have h1 : (setL ns).Pairwise (fun a b => decide (a ≤ b) = true) := List.pairwise_mergeSort (fun a b c h1 h2 => by simp only [decide_eq_true_eq] at *; omega) (fun a b => by simp only [Bool.or_eq_true, decide_eq_true_eq]; omega) _
  have h2 : (setL ns).Nodup := (List.mergeSort_perm _ _).nodup_iff.mpr (met_nodup _ _)
  refine (h1.and h2).imp fun {a b} ⟨q1, q2⟩ => ?_
  have := of_decide_eq_true q1
  omega
theorem mem_setL {ns : List Int} {k : Int} : k ∈ setL ns ↔ k ∈ ns := by
  unfold setL
  rw [List.mem_mergeSort]
  have e := PyProof.Rows.firstMet_any (fun i => ns.getD i 0) ns.length k
  have m : (List.range ns.length).map (fun i => ns.getD i 0) = ns := by
    apply List.ext_getElem
    · simp
    · intro i h1 h2
      simp [List.getElem?_eq_getElem h2]
  rw [m] at e
  constructor
  · intro h
    have : ns.any (· == k) = true := by rw [← e]; exact List.any_eq_true.mpr ⟨k, h, beq_self_eq_true k⟩
    obtain ⟨z, hz, ez⟩ := List.any_eq_true.mp this
    rw [← eq_of_beq ez]; exact hz
  · intro h
    have : (PyProof.Rows.firstMet (fun i => ns.getD i 0) ns.length).any (· == k) = true := by rw [e]; exact List.any_eq_true.mpr ⟨k, h, beq_self_eq_true k⟩
    obtain ⟨z, hz, ez⟩ := List.any_eq_true.mp this
    rw [← eq_of_beq ez]; exact hz
section
variable {X : Cx} {a : Expr} {ma : M} {p p2 q pos : Pos}
theorem em_sset (bx : Bool) (K : BK X) (hg : Gl X "sorted") (hm : X.mg "sorted" = none) (hg2 : Gl X "set") (hm2 : X.mg "set" = none) (ha : EM X a ma) (hs : notStar a = true) :
    EM X (.Call (.Name "sorted" p) [.Call (.Name "set" p2) [a] [] q] [] pos) (mSset bx ma) := by
  intro pins s σ H B ev S d S' I hS hE em
  obtain ⟨⟨x, S1⟩, e1, em⟩ := bind_some em
  replace em : sset bx S1 x = some (d, S') := em
  unfold sset at em
  obtain ⟨ns, e2, em⟩ := bind_some em
  split at em
  · rename_i h64
    refine Call_ (ld_blt I hg hm (show bootBuiltins "sorted" = some (.builtin "sorted") by decide +kernel) ?_)
    refine PyProof.Rows.callWith_builtin1 (PyProof.Rows.args_cons ?_ rfl) rfl rfl
    refine Call_ (ld_blt I hg2 hm2 (show bootBuiltins "set" = some (.type "set") by decide +kernel) ?_)
    refine PyProof.Rows.callWith_type1 (PyProof.Rows.args_cons (thn (ha pins s σ H B ev S x S1 I hS hE e1) fun v s1 ⟨vx, H1, B1, I1, r1, x1, hS1, d1⟩ => PyProof.Rows.args_nil ?_) (star_cons hs)) (star_cons hs) rfl
    obtain ⟨l, rfl, hl⟩ := numsOf_ok hS1 d1 e2
    obtain rfl : v = Value.ref l := r1
    obtain ⟨its, rv, pl, hz⟩ := I1.list hl
    refine set_nums ns (I1.ok.hd K.calm) pl.isList (by simpa using rv.ints) (by unfold scanBound; omega) fun hp tk c R cz k => PyProof.Rows.args_nil ?_
    have I2 : Inv X pins σ H1 { s1 with heap := hp, toks := tk } := I1.kept k
    refine sorted_set R (I2.ok.hd K.calm) (by omega) fun s' t out cc ms k2 g o ht gt ia asc mem len => ?_
    have em2 : ms = setL ns := asc_unique asc (setL_asc ns) fun k => by rw [mem, mem_setL, decide_eq_true_eq]
    subst em2
    have fr : H1 t = none := I2.hok.fresh ht
    obtain ⟨hz2, B', y1, y2, y3⟩ := mkL_ok hS1 (ints_rds (setL ns)) em fr
    have J : Inv X pins σ (upd H1 t (.lst ((setL ns).map V.int))) { ({ s1 with heap := hp, toks := tk } : Shared) with heap := s'.heap, gens := s'.gens, drawn := s'.drawn, toks := s'.toks } :=
      I2.call (ch := []) (Un.laid k2 ht fr) (I2.hok.laid k2 ht ⟨hz2, out.toList, cc, vals_of_ints ia, gt⟩) (by rw [g]; exact I2.bare) (fun _ z => nomatch z)
    have es : s' = { s1 with heap := s'.heap, gens := s'.gens, drawn := s'.drawn, toks := s'.toks } := by
      cases s'
      cases o
      rfl
    rw [es]
    exact ⟨.ref t, _, B', J, rfl, x1.trans y1, y2, y3⟩
  · cases em
end
end PI
set_option maxHeartbeats 1000000
/-! Own text: dict of a list of pairs, of a tuple of pairs of numbers. -/
namespace PI
open PySem PySem.Spec L2
open PyProof.Rows hiding St

def pairK : PyData → Option (Key × D)
  | .tuple [k, x] => (keyP k).map fun q => (q, .p x)
  | _ => none
def pairsK : List PyData → Option (List (Key × D))
  | [] => some []
  | x :: r => (pairK x).bind fun a => (pairsK r).map fun l => a :: l
def bDict (bx : Bool) : BF := fun S ds => match ds with
  | [.p (.tuple xs)] => if bareP xs = true then (pairsK xs).bind fun es => mkD bx (mergeD [] es) S else none
  | [x] => (lstOf S x).bind fun ys => (allP ys).bind fun xs => (pairsK xs).bind fun es => mkD bx (mergeD [] es) S
  | _ => none
section
variable {K : PySem.W.Frag} {mg : Mg} {B : BT} {H : Hp} {S : Store}
theorem pairK_inv {x : PyData} {q : Key × D} (h : pairK x = some q) : ∃ y, x = .tuple [kP q.1, y] ∧ q.2 = .p y := by
  unfold pairK at h
  split at h
  · rename_i k y
    obtain ⟨z, e, rfl⟩ := map_some h
    exact ⟨y, by rw [keyP_eq e], rfl⟩
  · cases h
theorem pairs_rd : ∀ {vs : List V} {xs : List PyData} {es : List (Key × D)}, DqAll K B H vs xs → pairsK xs = some es →
    ∃ (ps : List Addr) (kvs : List (Key × V)), vs = ps.map V.ref ∧ Paired (fun p kv => SqT K H p [kV kv.1, kv.2]) ps kvs ∧ RKV K mg B H es kvs
  | _, _, _, .nil, e => by cases e; exact ⟨[], [], rfl, .nil, .nil⟩
  | _, _, _, .cons h t, e => by
    obtain ⟨⟨k, d⟩, e1, e⟩ := bind_some e
    obtain ⟨l, e2, rfl⟩ := map_some e
    obtain ⟨y, rfl, rfl⟩ := pairK_inv e1
    obtain ⟨a, ws, rfl, h1, h2⟩ := dq_tup h
    obtain ⟨ps, kvs, rfl, h3, h4⟩ := pairs_rd t e2
    cases h2 with
    | cons g1 g2 =>
      cases g2 with
      | cons g2 g3 =>
        cases g3
        obtain rfl := kv_dq g1
        exact ⟨a :: ps, (k, _) :: kvs, rfl, .cons h1.sq h3, .cons ⟨rfl, g2⟩ h4⟩
/-- a new dict -/
theorem mkD_new {bx : Bool} {es : List (Key × D)} {kvs : List (Key × V)} {d : D} {S' : Store} (hS : SR K mg B H S) (r : RKV K mg B H es kvs) (e : mkD bx es S = some (d, S')) {p : Addr} (hp : H p = none) :
    ∃ B', Ext B H B' (upd H p (.dK kvs)) ∧ SR K mg B' (upd H p (.dK kvs)) S' ∧ RD K mg B' (upd H p (.dK kvs)) d (.ref p) := by
  obtain ⟨B', y1, y2, y3⟩ := mkD_fin (hS.push hp (.dK kvs)) upd_same (RKV.ex (ex_push hp _) r) e
  exact ⟨B', y3 B H (hS.ext_new hp _) hp, y1, y2⟩
end
section
variable {X : Cx} {pins : List (Addr × Obj)} {σ : L2.St} {H : Hp} {s : Shared} {B : BT}
/-- a tuple that is known to be bare, as it stands -/
theorem bare_at (I : Inv X pins σ H s) {a : Addr} {vs : List V} (ht : SqT X.K H a vs) (hb : Bare X.K B H a) : ∃ us : List Value, Vals vs us ∧ PlainSeq "tuple" s.heap a us.toArray ∧ vs.length ≤ sizeLine := by
  obtain ⟨us, r, ⟨o, e1, e2, n, e3⟩, small⟩ := I.tuple ht
  have hd : o.dict = none := by
    rcases hb with ⟨o', u, q1, q2, _⟩ | ⟨o', q1, q2⟩
    · have : s.heap.get? a = some o' := (show ObjOk X.prog X.w H s.heap a (.frz o' u) from I.hok a _ q1).1
      rw [this] at e1; cases e1; exact q2
    · have : s.heap.get? a = some o' := I.kIn a o' q1
      rw [this] at e1; cases e1; exact q2
  exact ⟨us, r, ⟨o, n, e1, e2, hd, e3⟩, small⟩
theorem call_dictT (hcalm : X.calm = true) {a : Addr} {ps : List Addr} {kvs : List (Key × V)} {Q : VK} (I : Inv X pins σ H s) (ht : SqT X.K H a (ps.map V.ref)) (hb : Bare X.K B H a) (hp : Paired (fun p kv => SqT X.K H p [kV kv.1, kv.2]) ps kvs)
    (q : ∀ p, H p = none → Q (.ref p) (upd H p (.dK (mergeK [] kvs)))) : wpAny (model X.prog X.w) X.A (call (.type "dict") [.ref a]) (EP X pins σ Q) X.xe s := by
  obtain ⟨us, r, pl, small⟩ := bare_at I ht hb
  have eu := refs_at r
  subst eu
  rw [List.length_map] at small
  obtain ⟨prs, rel, hl, hpr⟩ := pairs_of I hp
  have raw : ∀ (j : Nat) (z : Key × Value), prs[j]? = some z → ∃ (b : Addr) (u : Value), ps[j]? = some b ∧ IsTup s.heap b #[u, z.2] ∧ keyIs z.1 u = true := hpr
  have keyAt : ∀ (j : Nat), j < prs.length → ∃ (kv : Value × Value) (b : Addr) (z : Key × Value), prs[j]? = some z ∧ ps[j]? = some b ∧ IsTup s.heap b #[kv.1, kv.2] ∧ keyIs z.1 kv.1 = true ∧ kv.2 = z.2 := fun j hj => by
    obtain ⟨b, u, h1, h2, h3⟩ := raw j prs[j] (List.getElem?_eq_getElem hj)
    exact ⟨(u, prs[j].2), b, prs[j], List.getElem?_eq_getElem hj, h1, h2, h3, rfl⟩
  obtain ⟨qs, hq, hql⟩ : ∃ qs : List (Value × Value), (∀ (j : Nat) (k v : Value), qs[j]? = some (k, v) → ∃ (b : Addr) (z : Key × Value), prs[j]? = some z ∧ ps[j]? = some b ∧ IsTup s.heap b #[k, v] ∧ keyIs z.1 k = true ∧ v = z.2) ∧ qs.length = prs.length := by
    refine ⟨List.ofFn fun j : Fin prs.length => (keyAt j.1 j.2).choose, fun j k v e => ?_, by simp⟩
    have hj : j < prs.length := by have := (List.getElem?_eq_some_iff.mp e).1; simpa using this
    rw [List.getElem?_ofFn, dif_pos hj] at e
    have e := Option.some.inj e
    obtain ⟨b, z, h1, h2, h3, h4, h5⟩ := (keyAt j hj).choose_spec
    rw [e] at h3 h4 h5
    exact ⟨b, z, h1, h2, h3, h4, h5⟩
  refine PySem.call_dict_pairs (knd := mixKind X.prog X.w) (kvs := prs) (PairArg.tuple a (ps.map Value.ref).toArray (fun j => ps.getD j 0) qs) (I.ok.hd hcalm) ⟨pl, by simp [hql, hl], fun j k v e => ?_⟩ ⟨hql.symm, fun j k v e => ?_⟩ (by rw [hql, hl]; exact small) fun h' tk hd' keep => ?_
  · obtain ⟨b, z, h1, h2, h3, h4, h5⟩ := hq j k v e
    refine ⟨by simp [h2], .inl ?_⟩
    show s.heap.IsTuple (ps.getD j 0) _
    rw [List.getD_eq_getElem?_getD, h2]
    exact h3
  · obtain ⟨b, z, h1, h2, h3, h4, h5⟩ := hq j k v e
    obtain ⟨z1, z2⟩ := z
    have h5 : v = z2 := h5
    subst h5
    exact ⟨z1, h1, h4⟩
  · have hm : (s.heap.objs.size == sysModules) = false := beq_eq_false_iff_ne.mpr (Nat.ne_of_gt I.big)
    have len : (mergeK [] kvs).length ≤ sizeLine := by
      have h1 := length_mergeK kvs []
      have h2 := rel.length
      rw [List.length_nil] at h1
      omega
    exact ⟨.ref s.heap.objs.size, _, I.laid (t' := tk) (o := .dK (mergeK [] kvs)) (fun b o e => keep b o (List.not_mem_nil) e) (Nat.le_refl _) ⟨len, hm, merged [] prs, KV.merge rel .nil, hd'⟩, rfl, q _ I.fresh⟩
theorem dict_ok (hc : X.calm = true) (bx : Bool) : BR X (.type "dict") (bDict bx) := by
  intro pins s σ H B S ds d S' vs us Q I hS r rv e q
  unfold bDict at e
  split at e
  · rename_i xs
    split at e
    · rename_i hb
      obtain ⟨es, e1, e⟩ := bind_some e
      obtain ⟨v, rfl, h⟩ := rds1 r
      obtain ⟨a, ws, rfl, h1, h2, h3⟩ := dq_tupB h
      obtain ⟨ps, kvs, rfl, h4, h5⟩ := pairs_rd (mg := X.mg) h2 e1
      obtain rfl := Vals.ref1 rv
      refine call_dictT hc I h1.sq (h3 hb) h4 fun p hp => ?_
      obtain ⟨B', x1, x2, x3⟩ := mkD_new hS (h5.merge .nil) e hp
      exact q B' _ _ x1 x2 x3
    · cases e
  · rename_i x _
    obtain ⟨v, rfl, h⟩ := rds1 r
    obtain ⟨ys, e1, f1⟩ := bind_some e
    obtain ⟨xs, e2, f2⟩ := bind_some f1
    obtain ⟨es, e3, f3⟩ := bind_some f2
    clear e f1 f2
    obtain ⟨a, ws, rfl, ha, r2⟩ := lst_ok hS h e1
    have := allP_eq e2
    subst this
    obtain ⟨ps, kvs, rfl, h4, h5⟩ := pairs_rd (mg := X.mg) (dqAll_map.mpr r2) e3
    refine call_dictP hc pins s σ H _ us Q I rv ⟨a, ps, kvs, rfl, .inl ha, h4, fun p hp => ?_⟩
    obtain ⟨B', x1, x2, x3⟩ := mkD_new hS (h5.merge .nil) f3 hp
    exact q B' _ _ x1 x2 x3
  · cases e
end
/-! ### the greatest, the least of one list; the table of built-ins -/
def bMx : BF := fun S ds => match ds with
  | [x] => (numsOf S x).bind fun ns => ns.max?.map fun m => (.p (.int m), S)
  | ds => bMax S ds
def bMn : BF := fun S ds => match ds with
  | [x] => (numsOf S x).bind fun ns => ns.min?.map fun m => (.p (.int m), S)
  | ds => bMin S ds
section
variable {X : Cx}
theorem mx_ok (hc : X.calm = true) : BR X (.builtin "max") bMx := by
  intro pins s σ H B S ds d S' vs us Q I hS r rv e q
  unfold bMx at e
  split at e
  · rename_i x
    obtain ⟨v, rfl, h⟩ := rds1 r
    obtain ⟨ns, e1, e2⟩ := bind_some e
    obtain ⟨m, e3, e4⟩ := map_some e2
    cases e4
    obtain ⟨a, rfl, hl⟩ := numsOf_ok hS h e1
    have g := List.max?_eq_some_iff.mp e3
    refine cr_max hc pins s σ H _ us Q I rv ⟨a, ns, rfl, hl, List.length_pos_of_mem g.1, fun k hk hle => ?_⟩
    obtain rfl : k = m := Int.le_antisymm (g.2 k hk) (hle m g.1)
    exact q.same hS (.int _)
  · exact max_ok hc pins s σ H B S _ d S' vs us Q I hS r rv e q
theorem mn_ok (hc : X.calm = true) : BR X (.builtin "min") bMn := by
  intro pins s σ H B S ds d S' vs us Q I hS r rv e q
  unfold bMn at e
  split at e
  · rename_i x
    obtain ⟨v, rfl, h⟩ := rds1 r
    obtain ⟨ns, e1, e2⟩ := bind_some e
    obtain ⟨m, e3, e4⟩ := map_some e2
    cases e4
    obtain ⟨a, rfl, hl⟩ := numsOf_ok hS h e1
    have g := List.min?_eq_some_iff.mp e3
    refine cr_min hc pins s σ H _ us Q I rv ⟨a, ns, rfl, hl, List.length_pos_of_mem g.1, fun k hk hle => ?_⟩
    obtain rfl : k = m := Int.le_antisymm (hle m g.1) (g.2 k hk)
    exact q.same hS (.int _)
  · exact min_ok hc pins s σ H B S _ d S' vs us Q I hS r rv e q
def bltG (bx : Bool) (x : Str) : Option BF := if x = "max" then some bMx else if x = "min" then some bMn else if x = "dict" then some (bDict bx) else bltF bx x
theorem bltG_ok (h : BK X) {bx : Bool} {x : Str} {f : BF} (e : bltG bx x = some f) : ∃ v, bootBuiltins x = some v ∧ IsB v ∧ x ≠ "__name__" ∧ (x == ("__debug__" : Str)) = false ∧ BR X v f := by
  unfold bltG at e
  repeat' split at e
  all_goals first | (rename_i hx; cases e; subst hx) | exact blt_ok h e
  case _ => exact ⟨.builtin "max", by decide +kernel, .inl ⟨_, rfl⟩, by decide, by decide, mx_ok h.calm⟩
  case _ => exact ⟨.builtin "min", by decide +kernel, .inl ⟨_, rfl⟩, by decide, by decide, mn_ok h.calm⟩
  case _ => exact ⟨.type "dict", by decide +kernel, .inr ⟨_, rfl⟩, by decide, by decide, dict_ok h.calm bx⟩
end
end PI
set_option maxHeartbeats 4000000
/-! Own text: sorted(d.items()). -/
namespace PI
open PySem PySem.Spec L2
open PyProof.Rows hiding St

mutual
theorem reads_lt {h : Heap} : ∀ {v : Value} {d : PyData} {as : List Addr}, Reads h v d as → ∀ a ∈ as, a < h.objs.size
  | _, _, _, .none, a, ha => by cases ha
  | _, _, _, .bool _, a, ha => by cases ha
  | _, _, _, .int _ _, a, ha => by cases ha
  | _, _, _, .str _ _, a, ha => by cases ha
  | _, _, _, .list e _ _ r, a, ha => by
    rcases List.mem_cons.mp ha with rfl | ha
    · exact Heap.lt_size e
    · exact readsAll_lt r a ha
  | _, _, _, .tuple _ _ _ r, a, ha => readsAll_lt r a ha
  | _, _, _, .dict e _ _ r1 r2, a, ha => by
    rw [List.cons_append] at ha
    rcases List.mem_cons.mp ha with rfl | ha
    · exact Heap.lt_size e
    · rcases List.mem_append.mp ha with ha | ha
      · exact readsAll_lt r1 a ha
      · exact readsAll_lt r2 a ha
theorem readsAll_lt {h : Heap} : ∀ {v : List Value} {d : List PyData} {as : List Addr}, ReadsAll h v d as → ∀ a ∈ as, a < h.objs.size
  | _, _, _, .nil, a, ha => by cases ha
  | _, _, _, .cons r t, a, ha => by
    rcases List.mem_append.mp ha with ha | ha
    · exact reads_lt r a ha
    · exact readsAll_lt t a ha
end
def itemP : Key × D → Option PyData
  | (k, .p x) => some (.tuple [kP k, x])
  | _ => none
def itemsP : List (Key × D) → Option (List PyData)
  | [] => some []
  | q :: r => (itemP q).bind fun a => (itemsP r).map fun l => a :: l
def sitI (bx : Bool) (S : Store) (x : D) : Option (D × Store) := (dctOf S x).bind fun es => (itemsP es).bind fun ys => if sortOk ys = true then mkL bx ((sortP ys).map .p) S else none
def mSit (bx : Bool) (a : M) : M := fun ev S => (a ev S).bind fun r => sitI bx r.2 r.1
section
variable {K : PySem.W.Frag} {mg : Mg} {B : BT} {H H' : Hp} {S : Store}
/-- nothing of what was there is otherwise -/
theorem ext_keep (hS : SR K mg B H S) (k : ∀ b o, H b = some o → H' b = some o) : Ext B H B H' :=
  ⟨⟨[], by simp, by simp⟩, rfl, fun a o _ e => k a o e, fun a ha => by
    obtain ⟨o, e⟩ := hS.al a (List.mem_append_right _ ha)
    rw [e, k a o e], fun a ha => let ⟨o, e⟩ := hS.al a ha; ⟨o, k a o e⟩⟩
theorem SR.more (hS : SR K mg B H S) (k : ∀ b o, H b = some o → H' b = some o) : SR K mg B H' S :=
  ⟨hS.len, hS.nd, (ext_keep hS k).al, fun n c a h1 h2 => (hS.cell n c a h1 h2).ex (ext_keep hS k).ex fun o e => k a o e⟩
theorem key_dq : ∀ k : Key, Dq K B H (kV k) (kP k)
  | .inl i => .int i
  | .inr x => .str x
theorem pair_key (k : Key) (x : PyData) : bareP [kP k, x] = false := by cases k <;> rfl
theorem items_dq : ∀ {es : List (Key × D)} {kvs : List (Key × V)} {ys : List PyData} {as : List Addr}, RKV K mg B H es kvs → itemsP es = some ys → (∀ a ∈ as, a ∉ B.all) → Paired (fun a (kv : Key × V) => H a = some (.tup [kV kv.1, kv.2])) as kvs → DqAll K B H (as.map V.ref) ys
  | _, _, _, _, .nil, e, _, .nil => by cases e; exact .nil
  | (k, d) :: es, (k2, v) :: kvs, _, a :: as, .cons h t, e, hn, .cons g u => by
    obtain ⟨z, e1, e⟩ := bind_some e
    obtain ⟨l, e2, rfl⟩ := map_some e
    obtain ⟨hk, hd⟩ := h
    have hk : k = k2 := hk
    subst hk
    cases d with
    | p x =>
      cases e1
      exact .cons (.tup (.inl ⟨.inl g, hn a (List.mem_cons_self ..)⟩) (.cons (key_dq k) (.cons hd .nil)) fun z => absurd ((pair_key k x).symm.trans z) Bool.false_ne_true) (items_dq t e2 (fun b hb => hn b (List.mem_cons_of_mem _ hb)) u)
    | _ => cases e1
theorem paired_of {α β : Type} {F : α → β → Prop} : ∀ {xs : List α} {ys : List β}, xs.length = ys.length → (∀ (j : Nat) x y, xs[j]? = some x → ys[j]? = some y → F x y) → Paired F xs ys
  | [], [], _, _ => .nil
  | x :: xs, y :: ys, hl, h => .cons (h 0 x y rfl rfl) (paired_of (by simpa using hl) fun j a b e1 e2 => h (j + 1) a b (by simpa using e1) (by simpa using e2))
  | [], _ :: _, hl, _ => by cases hl
  | _ :: _, [], hl, _ => by cases hl
end
section
variable {X : Cx} {a : Expr} {ma : M} {p pos apos cpos : Pos}
theorem em_sit (bx : Bool) (K : BK X) (hg : Gl X "sorted") (hm : X.mg "sorted" = none) (ha : EM X a ma) (hbase : attributeBase a "items" X.env (eval a X.env) = eval a X.env) (hline : (apos.endLine == cpos.line) = true) :
    EM X (.Call (.Name "sorted" p) [.Call (.Attribute a "items" apos) [] [] cpos] [] pos) (mSit bx ma) := by
  intro pins s σ H B ev S d S' I hS hE em
  obtain ⟨⟨x, S1⟩, e1, em⟩ := bind_some em
  replace em : sitI bx S1 x = some (d, S') := em
  obtain ⟨es, e2, em⟩ := bind_some em
  obtain ⟨ys, e3, em⟩ := bind_some em
  split at em
  case isFalse => cases em
  rename_i hok
  refine Call_ (ld_blt I hg hm (show bootBuiltins "sorted" = some (.builtin "sorted") by decide +kernel) ?_)
  refine PyProof.Rows.callWith_builtin1 (PyProof.Rows.args_cons ?_ rfl) rfl rfl
  refine wpAny_Call_method (T := "dict") (id := "dict.items") hbase rfl hline F.plainAttrs_dict F.slot_dict_items F.type_dict_items (thn (ha pins s σ H B ev S x S1 I hS hE e1) ?_)
  rintro u s1 ⟨vx, H1, B1, I1, r1, x1, hS1, d1⟩
  obtain ⟨dd, kvs, rfl, hd, rk⟩ := dct_ok hS1 d1 e2
  obtain rfl : u = Value.ref dd := r1
  obtain ⟨hz, hs0, vs, kv, hdo⟩ := hd.ok I1.hok
  obtain ⟨en, ep, hraw, hsz, hent⟩ := hdo.raw
  have lk : kvs.length = vs.length := Paired.length kv
  refine ⟨hdo.typeIs, hdo.mapOf.noDict, ?_⟩
  show wpAny _ _ (callWith cpos (.builtin "dict.items") [.ref dd] [] []) _ X.xe s1
  refine method_meetsIn F.slot_dict_items F.entry_dict_items rfl (PySem.evalArgs_none ⟨rfl, hdo.typeIs, F.args_dict_items_1 _, _, meets_dict_items (mixKind X.prog X.w) dd hs0, ⟨vs, hdo⟩, ?_⟩)
  refine PyProof.Rows.args_nil ?_
  have I2 : Inv X pins σ H1 { s1 with heap := s1.heap.push { cls := .type "dict_items", data := .fields #[.ref dd] } } := I1.kept (t' := s1.toks) fun b o e => Heap.get?_push_of_some _ e
  refine DT.sortedI (es := en) (ep := ep) (I1.ok.hd K.calm) ⟨_, Heap.get?_push_size _ rfl, rfl, rfl⟩ (hraw.at fun o e => Heap.get?_push_of_some _ e) (by omega) fun h' tk as hk hlt hl hG => ?_
  have nd : as.Nodup := hG.rise.imp fun h => Nat.ne_of_lt h
  have lak : as.length = kvs.length := by omega
  have kept : ∀ b o, s1.heap.get? b = some o → h'.get? b = some o := fun b o e => hk b o (Heap.get?_push_of_some _ e)
  have J0 : Inv X pins σ H1 { s1 with heap := h', toks := tk } := I1.kept (t' := tk) kept
  have lo : ∀ b ∈ as, (s1.heap.push { cls := .type "dict_items", data := .fields #[.ref dd] }).objs.size ≤ b := fun b hb => Nat.le_of_lt (hG.above b hb)
  have pushed : s1.heap.objs.size ≤ (s1.heap.push { cls := .type "dict_items", data := .fields #[.ref dd] }).objs.size := by rw [Heap.size_push]; exact Nat.le_succ _
  have free : ∀ b ∈ as, H1 b = none := fun b hb => I1.hok.fresh (Nat.le_trans pushed (lo b hb))
  obtain ⟨H2, J2, up, tups⟩ := L2.DX.takeT (P := fun b ws => ∃ (j : Nat) (q : Key × V), as[j]? = some b ∧ kvs[j]? = some q ∧ ws = [kV q.1, q.2]) I2 as H1 J0 nd fun b hb => by
    refine ⟨lo b hb, free b hb, ?_⟩
    obtain ⟨j, hj⟩ := List.mem_iff_getElem?.mp hb
    obtain ⟨e, he, hg2⟩ := hG.pairs j b hj
    obtain ⟨hjs, rfl⟩ := Array.getElem?_eq_some_iff.mp he
    obtain ⟨k, y, hv⟩ : ∃ k y, vs[j]? = some (k, y) := ⟨vs[j].1, vs[j].2, List.getElem?_eq_getElem (by omega)⟩
    obtain ⟨q1, q2⟩ := hent j hjs k y hv
    obtain ⟨z, hq, rel⟩ := kv.at' hv
    refine ⟨[kV k, z], ⟨j, (k, z), hj, hq, rfl⟩, fun _ => ⟨by show 2 ≤ sizeLine; decide, [en[j].key, en[j].val], .cons ?_ (.cons ?_ .nil), ⟨_, hg2, rfl, _, rfl⟩⟩⟩
    · exact relV_key (show keyIs k en[j].key = true from q1)
    · rw [q2]; exact rel
  have pt : Paired (fun b (q : Key × V) => H2 b = some (.tup [kV q.1, q.2])) as kvs := paired_of lak fun j b q hj hq => by
    obtain ⟨ws, ⟨j2, q2, g1, g2, rfl⟩, g3⟩ := tups b (List.mem_of_getElem? hj)
    have : j2 = j := (List.getElem?_inj (List.getElem?_eq_some_iff.mp g1).1 nd).mp (g1.trans hj.symm)
    subst this
    rw [hq] at g2
    cases g2
    exact g3
  have xk := ext_keep hS1 up
  have hS2 := hS1.more up
  have off : ∀ b ∈ as, b ∉ B1.all := fun b hb z => by
    obtain ⟨o, e⟩ := hS1.al b z
    rw [free b hb] at e; cases e
  have dq := items_dq (RKV.ex xk.ex rk) e3 off pt
  have rv : Vals (as.map V.ref) (as.map Value.ref) := by
    have go : ∀ l : List Addr, Vals (l.map V.ref) (l.map Value.ref) := fun l => by
      induction l with
      | nil => exact .nil
      | cons b l ih => exact .cons rfl ih
    exact go as
  have hlen := DqAll.length dq
  have hsnd : ((as.map V.ref).zip ys).map (·.2) = ys := List.map_snd_zip (by omega)
  obtain ⟨k1, k2, k3⟩ := sortOk_of hok
  have st := std_of dq rv
  have hB : h'.get? h'.objs.size = none := Heap.get?_none_of_le (Nat.le_refl _)
  have keepB : ∀ b o, h'.get? b = some o → (h'.push { cls := .type "list", data := .seq (as.map Value.ref).toArray }).get? b = some o := fun b o e => Heap.get?_push_of_some _ e
  have rd : PySem.W.EachIs (fun v b => ∃ l, Reads (h'.push { cls := .type "list", data := .seq (as.map Value.ref).toArray }) v ((·.2) b) l ∧ h'.objs.size ∉ l) (as.map Value.ref) ((as.map V.ref).zip ys) := st.mono fun u b ⟨z1, z2⟩ => by
    obtain ⟨l, r, _⟩ := Dq.reads J2 K.sys z2 z1
    exact ⟨l, PyProof.Rows.Reads.keeps keepB r, fun z => Nat.lt_irrefl _ (reads_lt r _ z)⟩
  have ho : (h'.push { cls := .type "list", data := .seq (as.map Value.ref).toArray }).get? h'.objs.size = some (seqObj "list" (as.map Value.ref).toArray 0) := Heap.get?_push_size _ rfl
  have units := K.hu
  refine PySem.W.list_sort_data (A := X.A.in1) (s := { s1 with heap := h'.push { cls := .type "list", data := .seq (as.map Value.ref).toArray }, toks := tk }) (enc := fun b : V × PyData => b.2) ho st rd (by rw [hsnd]; exact k1) (by rw [hsnd]; exact k2) (by rw [List.length_zip, List.length_map]; omega) (fun b hb => ?_) fun out hol hout => ?_
  · have hm : b.2 ∈ ys := by rw [← hsnd]; exact List.mem_map_of_mem hb
    have h60 := k3 _ hm
    have hi : X.A.in1.units = X.A.units + 1 := rfl
    show X.A.in1.units + 1 + b.2.depth < cLine
    omega
  · obtain ⟨dz, v1⟩ := std_back hout
    have es : (((as.map V.ref).zip ys).mergeSort (PySem.W.dataLe false (·.2))).map (·.2) = sortP ys := by
      unfold sortP
      refine (List.map_mergeSort (f := fun b : V × PyData => b.2) (r := PySem.W.dataLe false fun b : V × PyData => b.2) (s := PySem.W.dataLe false id) fun a _ b _ => rfl).trans ?_
      rw [hsnd]
    rw [es] at dz
    obtain ⟨ec, hc⟩ := PyProof.Rows.sortedHeap_at (vs := as.map Value.ref) (out := out.toArray) ho
    have fr : H2 h'.objs.size = none := J2.hok.fresh (Nat.le_refl _)
    obtain ⟨hz2, B', y1, y2, y3⟩ := mkL_ok hS2 (dqAll_map.mp dz) em fr
    have keep3 : ∀ b o, h'.get? b = some o → (PyProof.Rows.sortedHeap (h'.push { cls := .type "list", data := .seq (as.map Value.ref).toArray }) h'.objs.size (as.map Value.ref) out.toArray).get? b = some o := fun b o e => by
      rw [PyProof.Rows.sortedHeap_old (Nat.ne_of_lt (Heap.lt_size e)) (Heap.lt_size (keepB b o e))]
      exact keepB b o e
    have J3 := J2.laid (a := h'.objs.size) (o := .lst _) (t' := tk) keep3 (Nat.le_refl _) ⟨hz2, out, ec, v1, hc⟩
    exact ⟨.ref h'.objs.size, _, B', J3, rfl, (x1.trans xk).trans y1, y2, y3⟩
end
end PI
set_option maxHeartbeats 1000000
/-! Own text: what is walked, comprehensions, statements, loops. -/
namespace PI
open PySem PySem.Spec L2
open PyProof.Rows hiding St

theorem Ex0.trans {B B1 B2 : BT} {H H1 H2 : Hp} (a : Ex0 B H B1 H1) (b : Ex0 B1 H1 B2 H2) : Ex0 B H B2 H2 :=
  ⟨fun x o n h => b.keep x o (a.keep x o n h).2 (a.keep x o n h).1, fun n x h => b.pre n x (a.pre n x h)⟩
theorem Ex0.refl {B : BT} {H : Hp} : Ex0 B H B H := ⟨fun _ _ n h => ⟨h, n⟩, fun _ _ h => h⟩

/-! ### what is walked: at turn i, with the boxes as they stand, an item, the end, or no word -/
abbrev Src := Nat → Store → Option (Option D)
abbrev MIt := EnvI → Store → Option (Src × Store)
def JM (K : PySem.W.Frag) (mg : Mg) (J : It) (src : Src) (B1 : BT) (H1 : Hp) : Prop := ∀ (i : Nat) (B' : BT) (H' : Hp) (S' : Store), Ex0 B1 H1 B' H' → SR K mg B' H' S' →
  (src i S' = some none → J.stop i H') ∧ ∀ d, src i S' = some (some d) → J.go i H' ∧ ∀ x H2, J.yld i H' x H2 → (H2 = H' ∨ ∃ T o, H' T = none ∧ H2 = upd H' T o) ∧ RD K mg B' H2 d x
def tI (K : PySem.W.Frag) (mg : Mg) (m : MIt) : TI := fun σ H R => ∃ B ev S src S', SR K mg B H S ∧ ER K mg B H ev σ ∧ m ev S = some (src, S') ∧ ∀ J B' H', Ext B H B' H' → SR K mg B' H' S' → JM K mg J src B' H' → R J H'
def IM (X : Cx) (tg iter : Expr) (m : MIt) : Prop := PI X tg iter (tI X.K X.mg m)
theorem IM.of {X : Cx} {tg iter : Expr} {wi : TI} {m : MIt} (h : PI X tg iter wi) (g : ∀ σ H R, tI X.K X.mg m σ H R → wi σ H R) : IM X tg iter m := ⟨fun pins s σ H R I q => h.run pins s σ H R I (g σ H R q)⟩
theorem PI_or {X : Cx} {tg iter : Expr} {w1 w2 : TI} (h1 : PI X tg iter w1) (h2 : PI X tg iter w2) : PI X tg iter (fun σ H R => w1 σ H R ∨ w2 σ H R) := ⟨fun pins s σ H R I q => by
  rcases q with q | q
  · exact h1.run pins s σ H R I q
  · exact h2.run pins s σ H R I q⟩
/-- a value's items -/
def srcL (xs : List D) : Src := fun i _ => some xs[i]?
def srcR (n : Nat) : Src := fun i S => match S[n]? with
  | some (.lst ys) => some ys[i]?
  | _ => none
def srcOf (S : Store) : D → Option Src
  | .p (.list xs) => some (srcL (xs.map .p))
  | .p (.tuple xs) => some (srcL (xs.map .p))
  | .ref n => (match S[n]? with
    | some (.lst _) => some (srcR n)
    | _ => none)
  | _ => none
def mIter (a : M) : MIt := fun ev S => (a ev S).bind fun r => (srcOf r.2 r.1).map fun f => (f, r.2)
/-- lo, lo + 1, .. -/
def srcN (lo : Int) (n : Nat) : Src := fun i _ => some (if i < n then some (.p (.int (lo + i))) else none)
def mRng1 (a : M) : MIt := fun ev S => (a ev S).bind fun r => match r.1 with
  | .p (.int j) => if j.natAbs < 2 ^ 62 then some (srcN 0 j.toNat, r.2) else none
  | _ => none
def rng2 (S : Store) : D → D → Option (Src × Store)
  | .p (.int i), .p (.int j) => if i.natAbs < 2 ^ 62 ∧ j.natAbs < 2 ^ 62 then some (srcN i (j - i).toNat, S) else none
  | _, _ => none
def mRng2 (a b : M) : MIt := fun ev S => (a ev S).bind fun r => (b ev r.2).bind fun t => rng2 t.2 r.1 t.1
section
variable {X : Cx} {tg a b e : Expr} {ma mb : M} {pos : Pos}
theorem jm_list {K : PySem.W.Frag} {mg : Mg} {B : BT} {H : Hp} {p : Addr} {vs : List V} {ds : List D} (h : SqLB K B H p vs) (r : RDs K mg B H ds vs) : JM K mg (Itl K p) (srcL ds) B H := by
  intro i B' H' S' x hS
  have h' : SqL K H' p vs := .inl (x.rd h.1 h.2).1
  have r' := RDs.ex x r
  refine ⟨fun e => ⟨vs, h', ?_⟩, fun d e => ?_⟩
  · have e : ds[i]? = none := Option.some.inj e
    rw [← r'.length]
    exact List.getElem?_eq_none_iff.mp e
  · have e : ds[i]? = some d := Option.some.inj e
    obtain ⟨v, hv, rv⟩ := r'.at e
    refine ⟨⟨vs, v, h', hv⟩, fun x' H2 y => ?_⟩
    obtain ⟨rfl, y⟩ := y
    refine ⟨.inl rfl, ?_⟩
    have := y vs h'
    rw [hv] at this
    cases this
    exact rv
theorem jm_tup {K : PySem.W.Frag} {mg : Mg} {B : BT} {H : Hp} {p : Addr} {vs : List V} {ds : List D} (h : SqTB K B H p vs) (r : RDs K mg B H ds vs) : JM K mg (Itt K p) (srcL ds) B H := by
  intro i B' H' S' x hS
  have h' : SqT K H' p vs := h.imp (fun z => (x.rd z.1 z.2).1) id
  have r' := RDs.ex x r
  refine ⟨fun e => ⟨vs, h', ?_⟩, fun d e => ?_⟩
  · have e : ds[i]? = none := Option.some.inj e
    rw [← r'.length]
    exact List.getElem?_eq_none_iff.mp e
  · have e : ds[i]? = some d := Option.some.inj e
    obtain ⟨v, hv, rv⟩ := r'.at e
    refine ⟨⟨vs, v, h', hv⟩, fun x' H2 y => ?_⟩
    obtain ⟨rfl, y⟩ := y
    refine ⟨.inl rfl, ?_⟩
    have := y vs h'
    rw [hv] at this
    cases this
    exact rv
theorem jm_box {K : PySem.W.Frag} {mg : Mg} {B : BT} {H : Hp} {p : Addr} {n : Nat} (h : B.b[n]? = some p) : JM K mg (Itl K p) (srcR n) B H := by
  intro i B' H' S' x hS
  have h' := x.pre n p h
  have go : ∀ ys, S'[n]? = some (.lst ys) → ∃ vs, SqL K H' p vs ∧ RDs K mg B' H' ys vs := fun ys e => by
    obtain ⟨vs, h1, h2⟩ := hS.cell n _ p e h'
    exact ⟨vs, .inl (.inl h1), h2⟩
  refine ⟨fun e => ?_, fun d e => ?_⟩
  · unfold srcR at e
    split at e
    · rename_i ys hy
      obtain ⟨vs, h1, h2⟩ := go ys hy
      have e : ys[i]? = none := Option.some.inj e
      exact ⟨vs, h1, by rw [← h2.length]; exact List.getElem?_eq_none_iff.mp e⟩
    · cases e
  · unfold srcR at e
    split at e
    · rename_i ys hy
      obtain ⟨vs, h1, h2⟩ := go ys hy
      have e : ys[i]? = some d := Option.some.inj e
      obtain ⟨v, hv, rv⟩ := h2.at e
      refine ⟨⟨vs, v, h1, hv⟩, fun x' H2 y => ?_⟩
      obtain ⟨rfl, y⟩ := y
      refine ⟨.inl rfl, ?_⟩
      have := y vs h1
      rw [hv] at this
      cases this
      exact rv
    · cases e
theorem im_val (ha : EM X a ma) : IM X tg a (mIter ma) := by
  refine IM.of (PI_or (pi_list ha.pe) (pi_tup ha.pe)) fun σ H R q => ?_
  obtain ⟨B, ev, S, src, S', hS, hE, em, q⟩ := q
  obtain ⟨⟨x, S1⟩, e1, em⟩ := bind_some em
  obtain ⟨f, e2, em⟩ := map_some em
  cases em
  -- a list, boxed or not, is the first way; a tuple the second
  cases x with
  | p y =>
    cases y <;> simp only [srcOf, Option.some.injEq] at e2 <;> first | (subst e2) | (cases e2)
    · refine .inl ⟨B, ev, S, _, _, hS, hE, e1, fun B1 H1 v1 x1 s1 d1 => ?_⟩
      cases d1 with
      | lst h1 h2 => exact ⟨_, rfl, ⟨_, h1.sq⟩, q _ B1 H1 x1 s1 (jm_list (mg := X.mg) h1 (dqAll_map.mp h2))⟩
    · refine .inr ⟨B, ev, S, _, _, hS, hE, e1, fun B1 H1 v1 x1 s1 d1 => ?_⟩
      obtain ⟨p, vs, rfl, h1, h2⟩ := dq_tup d1
      exact ⟨p, rfl, ⟨_, h1.sq⟩, q _ B1 H1 x1 s1 (jm_tup (mg := X.mg) h1 (dqAll_map.mp h2))⟩
  | ref n =>
    simp only [srcOf] at e2
    cases hq : S1[n]? with
    | none => rw [hq] at e2; cases e2
    | some c =>
      rw [hq] at e2
      cases c with
      | lst ys =>
        cases e2
        refine .inl ⟨B, ev, S, _, _, hS, hE, e1, fun B1 H1 v1 x1 s1 d1 => ?_⟩
        obtain ⟨p, h1, rfl⟩ := d1
        obtain ⟨vs, h2, _⟩ := s1.cell n _ p hq h1
        exact ⟨p, rfl, ⟨_, .inl (.inl h2)⟩, q _ B1 H1 x1 s1 (jm_box h1)⟩
      | _ => cases e2
  | _ => cases e2
theorem jm_rng {K : PySem.W.Frag} {mg : Mg} {B : BT} {H : Hp} {lo : Int} {n : Nat} : JM K mg (Itr lo n) (srcN lo n) B H := by
  intro i B' H' S' x hS
  refine ⟨fun e => ?_, fun d e => ?_⟩
  · have e : (if i < n then some (D.p (.int (lo + i))) else none) = none := Option.some.inj e
    split at e
    · cases e
    · rename_i h; exact Nat.le_of_not_lt h
  · have e : (if i < n then some (D.p (.int (lo + i))) else none) = some d := Option.some.inj e
    split at e
    · rename_i h
      cases e
      refine ⟨h, fun x' H2 y => ?_⟩
      obtain ⟨rfl, rfl⟩ := y
      exact ⟨.inl rfl, .int _⟩
    · cases e
theorem im_rng1 {p : Pos} (ha : EM X a ma) (hs : notStar a = true) (hg : Gl X "range") (hm : X.mg "range" = none) : IM X tg (.Call (.Name "range" p) [a] [] pos) (mRng1 ma) := by
  refine IM.of (pi_range1 hg hm (am_cons ha am_nil hs).pa (star_cons hs)) fun σ H R q => ?_
  obtain ⟨B, ev, S, src, S', hS, hE, em, q⟩ := q
  obtain ⟨⟨x, S1⟩, e1, em⟩ := bind_some em
  simp only at em
  split at em
  · rename_i j
    split at em
    · rename_i hc
      cases em
      refine ⟨B, ev, S, [.p (.int j)], S', hS, hE, by simp only [mCons, mNil, e1, Option.bind_some, Option.map_some], fun B1 H1 v1 x1 s1 d1 => ?_⟩
      obtain ⟨v, rfl, h⟩ := rds1 d1
      obtain rfl := dq_int h
      exact ⟨j, rfl, by omega, by omega, q _ B1 H1 x1 s1 jm_rng⟩
    · cases em
  · cases em
theorem im_rng2 {p : Pos} (ha : EM X a ma) (hb : EM X b mb) (hs : notStar a = true) (hs2 : notStar b = true) (hg : Gl X "range") (hm : X.mg "range" = none) : IM X tg (.Call (.Name "range" p) [a, b] [] pos) (mRng2 ma mb) := by
  refine IM.of (pi_range2 hg hm (am_cons ha (am_cons hb am_nil hs2) hs).pa (by rw [star_cons hs, star_cons hs2]; rfl) (star_cons hs2)) fun σ H R q => ?_
  obtain ⟨B, ev, S, src, S', hS, hE, em, q⟩ := q
  obtain ⟨⟨x, S1⟩, e1, em⟩ := bind_some em
  obtain ⟨⟨y, S2⟩, e2, em⟩ := bind_some em
  unfold rng2 at em
  split at em
  · rename_i d1 d2 i j h1 h2
    split at em
    · rename_i hc
      cases em
      have h1 : x = .p (.int i) := h1
      have h2 : y = .p (.int j) := h2
      subst h1 h2
      refine ⟨B, ev, S, [.p (.int i), .p (.int j)], S2, hS, hE, by simp only [mCons, mNil, e1, e2, Option.bind_some, Option.map_some], fun B1 H1 v1 x1 s1 d1 => ?_⟩
      obtain ⟨v, w, rfl, h, h2⟩ := rds2 d1
      obtain rfl := dq_int h
      obtain rfl := dq_int h2
      exact ⟨i, j, rfl, by omega, q _ B1 H1 x1 s1 jm_rng⟩
    · cases em
  · cases em
end

/-! ### targets and tests for the layer -/
def tG (K : PySem.W.Frag) (mg : Mg) (is : List Nat) (m : MG) : TG := fun v σ H Q => ∃ B ev S d ev' S', SR K mg B H S ∧ ER K mg B H ev σ ∧ RD K mg B H d v ∧ m d ev S = some (ev', S') ∧
  ∀ B' H' σ', Ext B H B' H' → SR K mg B' H' S' → ER K mg B' H' ev' σ' → (∀ j, j ∉ is → σ'[j]? = σ[j]?) → σ'.length = σ.length → Q σ' H'
section
variable {X : Cx} {tg a b e : Expr} {ma mb : M} {pos : Pos}
theorem GM.pg {is : List Nat} {m : MG} (h : GM X tg is m) : PG X tg (tG X.K X.mg is m) := ⟨fun pins s σ H v u Q I r ⟨B, ev, S, d, ev', S', hS, hE, rd, em, q⟩ =>
  thn (h pins s σ H B ev S d v u ev' S' I hS hE rd r em) fun _ s' ⟨σ', H', B', I', x, s1, e1, u1⟩ => ⟨σ', H', I', q B' H' σ' x s1 e1 u1 (I'.len.trans I.len.symm)⟩⟩
theorem TM.pt (h : TM X e ma) : PT X e (tMt X.K X.mg ma) := ⟨fun pins s σ H Q I ⟨B, ev, S, b, S', hS, hE, em, q⟩ =>
  thn (h pins s σ H B ev S _ S' b I hS hE em rfl) fun k s1 ⟨hk, H1, B1, I1, x1, S1⟩ => ⟨H1, I1, by rw [hk]; exact q B1 H1 x1 S1⟩⟩
def mYes : M := mC (.p (.bool true))
theorem pts_yes : PTs X [] (tMt X.K X.mg mYes) := ⟨fun pins s σ H Q I ⟨B, ev, S, b, S', hS, hE, em, q⟩ => by
  cases em
  exact (pts_nil (X := X)).run pins s σ H Q I (q B H hS.refl hS)⟩
end

/-! ### comprehensions -/
def wipeE (ev : EnvI) : List Nat → EnvI
  | [] => ev
  | v :: vs => (wipeE ev vs).set v none
def lcLoop (src : Src) (g : MG) (c elt : M) (ev : EnvI) : Nat → Nat → List D → Store → Option (List D × Store)
  | 0, _, _, _ => none
  | k + 1, i, acc, S => (src i S).bind fun o => match o with
    | none => some (acc, S)
    | some d => (g d ev S).bind fun r => (c r.1 r.2).bind fun t => (isTru t.1).bind fun b =>
      if b then (elt r.1 t.2).bind fun y => if acc.length < sizeLine then lcLoop src g c elt ev k (i + 1) (acc ++ [y.1]) y.2 else none
      else lcLoop src g c elt ev k (i + 1) acc t.2
def mLc (L : Nat) (bx : Bool) (mi : MIt) (own : List Nat) (g : MG) (c elt : M) : M := fun ev S => (mi ev S).bind fun r => (lcLoop r.1 g c elt (wipeE ev own) L 0 [] r.2).bind fun q => mkL bx q.1 q.2

theorem ER.unset {K : PySem.W.Frag} {mg : Mg} {B : BT} {H : Hp} {ev : EnvI} {σ : St} (h : ER K mg B H ev σ) (i : Nat) : ER K mg B H (ev.set i none) (σ.set i none) := by
  refine ⟨by simp [h.len], fun j d' q => ?_⟩
  by_cases hj : i = j
  · subst hj
    by_cases hl : i < ev.length
    · rw [List.getElem?_set_self hl] at q; cases q
    · rw [List.getElem?_eq_none (by simpa using hl)] at q; cases q
  · rw [List.getElem?_set_ne hj] at q ⊢
    exact h.at_ j d' q
theorem ER.wipe {K : PySem.W.Frag} {mg : Mg} {B : BT} {H : Hp} {ev : EnvI} {σ : St} (h : ER K mg B H ev σ) : ∀ vs : List Nat, ER K mg B H (wipeE ev vs) (wipe σ vs)
  | [] => h
  | v :: vs => (ER.wipe h vs).unset v
theorem wipe_at (σ : St) : ∀ (vs : List Nat) (j : Nat), (wipe σ vs)[j]? = if j ∈ vs then (σ[j]?).map (fun _ => none) else σ[j]?
  | [], j => by simp [wipe]
  | v :: vs, j => by
    show ((wipe σ vs).set v none)[j]? = _
    by_cases hj : v = j
    · subst hj
      by_cases hl : v < σ.length
      · rw [List.getElem?_set_self (by rw [wipe_length]; exact hl)]
        simp [List.getElem?_eq_getElem hl]
      · rw [List.getElem?_eq_none (by rw [List.length_set, wipe_length]; omega), List.getElem?_eq_none (by omega)]
        simp
    · rw [List.getElem?_set_ne hj, wipe_at σ vs j]
      have : (j ∈ v :: vs) ↔ j ∈ vs := by
        rw [List.mem_cons]
        exact ⟨fun q => q.elim (fun z => absurd z.symm hj) id, .inr⟩
      simp only [this]
theorem wipe_same {σ σ2 : St} {vs is : List Nat} (hl : σ2.length = σ.length) (hi : ∀ j ∈ is, j ∈ vs) (u : ∀ j, j ∉ is → σ2[j]? = (wipe σ vs)[j]?) : wipe σ2 vs = wipe σ vs := by
  apply List.ext_getElem?
  intro j
  rw [wipe_at]
  by_cases hj : j ∈ vs
  · rw [if_pos hj, wipe_at, if_pos hj]
    by_cases hlt : j < σ.length
    · rw [List.getElem?_eq_getElem hlt, List.getElem?_eq_getElem (by rw [hl]; exact hlt)]; rfl
    · rw [List.getElem?_eq_none (by omega), List.getElem?_eq_none (by omega)]
  · rw [if_neg hj]
    exact u j fun q => hj (hi j q)

/-- the layer's reading of a comprehension, from its meaning -/
theorem lc_reads {K : PySem.W.Frag} {mg : Mg} {L : Nat} {bx : Bool} {mi : MIt} {own is : List Nat} {g : MG} {c elt : M} (hi : ∀ j ∈ is, j ∈ own) {σ : St} {H : Hp} {B : BT} {ev : EnvI} {S : Store} {d : D} {S' : Store} {Q : VK}
    (hS : SR K mg B H S) (hE : ER K mg B H ev σ) (em : mLc L bx mi own g c elt ev S = some (d, S')) (q : Post K mg B H d S' Q) : tLc (tI K mg mi) (tG K mg is g) (tMt K mg c) (tM K mg elt) own σ H Q := by
  obtain ⟨⟨src, S1⟩, e1, em⟩ := bind_some em
  obtain ⟨⟨accF, SF⟩, e2, em⟩ := bind_some em
  refine ⟨B, ev, S, src, S1, hS, hE, e1, fun J B1 H1 x1 hS1 jm D hD => ?_⟩
  refine ⟨fun i k Hi => ∃ Bi Si acc accV, Ext B1 H1 Bi Hi ∧ Ex0 B1 H1 (Bi.push D) Hi ∧ SR K mg (Bi.push D) Hi Si ∧ Hi D = some (.lst accV) ∧ RDs K mg (Bi.push D) Hi acc accV ∧ lcLoop src g c elt (wipeE ev own) k i acc Si = some (accF, SF), ?_, ?_⟩
  · exact ⟨L, B1, S1, [], [], hS1.ext_new hD _, ex_push hD _, hS1.push hD _, upd_same, .nil, e2⟩
  · rintro i k Hi ⟨Bi, Si, acc, accV, xi, yi, si, hDi, ra, lp⟩
    cases k with
    | zero => cases lp
    | succ k =>
      simp only [lcLoop] at lp
      obtain ⟨o, e3, lp⟩ := bind_some lp
      obtain ⟨j1, j2⟩ := jm i _ Hi Si yi si
      cases o with
      | none =>
        cases lp
        refine .inl ⟨j1 e3, ?_⟩
        obtain ⟨B', y1, y2, y3⟩ := mkL_fin si hDi ra em
        exact q B' Hi _ (y3 B H (x1.trans xi) (x1.none hD)) y1 y2
      | some d0 =>
        obtain ⟨hgo, hy⟩ := j2 d0 e3
        obtain ⟨⟨ev1, S2⟩, e4, lp⟩ := bind_some lp
        obtain ⟨⟨t, S3⟩, e5, lp⟩ := bind_some lp
        obtain ⟨bt, e6, lp⟩ := bind_some lp
        obtain rfl := isTru_p e6
        refine .inr ⟨hgo, fun H' => ∃ Bi Si acc accV, Ext B1 H1 Bi H' ∧ Ex0 B1 H1 (Bi.push D) H' ∧ SR K mg (Bi.push D) H' Si ∧ H' D = some (.lst accV) ∧ RDs K mg (Bi.push D) H' acc accV ∧ lcLoop src g c elt (wipeE ev own) k (i + 1) acc Si = some (accF, SF), ?_, ?_⟩
        · rintro H' ⟨B', S'', a', v', r⟩
          exact ⟨k, Nat.lt_succ_self _, B', S'', a', v', r⟩
        · intro x H2 hyld
          obtain ⟨hh, rd⟩ := hy x H2 hyld
          -- the item came: nothing, or one new object, in the heap
          have st : Ext (Bi.push D) Hi (Bi.push D) H2 ∧ SR K mg (Bi.push D) H2 Si := by
            rcases hh with rfl | ⟨T, ob, hT, rfl⟩
            · exact ⟨si.refl, si⟩
            · exact ⟨si.ext_new hT ob, si.new hT ob⟩
          obtain ⟨x2, s2⟩ := st
          have hEw : ER K mg (Bi.push D) H2 (wipeE ev own) (wipe σ own) := ER.ex ((x1.ex.trans yi).trans x2.ex) (hE.wipe own)
          refine ⟨Bi.push D, wipeE ev own, Si, d0, ev1, S2, s2, hEw, rd, e4, fun B3 H3 σ3 x3 s3 hE3 u3 l3 => ⟨wipe_same (l3.trans (wipe_length σ own)) hi u3, ?_⟩⟩
          refine ⟨B3, ev1, S2, bt, S3, s3, hE3, e5, fun B4 H4 x4 s4 => ?_⟩
          have x24 := (x2.trans x3).trans x4
          cases bt with
          | false =>
            obtain ⟨B5, rfl⟩ := x24.pushed
            refine ⟨B5, S3, acc, accV, xi.inner hD x24, yi.trans x24.ex, s4, (x24.tmp D List.mem_cons_self).trans hDi, RDs.ext x24 ra, lp⟩
          | true =>
            obtain ⟨⟨y, S5⟩, e7, lp⟩ := bind_some lp
            simp only at lp
            split at lp
            · rename_i hz
              refine ⟨B4, ev1, S3, y, S5, s4, hE3.ext x4, e7, fun B5 H5 v5 x5 s5 d5 => ?_⟩
              have x25 := x24.trans x5
              obtain ⟨B6, rfl⟩ := x25.pushed
              have hD5 : H5 D = some (.lst accV) := (x25.tmp D List.mem_cons_self).trans hDi
              have hT : D ∈ (B6.push D).t := List.mem_cons_self
              refine ⟨accV, hD5, by rw [← ra.length]; exact hz, B6, S5, acc ++ [y], accV ++ [v5], (xi.inner hD x25).aside hD s5.popped _, (yi.trans x25.ex).trans (ex_temp hT _), s5.temp hT _, upd_same, RDs.ex (ex_temp hT _) (RDs.append (RDs.ext x25 ra) (.cons d5 .nil)), lp⟩
            · cases lp
end PI
set_option maxHeartbeats 1000000
/-! Own text: enumerate and zip as what is walked. -/
namespace PI
open PySem PySem.Spec L2
open PyProof.Rows hiding St

/-- pairs of place and item -/
def srcEn (f : Src) : Src := fun i S => match f i S with
  | some none => some none
  | some (some (.p x)) => some (some (.p (.tuple [.int i, x])))
  | _ => none
def srcZp (f g : Src) : Src := fun i S => match f i S, g i S with
  | some (some (.p x)), some (some (.p y)) => if bareP [x, y] = true then none else some (some (.p (.tuple [x, y])))
  | some none, some _ => some none
  | some _, some none => some none
  | _, _ => none
/-- a list's own walk, boxed or not -/
def IsLst (S : Store) : D → Bool
  | .p (.list _) => true
  | .ref n => match S[n]? with
    | some (.lst _) => true
    | _ => false
  | _ => false
def IsTup : D → Bool
  | .p (.tuple _) => true
  | _ => false
def mEnum (a : M) : MIt := fun ev S => (a ev S).bind fun r => if IsLst r.2 r.1 then (srcOf r.2 r.1).map fun f => (srcEn f, r.2) else none
def mZip (a b : M) : MIt := fun ev S => (a ev S).bind fun r => (b ev r.2).bind fun t => if (IsLst t.2 r.1 && IsLst t.2 t.1) || (IsTup r.1 && IsTup t.1) then (srcOf t.2 r.1).bind fun f => (srcOf t.2 t.1).map fun g => (srcZp f g, t.2) else none

section
variable {K : PySem.W.Frag} {mg : Mg} {B : BT} {H : Hp} {S : Store}
/-- what a source of a list tells at every later time -/
def LstAt (K : PySem.W.Frag) (mg : Mg) (f : Src) (p : Addr) (B : BT) (H : Hp) : Prop := ∀ (i : Nat) (B' : BT) (H' : Hp) (S' : Store), Ex0 B H B' H' → SR K mg B' H' S' →
  (f i S' = some none → ∃ vs, SqL K H' p vs ∧ vs.length ≤ i) ∧ ∀ d, f i S' = some (some d) → ∃ vs v, SqL K H' p vs ∧ vs[i]? = some v ∧ RD K mg B' H' d v
def TupAt (K : PySem.W.Frag) (mg : Mg) (f : Src) (p : Addr) (B : BT) (H : Hp) : Prop := ∀ (i : Nat) (B' : BT) (H' : Hp) (S' : Store), Ex0 B H B' H' → SR K mg B' H' S' →
  (f i S' = some none → ∃ vs, SqT K H' p vs ∧ vs.length ≤ i) ∧ ∀ d, f i S' = some (some d) → ∃ vs v, SqT K H' p vs ∧ vs[i]? = some v ∧ RD K mg B' H' d v
theorem lst_at (hS : SR K mg B H S) {x : D} {v : V} {f : Src} (r : RD K mg B H x v) (hl : IsLst S x = true) (e : srcOf S x = some f) : ∃ p, v = .ref p ∧ (∃ vs, SqL K H p vs) ∧ LstAt K mg f p B H := by
  cases x with
  | p y =>
    cases y <;> first | (cases hl) | skip
    cases e
    cases r with
    | lst h1 h2 =>
      refine ⟨_, rfl, ⟨_, h1.sq⟩, fun i B' H' S' x hS' => ?_⟩
      have h' := (x.rd h1.1 h1.2).1
      have r' := RDs.ex x (dqAll_map (mg := mg).mp h2)
      refine ⟨fun e => ⟨_, .inl h', ?_⟩, fun d e => ?_⟩
      · have e := Option.some.inj e
        rw [← r'.length]
        exact List.getElem?_eq_none_iff.mp e
      · have e := Option.some.inj e
        obtain ⟨w, hw, rw'⟩ := r'.at e
        exact ⟨_, w, .inl h', hw, rw'⟩
  | ref n =>
    simp only [IsLst] at hl
    simp only [srcOf] at e
    cases hq : S[n]? with
    | none => rw [hq] at e; cases e
    | some c =>
      rw [hq] at e
      cases c with
      | lst ys =>
        cases e
        obtain ⟨p, h1, rfl⟩ := r
        obtain ⟨vs0, h0, _⟩ := hS.cell n _ p hq h1
        refine ⟨p, rfl, ⟨_, .inl (.inl h0)⟩, fun i B' H' S' x hS' => ?_⟩
        have h' := x.pre n p h1
        have go : ∀ zs, S'[n]? = some (.lst zs) → ∃ vs, SqL K H' p vs ∧ RDs K mg B' H' zs vs := fun zs e => by
          obtain ⟨vs, z1, z2⟩ := hS'.cell n _ p e h'
          exact ⟨vs, .inl (.inl z1), z2⟩
        refine ⟨fun e => ?_, fun d e => ?_⟩
        · unfold srcR at e
          split at e
          · rename_i zs hz
            obtain ⟨vs, q1, q2⟩ := go zs hz
            exact ⟨vs, q1, by rw [← q2.length]; exact List.getElem?_eq_none_iff.mp (Option.some.inj e)⟩
          · cases e
        · unfold srcR at e
          split at e
          · rename_i zs hz
            obtain ⟨vs, q1, q2⟩ := go zs hz
            obtain ⟨w, hw, rw'⟩ := q2.at (Option.some.inj e)
            exact ⟨vs, w, q1, hw, rw'⟩
          · cases e
      | _ => cases e
  | _ => cases hl
theorem tup_at {x : D} {v : V} {f : Src} (r : RD K mg B H x v) (hl : IsTup x = true) (e : srcOf S x = some f) : ∃ p, v = .ref p ∧ (∃ vs, SqT K H p vs) ∧ TupAt K mg f p B H := by
  cases x with
  | p y =>
    cases y <;> first | (cases hl) | skip
    cases e
    obtain ⟨p, vs, rfl, h1, h2⟩ := dq_tup r
    refine ⟨p, rfl, ⟨_, h1.sq⟩, fun i B' H' S' x hS' => ?_⟩
    have h' : SqT K H' p vs := h1.imp (fun z => (x.rd z.1 z.2).1) id
    have r' := RDs.ex x (dqAll_map (mg := mg).mp h2)
    refine ⟨fun e => ⟨_, h', ?_⟩, fun d e => ?_⟩
    · have e := Option.some.inj e
      rw [← r'.length]
      exact List.getElem?_eq_none_iff.mp e
    · have e := Option.some.inj e
      obtain ⟨w, hw, rw'⟩ := r'.at e
      exact ⟨_, w, h', hw, rw'⟩
  | _ => cases hl
/-- a pair that was made for the turn -/
theorem pair_new (hS : SR K mg B H S) {T : Addr} (hT : H T = none) {x y : PyData} {v w : V} (r1 : RD K mg B H (.p x) v) (r2 : RD K mg B H (.p y) w) (hb : ¬ bareP [x, y] = true) : RD K mg B (upd H T (.tup [v, w])) (.p (.tuple [x, y])) (.ref T) := by
  have x0 := (hS.ext_new hT (.tup [v, w])).ex
  have hn : T ∉ B.all := fun q => by
    obtain ⟨u, e⟩ := hS.al T q
    rw [hT] at e; cases e
  exact Dq.tup (.inl ⟨.inl upd_same, hn⟩) (.cons (RD.ex x0 r1) (.cons (RD.ex x0 r2) .nil)) fun z => absurd z hb
theorem jm_enum {f : Src} {p : Addr} (h : LstAt K mg f p B H) : JM K mg (Ite K p) (srcEn f) B H := by
  intro i B' H' S' x hS'
  obtain ⟨j1, j2⟩ := h i B' H' S' x hS'
  refine ⟨fun e => ?_, fun d e => ?_⟩
  · unfold srcEn at e
    split at e
    · rename_i hf
      obtain ⟨vs, q1, q2⟩ := j1 hf
      exact ⟨vs, q1, q2⟩
    · cases e
    · cases e
  · unfold srcEn at e
    split at e
    · cases e
    · rename_i y hf
      cases e
      obtain ⟨vs, v, q1, q2, q3⟩ := j2 _ hf
      refine ⟨⟨vs, v, q1, q2⟩, fun z H2 yl => ?_⟩
      obtain ⟨T, v', rfl, hT, rfl, hv⟩ := yl
      have := hv vs q1
      rw [q2] at this
      cases this
      exact ⟨.inr ⟨T, _, hT, rfl⟩, pair_new hS' hT (Dq.int _) q3 (fun z => by cases z)⟩
    · cases e
theorem jm_zipL {f g : Src} {p q : Addr} (hf : LstAt K mg f p B H) (hg : LstAt K mg g q B H) : JM K mg (Itz K p q) (srcZp f g) B H := by
  intro i B' H' S' x hS'
  obtain ⟨f1, f2⟩ := hf i B' H' S' x hS'
  obtain ⟨g1, g2⟩ := hg i B' H' S' x hS'
  refine ⟨fun e => ?_, fun d e => ?_⟩
  · unfold srcZp at e
    split at e
    · split at e <;> cases e
    · rename_i o h1 h2
      obtain ⟨vs, q1, q2⟩ := f1 h1
      cases o with
      | none =>
        obtain ⟨ws, r1, _⟩ := g1 h2
        exact ⟨vs, ws, q1, r1, .inl q2⟩
      | some d =>
        obtain ⟨ws, _, r1, _⟩ := g2 d h2
        exact ⟨vs, ws, q1, r1, .inl q2⟩
    · rename_i o h0 h1 h2
      obtain ⟨vs, q1, q2⟩ := g1 (by assumption)
      cases o with
      | none =>
        obtain ⟨us, r1, _⟩ := f1 (by assumption)
        exact ⟨us, vs, r1, q1, .inr q2⟩
      | some d =>
        obtain ⟨us, _, r1, _⟩ := f2 d (by assumption)
        exact ⟨us, vs, r1, q1, .inr q2⟩
    · cases e
  · unfold srcZp at e
    split at e
    · rename_i y z h1 h2
      split at e
      · cases e
      rename_i hb
      cases e
      obtain ⟨vs, v, q1, q2, q3⟩ := f2 _ h1
      obtain ⟨ts, t, r1, r2, r3⟩ := g2 _ h2
      refine ⟨⟨vs, ts, v, t, q1, r1, q2, r2⟩, fun zz H2 yl => ?_⟩
      obtain ⟨T, v', t', rfl, hT, rfl, hv, ht⟩ := yl
      have e1 := hv vs q1
      rw [q2] at e1
      cases e1
      have e2 := ht ts r1
      rw [r2] at e2
      cases e2
      exact ⟨.inr ⟨T, _, hT, rfl⟩, pair_new hS' hT q3 r3 hb⟩
    · cases e
    · cases e
    · cases e
theorem jm_zipT {f g : Src} {p q : Addr} (hf : TupAt K mg f p B H) (hg : TupAt K mg g q B H) : JM K mg (RZ.ItzT K p q) (srcZp f g) B H := by
  intro i B' H' S' x hS'
  obtain ⟨f1, f2⟩ := hf i B' H' S' x hS'
  obtain ⟨g1, g2⟩ := hg i B' H' S' x hS'
  refine ⟨fun e => ?_, fun d e => ?_⟩
  · unfold srcZp at e
    split at e
    · split at e <;> cases e
    · rename_i o h1 h2
      obtain ⟨vs, q1, q2⟩ := f1 h1
      cases o with
      | none =>
        obtain ⟨ws, r1, _⟩ := g1 h2
        exact ⟨vs, ws, q1, r1, .inl q2⟩
      | some d =>
        obtain ⟨ws, _, r1, _⟩ := g2 d h2
        exact ⟨vs, ws, q1, r1, .inl q2⟩
    · rename_i o h0 h1 h2
      obtain ⟨vs, q1, q2⟩ := g1 (by assumption)
      cases o with
      | none =>
        obtain ⟨us, r1, _⟩ := f1 (by assumption)
        exact ⟨us, vs, r1, q1, .inr q2⟩
      | some d =>
        obtain ⟨us, _, r1, _⟩ := f2 d (by assumption)
        exact ⟨us, vs, r1, q1, .inr q2⟩
    · cases e
  · unfold srcZp at e
    split at e
    · rename_i y z h1 h2
      split at e
      · cases e
      rename_i hb
      cases e
      obtain ⟨vs, v, q1, q2, q3⟩ := f2 _ h1
      obtain ⟨ts, t, r1, r2, r3⟩ := g2 _ h2
      refine ⟨⟨vs, ts, v, t, q1, r1, q2, r2⟩, fun zz H2 yl => ?_⟩
      obtain ⟨T, v', t', rfl, hT, rfl, hv, ht⟩ := yl
      have e1 := hv vs q1
      rw [q2] at e1
      cases e1
      have e2 := ht ts r1
      rw [r2] at e2
      cases e2
      exact ⟨.inr ⟨T, _, hT, rfl⟩, pair_new hS' hT q3 r3 hb⟩
    · cases e
    · cases e
    · cases e
end
section
variable {X : Cx} {a b : Expr} {ma mb : M} {pos p tpos : Pos} {elts : List Expr} {kk : Nat}
theorem im_enum (ha : EM X a ma) (hs : notStar a = true) (hg : Gl X "enumerate") (hm : X.mg "enumerate" = none) : IM X (.Tuple elts kk tpos) (.Call (.Name "enumerate" p) [a] [] pos) (mEnum ma) := by
  refine IM.of (pi_enum hg hm (am_cons ha am_nil hs).pa (star_cons hs)) fun σ H R q => ?_
  obtain ⟨B, ev, S, src, S', hS, hE, em, q⟩ := q
  obtain ⟨⟨x, S1⟩, e1, em⟩ := bind_some em
  simp only at em
  split at em
  · rename_i hl
    obtain ⟨f, e2, em⟩ := map_some em
    cases em
    refine ⟨B, ev, S, [x], S', hS, hE, by simp only [mCons, mNil, e1, Option.bind_some, Option.map_some], fun B1 H1 v1 x1 s1 d1 => ?_⟩
    obtain ⟨v, rfl, h⟩ := rds1 d1
    obtain ⟨p, rfl, ⟨vs, h1⟩, h2⟩ := lst_at s1 h hl e2
    exact ⟨p, vs, rfl, h1, q _ B1 H1 x1 s1 (jm_enum h2)⟩
  · cases em
theorem im_zip (ha : EM X a ma) (hb : EM X b mb) (hs : notStar a = true) (hs2 : notStar b = true) (hg : Gl X "zip") (hm : X.mg "zip" = none) : IM X (.Tuple elts kk tpos) (.Call (.Name "zip" p) [a, b] [] pos) (mZip ma mb) := by
  refine IM.of (RZ.pi_zipA hg hm (am_cons ha (am_cons hb am_nil hs2) hs).pa (star_cons hs) (star_plain (by rw [List.all_cons, hs2]; rfl))) fun σ H R q => ?_
  obtain ⟨B, ev, S, src, S', hS, hE, em, q⟩ := q
  obtain ⟨⟨x, S1⟩, e1, em⟩ := bind_some em
  obtain ⟨⟨y, S2⟩, e2, em⟩ := bind_some em
  simp only at em
  split at em
  · rename_i hl
    obtain ⟨f, e3, em⟩ := bind_some em
    obtain ⟨g, e4, em⟩ := map_some em
    cases em
    refine ⟨B, ev, S, [x, y], S', hS, hE, by simp only [mCons, mNil, e1, e2, Option.bind_some, Option.map_some], fun B1 H1 v1 x1 s1 d1 => ?_⟩
    obtain ⟨v, w, rfl, h, h'⟩ := rds2 d1
    rw [Bool.or_eq_true, Bool.and_eq_true, Bool.and_eq_true] at hl
    rcases hl with ⟨l1, l2⟩ | ⟨l1, l2⟩
    · obtain ⟨p, rfl, ⟨vs, h1⟩, h2⟩ := lst_at s1 h l1 e3
      obtain ⟨p', rfl, ⟨ws, h3⟩, h4⟩ := lst_at s1 h' l2 e4
      exact ⟨p, p', vs, ws, rfl, .inl ⟨h1, h3, q _ B1 H1 x1 s1 (jm_zipL h2 h4)⟩⟩
    · obtain ⟨p, rfl, ⟨vs, h1⟩, h2⟩ := tup_at h l1 e3
      obtain ⟨p', rfl, ⟨ws, h3⟩, h4⟩ := tup_at h' l2 e4
      exact ⟨p, p', vs, ws, rfl, .inr ⟨h1, h3, q _ B1 H1 x1 s1 (jm_zipT h2 h4)⟩⟩
  · cases em
end
end PI
set_option maxHeartbeats 1000000
/-! Own text: enumerate of a tuple. -/
namespace PI
open PySem PySem.Spec L2
open PyProof.Rows hiding St

theorem new_enum1 {v : Value} {o : Obj} {Hd : Heap → Prop} (b : Begins v o Hd) : Meets (Builtin.«enumerate.__new__» ⟨[.type "enumerate", v], []⟩) (fun _ R s => Hd s.heap ∧ R (.ok (.ret (.ref (s.heap.push o).objs.size)))
    { s with heap := (s.heap.push o).push { cls := .type "enumerate", data := .fields #[.none, .bool false, .ref s.heap.objs.size, rawInt 0, .none, .none] } }) := .of_wp fun P w A R s h => by
  obtain ⟨hp, g, d, tk, os⟩ := s
  obtain ⟨h1, h⟩ := h
  have se := sub_enumerate
  have it : ∀ {B : Around} {E : Value → Shared → Prop} {Q : Value → Shared → Prop}, Q (.ref hp.objs.size) ⟨hp.push o, g, d, tk, os⟩ → wpAny (model P w) B (pyIter v) Q E ⟨hp, g, d, tk, os⟩ := fun q => b.iter P w _ _ ⟨hp, g, d, tk, os⟩ _ h1 q
  wp_walk using it
  refine wpAny_stack_any fun st => wpAny_pure ?_
  split
  · rename_i c _ _ _ _ _
    cases (c == Value.type "enumerate") <;> (wp_walk using it; exact ⟨_, rfl, h⟩)
  · wp_walk using it
    exact ⟨_, rfl, h⟩
section
variable {P : Program} {w : World} {A : Around} {E : Value → Shared → Prop} {s : Shared}
theorem enum1 {v : Value} {o : Obj} {Hd : Heap → Prop} {Q : Value → Shared → Prop} (b : Begins v o Hd) (h1 : Hd s.heap)
    (h : ∀ hp, IsEnum hp (s.heap.objs.size + 1) s.heap.objs.size 0 .none → hp.get? s.heap.objs.size = some o → (∀ a u, s.heap.get? a = some u → hp.get? a = some u) → Q (.ref (s.heap.objs.size + 1)) { s with heap := hp }) : wpAny (model P w) A (call (.type "enumerate") [v]) Q E s := by
  refine callType_new F.called_enumerate (by decide) (F.typeCall_enumerate_1 _) (F.newCall_enumerate_1 _) (fun obj => F.args_object_init_2 obj _) F.entry_enumerate_new (new_enum1 b) ⟨h1, ?_⟩
  have sz : (s.heap.push o).objs.size = s.heap.objs.size + 1 := Heap.size_push ..
  show _ ∧ _
  rw [sz]
  have he : IsEnum ((s.heap.push o).push { cls := .type "enumerate", data := .fields #[.none, .bool false, .ref s.heap.objs.size, rawInt 0, .none, .none] }) (s.heap.objs.size + 1) s.heap.objs.size 0 .none := by
    have q := Heap.get?_push_size (s.heap.push o) (o := { cls := .type "enumerate", data := .fields #[.none, .bool false, .ref s.heap.objs.size, rawInt 0, .none, .none] }) rfl
    rwa [sz] at q
  exact ⟨⟨_, he, rfl⟩, h _ he (Heap.get?_push_of_some _ (Heap.get?_push_size _ b.free)) fun a u x => Heap.get?_push_of_some _ (Heap.get?_push_of_some _ x)⟩
end
/-- the tuple at a, each item in a new pair -/
def ItE (K : PySem.W.Frag) (a : Addr) : It :=
  ⟨fun i H => ∃ (xs : List V) (x : V), SqT K H a xs ∧ xs[i]? = some x, fun i H v H' => ∃ T x, v = .ref T ∧ H T = none ∧ H' = upd H T (.tup [.int (i : Nat), x]) ∧ ∀ xs, SqT K H a xs → xs[i]? = some x, fun i H => ∃ xs : List V, SqT K H a xs ∧ xs.length = i⟩
theorem turn_enT {P : Program} {w : World} {K : PySem.W.Frag} {elts : List Expr} {kk : Nat} {tpos : Pos} (a e it : Addr) (ha : a ≠ it) (hea : e ≠ a) :
    Turn P w K (.Tuple elts kk tpos) (ItE K a) [e, it] e (fun i h => (∃ old, IsEnum h e it ((i : Nat) : Int) old) ∧ h.IsTupleIter it a i ∧ e ≠ it) where
  mem := by simp
  obj := fun i h st b hb => by
    obtain ⟨⟨old, he⟩, ⟨o, ho, hc, hd⟩, _⟩ := st
    rcases List.mem_cons.mp hb with z | z
    · rw [z]; exact ⟨_, he, fun v q => nomatch q⟩
    · rw [List.mem_singleton.mp z]; exact ⟨o, ho, fun v q => by rw [hd] at q; cases q⟩
  keep := fun i h h' st k => by
    obtain ⟨⟨old, he⟩, hi, hne⟩ := st
    exact ⟨⟨old, k e (by simp) _ he⟩, hi.at fun o q => k it (by simp) o q, hne⟩
  item := by
    intro X hP hw hK hc i pins s σ H E I hf st hg
    subst hP hw hK
    obtain ⟨⟨old, he⟩, hit, hne⟩ := st
    obtain ⟨xs, x, hq, hx⟩ := hg
    obtain ⟨its, rv, pt, hz⟩ := I.tuple hq
    obtain ⟨u, hu, ru⟩ := rv.get hx
    have hel : e < s.heap.objs.size := Heap.lt_size he
    have hil : it < s.heap.objs.size := by
      obtain ⟨_, q, _⟩ := hit
      exact Heap.lt_size q
    have hlt : i < its.toArray.size := by
      have := (List.getElem?_eq_some_iff.mp hu).1
      simpa using this
    have D := Draws.tuple (prog := X.prog) (w := X.w) (A := X.A.in1) (I.ok.hd hc) it a ha its.toArray
    refine wpAny_pyNext_enum_itemD D he ⟨hit, show s.heap.IsTuple a its.toArray from pt⟩ hlt hne (by simp [hne, hea]) fun y h' tk hy ho hst hT hsz hk => ?_
    have ey : y = u := by
      have q : its[i]? = some y := by simpa using hy
      rw [hu] at q
      exact (Option.some.inj q).symm
    subst ey
    refine ⟨_, rfl, wpAny_letOwnedTupleGo_enum (s := { s with heap := h', toks := tk + 1 }) ho fun h'' he' sb => ?_⟩
    have hT2 : h''.get? s.heap.objs.size = some { cls := .type "tuple", data := .seq #[.int i tk, y] } := (sb.2 _ (Nat.ne_of_gt hel)).trans hT
    have new : ObjOk X.prog X.w (upd H s.heap.objs.size (.tup [.int (i : Nat), x])) h'' s.heap.objs.size (.tup [.int (i : Nat), x]) := ⟨by show 2 ≤ sizeLine; decide, [.int i tk, y], .cons ⟨_, rfl⟩ (.cons ru .nil), ⟨_, hT2, rfl, _, rfl⟩⟩
    have I1 : Inv X pins σ (upd H s.heap.objs.size (.tup [.int (i : Nat), x])) { s with heap := h'', toks := tk + 1 } :=
      I.turnedNew (ch := [e, it]) (fun b ob hb q => (sb.2 b (fun z => hb (by simp [z]))).trans (hk b ob (fun z => hb (by simp [z])) (fun z => hb (by simp [z])) q)) hf (Nat.le_refl _) new
    refine ⟨.ref s.heap.objs.size, _, I1, rfl, ⟨_, x, rfl, I.hok.fresh (Nat.le_refl _), rfl, fun ys hy => ?_⟩, ⟨⟨y, ?_⟩, hst.1.at fun o q => (sb.2 it (Ne.symm hne)).trans q, hne⟩, fun b hb => ?_⟩
    · rw [I.tuple_inj hy hq]; exact hx
    · have e1 : ((i + 1 : Nat) : Int) = (i : Int) + 1 := by omega
      rw [e1]; exact he'
    · have lb : b < s.heap.objs.size := by
        rcases List.mem_cons.mp hb with z | z
        · rw [z]; exact hel
        · rw [List.mem_singleton.mp z]; exact hil
      rw [upd_ne (Nat.ne_of_lt lb)]
      exact (hf b hb).1
  done := by
    intro X hP hw hK hc i pins s σ H E I hf st hg
    subst hP hw hK
    obtain ⟨⟨old, he⟩, hit, hne⟩ := st
    obtain ⟨xs, hq, hx⟩ := hg
    obtain ⟨its, rv, pt, hz⟩ := I.tuple hq
    obtain ⟨f0, f1, f2, f3, f4, f5⟩ := hf it (by simp)
    have ei : its.toArray.size = i := by
      rw [List.size_toArray, ← rv.length]
      exact hx
    have D := Draws.tuple (prog := X.prog) (w := X.w) (A := X.A.in1) (I.ok.hd hc) it a ha its.toArray
    exact wpAny_pyNext_enum_endD D he (by rw [ei]; exact ⟨hit, show s.heap.IsTuple a its.toArray from pt⟩) fun h' eb => ⟨rfl, I.turned (t' := s.toks) (fun b o hb q => eb b o hb q) f0 f1 f3 f4 f5⟩
  self := fun A i s Q E st h => by
    obtain ⟨⟨_, he⟩, _⟩ := st
    exact wpAny_pyIter_enum he h
/-- a tuple's pairs of place and item -/
def srcT (xs : List PyData) : Src := fun i _ => if i ≤ xs.length then some ((xs[i]?).map fun x => .p (.tuple [.int i, x])) else none
section
variable {X : Cx} {a : Expr} {ma : M} {pos p tpos : Pos} {elts : List Expr} {kk : Nat}
theorem jm_enT {K : PySem.W.Frag} {mg : Mg} {B : BT} {H : Hp} {t : Addr} {vs : List V} {xs : List PyData} (h : SqTB K B H t vs) (r : DqAll K B H vs xs) : JM K mg (ItE K t) (srcT xs) B H := by
  intro i B' H' S' x hS'
  have h' : SqT K H' t vs := h.imp (fun z => (x.rd z.1 z.2).1) id
  have r' := RDs.ex x (dqAll_map (mg := mg).mp r)
  have hl := r'.length
  rw [List.length_map] at hl
  refine ⟨fun e => ?_, fun d e => ?_⟩
  · unfold srcT at e
    split at e
    · rename_i hi
      have e := Option.some.inj e
      cases q : xs[i]? with
      | none =>
        have := List.getElem?_eq_none_iff.mp q
        exact ⟨vs, h', by omega⟩
      | some y => rw [q] at e; cases e
    · cases e
  · unfold srcT at e
    split at e
    · have e := Option.some.inj e
      cases q : xs[i]? with
      | none => rw [q] at e; cases e
      | some y =>
        rw [q] at e
        cases e
        obtain ⟨v, hv, rv⟩ := r'.at (show (xs.map D.p)[i]? = some (.p y) by rw [List.getElem?_map, q]; rfl)
        refine ⟨⟨vs, v, h', hv⟩, fun z H2 yl => ?_⟩
        obtain ⟨T, v', rfl, hT, rfl, hv'⟩ := yl
        have := hv' vs h'
        rw [hv] at this
        cases this
        exact ⟨.inr ⟨T, _, hT, rfl⟩, pair_new hS' hT (Dq.int _) rv (fun z => by cases z)⟩
    · cases e
theorem pi_enT {ta : TA} (hg : Gl X "enumerate") (hm : X.mg "enumerate" = none) (ha : PA X [a] ta) (hs : starEach [a] X.env = [(false, eval a X.env)]) :
    PI X (.Tuple elts kk tpos) (.Call (.Name "enumerate" p) [a] [] pos) (fun σ H R => ta σ H fun vs H1 => ∃ t xs, vs = [.ref t] ∧ SqT X.K H1 t xs ∧ R (ItE X.K t) H1) := by
  refine ⟨fun pins s σ H R I h => ?_⟩
  refine Call_ (ld_blt I hg hm (show bootBuiltins "enumerate" = some (.type "enumerate") by decide +kernel) (PyProof.Rows.callWith_type1 (thn (ha.run pos pins s σ H _ I h) fun us s1 ⟨vs, H1, I1, r1, q1⟩ => ?_) hs rfl))
  obtain ⟨t, xs, rfl, hq, q⟩ := q1
  obtain ⟨u, rfl, ru⟩ := vals1 r1
  obtain rfl : u = Value.ref t := ru
  obtain ⟨its, rv, pt, hz⟩ := I1.tuple hq
  have it : s1.heap.IsTuple t its.toArray := pt
  have lt : t < s1.heap.objs.size := by
    obtain ⟨o, z, _⟩ := it
    exact Heap.lt_size z
  refine enum1 (begins_tuple t its.toArray) it fun hp he hit hk => wpAny_pyIter_enum he ?_
  have I2 : Inv X pins σ H1 { s1 with heap := hp } := I1.kept (t' := s1.toks) hk
  refine ⟨s1.heap.objs.size + 1, [s1.heap.objs.size + 1, s1.heap.objs.size], _, _, H1, rfl, I2, turn_enT t (s1.heap.objs.size + 1) s1.heap.objs.size (Nat.ne_of_lt lt) (Nat.ne_of_gt (Nat.lt_succ_of_lt lt)), ⟨⟨.none, he⟩, ⟨_, hit, rfl, rfl⟩, Nat.succ_ne_self _⟩, fun b hb => ?_, q⟩
  have hle : s1.heap.objs.size ≤ b := by
    rcases List.mem_cons.mp hb with z | z
    · rw [z]; exact Nat.le_add_right _ _
    · rw [List.mem_singleton.mp z]; exact Nat.le_refl _
  exact I1.fpOk hle (I1.hok.fresh hle)
def enSrc (S : Store) : D → Option Src
  | .p (.tuple xs) => some (srcT xs)
  | x => if IsLst S x then (srcOf S x).map srcEn else none
def mEn (a : M) : MIt := fun ev S => (a ev S).bind fun r => (enSrc r.2 r.1).map fun f => (f, r.2)
theorem im_en (ha : EM X a ma) (hs : notStar a = true) (hg : Gl X "enumerate") (hm : X.mg "enumerate" = none) : IM X (.Tuple elts kk tpos) (.Call (.Name "enumerate" p) [a] [] pos) (mEn ma) := by
  refine IM.of (PI_or (pi_enum hg hm (am_cons ha am_nil hs).pa (star_cons hs)) (pi_enT hg hm (am_cons ha am_nil hs).pa (star_cons hs))) fun σ H R q => ?_
  obtain ⟨B, ev, S, src, S', hS, hE, em, q⟩ := q
  obtain ⟨⟨x, S1⟩, e1, em⟩ := bind_some em
  obtain ⟨f, e2, em⟩ := map_some em
  cases em
  have arg : mCons ma mNil ev S = some ([x], S1) := by simp only [mCons, mNil, e1, Option.bind_some, Option.map_some]
  replace e2 : enSrc S1 x = some src := e2
  unfold enSrc at e2
  split at e2
  · rename_i xs
    cases e2
    refine .inr ⟨B, ev, S, _, S1, hS, hE, arg, fun B1 H1 v1 x1 s1 d1 => ?_⟩
    obtain ⟨v, rfl, h⟩ := rds1 d1
    obtain ⟨t, vs, rfl, h1, h2⟩ := dq_tup h
    exact ⟨t, vs, rfl, h1.sq, q _ B1 H1 x1 s1 (jm_enT h1 h2)⟩
  · split at e2
    · rename_i hl
      obtain ⟨g, e3, e2⟩ := map_some e2
      cases e2
      refine .inl ⟨B, ev, S, _, S1, hS, hE, arg, fun B1 H1 v1 x1 s1 d1 => ?_⟩
      obtain ⟨v, rfl, h⟩ := rds1 d1
      obtain ⟨l, rfl, ⟨vs, h1⟩, h2⟩ := lst_at s1 h hl e3
      exact ⟨l, vs, rfl, h1, q _ B1 H1 x1 s1 (jm_enum h2)⟩
    · cases e2
end
end PI
set_option maxHeartbeats 4000000
/-! Own text: zip of a tuple and a list. -/
namespace PI
open PySem PySem.Spec L2
open PyProof.Rows hiding St

/-- the tuple at a, the list at b, their items in new pairs -/
def ItM (K : PySem.W.Frag) (a b : Addr) : It :=
  ⟨fun i H => ∃ (xs ys : List V) (x y : V), SqT K H a xs ∧ SqL K H b ys ∧ xs[i]? = some x ∧ ys[i]? = some y,
    fun i H v H' => ∃ T x y, v = .ref T ∧ H T = none ∧ H' = upd H T (.tup [x, y]) ∧ (∀ xs, SqT K H a xs → xs[i]? = some x) ∧ ∀ ys, SqL K H b ys → ys[i]? = some y,
    fun i H => ∃ xs ys : List V, SqT K H a xs ∧ SqL K H b ys ∧ (xs.length = i ∨ ys.length = i) ∧ i ≤ xs.length ∧ i ≤ ys.length⟩
theorem turn_mix {P : Program} {w : World} {K : PySem.W.Frag} {elts : List Expr} {kk : Nat} {tpos : Pos} {a b z ti to' i1 i2 : Addr} (Z : ZipSep2 z ti to' i1 i2 [i1, a] [i2, b]) (ha : a ≠ i1) (hb : b ≠ i2) :
    Turn P w K (.Tuple elts kk tpos) (ItM K a b) [z, ti, to', i1, i2] z (fun i h => IsZip h z ti to' .none ∧ IsTupOf2 h ti (.ref i1) (.ref i2) ∧ (∃ x y, IsTupOf2 h to' x y) ∧ h.IsTupleIter i1 a i ∧ h.IsListIter i2 b i) where
  mem := by simp
  obj := fun i h st c hc => by
    obtain ⟨s1, s2, ⟨x, y, s3⟩, ⟨o1, e1, _, d1⟩, ⟨o2, e2, _, d2⟩⟩ := st
    simp only [List.mem_cons, List.not_mem_nil, or_false] at hc
    rcases hc with rfl | rfl | rfl | rfl | rfl
    · exact ⟨_, s1, fun v q => nomatch q⟩
    · exact ⟨_, s2, fun v q => nomatch q⟩
    · exact ⟨_, s3, fun v q => nomatch q⟩
    · exact ⟨o1, e1, fun v q => by rw [d1] at q; cases q⟩
    · exact ⟨o2, e2, fun v q => by rw [d2] at q; cases q⟩
  keep := fun i h h' st k => by
    obtain ⟨s1, s2, ⟨x, y, s3⟩, s4, s5⟩ := st
    exact ⟨k z (by simp) _ s1, k ti (by simp) _ s2, ⟨x, y, k to' (by simp) _ s3⟩, s4.at fun o q => k i1 (by simp) o q, s5.at fun o q => k i2 (by simp) o q⟩
  item := by
    rintro X rfl rfl rfl hc i pins s σ H E I hf ⟨s1, s2, ⟨x0, y0, s3⟩, s4, s5⟩ ⟨xs, ys, x, y, qa, qb, hx, hy⟩
    obtain ⟨us, ra, pa, _⟩ := I.tuple qa
    obtain ⟨ws, rb, pb, _⟩ := I.list qb
    obtain ⟨u, hu, ru⟩ := ra.get hx
    obtain ⟨w', hw, rw'⟩ := rb.get hy
    have l1 : i < us.toArray.size := by have := (List.getElem?_eq_some_iff.mp hu).1; simpa using this
    have l2 : i < ws.toArray.size := by have := (List.getElem?_eq_some_iff.mp hw).1; simpa using this
    have D1 := Draws.tuple (prog := X.prog) (w := X.w) (A := X.A.in1) (I.ok.hd hc) i1 a ha us.toArray
    have D2 := Draws.list (prog := X.prog) (w := X.w) (A := X.A.in1) (I.ok.hd hc) i2 b hb ws.toArray
    have lz : z < s.heap.objs.size := Heap.lt_size s1
    refine wpAny_pyNext_zipD2_item Z D1 D2 s1 s2 s3 ⟨s4, show s.heap.IsTuple a us.toArray from pa⟩ ⟨s5, pb.isList⟩ l1 l2 fun v1 v2 h' tk g1 g2 z1 z2 z3 z4 z5 z6 hk => ?_
    have e1 : v1 = u := by
      have q : us[i]? = some v1 := by simpa using g1
      rw [hu] at q; exact (Option.some.inj q).symm
    have e2 : v2 = w' := by
      have q : ws[i]? = some v2 := by simpa using g2
      rw [hw] at q; exact (Option.some.inj q).symm
    subst e1 e2
    refine ⟨_, rfl, wpAny_letOwnedTupleGo_zip (s := { s with heap := h', toks := tk }) z1 fun h2 z1' sb => ?_⟩
    have hT : h2.get? s.heap.objs.size = some { cls := .type "tuple", data := .seq #[v1, v2] } := (sb.2 _ (Nat.ne_of_gt lz)).trans z5
    have new : ObjOk X.prog X.w (upd H s.heap.objs.size (.tup [x, y])) h2 s.heap.objs.size (.tup [x, y]) := ⟨by show 2 ≤ sizeLine; decide, [v1, v2], .cons ru (.cons rw' .nil), ⟨_, hT, rfl, _, rfl⟩⟩
    have I1 : Inv X pins σ (upd H s.heap.objs.size (.tup [x, y])) { s with heap := h2, toks := tk } :=
      I.turnedNew (ch := [z, ti, to', i1, i2]) (fun c o hn q => by
        simp only [List.mem_cons, List.not_mem_nil, or_false, not_or] at hn
        exact (sb.2 c hn.1).trans (hk c o hn.1 hn.2.2.1 hn.2.2.2.1 hn.2.2.2.2 q)) hf (Nat.le_refl _) new
    refine ⟨.ref s.heap.objs.size, _, I1, rfl, ⟨_, x, y, rfl, I.hok.fresh (Nat.le_refl _), rfl, fun l hl => by rw [I.tuple_inj hl qa]; exact hx, fun l hl => by rw [I.list_inj hl qb]; exact hy⟩, ⟨z1', ?_, ⟨v1, v2, ?_⟩, ?_, ?_⟩, fun c hcm => ?_⟩
    · exact (sb.2 _ Z.TIz).trans (hk _ _ Z.TIz Z.TITO Z.TIi1 Z.TIi2 s2)
    · exact (sb.2 _ Z.TOz).trans z2
    · exact z3.1.at fun o q => (sb.2 _ (Ne.symm Z.zi1)).trans q
    · exact z4.1.at fun o q => (sb.2 _ (Ne.symm Z.zi2)).trans q
    · have lt : c < s.heap.objs.size := by
        simp only [List.mem_cons, List.not_mem_nil, or_false] at hcm
        rcases hcm with rfl | rfl | rfl | rfl | rfl
        · exact lz
        · exact Heap.lt_size s2
        · exact Heap.lt_size s3
        · obtain ⟨_, e, _⟩ := s4; exact Heap.lt_size e
        · obtain ⟨_, e, _⟩ := s5; exact Heap.lt_size e
      rw [upd_ne (Nat.ne_of_lt lt)]
      exact (hf c hcm).1
  done := by
    rintro X rfl rfl rfl hc i pins s σ H E I hf ⟨s1, s2, ⟨x0, y0, s3⟩, s4, s5⟩ ⟨xs, ys, qa, qb, hend, n1, n2⟩
    obtain ⟨us, ra, pa, _⟩ := I.tuple qa
    obtain ⟨ws, rb, pb, _⟩ := I.list qb
    have l1 := ra.length
    have l2 := rb.length
    have D1 := Draws.tuple (prog := X.prog) (w := X.w) (A := X.A.in1) (I.ok.hd hc) i1 a ha us.toArray
    have D2 := Draws.list (prog := X.prog) (w := X.w) (A := X.A.in1) (I.ok.hd hc) i2 b hb ws.toArray
    refine wpAny_pyNext_zipD2_end Z D1 D2 s1 s2 s3 ⟨s4, show s.heap.IsTuple a us.toArray from pa⟩ ⟨s5, pb.isList⟩ (by simp; omega) (by simp; omega) (by simp; omega) fun h' tk hk => ⟨rfl, ?_⟩
    exact I.turnedL (ch := [z, ti, to', i1, i2]) (fun c o hn q => by
      simp only [List.mem_cons, List.not_mem_nil, or_false, not_or] at hn
      exact hk c o hn.1 hn.2.2.1 hn.2.2.2.1 hn.2.2.2.2 q) hf
  self := fun A i s Q E st h => wpAny_pyIter_zip st.1 h
def srcM (xs ys : List PyData) : Src := fun i _ => if i ≤ xs.length ∧ i ≤ ys.length then (match xs[i]?, ys[i]? with
  | some x, some y => if bareP [x, y] = true then none else some (some (.p (.tuple [x, y])))
  | _, _ => some none) else none
section
variable {K : PySem.W.Frag} {mg : Mg} {B : BT} {H : Hp}
theorem jm_mix {p q : Addr} {vs ws : List V} {xs ys : List PyData} (h1 : SqTB K B H p vs) (r1 : DqAll K B H vs xs) (h2 : SqLB K B H q ws) (r2 : DqAll K B H ws ys) : JM K mg (ItM K p q) (srcM xs ys) B H := by
  intro i B' H' S' x hS'
  have g1 : SqT K H' p vs := h1.imp (fun z => (x.rd z.1 z.2).1) id
  have g2 : SqL K H' q ws := .inl (x.rd h2.1 h2.2).1
  have t1 := RDs.ex x (dqAll_map (mg := mg).mp r1)
  have t2 := RDs.ex x (dqAll_map (mg := mg).mp r2)
  have l1 := t1.length
  have l2 := t2.length
  rw [List.length_map] at l1 l2
  refine ⟨fun e => ?_, fun d e => ?_⟩
  · unfold srcM at e
    split at e
    · rename_i hi
      refine ⟨vs, ws, g1, g2, ?_, by omega, by omega⟩
      split at e
      · split at e <;> cases e
      · rename_i hn
        by_cases c1 : i < xs.length
        · by_cases c2 : i < ys.length
          · exact absurd (List.getElem?_eq_getElem c2) (hn _ _ (List.getElem?_eq_getElem c1))
          · omega
        · omega
    · cases e
  · unfold srcM at e
    split at e
    · split at e
      · rename_i u w ex ey
        split at e
        · cases e
        rename_i hb
        cases e
        obtain ⟨v1, hv1, rv1⟩ := t1.at (show (xs.map D.p)[i]? = some (.p u) by rw [List.getElem?_map, ex]; rfl)
        obtain ⟨v2, hv2, rv2⟩ := t2.at (show (ys.map D.p)[i]? = some (.p w) by rw [List.getElem?_map, ey]; rfl)
        refine ⟨⟨vs, ws, v1, v2, g1, g2, hv1, hv2⟩, fun z H2 yl => ?_⟩
        obtain ⟨T, a', b', rfl, hT, rfl, k1, k2⟩ := yl
        have q1 := k1 vs g1
        rw [hv1] at q1
        cases q1
        have q2 := k2 ws g2
        rw [hv2] at q2
        cases q2
        exact ⟨.inr ⟨T, _, hT, rfl⟩, pair_new hS' hT rv1 rv2 hb⟩
      · cases e
    · cases e
end
section
variable {X : Cx} {a b : Expr} {ma mb : M} {pos p tpos : Pos} {elts : List Expr} {kk : Nat}
theorem pi_mix {ta : TA} (hg : Gl X "zip") (hm : X.mg "zip" = none) (ha : PA X [a, b] ta) (hs : starEach [a, b] X.env = (false, eval a X.env) :: starEach [b] X.env) (hpl : (backTo pos (starEach [b] X.env)).any (·.1) = false) :
    PI X (.Tuple elts kk tpos) (.Call (.Name "zip" p) [a, b] [] pos) (fun σ H R => ta σ H fun vs H1 => ∃ t l xs ys, vs = [.ref t, .ref l] ∧ SqT X.K H1 t xs ∧ SqL X.K H1 l ys ∧ R (ItM X.K t l) H1) := by
  refine ⟨fun pins s σ H R I h => ?_⟩
  refine Call_ (ld_blt I hg hm PyProof.Rows.boot_zip (PyProof.Rows.callWith_type1 (thn (ha.run pos pins s σ H _ I h) ?_) hs hpl))
  rintro us s1 ⟨_, H1, I1, r1, t, l, xs, ys, rfl, q1, q2, q⟩
  obtain ⟨u1, u2, rfl, ru1, ru2⟩ := vals2 r1
  obtain rfl : u1 = Value.ref t := ru1
  obtain rfl : u2 = Value.ref l := ru2
  obtain ⟨vt, rt, pt, _⟩ := I1.tuple q1
  obtain ⟨vl, rl, pl, _⟩ := I1.list q2
  have it : s1.heap.IsTuple t vt.toArray := pt
  have lt1 : t < s1.heap.objs.size := let ⟨_, e, _⟩ := it; Heap.lt_size e
  have lt2 : l < s1.heap.objs.size := let ⟨_, _, e, _⟩ := pl; Heap.lt_size e
  refine zip_begins2 (begins_tuple t vt.toArray) (begins_list l vl.toArray) it pl.isList fun h' z1 z2 z3 z4 z5 _ hk => wpAny_pyIter_zip z1 ?_
  have I2 : Inv X pins σ H1 { s1 with heap := h' } := I1.kept (t' := s1.toks) hk
  refine ⟨s1.heap.objs.size + 4, [s1.heap.objs.size + 4, s1.heap.objs.size + 2, s1.heap.objs.size + 3, s1.heap.objs.size, s1.heap.objs.size + 1], _, _, H1, rfl, I2,
    turn_mix (zip_sep2 (N := s1.heap.objs.size) (fp1 := [t]) (fp2 := [l]) (by simpa using lt1) (by simpa using lt2)) (Nat.ne_of_lt lt1) (Nat.ne_of_lt (Nat.lt_succ_of_lt lt2)), ⟨z1, z2, ⟨_, _, z3⟩, ⟨_, z4, rfl, rfl⟩, ⟨_, z5, rfl, rfl⟩⟩, fun c hc => ?_, q⟩
  have hle : s1.heap.objs.size ≤ c := by
    simp only [List.mem_cons, List.not_mem_nil, or_false] at hc
    rcases hc with rfl | rfl | rfl | rfl | rfl
    · exact Nat.le_add_right _ _
    · exact Nat.le_add_right _ _
    · exact Nat.le_add_right _ _
    · exact Nat.le_refl _
    · exact Nat.le_add_right _ _
  exact I1.fpOk hle (I1.hok.fresh hle)
/-- what zip walks -/
def zpS (S : Store) (x y : D) : Option Src := match x, y with
  | .p (.tuple xs), .p (.list ys) => some (srcM xs ys)
  | x, y => if (IsLst S x && IsLst S y) || (IsTup x && IsTup y) then (srcOf S x).bind fun f => (srcOf S y).map fun g => srcZp f g else none
def mZp (a b : M) : MIt := fun ev S => (a ev S).bind fun r => (b ev r.2).bind fun t => (zpS t.2 r.1 t.1).map fun f => (f, t.2)
theorem im_zp (ha : EM X a ma) (hb : EM X b mb) (hs : notStar a = true) (hs2 : notStar b = true) (hg : Gl X "zip") (hm : X.mg "zip" = none) : IM X (.Tuple elts kk tpos) (.Call (.Name "zip" p) [a, b] [] pos) (mZp ma mb) := by
  have am := (am_cons ha (am_cons hb am_nil hs2) hs).pa
  have pl : (backTo pos (starEach [b] X.env)).any (·.1) = false := star_plain (show [b].all notStar = true by rw [List.all_cons, hs2]; rfl)
  refine IM.of (PI_or (RZ.pi_zipA hg hm am (star_cons hs) pl) (pi_mix hg hm am (star_cons hs) pl)) fun σ H R q => ?_
  obtain ⟨B, ev, S, src, S', hS, hE, em, q⟩ := q
  obtain ⟨⟨x, S1⟩, e1, em⟩ := bind_some em
  obtain ⟨⟨y, S2⟩, e2, em⟩ := bind_some em
  obtain ⟨f0, e3, em⟩ := map_some em
  cases em
  have arg : mCons ma (mCons mb mNil) ev S = some ([x, y], S2) := by simp only [mCons, mNil, e1, e2, Option.bind_some, Option.map_some]
  replace e3 : zpS S2 x y = some src := e3
  unfold zpS at e3
  split at e3
  · rename_i xs ys
    cases e3
    refine .inr ⟨B, ev, S, _, S2, hS, hE, arg, fun B1 H1 v1 x1 s1 d1 => ?_⟩
    obtain ⟨v, w, rfl, h, h'⟩ := rds2 d1
    obtain ⟨t, vs, rfl, g1, g2⟩ := dq_tup h
    obtain ⟨l, ws, rfl, g3, g4⟩ : ∃ l ws, w = .ref l ∧ SqLB X.K B1 H1 l ws ∧ DqAll X.K B1 H1 ws _ := by
      cases h' with
      | lst z1 z2 => exact ⟨_, _, rfl, z1, z2⟩
    exact ⟨t, l, vs, ws, rfl, g1.sq, g3.sq, q _ B1 H1 x1 s1 (jm_mix g1 g2 g3 g4)⟩
  · split at e3
    · rename_i hl
      obtain ⟨f, e4, e3⟩ := bind_some e3
      obtain ⟨g, e5, e3⟩ := map_some e3
      cases e3
      refine .inl ⟨B, ev, S, _, S2, hS, hE, arg, fun B1 H1 v1 x1 s1 d1 => ?_⟩
      obtain ⟨v, w, rfl, h, h'⟩ := rds2 d1
      rw [Bool.or_eq_true, Bool.and_eq_true, Bool.and_eq_true] at hl
      rcases hl with ⟨l1, l2⟩ | ⟨l1, l2⟩
      · obtain ⟨p1, rfl, ⟨vs, h1⟩, h2⟩ := lst_at s1 h l1 e4
        obtain ⟨p2, rfl, ⟨ws, h3⟩, h4⟩ := lst_at s1 h' l2 e5
        exact ⟨p1, p2, vs, ws, rfl, .inl ⟨h1, h3, q _ B1 H1 x1 s1 (jm_zipL h2 h4)⟩⟩
      · obtain ⟨p1, rfl, ⟨vs, h1⟩, h2⟩ := tup_at h l1 e4
        obtain ⟨p2, rfl, ⟨ws, h3⟩, h4⟩ := tup_at h' l2 e5
        exact ⟨p1, p2, vs, ws, rfl, .inr ⟨h1, h3, q _ B1 H1 x1 s1 (jm_zipT h2 h4)⟩⟩
    · cases e3
end
end PI
set_option maxHeartbeats 1000000
/-! Own text: the comprehension as a value, statements, loops. -/
namespace PI
open PySem PySem.Spec L2
open PyProof.Rows hiding St

/-- the tests of a comprehension -/
def CM (X : Cx) (ifs : List Expr) (m : M) : Prop := PTs X ifs (tMt X.K X.mg m)
theorem cm_nil {X : Cx} : CM X [] mYes := pts_yes
theorem cm_one {X : Cx} {c : Expr} {m : M} (h : TM X c m) : CM X [c] m := pts_one h.pt
section
variable {X : Cx} {tg a b e elt iter : Expr} {ma mb mc me : M} {mi : MIt} {g : MG} {is : List Nat} {ifs : List Expr} {scope : Scope} {own : List (Str × Nat)} {pos spos py : Pos} {L : Nat}
theorem em_lc (bx : Bool) (hK : BK X) (hN : X.N.Nodup) (hi : IM X tg iter mi) (ok : BlkOk X.N X.env.scope scope own) (his : ∀ j ∈ is, j ∈ own.map (·.2))
    (hg : ∀ (s : Shared) (H : Hp) (C : Addr) (cl : List (Str × Addr)) (fp : List Addr), GM (X.blk s H scope (compEnvC scope cl C X.env) fp) tg is g) (ht : ∀ (s : Shared) (H : Hp) (C : Addr) (cl : List (Str × Addr)) (fp : List Addr), CM (X.blk s H scope (compEnvC scope cl C X.env) fp) ifs mc)
    (he : ∀ (s : Shared) (H : Hp) (C : Addr) (cl : List (Str × Addr)) (fp : List Addr), EM (X.blk s H scope (compEnvC scope cl C X.env) fp) elt me) (hs : ∀ x, foldedSetIterable iter X.env x = pure x) :
    EM X (.ListComp elt [⟨tg, iter, ifs, 0⟩] scope pos) (mLc L bx mi (own.map (·.2)) g mc me) :=
  EM.of_pe (pe_lc hK.calm hN hi ok (g := tG X.K X.mg is g) (tt := tMt X.K X.mg mc) (te := tM X.K X.mg me) (fun s H C cl fp => (hg s H C cl fp).pg) (fun s H C cl fp => ht s H C cl fp) (fun s H C cl fp => (he s H C cl fp).pe) hs) fun σ H B ev S d S' hS hE em => lc_reads his hS hE em post_QM
end

/-! ### statements -/
def SM (X : Cx) (st : Stmt) (m : MS) : Prop := PS X st (tMS X.K X.mg m)
def SsM (X : Cx) (sts : List Stmt) (m : MS) : Prop := PSs X sts (tMS X.K X.mg m)
def sNil : MS := fun ev S => some (.nx, ev, S)
def sSeq (a b : MS) : MS := fun ev S => (a ev S).bind fun r => match r.1 with
  | .nx => b r.2.1 r.2.2
  | f => some (f, r.2.1, r.2.2)
def sEx (a : M) : MS := fun ev S => (a ev S).map fun r => (.nx, ev, r.2)
def sRet (a : M) : MS := fun ev S => (a ev S).map fun r => (.rt r.1, ev, r.2)
def sRetN : MS := fun ev S => some (.rt (.p .none), ev, S)
def sBrk : MS := fun ev S => some (.bk, ev, S)
def sCnt : MS := fun ev S => some (.ct, ev, S)
def sNo : MS := fun _ _ => none
def sIf (c : M) (a b : MS) : MS := fun ev S => (c ev S).bind fun r => (isTru r.1).bind fun k => if k then a ev r.2 else b ev r.2
def sAsg (a : M) (g : MG) : MS := fun ev S => (a ev S).bind fun r => (g r.1 ev r.2).map fun q => (.nx, q.1, q.2)
/-- plain names from a display, each with its slot -/
def sPar (a : Ms) (g : List D → EnvI → Store → Option (EnvI × Store)) : MS := fun ev S => (a ev S).bind fun r => (g r.1 ev r.2).map fun q => (.nx, q.1, q.2)

theorem PS.of {X : Cx} {st : Stmt} {t t' : TS} (h : PS X st t) (g : ∀ D σ H, t' D σ H → t D σ H) : PS X st t' := ⟨fun pins s σ H D I q => h.run pins s σ H D I (g D σ H q)⟩
theorem PSs.of {X : Cx} {st : List Stmt} {t t' : TS} (h : PSs X st t) (g : ∀ D σ H, t' D σ H → t D σ H) : PSs X st t' := ⟨fun pins s σ H D I q => h.run pins s σ H D I (g D σ H q)⟩
section
variable {X : Cx} {st : Stmt} {sts rest : List Stmt} {a b c e tg : Expr} {ma mb mc : M} {m m1 m2 : MS} {g : MG} {pos spos p py : Pos}
theorem sm_no : SM X st sNo := ⟨fun pins s σ H D I ⟨B, ev, S, f, ev', S', hS, hE, em, q⟩ => by cases em⟩
theorem ssm_nil : SsM X [] sNil := PSs.of pss_nil fun D σ H ⟨B, ev, S, f, ev', S', hS, hE, em, q⟩ => by
  cases em
  exact q B H hS.refl hS σ hE
theorem ssm_cons (h1 : SM X st m1) (h2 : SsM X rest m2) : SsM X (st :: rest) (sSeq m1 m2) := PSs.of (pss_cons h1 h2) fun D σ H ⟨B, ev, S, f, ev', S', hS, hE, em, q⟩ => by
  obtain ⟨⟨f1, ev1, S1⟩, e1, em⟩ := bind_some em
  refine ⟨B, ev, S, f1, ev1, S1, hS, hE, e1, fun B1 H1 x1 s1 => ?_⟩
  cases f1 with
  | nx => exact fun σ1 hE1 => ⟨B1, ev1, S1, f, ev', S', s1, hE1, em, fun B2 H2 x2 s2 => q B2 H2 (x1.trans x2) s2⟩
  | _ => cases em; exact q B1 H1 x1 s1
theorem ssm_one (h : SM X st m) : SsM X [st] m := pss_one h
theorem sm_pass : SM X (.Pass pos) sNil := PS.of ps_pass fun D σ H ⟨B, ev, S, f, ev', S', hS, hE, em, q⟩ => by
  cases em
  exact q B H hS.refl hS σ hE
theorem sm_break : SM X (.Break pos) sBrk := PS.of ps_break fun D σ H ⟨B, ev, S, f, ev', S', hS, hE, em, q⟩ => by
  cases em
  exact q B H hS.refl hS σ hE
theorem sm_continue : SM X (.Continue pos) sCnt := PS.of ps_continue fun D σ H ⟨B, ev, S, f, ev', S', hS, hE, em, q⟩ => by
  cases em
  exact q B H hS.refl hS σ hE
theorem sm_doc {x : Str} {j : Nat} {p : Pos} : SM X (.Expr (.Constant (.str x) j p) pos) sNil := PS.of ps_doc fun D σ H ⟨B, ev, S, f, ev', S', hS, hE, em, q⟩ => by
  cases em
  exact q B H hS.refl hS σ hE
theorem sm_expr (ha : EM X a ma) (hs : swapsWith a none pos.line X.env = pure false) : SM X (.Expr a pos) (sEx ma) := PS.of (ps_expr ha.pe hs) fun D σ H ⟨B, ev, S, f, ev', S', hS, hE, em, q⟩ => by
  obtain ⟨⟨d, S1⟩, e1, em⟩ := map_some em
  cases em
  exact ⟨B, ev, S, d, S1, hS, hE, e1, fun B1 H1 v x1 s1 d1 => q B1 H1 x1 s1 σ (hE.ext x1)⟩
theorem sm_ret (ha : EM X a ma) : SM X (.Return (some a) pos) (sRet ma) := PS.of (ps_ret ha.pe) fun D σ H ⟨B, ev, S, f, ev', S', hS, hE, em, q⟩ => by
  obtain ⟨⟨d, S1⟩, e1, em⟩ := map_some em
  cases em
  exact ⟨B, ev, S, d, S1, hS, hE, e1, fun B1 H1 v x1 s1 d1 => q B1 H1 x1 s1 v d1⟩
theorem sm_retN : SM X (.Return none pos) sRetN := PS.of ps_retN fun D σ H ⟨B, ev, S, f, ev', S', hS, hE, em, q⟩ => by
  cases em
  exact q B H hS.refl hS .non Dq.non
theorem sm_if {p q : List Stmt} (hc : TM X c mc) (h1 : SsM X p m1) (h2 : SsM X q m2) : SM X (.If c p q pos) (sIf mc m1 m2) := PS.of (ps_if hc.pt h1 h2) fun D σ H ⟨B, ev, S, f, ev', S', hS, hE, em, q⟩ => by
  obtain ⟨⟨d, S1⟩, e1, em⟩ := bind_some em
  obtain ⟨k, e2, em⟩ := bind_some em
  obtain rfl := isTru_p e2
  refine ⟨B, ev, S, k, S1, hS, hE, e1, fun B1 H1 x1 s1 => ?_⟩
  cases k with
  | true => exact ⟨B1, ev, S1, f, ev', S', s1, hE.ext x1, em, fun B2 H2 x2 s2 => q B2 H2 (x1.trans x2) s2⟩
  | false => exact ⟨B1, ev, S1, f, ev', S', s1, hE.ext x1, em, fun B2 H2 x2 s2 => q B2 H2 (x1.trans x2) s2⟩
theorem GM.pm {is : List Nat} {m : MG} (h : GM X tg is m) : PG X tg (tMG X.K X.mg m) := ⟨fun pins s σ H v u Q I r ⟨B, ev, S, d, ev', S', hS, hE, rd, em, q⟩ =>
  thn (h pins s σ H B ev S d v u ev' S' I hS hE rd r em) fun _ s' ⟨σ', H', B', I', x, s1, e1, u1⟩ => ⟨σ', H', I', q B' H' σ' x s1 e1⟩⟩
theorem asg_reads {σ : St} {H : Hp} {D : Ends} {te : TE} {tg : TG} (h1 : ∀ σ H Q, tM X.K X.mg ma σ H Q → te σ H Q) (h2 : ∀ v σ H Q, tMG X.K X.mg g v σ H Q → tg v σ H Q) (h : tMS X.K X.mg (sAsg ma g) D σ H) : tAsg te tg D σ H := by
  obtain ⟨B, ev, S, f, ev', S', hS, hE, em, q⟩ := h
  obtain ⟨⟨d, S1⟩, e1, em⟩ := bind_some em
  obtain ⟨⟨ev2, S2⟩, e2, em⟩ := map_some em
  cases em
  exact h1 _ _ _ ⟨B, ev, S, d, S1, hS, hE, e1, fun B1 H1 v x1 s1 d1 => h2 _ _ _ _ ⟨B1, ev, S1, d, ev2, S2, s1, hE.ext x1, d1, e2, fun B2 H2 σ2 x2 s2 hE2 => q B2 H2 (x1.trans x2) s2 σ2 hE2⟩⟩
theorem sm_asg {is : List Nat} (ha : EM X a ma) (hg : GM X tg is g) (hs : swapsWithSole [tg] a pos.line X.env = pure false) (hw : swappedStores [tg] a X.env = pure none) (h1 : (assignEach [tg] X.env).map (·.2) = [assign tg X.env]) : SM X (.Assign [tg] a pos) (sAsg ma g) :=
  PS.of (ps_asg ha.pe hg.pm hs hw h1) fun D σ H h => asg_reads (fun _ _ _ q => q) (fun _ _ _ _ q => q) h
/-- name = [..] on one line -/
theorem sm_lc {i : Nat} {y : Str} {mi : MIt} {gg : MG} {is : List Nat} {me : M} {ifs : List Expr} {elt iter : Expr} {scope : Scope} {own : List (Str × Nat)} {L : Nat} (bx : Bool) (hK : BK X) (hN : X.N.Nodup) (hy : X.N[i]? = some y) (hyl : X.env.scope.names.lookup y = some .local)
    (hsw : swapsWith (.ListComp elt [⟨tg, iter, ifs, 0⟩] scope pos) (some (.Name y py)) spos.line X.env = pure true) (hi : IM X tg iter mi) (ok : BlkOk X.N X.env.scope scope own) (his : ∀ j ∈ is, j ∈ own.map (·.2))
    (hg : ∀ (s : Shared) (H : Hp) (C : Addr) (cl : List (Str × Addr)) (fp : List Addr), GM (X.blk s H scope (compEnvC scope cl C X.env) fp) tg is gg) (ht : ∀ (s : Shared) (H : Hp) (C : Addr) (cl : List (Str × Addr)) (fp : List Addr), CM (X.blk s H scope (compEnvC scope cl C X.env) fp) ifs mc)
    (he : ∀ (s : Shared) (H : Hp) (C : Addr) (cl : List (Str × Addr)) (fp : List Addr), EM (X.blk s H scope (compEnvC scope cl C X.env) fp) elt me) (hs : ∀ x, foldedSetIterable iter X.env x = pure x) :
    SM X (.Assign [.Name y py] (.ListComp elt [⟨tg, iter, ifs, 0⟩] scope pos) spos) (sAsg (mLc L bx mi (own.map (·.2)) gg mc me) (gNm i)) :=
  PS.of (ps_setLc hK.calm hN hy hyl hsw hi ok (g := tG X.K X.mg is gg) (tt := tMt X.K X.mg mc) (te := tM X.K X.mg me) (fun s H C cl fp => (hg s H C cl fp).pg) (fun s H C cl fp => ht s H C cl fp) (fun s H C cl fp => (he s H C cl fp).pe) hs) fun D σ H h => asg_reads (fun σ H Q ⟨B, ev, S, d, S', hS, hE, em, q⟩ => lc_reads his hS hE em q)
    (fun v σ H Q ⟨B, ev, S, d, ev', S', hS, hE, rd, em, q⟩ => by
      cases em
      exact q B H _ hS.refl hS (hE.set i rd)) h

/-! parallel assignment -/
theorem rds3 {K : PySem.W.Frag} {mg : Mg} {B : BT} {H : Hp} {d e f : D} {vs : List V} (r : RDs K mg B H [d, e, f] vs) : ∃ v w u, vs = [v, w, u] ∧ RD K mg B H d v ∧ RD K mg B H e w ∧ RD K mg B H f u := by
  cases r with
  | cons h1 r =>
    obtain ⟨w, u, rfl, h2, h3⟩ := rds2 r
    exact ⟨_, w, u, rfl, h1, h2, h3⟩
def gP2 (i j : Nat) : List D → EnvI → Store → Option (EnvI × Store) := fun ds ev S => match ds with
  | [x, y] => some ((ev.set i (some x)).set j (some y), S)
  | _ => none
def gP3 (i j l : Nat) : List D → EnvI → Store → Option (EnvI × Store) := fun ds ev S => match ds with
  | [x, y, z] => some (((ev.set i (some x)).set j (some y)).set l (some z), S)
  | _ => none
theorem sm_par {i j : Nat} {x y : Str} {m : Ms} {px py pt : Pos} {kt k2 : Nat} {pt2 : Pos} (hK : BK X) (hN : X.N.Nodup) (hi : X.N[i]? = some x) (hj : X.N[j]? = some y) (hij : i ≠ j)
    (hx : X.env.scope.names.lookup x = some .local) (hy : X.env.scope.names.lookup y = some .local) (ha : AM X [a, b] m)
    (hw : swappedStores [.Tuple [.Name x px, .Name y py] kt pt] (.Tuple [a, b] k2 pt2) X.env = pure (some [x, y])) :
    SM X (.Assign [.Tuple [.Name x px, .Name y py] kt pt] (.Tuple [a, b] k2 pt2) pos) (sPar m (gP2 i j)) := PS.of (ps_par hK.calm hN hi hj hij hx hy ha.pa hw) fun D σ H ⟨B, ev, S, f, ev', S', hS, hE, em, q⟩ => by
  obtain ⟨⟨ds, S1⟩, e1, em⟩ := bind_some em
  obtain ⟨⟨ev2, S2⟩, e2, em⟩ := map_some em
  cases em
  unfold gP2 at e2
  split at e2
  · rename_i xx yy hd
    have hd : ds = [xx, yy] := hd
    subst hd
    cases e2
    refine ⟨B, ev, S, _, _, hS, hE, e1, fun B1 H1 vs x1 s1 d1 => ?_⟩
    obtain ⟨v, w, rfl, r1, r2⟩ := rds2 d1
    exact ⟨v, w, rfl, q B1 H1 x1 s1 _ (((hE.ext x1).set i r1).set j r2)⟩
  · cases e2
theorem sm_par3 {i j l : Nat} {x y z : Str} {m : Ms} {px py pz pt : Pos} {kt k2 : Nat} {pt2 : Pos} (hK : BK X) (hN : X.N.Nodup) (hi : X.N[i]? = some x) (hj : X.N[j]? = some y) (hl : X.N[l]? = some z) (hij : i ≠ j) (hil : i ≠ l) (hjl : j ≠ l)
    (hx : X.env.scope.names.lookup x = some .local) (hy : X.env.scope.names.lookup y = some .local) (hz : X.env.scope.names.lookup z = some .local) (ha : AM X [a, b, c] m)
    (hw : swappedStores [.Tuple [.Name x px, .Name y py, .Name z pz] kt pt] (.Tuple [a, b, c] k2 pt2) X.env = pure (some [x, y, z])) :
    SM X (.Assign [.Tuple [.Name x px, .Name y py, .Name z pz] kt pt] (.Tuple [a, b, c] k2 pt2) pos) (sPar m (gP3 i j l)) := PS.of (ps_par3 hK.calm hN hi hj hl hij hil hjl hx hy hz ha.pa hw) fun D σ H ⟨B, ev, S, f, ev', S', hS, hE, em, q⟩ => by
  obtain ⟨⟨ds, S1⟩, e1, em⟩ := bind_some em
  obtain ⟨⟨ev2, S2⟩, e2, em⟩ := map_some em
  cases em
  unfold gP3 at e2
  split at e2
  · rename_i xx yy zz hd
    have hd : ds = [xx, yy, zz] := hd
    subst hd
    cases e2
    refine ⟨B, ev, S, _, _, hS, hE, e1, fun B1 H1 vs x1 s1 d1 => ?_⟩
    obtain ⟨v, w, u, rfl, r1, r2, r3⟩ := rds3 d1
    exact ⟨v, w, u, rfl, q B1 H1 x1 s1 _ ((((hE.ext x1).set i r1).set j r2).set l r3)⟩
  · cases e2
end

/-! ### loops -/
def forLoop (src : Src) (g : MG) (body : MS) : Nat → Nat → EnvI → Store → Option (Fl × EnvI × Store)
  | 0, _, _, _ => none
  | k + 1, i, ev, S => (src i S).bind fun o => match o with
    | none => some (.nx, ev, S)
    | some d => (g d ev S).bind fun r => (body r.1 r.2).bind fun q => match q.1 with
      | .nx => forLoop src g body k (i + 1) q.2.1 q.2.2
      | .ct => forLoop src g body k (i + 1) q.2.1 q.2.2
      | .bk => some (.nx, q.2.1, q.2.2)
      | .rt d => some (.rt d, q.2.1, q.2.2)
def sFor (L : Nat) (mi : MIt) (g : MG) (body : MS) : MS := fun ev S => (mi ev S).bind fun r => forLoop r.1 g body L 0 ev r.2
def whLoop (c : M) (body : MS) : Nat → EnvI → Store → Option (Fl × EnvI × Store)
  | 0, _, _ => none
  | k + 1, ev, S => (c ev S).bind fun r => (isTru r.1).bind fun b => if b then (body ev r.2).bind fun q => match q.1 with
      | .nx => whLoop c body k q.2.1 q.2.2
      | .ct => whLoop c body k q.2.1 q.2.2
      | .bk => some (.nx, q.2.1, q.2.2)
      | .rt d => some (.rt d, q.2.1, q.2.2)
    else some (.nx, ev, r.2)
section
variable {X : Cx} {a b c e tg iter : Expr} {ma mb mc : M} {m : MS} {g : MG} {mi : MIt} {pos : Pos} {body : List Stmt}
theorem passes (hx : X.xe = fun _ _ => False) : PassesOwn (model X.prog X.w) X.A X.env X.xe := by rw [hx]; exact PassesOwn.never
theorem sm_for {is : List Nat} (L : Nat) (K : BK X) (hx : X.xe = fun _ _ => False) (hi : IM X tg iter mi) (hg : GM X tg is g) (hb : SsM X body m) (hs : ∀ x, foldedSetIterable iter X.env x = pure x) :
    SM X (.For tg iter body [] pos) (sFor L mi g m) := PS.of (ps_for (passes hx) K.calm hi hg.pm hb hs) fun D σ H ⟨B, ev, S, f, ev', S', hS, hE, em, q⟩ => by
  obtain ⟨⟨src, S1⟩, e1, em⟩ := bind_some em
  refine ⟨B, ev, S, src, S1, hS, hE, e1, fun J B1 H1 x1 hS1 jm => ?_⟩
  refine ⟨fun i k σi Hi => ∃ Bi evi Si, Ext B1 H1 Bi Hi ∧ SR X.K X.mg Bi Hi Si ∧ ER X.K X.mg Bi Hi evi σi ∧ forLoop src g m k i evi Si = some (f, ev', S'), ⟨L, B1, ev, S1, hS1.refl, hS1, hE.ext x1, em⟩, ?_⟩
  rintro i k σi Hi ⟨Bi, evi, Si, xi, si, hEi, lp⟩
  cases k with
  | zero => cases lp
  | succ k =>
    simp only [forLoop] at lp
    obtain ⟨o, e3, lp⟩ := bind_some lp
    obtain ⟨j1, j2⟩ := jm i _ Hi Si xi.ex si
    cases o with
    | none =>
      cases lp
      exact .inl ⟨j1 e3, q Bi Hi (x1.trans xi) si σi hEi⟩
    | some d0 =>
      obtain ⟨hgo, hy⟩ := j2 d0 e3
      obtain ⟨⟨ev1, S2⟩, e4, lp⟩ := bind_some lp
      obtain ⟨⟨f1, ev2, S3⟩, e5, lp⟩ := bind_some lp
      refine .inr ⟨hgo, fun σn Hn => ∃ Bn evn Sn, Ext B1 H1 Bn Hn ∧ SR X.K X.mg Bn Hn Sn ∧ ER X.K X.mg Bn Hn evn σn ∧ forLoop src g m k (i + 1) evn Sn = some (f, ev', S'), ?_, ?_⟩
      · rintro σn Hn ⟨Bn, evn, Sn, r⟩
        exact ⟨k, Nat.lt_succ_self _, Bn, evn, Sn, r⟩
      · intro x H2 hyld
        obtain ⟨hh, rd⟩ := hy x H2 hyld
        have st : Ext Bi Hi Bi H2 ∧ SR X.K X.mg Bi H2 Si := by
          rcases hh with rfl | ⟨T, ob, hT, rfl⟩
          · exact ⟨si.refl, si⟩
          · exact ⟨si.ext_new hT ob, si.new hT ob⟩
        obtain ⟨x2, s2⟩ := st
        refine ⟨Bi, evi, Si, d0, ev1, S2, s2, hEi.ext x2, rd, e4, fun B3 H3 σ3 x3 s3 hE3 => ?_⟩
        refine ⟨B3, ev1, S2, f1, ev2, S3, s3, hE3, e5, fun B4 H4 x4 s4 => ?_⟩
        have x14 := xi.trans ((x2.trans x3).trans x4)
        cases f1 with
        | nx => exact fun σ4 hE4 => ⟨B4, ev2, S3, x14, s4, hE4, lp⟩
        | ct => exact fun σ4 hE4 => ⟨B4, ev2, S3, x14, s4, hE4, lp⟩
        | bk => cases lp; exact q B4 H4 (x1.trans x14) s4
        | rt d => cases lp; exact q B4 H4 (x1.trans x14) s4
theorem sm_while (L : Nat) (hx : X.xe = fun _ _ => False) (hc : TM X c mc) (hb : SsM X body m) :
    SM X (.While c body [] pos) (whLoop mc m L) := PS.of (ps_while (passes hx) hc.pt hb) fun D σ H ⟨B, ev, S, f, ev', S', hS, hE, em, q⟩ => by
  refine ⟨fun k σi Hi => ∃ Bi evi Si, Ext B H Bi Hi ∧ SR X.K X.mg Bi Hi Si ∧ ER X.K X.mg Bi Hi evi σi ∧ whLoop mc m k evi Si = some (f, ev', S'), ⟨L, B, ev, S, hS.refl, hS, hE, em⟩, ?_⟩
  rintro k σi Hi ⟨Bi, evi, Si, xi, si, hEi, lp⟩
  cases k with
  | zero => cases lp
  | succ k =>
    simp only [whLoop] at lp
    obtain ⟨⟨d, S1⟩, e1, lp⟩ := bind_some lp
    obtain ⟨kb, e2, lp⟩ := bind_some lp
    obtain rfl := isTru_p e2
    refine ⟨Bi, evi, Si, kb, S1, si, hEi, e1, fun B1 H1 x1 s1 => ?_⟩
    cases kb with
    | false => cases lp; exact q B1 H1 (xi.trans x1) s1 σi (hEi.ext x1)
    | true =>
      obtain ⟨⟨f1, ev2, S3⟩, e5, lp⟩ := bind_some lp
      rw [if_pos rfl]
      refine ⟨fun σn Hn => ∃ Bn evn Sn, Ext B H Bn Hn ∧ SR X.K X.mg Bn Hn Sn ∧ ER X.K X.mg Bn Hn evn σn ∧ whLoop mc m k evn Sn = some (f, ev', S'), ?_, ?_⟩
      · rintro σn Hn ⟨Bn, evn, Sn, r⟩
        exact ⟨k, Nat.lt_succ_self _, Bn, evn, Sn, r⟩
      · refine ⟨B1, evi, S1, f1, ev2, S3, s1, hEi.ext x1, e5, fun B4 H4 x4 s4 => ?_⟩
        have x14 := xi.trans (x1.trans x4)
        cases f1 with
        | nx => exact fun σ4 hE4 => ⟨B4, ev2, S3, x14, s4, hE4, lp⟩
        | ct => exact fun σ4 hE4 => ⟨B4, ev2, S3, x14, s4, hE4, lp⟩
        | bk => cases lp; exact q B4 H4 x14 s4
        | rt d => cases lp; exact q B4 H4 x14 s4
end
end PI
set_option maxHeartbeats 1000000
/-! Own text: the reading of a piece of the text, and that it is sound. -/
namespace PI
open PySem PySem.Spec L2
open PyProof.Rows hiding St

/-- what is known of the whole text -/
structure GS where
  /-- turns a loop may take -/
  L : Nat
  /-- is the list or dict made here a box -/
  bx : Pos → Bool
  /-- values of global names -/
  gk : Str → Option D
  /-- built-in names that the text leaves alone -/
  bl : Str → Bool
/-- what is known of a block: its slots, its scope -/
structure CS where
  N : List Str
  sc : Scope
  fnc : Str → Bool
/-- the defs: parameters and meaning -/
abbrev CFt := Str → Option (List Str × BF)
structure Good (G : GS) (cf : CFt) (X : Cx) (c : CS) : Prop where
  bk : BK X
  xe : X.xe = fun _ _ => False
  eN : X.N = c.N
  nd : c.N.Nodup
  sc : X.env.scope = c.sc
  kd : c.sc.kind = .function
  fn : X.fn = c.fnc
  gk : ∀ x d, G.gk x = some d → ∃ u v, X.mg x = some u ∧ RelV v u ∧ ∀ B H, RD X.K X.mg B H d v
  bl : ∀ x, G.bl x = true → X.mg x = none
  fns : ∀ x ps f, cf x = some (ps, f) → ∃ k a fd, FnI X.prog X.w X.K X.mg X.base k a fd ps (fun ds S => f S ds) ∧ Room k X.A ∧ X.mg x = some (.ref a) ∧ PySem.W.keepIn X.K (.ref a) = true ∧ Bnd fd ps
def isVis (c : CS) (x : Str) : Bool := match c.sc.names.lookup x with
  | some .local => true
  | some .cell => true
  | some .free => true
  | _ => false
def isLoc (c : CS) (x : Str) : Bool := match c.sc.names.lookup x with
  | some .local => true
  | some .cell => true
  | _ => false
def isGl (c : CS) (x : Str) : Bool := match c.sc.names.lookup x with
  | some .globalImplicit => true
  | _ => false
/-- the slot of a name -/
def sIx (c : CS) (x : Str) : Option Nat := if c.N.contains x then some (c.N.idxOf x) else none
theorem sIx_at {c : CS} {x : Str} {i : Nat} (h : sIx c x = some i) : c.N[i]? = some x := by
  unfold sIx at h
  split at h
  · rename_i hc
    cases h
    have hm : x ∈ c.N := by simpa using hc
    have hl := List.idxOf_lt_length_of_mem hm
    rw [List.getElem?_eq_getElem hl, List.getElem_idxOf]
  · cases h
section
variable {G : GS} {cf : CFt} {X : Cx} {c : CS}
theorem Good.vis (g : Good G cf X c) {x : Str} (h : isVis c x = true) : Vis X.env.scope x := by
  unfold isVis at h
  unfold Vis
  rw [g.sc]
  split at h
  · exact .inl (by assumption)
  · exact .inr (.inl (by assumption))
  · exact .inr (.inr (by assumption))
  · cases h
theorem Good.lc (g : Good G cf X c) {x : Str} (h : isLoc c x = true) : L2.Loc X.env.scope x := by
  unfold isLoc at h
  unfold L2.Loc
  rw [g.sc]
  split at h
  · exact .inl (by assumption)
  · exact .inr (by assumption)
  · cases h
theorem Good.gl (g : Good G cf X c) {x : Str} (h : isGl c x = true) : Gl X x := by
  unfold isGl at h
  show X.env.scope.names.lookup x = _
  rw [g.sc]
  split at h
  · assumption
  · cases h
theorem Good.at_ (g : Good G cf X c) {x : Str} {i : Nat} (h : sIx c x = some i) : X.N[i]? = some x := by rw [g.eN]; exact sIx_at h
end

/-! ### the reading -/
structure Sm where
  E : CS → Expr → M
  T : CS → Expr → M
  G : CS → Expr → List Nat × MG
  S : CS → List Stmt → MS
def plainNm (x : Str) : Bool := !(x == ("__debug__" : Str)) && !(x == ("__classdict__" : Str))
def nmE (G : GS) (c : CS) (x : Str) : M :=
  if plainNm x then
    if isVis c x then (match sIx c x with
      | some i => mV i
      | none => mNo)
    else if isGl c x then (match G.gk x with
      | some d => mC d
      | none => if G.bl x then (match tyF x with
        | some t => mC (.ty t)
        | none => mNo) else mNo)
    else mNo
  else mNo
def kE : Const → M
  | .none => mC (.p .none)
  | .bool b => mC (.p (.bool b))
  | .int i => mC (.p (.int i))
  | .str x => mC (.p (.str x))
  | _ => mNo
def asE (f : Expr → M) : List Expr → Ms
  | [] => mNil
  | a :: es => mCons (f a) (asE f es)
def kwE (f : Expr → M) : List Keyword → Ms
  | [] => mNil
  | k :: ks => mCons (f k.value) (kwE f ks)
def andE (f : Expr → M) : List Expr → M
  | [] => mNo
  | [a] => f a
  | a :: es => mAnd (f a) (andE f es)
def orE (f : Expr → M) : List Expr → M
  | [] => mNo
  | [a] => f a
  | a :: es => mOr (f a) (orE f es)
def boE (f : Expr → M) (op : BoolOp) (es : List Expr) : M := match op with
  | .And => andE f es
  | .Or => orE f es
def cmpE (f : Expr → M) (a : Expr) (ops : List CmpOp) (es : List Expr) : M := match ops, es with
  | [op], [b] => if behindInMarks op b then mNo else mCmp op (f a) (f b)
  | [op, op'], [b, c] => if lastMarks [op, op'] [b, c] then mNo else mChain op op' (f a) (f b) (f c)
  | _, _ => mNo
def dcE (f : Expr → M) : List (Option Expr) → List Expr → Mp
  | [], [] => mpNil
  | some a :: ks, b :: vs => mpCons (f a) (f b) (dcE f ks vs)
  | _, _ => fun _ _ => none
def dicE (bx : Bool) (f : Expr → M) (ks : List (Option Expr)) (vs : List Expr) : M :=
  if ks.all (·.isSome) && ks.length == vs.length && ks.length ≤ 15 then mDic bx (dcE f ks vs) else mNo
def slO (f : Expr → M) : Option Expr → MO
  | none => mONone
  | some a => mOSome (f a)
def ixE (bx : Bool) (f : Expr → M) (a b : Expr) : M := match b with
  | .Slice lo hi none _ => mSl bx (f a) (slO f lo) (slO f hi)
  | .Slice none none (some (.UnaryOp .USub (.Constant (.int 1) _ _) _)) _ => mRev bx (f a)
  | b => if notSlice b then mIx (f a) (f b) else mNo
def bltE (G : GS) (pos : Pos) (f : Expr → M) (x : Str) (es : List Expr) : M :=
  if G.bl x && es.all notStar then (match es with
    | [] => mNo
    | e :: es => (match bltG (G.bx pos) x with
      | some b => mBlt b (asE f (e :: es))
      | none => mNo))
  else mNo
/-- list(range(a)) -/
def lrgArg (x : Str) (es : List Expr) : Option Expr := if x = "list" then (match es with
  | [.Call (.Name y _) [a] [] _] => if y = "range" then some a else none
  | _ => none) else none
theorem lrgArg_inv {x : Str} {es : List Expr} {a : Expr} (h : lrgArg x es = some a) : x = "list" ∧ ∃ p q, es = [.Call (.Name "range" p) [a] [] q] := by
  unfold lrgArg at h
  split at h
  · rename_i hx
    split at h
    · split at h
      · rename_i hy
        cases h
        subst hy
        exact ⟨hx, _, _, rfl⟩
      · cases h
    · cases h
  · cases h
def lrgE (G : GS) (c : CS) (pos : Pos) (f : Expr → M) (a : Expr) : M :=
  if isGl c "range" && G.bl "range" && G.bl "list" && notStar a then mLrg1 (G.bx pos) (f a) else mNo
/-- sorted(set(a)) -/
def ssArg (x : Str) (es : List Expr) : Option Expr := if x = "sorted" then (match es with
  | [.Call (.Name y _) [a] [] _] => if y = "set" then some a else none
  | _ => none) else none
theorem ssArg_inv {x : Str} {es : List Expr} {a : Expr} (h : ssArg x es = some a) : x = "sorted" ∧ ∃ p q, es = [.Call (.Name "set" p) [a] [] q] := by
  unfold ssArg at h
  split at h
  · rename_i hx
    split at h
    · split at h
      · rename_i hy
        cases h
        subst hy
        exact ⟨hx, _, _, rfl⟩
      · cases h
    · cases h
  · cases h
def ssE (G : GS) (c : CS) (pos : Pos) (f : Expr → M) (a : Expr) : M :=
  if isGl c "set" && G.bl "set" && G.bl "sorted" && notStar a then mSset (G.bx pos) (f a) else mNo
/-- sorted(o.items()) -/
def siArg (x : Str) (es : List Expr) : Option (Expr × Pos × Pos) := if x = "sorted" then (match es with
  | [.Call (.Attribute o y apos) [] [] cpos] => if y = "items" then some (o, apos, cpos) else none
  | _ => none) else none
theorem siArg_inv {x : Str} {es : List Expr} {r : Expr × Pos × Pos} (h : siArg x es = some r) : x = "sorted" ∧ es = [.Call (.Attribute r.1 "items" r.2.1) [] [] r.2.2] := by
  unfold siArg at h
  split at h
  · rename_i hx
    split at h
    · split at h
      · rename_i hy
        cases h
        subst hy
        exact ⟨hx, rfl⟩
      · cases h
    · cases h
  · cases h
def siE (G : GS) (pos : Pos) (f : Expr → M) (r : Expr × Pos × Pos) : M :=
  if G.bl "sorted" && plainRecv r.1 && r.2.1.endLine == r.2.2.line then mSit (G.bx pos) (f r.1) else mNo
def callE (G : GS) (cf : CFt) (c : CS) (pos : Pos) (f : Expr → M) (x : Str) (es : List Expr) (kws : List Keyword) : M :=
  if isGl c x && plainNm x && es.all notStar then (match cf x with
    | some (ps, b) => (match kwNames kws with
      | some ks => (match argIx ps ks es.length with
        | some ix => mCall b ix (asE f es) (kwE f kws)
        | none => mNo)
      | none => mNo)
    | none => (match kws with
      | [] => (match lrgArg x es with
        | some a => lrgE G c pos f a
        | none => (match ssArg x es with
          | some a => ssE G c pos f a
          | none => (match siArg x es with
            | some r => siE G pos f r
            | none => bltE G pos f x es)))
      | _ => mNo))
  else mNo
def metE (pos apos : Pos) (f : Expr → M) (o : Expr) (x : Str) (es : List Expr) : M :=
  if plainRecv o && apos.endLine == pos.line && es.all notStar && es.length < 30 then mMet x (f o) (asE f es) else mNo
def notSet : Expr → Bool
  | .Set .. => false
  | _ => true
def isTupE : Expr → Bool
  | .Tuple .. => true
  | _ => false
def itE (G : GS) (c : CS) (f : Expr → M) (tg e : Expr) : MIt := match e with
  | .Call (.Name x p) [a] [] _ => if x = "range" ∧ isGl c x = true ∧ G.bl x = true ∧ notStar a = true then mRng1 (f a)
    else if x = "enumerate" ∧ isGl c x = true ∧ G.bl x = true ∧ notStar a = true ∧ isTupE tg = true then mEn (f a) else mIter (f e)
  | .Call (.Name x p) [a, b] [] _ => if x = "range" ∧ isGl c x = true ∧ G.bl x = true ∧ notStar a = true ∧ notStar b = true then mRng2 (f a) (f b)
    else if x = "zip" ∧ isGl c x = true ∧ G.bl x = true ∧ notStar a = true ∧ notStar b = true ∧ isTupE tg = true then mZp (f a) (f b) else mIter (f e)
  | e => mIter (f e)
/-- the block of a comprehension -/
def blkS (c : CS) (scope : Scope) : CS := ⟨c.N, relS scope c.sc, fun x => scope.names.lookup x == some .cell⟩
/-- its own names with their slots -/
def ownS (c : CS) (scope : Scope) : List (Str × Nat) := scope.names.filterMap fun y => match y.2 with
  | .local => (sIx c y.1).map fun i => (y.1, i)
  | .cell => (sIx c y.1).map fun i => (y.1, i)
  | _ => none
def ifE (f : Expr → M) : List Expr → M
  | [] => mYes
  | [a] => f a
  | _ => mNo
def lcE (G : GS) (r : Sm) (c : CS) (elt : Expr) (gs : List Comprehension) (scope : Scope) (pos : Pos) : M := match gs with
  | [⟨tg, iter, ifs, n⟩] =>
    if n = 0 ∧ notSet iter = true ∧ blkC c.N c.sc scope (ownS c scope) = true ∧ (r.G (blkS c scope) tg).1.all (fun j => ((ownS c scope).map (·.2)).contains j) = true ∧ ifs.length ≤ 1 then
      mLc G.L (G.bx pos) (itE G c (r.E c) tg iter) ((ownS c scope).map (·.2)) (r.G (blkS c scope) tg).2 (ifE (r.T (blkS c scope)) ifs) (r.E (blkS c scope) elt)
    else mNo
  | _ => mNo
def stepE (G : GS) (cf : CFt) (r : Sm) (c : CS) : Expr → M
  | .Constant v _ _ => kE v
  | .Name x _ => nmE G c x
  | .BinOp a op b pos => mBin (G.bx pos) op (r.E c a) (r.E c b)
  | .UnaryOp op a _ => (match op with
    | .USub => mNeg (r.E c a)
    | .Not => mNot (r.E c a)
    | _ => mNo)
  | .BoolOp op es _ => boE (r.E c) op es
  | .Compare a ops es _ => cmpE (r.E c) a ops es
  | .IfExp t a b _ => mIf (r.T c t) (r.E c a) (r.E c b)
  | .Tuple es _ _ => if es.all notStar then mTup (asE (r.E c) es) else mNo
  | .List es pos => if es.all notStar then mLst (G.bx pos) (asE (r.E c) es) else mNo
  | .Dict ks vs pos => dicE (G.bx pos) (r.E c) ks vs
  | .Subscript a b pos => ixE (G.bx pos) (r.E c) a b
  | .Call f es kws pos => (match f with
    | .Name x _ => callE G cf c pos (r.E c) x es kws
    | .Attribute o x apos => (match kws with
      | [] => metE pos apos (r.E c) o x es
      | _ => mNo)
    | _ => mNo)
  | .ListComp elt gs scope pos => lcE G r c elt gs scope pos
  | _ => mNo
def unT (t E : Expr → M) (op : UnaryOp) (a : Expr) (p : Pos) : M := match op with
  | .Not => mNot (t a)
  | op => E (.UnaryOp op a p)
def stepT (r : Sm) (E : Expr → M) (c : CS) : Expr → M
  | .UnaryOp op a p => unT (r.T c) E op a p
  | .BoolOp op es _ => boE (r.T c) op es
  | .Compare a ops es _ => cmpE (r.E c) a ops es
  | .IfExp t a b _ => mIf (r.T c t) (r.T c a) (r.T c b)
  | e => E e

/-! ### it is sound -/
structure Sound (G : GS) (cf : CFt) (r : Sm) : Prop where
  E : ∀ X c, Good G cf X c → ∀ e, EM X e (r.E c e)
  T : ∀ X c, Good G cf X c → ∀ e, TM X e (r.T c e)
  tg : ∀ X c, Good G cf X c → ∀ e, GM X e (r.G c e).1 (r.G c e).2
  S : ∀ X c, Good G cf X c → ∀ l, SsM X l (r.S c l)
section
variable {G : GS} {cf : CFt} {X : Cx} {c : CS} {r : Sm} {f : Expr → M} {pos p : Pos}
theorem em_no {e : Expr} : EM X e mNo := fun pins s σ H B ev S d S' I hS hE em => by cases em
theorem tm_no {e : Expr} : TM X e mNo := fun pins s σ H B ev S d S' k I hS hE em hk => by cases em
theorem plain_nm {x : Str} (h : plainNm x = true) : (x == ("__debug__" : Str)) = false ∧ (x == ("__classdict__" : Str)) = false := by
  unfold plainNm at h
  rw [Bool.and_eq_true, Bool.not_eq_true', Bool.not_eq_true'] at h
  exact h
theorem em_ty (g : Good G cf X c) {x : Str} {t : Tn} (h1 : isGl c x = true) (h2 : G.bl x = true) (e : tyF x = some t) : EM X (.Name x p) (mC (.ty t)) := by
  obtain ⟨hv, hn, hd⟩ := ty_ok e
  exact em_const (v := .ty t.nm) (pe_bltn (g.gl h1) (g.bl _ h2) hv rfl hn hd) fun B H => rfl
theorem nm_ok (g : Good G cf X c) (x : Str) : EM X (.Name x p) (nmE G c x) := by
  unfold nmE
  split
  · rename_i h0
    obtain ⟨hd, hcd⟩ := plain_nm h0
    split
    · rename_i hv
      split
      · rename_i i hi
        exact em_var (g.at_ hi) (g.vis hv) hd hcd
      · exact em_no
    · split
      · rename_i hg
        split
        · rename_i d hk
          obtain ⟨u, v, h1, h2, h3⟩ := g.gk x d hk
          exact em_const (pe_glob (g.gl hg) h1 h2 hd) h3
        · split
          · rename_i hb
            split
            · rename_i t ht
              exact em_ty g hg hb ht
            · exact em_no
          · exact em_no
      · exact em_no
  · exact em_no
theorem k_ok (v : Const) (j : Nat) : EM X (.Constant v j p) (kE v) := by
  cases v <;> simp only [kE] <;> first | exact em_no | skip
  · exact em_const pe_non fun B H => .non
  · exact em_const pe_bl fun B H => .bl _
  · exact em_const pe_int fun B H => .int _
  · exact em_const pe_str fun B H => .str _
theorem as_ok (h : ∀ e, EM X e (f e)) : ∀ {es : List Expr}, es.all notStar = true → AM X es (asE f es)
  | [], _ => am_nil
  | a :: es, hs => by
    rw [List.all_cons, Bool.and_eq_true] at hs
    exact am_cons (h a) (as_ok h hs.2) hs.1
theorem kw_ok (h : ∀ e, EM X e (f e)) : ∀ kws : List Keyword, KM X kws (kwE f kws)
  | [] => km_nil
  | ⟨nm, a, kp⟩ :: ks => km_cons (h a) (kw_ok h ks)
theorem as_len : ∀ {es : List Expr} (ev : EnvI) (S : Store) (ds : List D) (S' : Store), asE f es ev S = some (ds, S') → ds.length = es.length
  | [], ev, S, ds, S', h => by cases h; rfl
  | a :: es, ev, S, ds, S', h => by
    obtain ⟨x, e1, h⟩ := bind_some h
    obtain ⟨y, e2, h⟩ := map_some h
    cases h
    rw [List.length_cons, List.length_cons, as_len ev _ _ _ e2]
theorem kw_len : ∀ {kws : List Keyword} {ks : List Str}, kwNames kws = some ks → ∀ (ev : EnvI) (S : Store) (ds : List D) (S' : Store), kwE f kws ev S = some (ds, S') → ds.length = ks.length
  | [], ks, hk, ev, S, ds, S', h => by cases hk; cases h; rfl
  | ⟨some n, v, q⟩ :: rest, ks, hk, ev, S, ds, S', h => by
    obtain ⟨x, e1, h⟩ := bind_some h
    obtain ⟨y, e2, h⟩ := map_some h
    cases h
    obtain ⟨ks', e3, hk⟩ := map_some hk
    cases hk
    rw [List.length_cons, List.length_cons, kw_len e3 ev _ _ _ e2]
  | ⟨none, v, q⟩ :: rest, ks, hk, ev, S, ds, S', h => by cases hk
theorem and_ok (h : ∀ e, EM X e (f e)) : ∀ es : List Expr, EM X (.BoolOp .And es pos) (andE f es)
  | [] => em_no
  | [a] => em_one (h a)
  | a :: b :: es => em_and (h a) (and_ok h (b :: es))
theorem or_ok (h : ∀ e, EM X e (f e)) : ∀ es : List Expr, EM X (.BoolOp .Or es pos) (orE f es)
  | [] => em_no
  | [a] => em_one (h a)
  | a :: b :: es => em_or (h a) (or_ok h (b :: es))
theorem bo_ok (h : ∀ e, EM X e (f e)) (op : BoolOp) (es : List Expr) : EM X (.BoolOp op es pos) (boE f op es) := by
  cases op
  · exact and_ok h es
  · exact or_ok h es
theorem wm_no {e : Expr} : WM X e mNo := fun w pins s σ H B ev S d S' k I hS hE em hk => by cases em
theorem andT_ok (h : ∀ e, TM X e (f e)) : ∀ es : List Expr, WM X (.BoolOp .And es pos) (andE f es)
  | [] => wm_no
  | [a] => wm_and1 (h a)
  | a :: b :: es => wm_and (h a) (andT_ok h (b :: es))
theorem orT_ok (h : ∀ e, TM X e (f e)) : ∀ es : List Expr, WM X (.BoolOp .Or es pos) (orE f es)
  | [] => wm_no
  | [a] => wm_or1 (h a)
  | a :: b :: es => wm_or (h a) (orT_ok h (b :: es))
theorem boT_ok (h : ∀ e, TM X e (f e)) (op : BoolOp) (es : List Expr) : TM X (.BoolOp op es pos) (boE f op es) := by
  cases op
  · exact (andT_ok h es).tm
  · exact (orT_ok h es).tm
theorem cmp_okE (K : BK X) (h : ∀ e, EM X e (f e)) (a : Expr) (ops : List CmpOp) (es : List Expr) : EM X (.Compare a ops es pos) (cmpE f a ops es) := by
  unfold cmpE
  split
  · split
    · exact em_no
    · exact em_cmp K (h _) (h _) (Bool.eq_false_iff.mpr (by assumption))
  · split
    · exact em_no
    · exact em_chain K (h _) (h _) (h _) (Bool.eq_false_iff.mpr (by assumption))
  · exact em_no
theorem cmp_okT (K : BK X) (h : ∀ e, EM X e (f e)) (a : Expr) (ops : List CmpOp) (es : List Expr) : TM X (.Compare a ops es pos) (cmpE f a ops es) := by
  unfold cmpE
  split
  · split
    · exact tm_no
    · exact tm_cmp K (h _) (h _) (Bool.eq_false_iff.mpr (by assumption))
  · split
    · exact tm_no
    · exact tm_chain K (h _) (h _) (h _) (Bool.eq_false_iff.mpr (by assumption))
  · exact tm_no
theorem dc_ok (h : ∀ e, EM X e (f e)) : ∀ (ks : List (Option Expr)) (vs : List Expr), DM X pos ks vs (dcE f ks vs)
  | [], [] => dm_nil
  | some a :: ks, b :: vs => dm_cons (h a) (h b) (dc_ok h ks vs)
  | [], _ :: _ => fun pins s σ H B ev S es S' I hS hE em => by cases em
  | none :: _, _ => fun pins s σ H B ev S es S' I hS hE em => by
    unfold dcE at em
    cases em
  | some _ :: _, [] => fun pins s σ H B ev S es S' I hS hE em => by cases em
theorem dic_ok (bx : Bool) (h : ∀ e, EM X e (f e)) (ks : List (Option Expr)) (vs : List Expr) : EM X (.Dict ks vs pos) (dicE bx f ks vs) := by
  unfold dicE
  split
  · rename_i hc
    simp only [Bool.and_eq_true, decide_eq_true_eq, beq_iff_eq] at hc
    obtain ⟨⟨h1, h2⟩, h3⟩ := hc
    cases ks with
    | nil =>
      cases vs with
      | nil => exact em_dic0 bx
      | cons _ _ => cases h2
    | cons k ks => exact em_dic bx (dc_ok h _ _) h1 h2 (by simp) h3
  · exact em_no
theorem sl_okO (h : ∀ e, EM X e (f e)) (o : Option Expr) : OM X o (slO f o) := by
  cases o with
  | none => exact om_none
  | some a => exact om_some (h a)
theorem ix_okE (K : BK X) (bx : Bool) (h : ∀ e, EM X e (f e)) (a b : Expr) : EM X (.Subscript a b pos) (ixE bx f a b) := by
  unfold ixE
  split
  · exact em_sl bx (h a) (sl_okO h _) (sl_okO h _)
  · exact revR (pins := []) (σ := []) (H := fun _ => none) (s := X.s_0) bx (h a)
  · split
    · exact em_ix K (h a) (h _) (by assumption)
    · exact em_no
theorem blt_okE (g : Good G cf X c) (h : ∀ e, EM X e (f e)) {x : Str} (hx : isGl c x = true) (es : List Expr) : EM X (.Call (.Name x p) es [] pos) (bltE G pos f x es) := by
  unfold bltE
  split
  · rename_i hc
    rw [Bool.and_eq_true] at hc
    split
    · exact em_no
    · split
      · rename_i b hb
        obtain ⟨v, h1, h2, h3, h4, h5⟩ := bltG_ok g.bk hb
        exact em_blt h5 h2 (g.gl hx) (g.bl _ hc.1) h1 h3 h4 (as_ok h hc.2) hc.2
      · exact em_no
  · exact em_no
theorem call_okE (g : Good G cf X c) (h : ∀ e, EM X e (f e)) (x : Str) (es : List Expr) (kws : List Keyword) : EM X (.Call (.Name x p) es kws pos) (callE G cf c pos f x es kws) := by
  unfold callE
  split
  · rename_i hc
    simp only [Bool.and_eq_true] at hc
    obtain ⟨⟨h1, h2⟩, h3⟩ := hc
    split
    · rename_i ps b hb
      split
      · rename_i ks hk
        split
        · rename_i ix hi
          obtain ⟨k, a, fd, q1, q2, q3, q4, q5⟩ := g.fns _ _ _ hb
          exact em_call q1 q2 g.bk.gd g.xe q5 (g.gl h1) q3 q4 (plain_nm h2).1 (as_ok h h3) h3 (kw_ok h kws) hk hi (fun e => by subst e; rfl) as_len (kw_len hk)
        · exact em_no
      · exact em_no
    · split
      · split
        · rename_i a ha
          obtain ⟨rfl, p2, q2, rfl⟩ := lrgArg_inv ha
          unfold lrgE
          split
          · rename_i hc2
            simp only [Bool.and_eq_true] at hc2
            exact em_lrg1 _ g.bk (g.gl h1) (g.bl _ hc2.1.2) (g.gl hc2.1.1.1) (g.bl _ hc2.1.1.2) (h _) hc2.2
          · exact em_no
        · split
          · rename_i a ha
            obtain ⟨rfl, p2, q2, rfl⟩ := ssArg_inv ha
            unfold ssE
            split
            · rename_i hc2
              simp only [Bool.and_eq_true] at hc2
              exact em_sset _ g.bk (g.gl h1) (g.bl _ hc2.1.2) (g.gl hc2.1.1.1) (g.bl _ hc2.1.1.2) (h _) hc2.2
            · exact em_no
          · split
            · rename_i r hr
              obtain ⟨rfl, rfl⟩ := siArg_inv hr
              unfold siE
              split
              · rename_i hc2
                simp only [Bool.and_eq_true] at hc2
                exact em_sit _ g.bk (g.gl h1) (g.bl _ hc2.1.1) (h _) (recv_base hc2.1.2) hc2.2
              · exact em_no
            · exact blt_okE g h h1 es
      · exact em_no
  · exact em_no
theorem met_okE (K : BK X) {apos : Pos} (h : ∀ e, EM X e (f e)) (o : Expr) (x : Str) (es : List Expr) : EM X (.Call (.Attribute o x apos) es [] pos) (metE pos apos f o x es) := by
  unfold metE
  split
  · rename_i hc
    simp only [Bool.and_eq_true, decide_eq_true_eq] at hc
    obtain ⟨⟨⟨h1, h2⟩, h3⟩, h4⟩ := hc
    cases es with
    | nil => exact em_met0 K (h o) h1 h2
    | cons e es => exact em_met K (h o) (as_ok h h3) h3 (by simp only [List.length_cons] at h4; omega) h1 h2
  · exact em_no
theorem it_okE (g : Good G cf X c) (h : ∀ e, EM X e (f e)) (tg e : Expr) : IM X tg e (itE G c f tg e) := by
  unfold itE
  split
  · split
    · rename_i hc
      obtain ⟨rfl, h1, h2, h3⟩ := hc
      exact im_rng1 (h _) h3 (g.gl h1) (g.bl _ h2)
    · split
      · rename_i hc
        obtain ⟨rfl, h1, h2, h3, h4⟩ := hc
        cases tg <;> first | exact im_en (h _) h3 (g.gl h1) (g.bl _ h2) | (cases h4)
      · exact im_val (h _)
  · split
    · rename_i hc
      obtain ⟨rfl, h1, h2, h3, h4⟩ := hc
      exact im_rng2 (h _) (h _) h3 h4 (g.gl h1) (g.bl _ h2)
    · split
      · rename_i hc
        obtain ⟨rfl, h1, h2, h3, h4, h5⟩ := hc
        cases tg <;> first | exact im_zp (h _) (h _) h3 h4 (g.gl h1) (g.bl _ h2) | (cases h5)
      · exact im_val (h _)
  · exact im_val (h _)
theorem not_set {e : Expr} {env : Env} (h : notSet e = true) : ∀ x, foldedSetIterable e env x = pure x := by
  intro x
  cases e <;> first | rfl | cases h
theorem Good.blk (g : Good G cf X c) (s : Shared) (H : Hp) (C : Addr) (cl : List (Str × Addr)) (fp : List Addr) (scope : Scope) (hk : scope.kind = .function) : Good G cf (X.blk s H scope (compEnvC scope cl C X.env) fp) (blkS c scope) :=
  ⟨⟨g.bk.calm, g.bk.gd, g.bk.hu, g.bk.sys⟩, rfl, g.eN, g.nd, by show relS scope X.env.scope = _; rw [g.sc]; rfl, hk, rfl, g.gk, g.bl, g.fns⟩
theorem if_okC (h : ∀ e, TM X e (f e)) {ifs : List Expr} (hl : ifs.length ≤ 1) : CM X ifs (ifE f ifs) := by
  cases ifs with
  | nil => exact cm_nil
  | cons a r =>
    cases r with
    | nil => exact cm_one (h a)
    | cons _ _ => simp only [List.length_cons] at hl; omega
theorem all_mem {is js : List Nat} (h : is.all (fun j => js.contains j) = true) : ∀ j ∈ is, j ∈ js := fun j hj => by
  have := (List.all_eq_true.mp h) j hj
  simpa using this
theorem lc_okE (hr : Sound G cf r) (g : Good G cf X c) (elt : Expr) (gs : List Comprehension) (scope : Scope) : EM X (.ListComp elt gs scope pos) (lcE G r c elt gs scope pos) := by
  unfold lcE
  split
  · split
    · rename_i hc
      obtain ⟨rfl, h1, h2, h3, h4⟩ := hc
      have ok := blkOk_by h2
      have gb := fun s H C cl fp => g.blk s H C cl fp scope ok.kind
      exact em_lc _ g.bk (by rw [g.eN]; exact g.nd) (it_okE g (hr.E X c g) _ _) (by rw [g.eN, g.sc]; exact ok) (all_mem h3) (fun s H C cl fp => hr.tg _ _ (gb s H C cl fp) _) (fun s H C cl fp => if_okC (hr.T _ _ (gb s H C cl fp)) h4) (fun s H C cl fp => hr.E _ _ (gb s H C cl fp) _) (not_set h1)
    · exact em_no
  · exact em_no
theorem step_okE (hr : Sound G cf r) (g : Good G cf X c) (e : Expr) : EM X e (stepE G cf r c e) := by
  have h := hr.E X c g
  have t := hr.T X c g
  unfold stepE
  split
  · exact k_ok _ _
  · exact nm_ok g _
  · exact em_bin _ (h _) (h _)
  · split
    · exact em_neg (h _)
    · exact em_not (h _)
    · exact em_no
  · exact bo_ok h _ _
  · exact cmp_okE g.bk h _ _ _
  · exact em_if (t _) (h _) (h _)
  · split
    · exact em_tup (as_ok h (by assumption))
    · exact em_no
  · split
    · exact em_lst _ (as_ok h (by assumption))
    · exact em_no
  · exact dic_ok _ h _ _
  · exact ix_okE g.bk _ h _ _
  · split
    · exact call_okE g h _ _ _
    · split
      · exact met_okE g.bk h _ _ _
      · exact em_no
    · exact em_no
  · exact lc_okE hr g _ _ _
  · exact em_no
theorem un_okT (t : ∀ e, TM X e (f e)) {E : Expr → M} (hE : ∀ e, EM X e (E e)) (op : UnaryOp) (a : Expr) : TM X (.UnaryOp op a p) (unT f E op a p) := by
  cases op
  case Not => exact tm_not (t _)
  all_goals exact tm_val (hE _) fun w => rfl
theorem step_okT (hr : Sound G cf r) (g : Good G cf X c) {E : Expr → M} (hE : ∀ e, EM X e (E e)) (e : Expr) : TM X e (stepT r E c e) := by
  have h := hr.E X c g
  have t := hr.T X c g
  cases e
  case UnaryOp => exact un_okT t hE _ _
  case BoolOp => exact boT_ok t _ _
  case Compare => exact cmp_okT g.bk h _ _ _
  case IfExp => exact tm_if (t _) (t _) (t _)
  all_goals exact tm_val (hE _) fun w => rfl
end
end PI
set_option maxHeartbeats 1000000
/-! Own text: the reading of targets and statements; the whole reading, by fuel. -/
namespace PI
open PySem PySem.Spec L2
open PyProof.Rows hiding St

def gNo : MG := fun _ _ _ => none
def isE (g : Expr → List Nat × MG) : List Expr → List Nat
  | [] => []
  | e :: es => (g e).1 ++ isE g es
def gsE (g : Expr → List Nat × MG) : List Expr → List D → EnvI → Store → Option (EnvI × Store)
  | [] => gsNil
  | e :: es => gsCons (g e).2 (gsE g es)
def isL1 (c : CS) (x : Str) : Bool := match c.sc.names.lookup x with
  | some .local => true
  | _ => false
def nmG (c : CS) (x : Str) : List Nat × MG :=
  if isLoc c x && (c.fnc x || isL1 c x) then (match sIx c x with
    | some i => ([i], gNm i)
    | none => ([], gNo))
  else ([], gNo)
def stepG (r : Sm) (c : CS) : Expr → List Nat × MG
  | .Name x _ => nmG c x
  | .Tuple es _ _ => if es.all notStar then (isE (r.G c) es, gTp es.length (gsE (r.G c) es)) else ([], gNo)
  | .Subscript o i _ => if notSlice i then ([], gSb (r.E c o) (r.E c i)) else ([], gNo)
  | _ => ([], gNo)
def isCmp : Expr → Bool
  | .ListComp .. => true
  | .SetComp .. => true
  | .DictComp .. => true
  | _ => false
def isTup : Expr → Bool
  | .Tuple .. => true
  | .List .. => true
  | _ => false
/-- what the storing order of a display to a display is: unknown, plain, or by these names -/
def swpF (kd : Str → Option NameKind) (ts vs : List Expr) : Option (Option (List Str)) :=
  if !(ts.length == 2 || ts.length == 3) || vs.length != ts.length then some none
  else if (vs.any fun | .Starred .. => true | _ => false) = true then some none
  else
    if ((ts.filterMap fun
      | .Name id pos => if kd id == some .local && pos.line == (ts.head?.map (·.pos.line)).getD 0 then some id else none
      | _ => none).length != ts.length || (ts.filterMap fun
      | .Name id pos => if kd id == some .local && pos.line == (ts.head?.map (·.pos.line)).getD 0 then some id else none
      | _ => none).eraseDups.length != (ts.filterMap fun
      | .Name id pos => if kd id == some .local && pos.line == (ts.head?.map (·.pos.line)).getD 0 then some id else none
      | _ => none).length) = true then some none
    else if vs.all (foldedForSure 8) = true then some none
    else if vs.all (constantsAlone 8) = true then none
    else some (some (ts.filterMap fun
      | .Name id pos => if kd id == some .local && pos.line == (ts.head?.map (·.pos.line)).getD 0 then some id else none
      | _ => none))
theorem swpF_ok {ts vs : List Expr} {env : Env} {k k2 : Nat} {p p2 : Pos} {o : Option (List Str)} (h : swpF env.kindOf ts vs = some o) (hb : env.blockKind = .function) : swappedStores [.Tuple ts k p] (.Tuple vs k2 p2) env = pure o := by
  unfold swpF at h
  unfold swappedStores
  simp only [hb]
  split at h
  · rename_i hc
    cases h
    simp only [hc, Bool.true_or, if_true]
  · rename_i hc
    rw [Bool.not_eq_true] at hc
    simp only [hc, Bool.false_or, bne_self_eq_false, Bool.false_eq_true, if_false]
    split at h
    · rename_i h2
      cases h
      exact if_pos h2
    · rename_i h2
      refine (if_neg h2).trans ?_
      split at h
      · rename_i h3
        cases h
        exact if_pos h3
      · rename_i h3
        refine (if_neg h3).trans ?_
        split at h
        · rename_i h4
          cases h
          exact if_pos h4
        · rename_i h4
          refine (if_neg h4).trans ?_
          split at h
          · cases h
          · rename_i h5
            cases h
            exact if_neg h5

def parS (c : CS) (f : Expr → M) (ts vs : List Expr) (nm : List Str) : MS := match ts, vs with
  | [.Name x _, .Name y _], [a, b] => (match sIx c x, sIx c y with
    | some i, some j => if nm = [x, y] ∧ isL1 c x = true ∧ isL1 c y = true ∧ i ≠ j ∧ [a, b].all notStar = true then sPar (asE f [a, b]) (gP2 i j) else sNo
    | _, _ => sNo)
  | [.Name x _, .Name y _, .Name z _], [a, b, d] => (match sIx c x, sIx c y, sIx c z with
    | some i, some j, some l => if nm = [x, y, z] ∧ isL1 c x = true ∧ isL1 c y = true ∧ isL1 c z = true ∧ i ≠ j ∧ i ≠ l ∧ j ≠ l ∧ [a, b, d].all notStar = true then sPar (asE f [a, b, d]) (gP3 i j l) else sNo
    | _, _, _ => sNo)
  | _, _ => sNo
def kdS (c : CS) (x : Str) : Option NameKind := c.sc.names.lookup x
def asgS (G : GS) (r : Sm) (c : CS) (tg e : Expr) : MS := match tg with
  | .Tuple ts _ _ => (match e with
    | .Tuple vs _ _ => (match swpF (kdS c) ts vs with
      | some none => sAsg (r.E c e) (r.G c tg).2
      | some (some nm) => parS c (r.E c) ts vs nm
      | none => sNo)
    | e => sAsg (r.E c e) (r.G c tg).2)
  | .Subscript o i p => sAsg (r.E c e) (r.G c tg).2
  | .Name y p => (match e with
    | .ListComp elt gs scope pos => sAsg (lcE G r c elt gs scope pos) (nmG c y).2
    | e => if isCmp e then sNo else sAsg (r.E c e) (nmG c y).2)
  | _ => sNo
def exS (r : Sm) (c : CS) : Expr → MS
  | .Constant (.str _) _ _ => sNil
  | e => if isCmp e then sNo else sEx (r.E c e)
def stepS1 (G : GS) (r : Sm) (c : CS) : Stmt → MS
  | .Pass _ => sNil
  | .Break _ => sBrk
  | .Continue _ => sCnt
  | .Return o _ => (match o with
    | some e => sRet (r.E c e)
    | none => sRetN)
  | .Expr e _ => exS r c e
  | .If t a b _ => sIf (r.T c t) (r.S c a) (r.S c b)
  | .Assign tgs e _ => (match tgs with
    | [tg] => asgS G r c tg e
    | _ => sNo)
  | .For tg iter body orelse _ => if notSet iter && orelse.isEmpty then sFor G.L (itE G c (r.E c) tg iter) (r.G c tg).2 (r.S c body) else sNo
  | .While t body orelse _ => if orelse.isEmpty then whLoop (r.T c t) (r.S c body) G.L else sNo
  | _ => sNo
def stepS (f : Stmt → MS) : List Stmt → MS
  | [] => sNil
  | st :: rest => sSeq (f st) (stepS f rest)
def semF (G : GS) (cf : CFt) : Nat → Sm
  | 0 => ⟨fun _ _ => mNo, fun _ _ => mNo, fun _ _ => ([], gNo), fun _ _ => sNo⟩
  | n + 1 => ⟨stepE G cf (semF G cf n), fun c => stepT (semF G cf n) (stepE G cf (semF G cf n) c) c, stepG (semF G cf n), fun c => stepS (stepS1 G (semF G cf n) c)⟩

section
variable {G : GS} {cf : CFt} {X : Cx} {c : CS} {r : Sm} {f : Expr → M} {pos p p2 : Pos}
theorem gm_no {e : Expr} : GM X e [] gNo := fun pins s σ H B ev S d v u ev' S' I hS hE rd rv em => by cases em
theorem l1_ok (g : Good G cf X c) {x : Str} (h : isL1 c x = true) : X.env.scope.names.lookup x = some .local := by
  unfold isL1 at h
  rw [g.sc]
  split at h
  · assumption
  · cases h
theorem nm_okG (g : Good G cf X c) (x : Str) : GM X (.Name x p) (nmG c x).1 (nmG c x).2 := by
  unfold nmG
  split
  · rename_i hc
    rw [Bool.and_eq_true, Bool.or_eq_true] at hc
    split
    · rename_i i hi
      exact gm_name (by rw [g.eN]; exact g.nd) (g.at_ hi) (g.lc hc.1) (hc.2.elim (fun z => .inl (by rw [g.fn]; exact z)) fun z => .inr (l1_ok g z))
    · exact gm_no
  · exact gm_no
theorem gs_ok {g : Expr → List Nat × MG} (h : ∀ e, GM X e (g e).1 (g e).2) : ∀ {es : List Expr}, es.all notStar = true → GsM X es (isE g es) (gsE g es)
  | [], _ => gs_nil
  | e :: es, hs => by
    rw [List.all_cons, Bool.and_eq_true] at hs
    exact gs_cons (h e) (gs_ok h hs.2) hs.1
theorem step_okG (hr : Sound G cf r) (g : Good G cf X c) (e : Expr) : GM X e (stepG r c e).1 (stepG r c e).2 := by
  unfold stepG
  split
  · exact nm_okG g _
  · split
    · exact gm_tup g.bk (gs_ok (hr.tg X c g) (by assumption)) (by assumption)
    · exact gm_no
  · split
    · rename_i o i p hs
      exact gm_sub g.bk (hr.E X c g _) (hr.E X c g _) (by intro v; cases i <;> first | rfl | cases hs)
    · exact gm_no
  · exact gm_no
theorem sw_of {e tg : Expr} {l : Nat} {env : Env} (h : isCmp e = false) (o : Option Expr) : swapsWith e o l env = pure false := by
  cases e <;> first | rfl | cases h
theorem sw_tg {e tg : Expr} {l : Nat} {env : Env} (h : ∀ x p, tg ≠ .Name x p) : swapsWith e (some tg) l env = pure false := by
  unfold swapsWith
  cases e <;> first | rfl | (cases tg <;> first | rfl | exact absurd rfl (h _ _))
theorem st_of {e tg : Expr} {env : Env} (h : isTup tg = false) : swappedStores [tg] e env = pure none := by
  unfold swappedStores
  cases tg <;> first | rfl | cases h
theorem st_of2 {e : Expr} {ts : List Expr} {k : Nat} {env : Env} (h : isTup e = false) : swappedStores [.Tuple ts k p] e env = pure none := by
  unfold swappedStores
  cases e <;> first | rfl | cases h
theorem sole_of {e tg : Expr} {l : Nat} {env : Env} (h : isCmp e = false) : swapsWithSole [tg] e l env = pure false := sw_of (tg := tg) h _
theorem sole_tg {e tg : Expr} {l : Nat} {env : Env} (h : ∀ x p, tg ≠ .Name x p) : swapsWithSole [tg] e l env = pure false := sw_tg h
theorem swp_good (g : Good G cf X c) {ts vs : List Expr} {o : Option (Option (List Str))} (h : swpF (kdS c) ts vs = o) : swpF X.env.kindOf ts vs = o := by
  have e : X.env.kindOf = kdS c := by
    funext x
    show X.env.scope.names.lookup x = c.sc.names.lookup x
    rw [g.sc]
  rw [e]; exact h
theorem bk_fn (g : Good G cf X c) : X.env.blockKind = .function := by
  unfold Env.blockKind
  rw [g.sc, g.kd]; rfl
theorem par_ok (g : Good G cf X c) (h : ∀ e, EM X e (f e)) {ts vs : List Expr} {nm : List Str} {k k2 : Nat} {pt pt2 : Pos} (hw : swappedStores [.Tuple ts k pt] (.Tuple vs k2 pt2) X.env = pure (some nm)) :
    SM X (.Assign [.Tuple ts k pt] (.Tuple vs k2 pt2) pos) (parS c f ts vs nm) := by
  unfold parS
  split
  · split
    · split
      · rename_i i j hi hj hc
        obtain ⟨rfl, h1, h2, h3, h4⟩ := hc
        exact sm_par g.bk (by rw [g.eN]; exact g.nd) (g.at_ hi) (g.at_ hj) h3 (l1_ok g h1) (l1_ok g h2) (as_ok h h4) hw
      · exact sm_no
    · exact sm_no
  · split
    · split
      · rename_i i j l hi hj hl hc
        obtain ⟨rfl, h1, h2, h3, h4, h5, h6, h7⟩ := hc
        exact sm_par3 g.bk (by rw [g.eN]; exact g.nd) (g.at_ hi) (g.at_ hj) (g.at_ hl) h4 h5 h6 (l1_ok g h1) (l1_ok g h2) (l1_ok g h3) (as_ok h h7) hw
      · exact sm_no
    · exact sm_no
  · exact sm_no
theorem sm_none {st : Stmt} {m : MS} (h : ∀ ev S x, m ev S ≠ some x) : SM X st m := ⟨fun pins s σ H D I ⟨B, ev, S, f, ev', S', hS, hE, em, q⟩ => absurd em (h ev S _)⟩
theorem lc_okA (hr : Sound G cf r) (g : Good G cf X c) (y : Str) (elt : Expr) (gs : List Comprehension) (scope : Scope) : SM X (.Assign [.Name y p] (.ListComp elt gs scope p2) pos) (sAsg (lcE G r c elt gs scope p2) (nmG c y).2) := by
  have gen : swapsWith (.ListComp elt gs scope p2) (some (.Name y p)) pos.line X.env = pure false → SM X (.Assign [.Name y p] (.ListComp elt gs scope p2) pos) (sAsg (lcE G r c elt gs scope p2) (nmG c y).2) := fun hs =>
    sm_asg (lc_okE hr g elt gs scope) (nm_okG g y) hs (st_of rfl) rfl
  have he : ∃ b : Bool, swapsWith (.ListComp elt gs scope p2) (some (.Name y p)) pos.line X.env = pure b ∧ (b = true → X.env.scope.names.lookup y = some .local) := by
    refine ⟨(X.env.blockKind == .function && X.env.kindOf y == some .local && p.line == p2.line && !(scope.names.any fun (n, k) => n == y && (k == .local || k == .cell))), rfl, fun h => ?_⟩
    simp only [Bool.and_eq_true] at h
    exact eq_of_beq h.1.1.2
  obtain ⟨b, hb, hl⟩ := he
  cases b with
  | false => exact gen hb
  | true =>
    have hl := hl rfl
    unfold nmG
    split
    · split
      · rename_i i hi
        unfold lcE
        split
        · split
          · rename_i hc
            obtain ⟨rfl, h1, h2, h3, h4⟩ := hc
            have ok := blkOk_by h2
            have gb := fun s H C cl fp => g.blk s H C cl fp _ ok.kind
            exact sm_lc _ g.bk (by rw [g.eN]; exact g.nd) (g.at_ hi) hl hb (it_okE g (hr.E X c g) _ _) (by rw [g.eN, g.sc]; exact ok) (all_mem h3) (fun s H C cl fp => hr.tg _ _ (gb s H C cl fp) _) (fun s H C cl fp => if_okC (hr.T _ _ (gb s H C cl fp)) h4) (fun s H C cl fp => hr.E _ _ (gb s H C cl fp) _) (not_set h1)
          · exact sm_none fun ev S x h => by cases h
        · exact sm_none fun ev S x h => by cases h
      · refine sm_none fun ev S x h => ?_
        obtain ⟨x, e1, h⟩ := bind_some h
        cases h
    · refine sm_none fun ev S x h => ?_
      obtain ⟨x, e1, h⟩ := bind_some h
      cases h
theorem asg_ok (hr : Sound G cf r) (g : Good G cf X c) (tg e : Expr) : SM X (.Assign [tg] e pos) (asgS G r c tg e) := by
  have h := hr.E X c g
  unfold asgS
  split
  · split
    · split
      · rename_i hw
        exact sm_asg (h _) (hr.tg X c g _) (sole_of rfl) (swpF_ok (swp_good g hw) (bk_fn g)) rfl
      · rename_i nm hw
        exact par_ok g h (swpF_ok (swp_good g hw) (bk_fn g))
      · exact sm_no
    · rename_i hn
      cases e
      case Tuple => exact (hn _ _ _ rfl).elim
      all_goals exact sm_asg (h _) (hr.tg X c g _) (sole_tg (fun x p z => Expr.noConfusion z)) (by first | exact st_of2 rfl | (unfold swappedStores; rfl)) rfl
  · exact sm_asg (h _) (hr.tg X c g _) (sole_tg (fun x p z => Expr.noConfusion z)) (st_of rfl) rfl
  · split
    · exact lc_okA hr g _ _ _ _
    · split
      · exact sm_no
      · rename_i hc
        exact sm_asg (h _) (nm_okG g _) (sole_of (Bool.eq_false_iff.mpr hc)) (st_of rfl) rfl
  · exact sm_no
theorem ex_okS (hr : Sound G cf r) (g : Good G cf X c) (e : Expr) : SM X (.Expr e pos) (exS r c e) := by
  unfold exS
  split
  · exact sm_doc
  · split
    · exact sm_no
    · rename_i hc
      exact sm_expr (hr.E X c g _) (sw_of (tg := e) (Bool.eq_false_iff.mpr hc) _)
theorem step_okS1 (hr : Sound G cf r) (g : Good G cf X c) (st : Stmt) : SM X st (stepS1 G r c st) := by
  have h := hr.E X c g
  have t := hr.T X c g
  have u := hr.S X c g
  unfold stepS1
  split
  · exact sm_pass
  · exact sm_break
  · exact sm_continue
  · split
    · exact sm_ret (h _)
    · exact sm_retN
  · exact ex_okS hr g _
  · exact sm_if (t _) (u _) (u _)
  · split
    · exact asg_ok hr g _ _
    · exact sm_no
  · split
    · rename_i orelse _ hc
      rw [Bool.and_eq_true] at hc
      cases orelse with
      | nil => exact sm_for _ g.bk g.xe (it_okE g h _ _) (hr.tg X c g _) (u _) (not_set hc.1)
      | cons _ _ => cases hc.2
    · exact sm_no
  · split
    · rename_i orelse _ hc
      cases orelse with
      | nil => exact sm_while _ g.xe (t _) (u _)
      | cons _ _ => cases hc
    · exact sm_no
  · exact sm_no
theorem step_okS {f : Stmt → MS} (h : ∀ st, SM X st (f st)) : ∀ l : List Stmt, SsM X l (stepS f l)
  | [] => ssm_nil
  | st :: rest => ssm_cons (h st) (step_okS h rest)
theorem ssm_none {sts : List Stmt} : SsM X sts sNo := ⟨fun pins s σ H D I ⟨B, ev, S, f, ev', S', hS, hE, em, q⟩ => by cases em⟩
theorem sem_sound (G : GS) (cf : CFt) : ∀ n, Sound G cf (semF G cf n)
  | 0 => ⟨fun _ _ _ _ => em_no, fun _ _ _ _ => tm_no, fun _ _ _ _ => gm_no, fun _ _ _ _ => ssm_none⟩
  | n + 1 =>
    have ih := sem_sound G cf n
    ⟨fun X c g e => step_okE ih g e, fun X c g e => step_okT ih g (fun e => step_okE ih g e) e, fun X c g e => step_okG ih g e, fun X c g l => step_okS (fun st => step_okS1 ih g st) l⟩
end
end PI
set_option maxHeartbeats 1000000
/-! Own text: how parameters bind; a def by its body's reading; the defs by levels; the law's end. -/
namespace PI
open PySem PySem.Spec L2
open PyProof.Rows hiding St
/-- plain parameters alone -/
def plainPar (a : Arguments) (ps : List Str) : Prop := a.posonlyargs = [] ∧ a.args.map (·.arg) = ps ∧ a.vararg = none ∧ a.kwonlyargs = [] ∧ a.kwarg = none
theorem kw_loop {ps : List Str} {f : Str × Value → List (Str × Value) × List (Str × Value) → Sem (ForInStep (List (Str × Value) × List (Str × Value)))}
    (hf : ∀ x st, ps.contains x.1 = true → (st.1.lookup x.1).isSome = false → f x st = pure (.yield (st.1 ++ [x], st.2))) : ∀ (kw : List (Str × Value)) (st : List (Str × Value) × List (Str × Value)),
      (∀ x ∈ kw, ps.contains x.1 = true) → (kw.map (·.1)).Nodup → (∀ x ∈ kw, st.1.lookup x.1 = none) → forIn kw st f = pure (st.1 ++ kw, st.2)
  | [], st, _, _, _ => by rw [List.forIn_nil, List.append_nil]
  | x :: kw, st, h1, h2, h3 => by
    rw [List.map_cons, List.nodup_cons] at h2
    rw [List.forIn_cons, hf x st (h1 x List.mem_cons_self) (by rw [h3 x List.mem_cons_self]; rfl), pure_bind]
    show forIn kw (st.1 ++ [x], st.2) f = _
    rw [kw_loop hf kw _ (fun y hy => h1 y (List.mem_cons_of_mem _ hy)) h2.2 (fun y hy => ?_)]
    · rw [List.append_assoc]; rfl
    · rw [List.lookup_append, h3 y (List.mem_cons_of_mem _ hy)]
      have : (y.1 == x.1) = false := beq_eq_false_iff_ne.mpr fun e => h2.1 (by rw [← e]; exact List.mem_map_of_mem hy)
      simp [List.lookup, this]
theorem zip_look {ps : List Str} : ∀ {us : List Value} {i : Nat} {p : Str}, ps.Nodup → us.length ≤ ps.length → ps[i]? = some p → (ps.zip us).lookup p = us[i]? := by
  induction ps with
  | nil => intro us i p _ _ h; simp at h
  | cons q ps ih =>
    intro us i p hn hl h
    cases us with
    | nil => simp
    | cons u us =>
      rw [List.nodup_cons] at hn
      cases i with
      | zero =>
        simp only [List.getElem?_cons_zero, Option.some.injEq] at h
        subst h
        simp [List.lookup]
      | succ i =>
        rw [List.getElem?_cons_succ] at h
        have : (p == q) = false := beq_eq_false_iff_ne.mpr fun e => hn.1 (by rw [← e]; exact List.mem_of_getElem? h)
        simp only [List.zip_cons_cons, List.lookup, this, List.getElem?_cons_succ]
        exact ih hn.2 (by simpa using hl) h
theorem zip_ix {p : Str} : ∀ {ks : List Str} {ws : List Value}, ws.length = ks.length → p ∈ ks → (ks.zip ws).lookup p = ws[ks.idxOf p]?
  | [], ws, _, h => by cases h
  | k :: ks, [], hl, h => by cases hl
  | k :: ks, w :: ws, hl, h => by
    by_cases e : p = k
    · subst e; simp [List.lookup]
    · have e' : (p == k) = false := beq_eq_false_iff_ne.mpr e
      have e2 : (k == p) = false := beq_eq_false_iff_ne.mpr fun z => e z.symm
      simp only [List.zip_cons_cons, List.lookup, e']
      rw [List.idxOf_cons, e2]
      exact zip_ix (by simpa using hl) ((List.mem_cons.mp h).resolve_left e)
theorem permD_at {α : Type} : ∀ {ix : List Nat} {l full : List α}, permD l ix = some full → ∀ (j i : Nat), ix[j]? = some i → full[j]? = l[i]? ∧ ∃ v, l[i]? = some v
  | [], l, full, h, j, i, e => by simp at e
  | i0 :: ix, l, full, h, j, i, e => by
    unfold permD at h
    split at h
    · rename_i a r h1 h2
      cases h
      cases j with
      | zero =>
        simp only [List.getElem?_cons_zero, Option.some.injEq] at e
        subst e
        rw [h1]; exact ⟨rfl, a, rfl⟩
      | succ j =>
        rw [List.getElem?_cons_succ] at e ⊢
        exact permD_at h2 j i e
    · cases h
theorem fm_zip {m : List (Str × Value)} : ∀ {ps : List Str} {full : List Value}, full.length = ps.length → (∀ (j : Nat) (p : Str), ps[j]? = some p → m.lookup p = full[j]?) → (ps.filterMap fun n => (m.lookup n).map fun v => (n, v)) = ps.zip full
  | [], full, _, _ => rfl
  | p :: ps, [], hl, _ => by cases hl
  | p :: ps, v :: full, hl, h => by
    have h0 : m.lookup p = some v := h 0 p rfl
    rw [List.filterMap_cons_some (b := (p, v)) (by rw [h0]; rfl), fm_zip (by simpa using hl) fun j q e => h (j + 1) q e]
    rfl
theorem bnd_of {fd : FuncData} {ps : List Str} (h : plainPar fd.params ps) (hd : fd.defaults = .none) (hn : ps.Nodup) : Bnd fd ps := by
  intro s us ws full ks ix hix hw hp
  obtain ⟨h1, h2, h3, h4, h5⟩ := h
  have len := argIx_len hix
  have hfl : full.length = ps.length := by rw [permD_len hp, len.1]
  unfold argIx at hix
  split at hix
  · rename_i hc
    obtain ⟨c1, c2, c3, c4⟩ := hc
    cases hix
    have hsub : ∀ k ∈ ks, k ∈ ps.drop us.length := fun k hk => by simpa using (List.all_eq_true.mp c3) k hk
    have hks : ∀ p ∈ ps.drop us.length, p ∈ ks := fun p hp' => by simpa using (List.all_eq_true.mp c4) p hp'
    have hslot : ∀ j p, ps[j]? = some p → ((ps.zip us) ++ ks.zip ws).lookup p = full[j]? := fun j p e => by
      rw [List.lookup_append, zip_look hn (by omega) e]
      have hj : j < ps.length := (List.getElem?_eq_some_iff.mp e).1
      by_cases hlt : j < us.length
      · obtain ⟨e1, e2⟩ := permD_at hp j j (by rw [List.getElem?_append_left (by simpa using hlt)]; simp [hlt])
        rw [e1, List.getElem?_append_left hlt, List.getElem?_eq_getElem hlt]; rfl
      · have hd' : (ps.drop us.length)[j - us.length]? = some p := by rw [List.getElem?_drop]; rw [show us.length + (j - us.length) = j by omega]; exact e
        obtain ⟨e1, e2⟩ := permD_at hp j (us.length + ks.idxOf p) (by rw [List.getElem?_append_right (by simpa using Nat.le_of_not_lt hlt), List.length_range, List.getElem?_map, hd']; rfl)
        rw [e1, List.getElem?_eq_none (Nat.le_of_not_lt hlt), List.getElem?_append_right (by omega), Nat.add_sub_cancel_left, zip_ix hw (hks p (List.mem_of_getElem? hd'))]
        rfl
    refine .of_eq ?_
    have hkw : (ks.zip ws).map (·.1) = ks := by rw [List.map_fst_zip (by omega)]
    have hmem : ∀ x ∈ ks.zip ws, x.1 ∈ ks := fun x hx => by rw [← hkw]; exact List.mem_map_of_mem hx
    unfold bindArgs
    simp only [h1, h2, h3, h4, h5, hd, List.map_nil, List.nil_append]
    rw [kw_loop (ps := ps) (fun x st q1 q2 => by rw [if_pos (by rw [q1]; rfl), if_neg (by rw [q2]; decide)]) (ks.zip ws) _ (fun x hx => by simpa using List.mem_of_mem_drop (hsub _ (hmem x hx))) (by rw [hkw]; exact c2) (fun x hx => ?_)]
    · rw [pure_bind, show seqItems? Value.none = pure none from rfl, pure_bind]
      have g1 : ¬ us.length > ps.length := by omega
      have f2 : ∀ p ∈ ps, ((ps.zip us ++ ks.zip ws).lookup p).isNone = false := fun p hp' => by
        obtain ⟨j, hj, e⟩ := List.getElem_of_mem hp'
        rw [hslot j p (by rw [List.getElem?_eq_getElem hj, e]), List.getElem?_eq_getElem (by omega)]; rfl
      have f3 : (ps.take ps.length).filter (fun n => ((ps.zip us ++ ks.zip ws).lookup n).isNone) = [] := by
        rw [List.filter_eq_nil_iff]
        intro p hp'
        rw [f2 p (List.mem_of_mem_take hp')]; decide
      simp only [Option.getD_none, List.length_nil, Nat.zero_sub, List.drop_zero, Nat.sub_zero, decide_eq_false g1, Bool.false_and, Bool.false_eq_true, if_false, f3, List.isEmpty_nil, Bool.not_true, List.zip_nil_right, List.forIn_nil, pure_bind, List.append_nil]
      rw [fm_zip hfl hslot]
    · obtain ⟨j, hj, e⟩ := List.getElem_of_mem (hsub _ (hmem x hx))
      rw [List.getElem_drop] at e
      rw [List.length_drop] at hj
      rw [zip_look (i := us.length + j) hn (by omega) (by rw [List.getElem?_eq_getElem (by omega), e]), List.getElem?_eq_none (by omega)]
  · cases hix

/-! ### a def by the reading of its body -/
def startD (N : List Str) (ds : List D) : EnvI := ds.map some ++ List.replicate (N.length - ds.length) none
def bodyF (N ps : List Str) (m : MS) : BF := fun S ds => if ds.length = ps.length then (m (startD N ds) S).bind fun r => match r.1 with
    | .nx => some (.p .none, r.2.2)
    | .rt d => some (d, r.2.2)
    | _ => none
  else none
theorem RDs.get {K : PySem.W.Frag} {mg : Mg} {B : BT} {H : Hp} {ds : List D} {vs : List V} (r : RDs K mg B H ds vs) {i : Nat} {d : D} (h : ds[i]? = some d) : ∃ v, vs[i]? = some v ∧ RD K mg B H d v := r.at h
theorem er_start {K : PySem.W.Frag} {mg : Mg} {B : BT} {H : Hp} {N : List Str} {ds : List D} {vs : List V} (r : RDs K mg B H ds vs) : ER K mg B H (startD N ds) (L2.start N vs) := by
  have hl := r.length
  refine ⟨by unfold startD L2.start; simp [hl], fun i d h => ?_⟩
  unfold startD at h
  by_cases hi : i < ds.length
  · rw [List.getElem?_append_left (by simpa using hi), List.getElem?_map] at h
    cases e : ds[i]? with
    | none => rw [e] at h; cases h
    | some d' =>
      rw [e] at h
      cases h
      obtain ⟨v, hv, rv⟩ := r.at e
      refine ⟨v, ?_, rv⟩
      unfold L2.start
      rw [List.getElem?_append_left (by rw [List.length_map]; omega), List.getElem?_map, hv]; rfl
  · rw [List.getElem?_append_right (by simpa using Nat.le_of_not_lt hi), List.getElem?_replicate] at h
    split at h <;> cases h
/-- what the whole module tells -/
structure Txt (G : GS) (K : PySem.W.Frag) (mg : Mg) : Prop where
  gk : ∀ x d, G.gk x = some d → ∃ u v, mg x = some u ∧ RelV v u ∧ ∀ B H, RD K mg B H d v
  bl : ∀ x, G.bl x = true → mg x = none
/-- a def of the text -/
structure FT where
  ps : List Str
  N : List Str
  sc : Scope
  body : List Stmt
structure DefAt (K : PySem.W.Frag) (mg : Mg) (x : Str) (t : FT) : Prop where
  ex : ∃ (f : Addr) (oc : Value) (od : Option Addr) (kV doc pm : Value) (an : Option Addr) (cdv ct : Value) (osl : Array (Option Value)) (params : Arguments) (name qual : Str),
    K.lookup f = some ⟨oc, od, .func (PySem.W.fnOf name qual params t.body t.sc .none kV doc pm an cdv ct), osl⟩ ∧ PySem.W.codeIn K cdv qual = true ∧ PySem.W.keepIn K (.ref f) = true ∧ mg x = some (.ref f) ∧ plainPar params t.ps
  sc : FnScope t.N t.ps t.sc
/-- the meaning of a def by levels of calls -/
def fL (G : GS) (T : Str → Option FT) (dep : Nat) : Nat → FT → BF
  | 0, _ => fun _ _ => none
  | k + 1, t => bodyF t.N t.ps ((semF G (fun x => (T x).map fun u => (u.ps, fL G T dep k u)) dep).S ⟨t.N, t.sc, fun _ => true⟩ t.body)
def cfL (G : GS) (T : Str → Option FT) (dep k : Nat) : CFt := fun x => (T x).map fun u => (u.ps, fL G T dep k u)
section
variable {G : GS} {P : Program} {w : World} {K : PySem.W.Frag} {mg : Mg} {base : Heap} {T : Str → Option FT} {dep : Nat}
theorem fn_ok (tx : Txt G K mg) (sys : ∃ o, base.get? sysModules = some o) {k : Nat} {cf : CFt} {x : Str} {t : FT} (dt : DefAt K mg x t)
    (hc : ∀ y ps f, cf y = some (ps, f) → ∃ a fd, FnI P w K mg base k a fd ps (fun ds S => f S ds) ∧ mg y = some (.ref a) ∧ PySem.W.keepIn K (.ref a) = true ∧ Bnd fd ps) :
    ∃ a fd, FnI P w K mg base (k + 1) a fd t.ps (fun ds S => bodyF t.N t.ps ((semF G cf dep).S ⟨t.N, t.sc, fun _ => true⟩ t.body) S ds) ∧ mg x = some (.ref a) ∧ PySem.W.keepIn K (.ref a) = true ∧ Bnd fd t.ps := by
  obtain ⟨⟨f, oc, od, kV, doc, pm, an, cdv, ct, osl, params, name, qual, lk, hcd, kp, hm, pp⟩, S⟩ := dt
  have ndP : t.ps.Nodup := by
    have := S.nd.sublist (List.take_sublist t.ps.length t.N)
    rwa [S.pre] at this
  refine ⟨f, _, ⟨fun A outer s H args us vs B St0 ds d S' Q hr hgd e0 hb hl rv hS hd hcf q => ?_⟩, hm, kp, bnd_of (fd := PySem.W.fnOf name qual params t.body t.sc .none kV doc pm an cdv ct) pp rfl ndP⟩
  have kin : K.In s.heap := e0.mod.kin.keeps fun b o e => (e0.bs b o e).1
  have nlm : s.heap.NoLimit := e0.mod.nolimit.keeps fun b o e => (e0.bs b o e).1
  have hlv : vs.length = t.ps.length := by rw [rv.length]; exact hl
  refine Att.call_fn kin nlm lk hcd hr.depth hb (List.all_eq_true.mpr fun y hy => ?_) (fun s1 x1 => ?_) S.co S.gen S.kind
  · rcases S.par y.1 (List.of_mem_zip hy).1 with z | z <;> rw [z] <;> rfl
  · have I1 := inv_start (CX := L2.CX0) (E := L2.E0) (qual := qual) (f := f) (cd := cdv) S hr.hd e0 hlv rv x1
    have I2 := I1.wish fun _ _ => False
    have hr2 := hr.deeper (envOfC qual t.sc s.heap.objs.size f cdv)
    have g : Good G cf (cxOf L2.CX0 P w K mg base t.N qual t.sc f cdv A outer s H L2.E0).nox ⟨t.N, t.sc, fun _ => true⟩ :=
      ⟨⟨rfl, hgd, by have := hr2.un; show (A.deeper _).units + 65 < _; omega, sys⟩, rfl, rfl, S.nd, rfl, S.kind, rfl, tx.gk, tx.bl, fun y ps f' e => by
        obtain ⟨a, fd, q1, q2, q3, q4⟩ := hc y ps f' e
        exact ⟨k, a, fd, q1, hr2, q2, q3, q4⟩⟩
    have body := (sem_sound G cf dep).S _ _ g t.body
    unfold bodyF at hcf
    split at hcf
    · obtain ⟨⟨fl, ev', S2⟩, e1, hcf⟩ := bind_some hcf
      have run := body.run [] s1 (L2.start t.N vs) H { nx := fun _ H' => Q .non H', rt := Q } I2 ⟨B, startD t.N ds, St0, fl, ev', S2, hS, er_start hd, e1, fun B1 H1 x2 s2 => by
        cases fl with
        | nx => cases hcf; exact fun σ' _ => q B1 H1 .non x2 s2 Dq.non
        | rt d' => cases hcf; exact fun v r => q B1 H1 v x2 s2 r
        | bk => cases hcf
        | ct => cases hcf⟩
      refine wpAny_mono run (fun fl s' h => ?_) (fun e s' h => h.elim)
      have fin : ∀ {σ' : St} {H' : Hp} {v : V} {u : Value}, Inv (cxOf L2.CX0 P w K mg base t.N qual t.sc f cdv A outer s H L2.E0).nox [] σ' H' s' → RelV v u → Q v H' → CE outer P w H s Q u s' :=
        fun {σ' H' v u} J rv' z => ⟨v, H', J.os, J.bare, J.base, J.hok, rv', z⟩
      cases fl with
      | next =>
        obtain ⟨σ', H', J, z⟩ := h
        exact fin (v := .non) (u := .none) J rfl z
      | ret u =>
        obtain ⟨v, σ', H', J, rv', z⟩ := h
        exact fin J rv' z
      | brk =>
        obtain ⟨_, _, _, z⟩ := h
        exact z.elim
      | cont =>
        obtain ⟨_, _, _, z⟩ := h
        exact z.elim
    · cases hcf
theorem fn_no {x : Str} {t : FT} (dt : DefAt K mg x t) : ∃ a fd, FnI P w K mg base 0 a fd t.ps (fun _ _ => none) ∧ mg x = some (.ref a) ∧ PySem.W.keepIn K (.ref a) = true ∧ Bnd fd t.ps := by
  obtain ⟨⟨f, oc, od, kV, doc, pm, an, cdv, ct, osl, params, name, qual, lk, hcd, kp, hm, pp⟩, S⟩ := dt
  have ndP : t.ps.Nodup := by
    have := S.nd.sublist (List.take_sublist t.ps.length t.N)
    rwa [S.pre] at this
  exact ⟨f, _, ⟨fun A outer s H args us vs B St0 ds d S' Q hr hgd e0 hb hl rv hS hd hcf q => by cases hcf⟩, hm, kp, bnd_of (fd := PySem.W.fnOf name qual params t.body t.sc .none kV doc pm an cdv ct) pp rfl ndP⟩
theorem cf_ok (tx : Txt G K mg) (sys : ∃ o, base.get? sysModules = some o) (hT : ∀ x t, T x = some t → DefAt K mg x t) : ∀ (k : Nat) (x : Str) (ps : List Str) (f : BF), cfL G T dep k x = some (ps, f) →
    ∃ a fd, FnI P w K mg base k a fd ps (fun ds S => f S ds) ∧ mg x = some (.ref a) ∧ PySem.W.keepIn K (.ref a) = true ∧ Bnd fd ps
  | 0, x, ps, f, e => by
    obtain ⟨t, h1, e⟩ := map_some e
    cases e
    exact fn_no (hT x t h1)
  | k + 1, x, ps, f, e => by
    obtain ⟨t, h1, e⟩ := map_some e
    cases e
    exact fn_ok tx sys (hT x t h1) fun y ps f e => cf_ok tx sys hT k y ps f e
/-- a def of the text where the top has written it -/
theorem def_mk {h : Heap} {x : Str} {t : FT} {f : Addr} {oc kV doc pm cdv ct : Value} {od an : Option Addr} {osl : Array (Option Value)} {params : Arguments} {name qual : Str} (X : K.In h) (Gn : h.Ns mainGlobals mg) (a : PySem.W.nsIn K mainGlobals x = some (some (.ref f)))
    (l : K.lookup f = some ⟨oc, od, .func (PySem.W.fnOf name qual params t.body t.sc .none kV doc pm an cdv ct), osl⟩) (c : PySem.W.codeIn K cdv qual = true) (k : PySem.W.keepIn K (.ref f) = true) (pp : plainPar params t.ps) (S : FnScope t.N t.ps t.sc) : DefAt K mg x t :=
  ⟨⟨f, oc, od, kV, doc, pm, an, cdv, ct, osl, params, name, qual, l, c, k, PySem.W.mg_of X Gn a, pp⟩, S⟩
end
end PI
set_option maxHeartbeats 1000000
/-! Own text: the end of a law: its def on the script. -/
namespace PI
open PySem PySem.Spec L2
open PyProof.Rows hiding St

/-- no list stands in the written part -/
def noLst (K : PySem.W.Frag) : Bool := K.all fun p => match p.2.cls, p.2.dict, p.2.data with
  | .type n, none, .seq _ _ => n == "tuple"
  | _, _, _ => true
theorem mem_lookup {K : PySem.W.Frag} {a : Addr} {o : Obj} (h : K.lookup a = some o) : (a, o) ∈ K := by
  induction K with
  | nil => cases h
  | cons p r ih =>
    obtain ⟨b, u⟩ := p
    by_cases e : a = b
    · subst e
      simp [List.lookup] at h
      subst h
      exact List.mem_cons_self
    · have e' : (a == b) = false := beq_eq_false_iff_ne.mpr e
      simp only [List.lookup, e'] at h
      exact List.mem_cons_of_mem _ (ih h)
theorem noLst_at {K : PySem.W.Frag} (h : noLst K = true) {a : Addr} {its : Array Value} {n : Nat} (e : K.lookup a = some { cls := .type "list", data := .seq its n }) : False := by
  have q := (List.all_eq_true.mp h) _ (mem_lookup e)
  revert q
  show ¬ (("list" == "tuple") = true)
  decide
theorem numsR {K : PySem.W.Frag} {B : BT} {H : Hp} : ∀ ns : List Int, DqAll K B H (ns.map V.int) (ns.map PyData.int)
  | [] => .nil
  | n :: r => .cons (.int n) (numsR r)
/-- the law's def called on a list of numbers -/
theorem end_call {P : Program} {w : World} {K : PySem.W.Frag} {mg mb : Str → Option Value} {k : Nat} {fa a : Addr} {x : Str} {cf : List D → Store → Option (D × Store)} {s1 : Shared} {us : List Value} {ns : List Int} {S' : Store}
    (kin : K.In s1.heap) (gns : s1.heap.Ns mainGlobals mg) (bns : s1.heap.Ns builtinsNs mb) (bbt : ∀ y : Str, y ≠ "__name__" → mb y = bootBuiltins y) (nlm : s1.heap.NoLimit) (gens : s1.gens = #[]) (sys : ∃ mm, s1.heap.Ns sysModules mm) (nol : noLst K = true)
    (la : s1.heap.get? a = some { cls := .type "list", data := .seq us.toArray }) (ia : IntsAre us ns) (ll : ns.length ≤ sizeLine) (room : Room k callerA)
    (F : ∀ base : Heap, K.In base → base.Ns mainGlobals mg → (∃ o, base.get? sysModules = some o) → ∃ fd : FuncData, FnI P w K mg base k fa fd [x] cf ∧ Bnd fd [x])
    (hcf : cf [.p (.list (ns.map .int))] [] = some (.p (.bool true), S')) :
    codeAny (model P w) callerA (.call (.ref fa) ⟨[.ref a], []⟩) (fun r s' => r = .ok (.ret (.bool true)) ∧ OldK s1.heap s'.heap ∧ s'.os = s1.os ∧ AllBare s'.gens) s1 := by
  have rv := vals_ints ia
  have nK : K.lookup a = none := by
    cases e : K.lookup a with
    | none => rfl
    | some o =>
      have := kin a o e
      rw [la] at this
      cases this
      exact (noLst_at nol e).elim
  -- the script alone is tracked, as it stands
  let H : Hp := fun b => if b = a then some (.frz { cls := .type "list", data := .seq us.toArray } (.lst (ns.map V.int))) else none
  have atA : H a = some (.frz { cls := .type "list", data := .seq us.toArray } (.lst (ns.map V.int))) := if_pos rfl
  have offA : ∀ {b : Addr}, b ≠ a → H b = none := fun h => if_neg h
  have onlyA : ∀ {b : Addr} {u : HO}, H b = some u → b = a := fun {b u} h => by
    by_cases e : b = a
    · exact e
    · rw [offA e] at h; cases h
  have okH : HOk P w H s1.heap := fun b u h => by
    obtain rfl := onlyA h
    rw [atA] at h
    cases h
    exact ⟨la, by rw [List.length_map]; exact ll, us, _, rv, la⟩
  have notA : ∀ {b : Addr} {m : Str → Option Value}, s1.heap.Ns b m → b ≠ a := fun {b m} ⟨o, es, ep, e, d, _⟩ z => by
    subst z
    rw [la] at e; cases e
    cases d
  have nsH : ∀ {b : Addr} {m : Str → Option Value}, s1.heap.Ns b m → (hidT s1.heap H).Ns b m := fun {b m} n => by
    have ne := notA n
    obtain ⟨o, es, ep, e, d, r⟩ := n
    exact ⟨o, es, ep, hidT_get e (offA ne), d, r⟩
  have kinH : K.In (hidT s1.heap H) := fun b o e => hidT_get (kin b o e) (offA fun z => by subst z; rw [nK] at e; cases e)
  have modH : Mod K mg (hidT s1.heap H) := ⟨kinH, nsH gns, ⟨mb, nsH bns, bbt⟩, by obtain ⟨mc, h1, h2⟩ := nlm; exact ⟨mc, nsH h1, h2⟩⟩
  have sysH : ∃ o, (hidT s1.heap H).get? sysModules = some o := by
    obtain ⟨mm, n⟩ := sys
    obtain ⟨o, es, ep, e, _⟩ := nsH n
    exact ⟨o, e⟩
  have e0 : Env0 P w K mg (hidT s1.heap H) callerA [] s1 H := ⟨rfl, modH, fun b o e => of_hidT e, Nat.le_of_eq (hidT_size _ _), trivial, fun b hb => (List.not_mem_nil hb).elim, okH, .of_eq gens⟩
  have sr : SR K mg ⟨[], []⟩ H [] := ⟨rfl, List.nodup_nil, fun b hb => (List.not_mem_nil hb).elim, fun n c b h1 h2 => by cases h2⟩
  have rd : RDs K mg ⟨[], []⟩ H [.p (.list (ns.map .int))] [.ref a] := .cons (Dq.lst ⟨.inr ⟨_, atA⟩, List.not_mem_nil⟩ (numsR ns)) .nil
  obtain ⟨fd, fn, bind⟩ := F _ kinH (nsH gns) sysH
  have bd : BindsTo s1 fd ⟨[.ref a], []⟩ [(x, .ref a)] := bind s1 [.ref a] [] [.ref a] [] [0] (if_pos ⟨rfl, List.nodup_nil, rfl, rfl⟩) rfl rfl
  refine codeAny_mono (fn.run callerA [] s1 H ⟨[.ref a], []⟩ [.ref a] [.ref a] ⟨[], []⟩ [] _ _ _ (fun v _ => v = .bl true) room rfl e0 bd rfl (.cons rfl .nil) sr rd hcf fun B' H' v _ _ r => by cases r; rfl) fun r s' h => ?_
  cases r with
  | error e => exact h.elim
  | ok fl =>
    cases fl with
    | ret u =>
      obtain ⟨v, H', os, bare, un, hok', r', rfl⟩ := h
      cases r'
      refine ⟨rfl, OldK.of_keep fun b o e => ?_, os, bare⟩
      by_cases hb : b = a
      · subst hb
        obtain ⟨e2, _⟩ := hok' b _ (un.frzs b _ _ atA)
        rw [la] at e; cases e
        exact e2
      · exact un.keep b o e (offA hb) (fun z => (List.not_mem_nil z).elim) (fun z => (List.not_mem_nil z).elim)
    | _ => exact h.elim
/-- what is left of a row behind its head -/
theorem end_walk {l : PySem.W.OpenLaw} {n k dep : Nat} {q : Program} {loose : List Str} {XP : (Str → Option Value) → Heap → Prop} {YP : World → Heap → Prop} {d : DefRec} {K : Params → PySem.W.Frag} {x : Str} {G : GS} {T : Str → Option FT}
    (hn : l.most = some n) (hn2 : n ≤ sizeLine) (hdf : d.params.defaults = []) (hq : importsNone q = true) (hr : Room k callerA)
    (hY : ∀ (w : World) (h : Heap), YP w h → (K w.params).In h)
    (nol : ∀ w : World, noLst (K w.params) = true)
    (tx : ∀ (w : World) (mg : Str → Option Value) (h : Heap), (K w.params).In h → h.Ns mainGlobals mg → Txt G (K w.params) mg ∧ ∀ y t, T y = some t → DefAt (K w.params) mg y t)
    (hcf : ∀ ns : List Int, ns.length ≤ n → ∃ f S', cfL G T dep k d.name = some ([x], f) ∧ f [] [.p (.list (ns.map .int))] = some (.p (.bool true), S')) :
    PySem.W.WalkO q loose XP YP l.row.toRowW d [] (fun f vs => PySem.call f vs) := by
  refine Att.attach_call hn hdf fun w s₀ s₁ mg mb fa o pm cd doc a vs ns Gd Y ho hd hcd hmg hobj hints hlen hg => ?_
  have kin := hY w _ Y
  obtain ⟨t1, t2⟩ := tx w mg _ kin Gd.T.g
  obtain ⟨f, S', e1, e2⟩ := hcf ns hlen
  have F : ∀ base : Heap, (∃ o, base.get? sysModules = some o) → ∃ a fd, FnI l.prog w (K w.params) mg base k a fd [x] (fun ds S => f S ds) ∧ mg d.name = some (.ref a) ∧ PySem.W.keepIn (K w.params) (.ref a) = true ∧ Bnd fd [x] := fun base sys =>
    cf_ok t1 sys t2 k d.name [x] f e1
  refine end_call (cf := fun ds S => f S ds) (x := x) kin Gd.T.g Gd.T.b Gd.T.builtins Gd.T.nolimit hg (let ⟨mm, z, _⟩ := (Gd.T.seer hq).mods; ⟨mm, z⟩) (nol w) hobj hints (Nat.le_trans hlen hn2) hr (fun base _ _ sys => ?_) e2
  obtain ⟨a', fd, q1, q2, q3, q4⟩ := F base sys
  rw [hmg] at q2
  cases q2
  exact ⟨fd, q1, q4⟩
end PI
set_option maxHeartbeats 1000000
/-! Own text: how the reading is worked out, step by step. -/
namespace PI
open PySem PySem.Spec L2
open PyProof.Rows hiding St

/-! every continuation has a name: what is behind stays as it is until it is reached -/
abbrev RD0 := Option (D × Store)
section
variable (ev : EnvI) (S : Store) (a b c : M) (as ks : Ms) (bx : Bool) (x y z : D)
@[simp] theorem mC_e (d : D) : mC d ev S = some (d, S) := rfl
def kGet (S : Store) : Option D → RD0
  | some d => some (d, S)
  | none => none
@[simp] theorem kGet_some (d : D) : kGet S (some d) = some (d, S) := rfl
@[simp] theorem mV_e (i : Nat) : mV i ev S = (ev[i]?).bind (kGet S) := by
  unfold mV
  cases h : ev[i]? with
  | none => rfl
  | some d => cases d <;> rfl
@[simp] theorem mNo_e : mNo ev S = none := rfl
def kBin2 (bx : Bool) (op : Operator) (w : D) (r : D × Store) : RD0 := PI.binI bx op r.2 w r.1
@[simp] theorem kBin2_e (bx : Bool) (op : Operator) (w : D) (x : D) (S : Store) : kBin2 bx op w (x, S) = PI.binI bx op S w x := rfl
def kBin1 (bx : Bool) (op : Operator) (b : M) (ev : EnvI) (r : D × Store) : RD0 := (b ev r.2).bind (kBin2 bx op r.1)
@[simp] theorem kBin1_e (bx : Bool) (op : Operator) (b : M) (ev : EnvI) (x : D) (S : Store) : kBin1 bx op b ev (x, S) = (b ev S).bind (kBin2 bx op x) := rfl
@[simp] theorem mBin_e (op : Operator) : mBin bx op a b ev S = (a ev S).bind (kBin1 bx op b ev) := rfl
def kBool (S : Store) (k : Bool) : RD0 := some (.p (.bool k), S)
@[simp] theorem kBool_e (k : Bool) : kBool S k = some (.p (.bool k), S) := rfl
theorem map_kBool (S : Store) (o : Option Bool) : (o.map fun c => ((.p (.bool c), S) : D × Store)) = o.bind (kBool S) := by cases o <;> rfl
def kCmp2 (op : CmpOp) (w : D) (r : D × Store) : RD0 := (cmpI op r.2 w r.1).bind (kBool r.2)
@[simp] theorem kCmp2_e (op : CmpOp) (w : D) (x : D) (S : Store) : kCmp2 op w (x, S) = (cmpI op S w x).bind (kBool S) := rfl
def kCmp1 (op : CmpOp) (b : M) (ev : EnvI) (r : D × Store) : RD0 := (b ev r.2).bind (kCmp2 op r.1)
@[simp] theorem kCmp1_e (op : CmpOp) (b : M) (ev : EnvI) (x : D) (S : Store) : kCmp1 op b ev (x, S) = (b ev S).bind (kCmp2 op x) := rfl
@[simp] theorem mCmp_e (op : CmpOp) : mCmp op a b ev S = (a ev S).bind (kCmp1 op b ev) := by
  unfold mCmp
  congr; funext r
  unfold kCmp1
  congr; funext t
  exact map_kBool _ _
def kCh3 (op : CmpOp) (w : D) (r : D × Store) : RD0 := (cmpI op r.2 w r.1).bind (kBool r.2)
@[simp] theorem kCh3_e (op : CmpOp) (w : D) (x : D) (S : Store) : kCh3 op w (x, S) = (cmpI op S w x).bind (kBool S) := rfl
def kCh2b (op : CmpOp) (c : M) (ev : EnvI) (S : Store) (y : D) (k : Bool) : RD0 := if k then (c ev S).bind (kCh3 op y) else some (.p (.bool false), S)
@[simp] theorem kCh2b_t (op : CmpOp) (y : D) : kCh2b op c ev S y true = (c ev S).bind (kCh3 op y) := rfl
@[simp] theorem kCh2b_f (op : CmpOp) (y : D) : kCh2b op c ev S y false = some (.p (.bool false), S) := rfl
def kCh2 (op op' : CmpOp) (c : M) (ev : EnvI) (w : D) (r : D × Store) : RD0 := (cmpI op r.2 w r.1).bind (kCh2b op' c ev r.2 r.1)
@[simp] theorem kCh2_e (op op' : CmpOp) (c : M) (ev : EnvI) (w : D) (x : D) (S : Store) : kCh2 op op' c ev w (x, S) = (cmpI op S w x).bind (kCh2b op' c ev S x) := rfl
def kCh1 (op op' : CmpOp) (b c : M) (ev : EnvI) (r : D × Store) : RD0 := (b ev r.2).bind (kCh2 op op' c ev r.1)
@[simp] theorem kCh1_e (op op' : CmpOp) (b c : M) (ev : EnvI) (x : D) (S : Store) : kCh1 op op' b c ev (x, S) = (b ev S).bind (kCh2 op op' c ev x) := rfl
@[simp] theorem mChain_e (op op' : CmpOp) : mChain op op' a b c ev S = (a ev S).bind (kCh1 op op' b c ev) := by
  unfold mChain
  congr; funext r
  unfold kCh1
  congr; funext t
  unfold kCh2
  congr; funext k
  cases k
  · rfl
  · show (c ev t.2).bind _ = (c ev t.2).bind _
    congr; funext q
    exact map_kBool _ _
def kNotB (S : Store) (k : Bool) : RD0 := some (.p (.bool (!k)), S)
@[simp] theorem kNotB_e (k : Bool) : kNotB S k = some (.p (.bool (!k)), S) := rfl
def kNot  (r : D × Store) : RD0 := (isTru r.1).bind (kNotB r.2)
@[simp] theorem kNot_e  (x : D) (S : Store) : kNot  (x, S) = (isTru x).bind (kNotB S) := rfl
@[simp] theorem mNot_e : mNot a ev S = (a ev S).bind kNot := by
  unfold mNot
  congr; funext r
  unfold kNot
  cases isTru r.1 <;> rfl
def kAndB (b : M) (ev : EnvI) (S : Store) (k : Bool) : RD0 := if k then b ev S else some (.p (.bool false), S)
@[simp] theorem kAndB_t : kAndB b ev S true = b ev S := rfl
@[simp] theorem kAndB_f : kAndB b ev S false = some (.p (.bool false), S) := rfl
def kOrB (b : M) (ev : EnvI) (S : Store) (k : Bool) : RD0 := if k then some (.p (.bool true), S) else b ev S
@[simp] theorem kOrB_t : kOrB b ev S true = some (.p (.bool true), S) := rfl
@[simp] theorem kOrB_f : kOrB b ev S false = b ev S := rfl
def kIteB (a b : M) (ev : EnvI) (S : Store) (k : Bool) : RD0 := if k then a ev S else b ev S
@[simp] theorem kIteB_t : kIteB a b ev S true = a ev S := rfl
@[simp] theorem kIteB_f : kIteB a b ev S false = b ev S := rfl
theorem kAndB_d (p : Prop) [Decidable p] : kAndB b ev S (decide p) = if p then b ev S else some (.p (.bool false), S) := by
  by_cases h : p <;> simp [h]
theorem kOrB_d (p : Prop) [Decidable p] : kOrB b ev S (decide p) = if p then some (.p (.bool true), S) else b ev S := by
  by_cases h : p <;> simp [h]
theorem kIteB_d (p : Prop) [Decidable p] : kIteB a b ev S (decide p) = if p then a ev S else b ev S := by
  by_cases h : p <;> simp [h]
def kAnd (b : M) (ev : EnvI) (r : D × Store) : RD0 := (isTru r.1).bind (kAndB b ev r.2)
@[simp] theorem kAnd_e (b : M) (ev : EnvI) (x : D) (S : Store) : kAnd b ev (x, S) = (isTru x).bind (kAndB b ev S) := rfl
def kOr (b : M) (ev : EnvI) (r : D × Store) : RD0 := (isTru r.1).bind (kOrB b ev r.2)
@[simp] theorem kOr_e (b : M) (ev : EnvI) (x : D) (S : Store) : kOr b ev (x, S) = (isTru x).bind (kOrB b ev S) := rfl
def kIte (a b : M) (ev : EnvI) (r : D × Store) : RD0 := (isTru r.1).bind (kIteB a b ev r.2)
@[simp] theorem kIte_e (a b : M) (ev : EnvI) (x : D) (S : Store) : kIte a b ev (x, S) = (isTru x).bind (kIteB a b ev S) := rfl
@[simp] theorem mAnd_e : mAnd a b ev S = (a ev S).bind (kAnd b ev) := rfl
@[simp] theorem mOr_e : mOr a b ev S = (a ev S).bind (kOr b ev) := rfl
@[simp] theorem mIf_e : mIf c a b ev S = (c ev S).bind (kIte a b ev) := rfl
def kNeg (r : D × Store) : RD0 := match r.1 with
  | .p (.int i) => some (.p (.int (-i)), r.2)
  | _ => none
@[simp] theorem kNeg_e (i : Int) : kNeg (.p (.int i), S) = some (.p (.int (-i)), S) := rfl
@[simp] theorem mNeg_e : mNeg a ev S = (a ev S).bind kNeg := rfl
@[simp] theorem mNil_e : mNil ev S = some ([], S) := rfl
def kCons2 (w : D) (r : List D × Store) : Option (List D × Store) := some (w :: r.1, r.2)
@[simp] theorem kCons2_e (w : D) (l : List D) (S : Store) : kCons2 w (l, S) = some (w :: l, S) := rfl
def kCons1 (as : Ms) (ev : EnvI) (r : D × Store) : Option (List D × Store) := (as ev r.2).bind (kCons2 r.1)
@[simp] theorem kCons1_e (as : Ms) (ev : EnvI) (x : D) (S : Store) : kCons1 as ev (x, S) = (as ev S).bind (kCons2 x) := rfl
@[simp] theorem mCons_e : mCons a as ev S = (a ev S).bind (kCons1 as ev) := by
  unfold mCons
  congr; funext r
  unfold kCons1
  cases as ev r.2 <;> rfl
def kTup2 (S : Store) (xs : List PyData) : RD0 := mkT xs S
@[simp] theorem kTup2_e (xs : List PyData) : kTup2 S xs = mkT xs S := rfl
def kTup  (r : List D × Store) : RD0 := (allP r.1).bind (kTup2 r.2)
@[simp] theorem kTup_e  (l : List D) (S : Store) : kTup  (l, S) = (allP l).bind (kTup2 S) := rfl
@[simp] theorem mTup_e : mTup as ev S = (as ev S).bind kTup := rfl
def kLst (bx : Bool) (r : List D × Store) : RD0 := mkL bx r.1 r.2
@[simp] theorem kLst_e (bx : Bool) (l : List D) (S : Store) : kLst bx (l, S) = mkL bx l S := rfl
@[simp] theorem mLst_e : mLst bx as ev S = (as ev S).bind (kLst bx) := rfl
def kPut (S : Store) (d : D) : RD0 := some (d, S)
@[simp] theorem kPut_e (d : D) : kPut S d = some (d, S) := rfl
def kIx2 (w : D) (r : D × Store) : RD0 := (ixI r.2 w r.1).bind (kPut r.2)
@[simp] theorem kIx2_e (w : D) (x : D) (S : Store) : kIx2 w (x, S) = (ixI S w x).bind (kPut S) := rfl
def kIx1 (b : M) (ev : EnvI) (r : D × Store) : RD0 := (b ev r.2).bind (kIx2 r.1)
@[simp] theorem kIx1_e (b : M) (ev : EnvI) (x : D) (S : Store) : kIx1 b ev (x, S) = (b ev S).bind (kIx2 x) := rfl
@[simp] theorem mIx_e : mIx a b ev S = (a ev S).bind (kIx1 b ev) := by
  unfold mIx
  congr; funext r
  unfold kIx1
  congr; funext t
  unfold kIx2
  cases ixI t.2 r.1 t.1 <;> rfl
@[simp] theorem mONone_e : mONone ev S = some (none, S) := rfl
def kO (r : D × Store) : Option (Option Int × Store) := match r.1 with
  | .p (.int i) => some (some i, r.2)
  | _ => none
@[simp] theorem kO_e (i : Int) : kO (.p (.int i), S) = some (some i, S) := rfl
@[simp] theorem mOSome_e : mOSome a ev S = (a ev S).bind kO := rfl
def kSl3 (bx : Bool) (w : D) (lo : Option Int) (h : Option Int × Store) : RD0 := slI bx h.2 w lo h.1
@[simp] theorem kSl3_e (w : D) (lo hi : Option Int) : kSl3 bx w lo (hi, S) = slI bx S w lo hi := rfl
def kSl2 (bx : Bool) (hi : MO) (ev : EnvI) (w : D) (l : Option Int × Store) : RD0 := (hi ev l.2).bind (kSl3 bx w l.1)
@[simp] theorem kSl2_e (hi : MO) (w : D) (lo : Option Int) : kSl2 bx hi ev w (lo, S) = (hi ev S).bind (kSl3 bx w lo) := rfl
def kSl1 (bx : Bool) (lo hi : MO) (ev : EnvI) (r : D × Store) : RD0 := (lo ev r.2).bind (kSl2 bx hi ev r.1)
@[simp] theorem kSl1_e (lo hi : MO) (w : D) : kSl1 bx lo hi ev (w, S) = (lo ev S).bind (kSl2 bx hi ev w) := rfl
@[simp] theorem mSl_e (lo hi : MO) : mSl bx a lo hi ev S = (a ev S).bind (kSl1 bx lo hi ev) := rfl
def kRev2 (bx : Bool) (S : Store) (xs : List D) : RD0 := mkL bx xs.reverse S
@[simp] theorem kRev2_e (xs : List D) : kRev2 bx S xs = mkL bx xs.reverse S := rfl
def kRev (bx : Bool) (r : D × Store) : RD0 := revI bx r.2 r.1
@[simp] theorem kRev_e (bx : Bool) (x : D) (S : Store) : kRev bx (x, S) = revI bx S x := rfl
@[simp] theorem revI_t (xs : List PyData) : revI bx S (.p (.tuple xs)) = mkT xs.reverse S := rfl
@[simp] theorem revI_l (xs : List PyData) : revI bx S (.p (.list xs)) = mkL bx (xs.map .p).reverse S := rfl
@[simp] theorem revI_r (n : Nat) : revI bx S (.ref n) = (lstOf S (.ref n)).bind (kRev2 bx S) := rfl
@[simp] theorem mRev_e : mRev bx a ev S = (a ev S).bind (kRev bx) := rfl
def kBlt (f : BF) (r : List D × Store) : RD0 := f r.2 r.1
@[simp] theorem kBlt_e (f : BF) (l : List D) (S : Store) : kBlt f (l, S) = f S l := rfl
@[simp] theorem mBlt_e (f : BF) : mBlt f as ev S = (as ev S).bind (kBlt f) := rfl
def kMet4 (f : MF) (w : D) (r : List D × Store) : RD0 := f r.2 w r.1
@[simp] theorem kMet4_e (f : MF) (w : D) (l : List D) (S : Store) : kMet4 f w (l, S) = f S w l := rfl
def kMet3 (as : Ms) (ev : EnvI) (w : D) (S : Store) (f : MF) : RD0 := (as ev S).bind (kMet4 f w)
@[simp] theorem kMet3_e (w : D) (f : MF) : kMet3 as ev w S f = (as ev S).bind (kMet4 f w) := rfl
def kMet2 (n : Str) (as : Ms) (ev : EnvI) (w : D) (S : Store) (t : Tn) : RD0 := (metF t n).bind (kMet3 as ev w S)
@[simp] theorem kMet2_e (n : Str) (w : D) (t : Tn) : kMet2 n as ev w S t = (metF t n).bind (kMet3 as ev w S) := rfl
def kMet1 (n : Str) (as : Ms) (ev : EnvI) (r : D × Store) : RD0 := (tnOf r.2 r.1).bind (kMet2 n as ev r.1 r.2)
@[simp] theorem kMet1_e (n : Str) (as : Ms) (ev : EnvI) (x : D) (S : Store) : kMet1 n as ev (x, S) = (tnOf S x).bind (kMet2 n as ev x S) := rfl
@[simp] theorem mMet_e (n : Str) : mMet n a as ev S = (a ev S).bind (kMet1 n as ev) := rfl
@[simp] theorem met_append : metF .lst "append" = some mAppend := rfl
@[simp] theorem met_pop : metF .lst "pop" = some mPop := rfl
@[simp] theorem met_upper : metF .str "upper" = some mUpper := rfl
@[simp] theorem met_get : metF .dct "get" = some mGet := rfl
def kCall3 (cf : BF) (S : Store) (l : List D) : RD0 := cf S l
@[simp] theorem kCall3_e (cf : BF) (l : List D) : kCall3 cf S l = cf S l := rfl
def kCall2 (cf : BF) (ix : List Nat) (ws : List D) (r : List D × Store) : RD0 := (permD (ws ++ r.1) ix).bind (kCall3 cf r.2)
@[simp] theorem kCall2_e (cf : BF) (ix : List Nat) (ws : List D) (l : List D) (S : Store) : kCall2 cf ix ws (l, S) = (permD (ws ++ l) ix).bind (kCall3 cf S) := rfl
def kCall1 (cf : BF) (ix : List Nat) (ks : Ms) (ev : EnvI) (r : List D × Store) : RD0 := (ks ev r.2).bind (kCall2 cf ix r.1)
@[simp] theorem kCall1_e (cf : BF) (ix : List Nat) (ks : Ms) (ev : EnvI) (l : List D) (S : Store) : kCall1 cf ix ks ev (l, S) = (ks ev S).bind (kCall2 cf ix l) := rfl
@[simp] theorem mCall_e (cf : BF) (ix : List Nat) : mCall cf ix as ks ev S = (as ev S).bind (kCall1 cf ix ks ev) := rfl
@[simp] theorem permD0 {α : Type} (l : List α) : permD l [] = some [] := rfl
def kPerm (x : D) (xs : List D) : Option (List D) := some (x :: xs)
@[simp] theorem kPerm_e (l : List D) : kPerm x l = some (x :: l) := rfl
def kPerm0 (l : List D) (r : List Nat) (x : D) : Option (List D) := (permD l r).bind (kPerm x)
@[simp] theorem kPerm0_e (l : List D) (r : List Nat) : kPerm0 l r x = (permD l r).bind (kPerm x) := rfl
@[simp] theorem permD1 (l : List D) (i : Nat) (r : List Nat) : permD l (i :: r) = (l[i]?).bind (kPerm0 l r) := by
  unfold permD
  cases l[i]? with
  | none => rfl
  | some x => show _ = (permD l r).bind _; cases permD l r <;> rfl
@[simp] theorem mpNil_e : mpNil ev S = some ([], S) := rfl
def kDic (bx : Bool) (r : List (Key × D) × Store) : RD0 := if r.1.length ≤ 15 then mkD bx (mergeD [] r.1) r.2 else none
@[simp] theorem kDic_e (l : List (Key × D)) : kDic bx (l, S) = if l.length ≤ 15 then mkD bx (mergeD [] l) S else none := rfl
@[simp] theorem mDic_e (p : Mp) : mDic bx p ev S = (p ev S).bind (kDic bx) := rfl
def kIter2 (S : Store) (f : Src) : Option (Src × Store) := some (f, S)
@[simp] theorem kIter2_e (f : Src) : kIter2 S f = some (f, S) := rfl
def kIter (r : D × Store) : Option (Src × Store) := (srcOf r.2 r.1).bind (kIter2 r.2)
@[simp] theorem kIter_e : kIter (x, S) = (srcOf S x).bind (kIter2 S) := rfl
@[simp] theorem mIter_e : mIter a ev S = (a ev S).bind kIter := by
  unfold mIter
  congr; funext r
  unfold kIter
  cases srcOf r.2 r.1 <;> rfl
abbrev RS0 := Option (Fl × EnvI × Store)
@[simp] theorem sNil_e : sNil ev S = some (.nx, ev, S) := rfl
def kSeq (w : MS) (r : Fl × EnvI × Store) : RS0 := match r.1 with
  | .nx => w r.2.1 r.2.2
  | f => some (f, r.2.1, r.2.2)
@[simp] theorem kSeq_nx (w : MS) : kSeq w (.nx, ev, S) = w ev S := rfl
@[simp] theorem kSeq_rt (w : MS) : kSeq w (.rt x, ev, S) = some (.rt x, ev, S) := rfl
@[simp] theorem kSeq_bk (w : MS) : kSeq w (.bk, ev, S) = some (.bk, ev, S) := rfl
@[simp] theorem kSeq_ct (w : MS) : kSeq w (.ct, ev, S) = some (.ct, ev, S) := rfl
@[simp] theorem sSeq_e (v w : MS) : sSeq v w ev S = (v ev S).bind (kSeq w) := rfl
def kEx (ev : EnvI) (r : D × Store) : RS0 := some (.nx, ev, r.2)
@[simp] theorem kEx_e : kEx ev (x, S) = some (.nx, ev, S) := rfl
@[simp] theorem sEx_e : sEx a ev S = (a ev S).bind (kEx ev) := by
  unfold sEx
  cases a ev S <;> rfl
def kRet (ev : EnvI) (r : D × Store) : RS0 := some (.rt r.1, ev, r.2)
@[simp] theorem kRet_e : kRet ev (x, S) = some (.rt x, ev, S) := rfl
@[simp] theorem sRet_e : sRet a ev S = (a ev S).bind (kRet ev) := by
  unfold sRet
  cases a ev S <;> rfl
@[simp] theorem sRetN_e : sRetN ev S = some (.rt (.p .none), ev, S) := rfl
@[simp] theorem sBrk_e : sBrk ev S = some (.bk, ev, S) := rfl
@[simp] theorem sCnt_e : sCnt ev S = some (.ct, ev, S) := rfl
@[simp] theorem sNo_e : sNo ev S = none := rfl
def kIfB (v w : MS) (ev : EnvI) (S : Store) (k : Bool) : RS0 := if k then v ev S else w ev S
@[simp] theorem kIfB_t (v w : MS) : kIfB v w ev S true = v ev S := rfl
@[simp] theorem kIfB_f (v w : MS) : kIfB v w ev S false = w ev S := rfl
theorem kIfB_d (v w : MS) (p : Prop) [Decidable p] : kIfB v w ev S (decide p) = if p then v ev S else w ev S := by
  by_cases h : p <;> simp [h]
def kIf (v w : MS) (ev : EnvI) (r : D × Store) : RS0 := (isTru r.1).bind (kIfB v w ev r.2)
@[simp] theorem kIf_e (v w : MS) : kIf v w ev (x, S) = (isTru x).bind (kIfB v w ev S) := rfl
@[simp] theorem sIf_e (v w : MS) : sIf c v w ev S = (c ev S).bind (kIf v w ev) := rfl
def kEnd (r : EnvI × Store) : RS0 := some (.nx, r.1, r.2)
@[simp] theorem kEnd_e : kEnd (ev, S) = some (.nx, ev, S) := rfl
def kAsg (g : MG) (ev : EnvI) (r : D × Store) : RS0 := (g r.1 ev r.2).bind kEnd
@[simp] theorem kAsg_e (g : MG) : kAsg g ev (x, S) = (g x ev S).bind kEnd := rfl
@[simp] theorem sAsg_e (g : MG) : sAsg a g ev S = (a ev S).bind (kAsg g ev) := by
  unfold sAsg
  congr; funext r
  unfold kAsg
  cases g r.1 ev r.2 <;> rfl
def kPar (g : List D → EnvI → Store → Option (EnvI × Store)) (ev : EnvI) (r : List D × Store) : RS0 := (g r.1 ev r.2).bind kEnd
@[simp] theorem kPar_e (g : List D → EnvI → Store → Option (EnvI × Store)) (l : List D) : kPar g ev (l, S) = (g l ev S).bind kEnd := rfl
@[simp] theorem sPar_e (g : List D → EnvI → Store → Option (EnvI × Store)) : sPar as g ev S = (as ev S).bind (kPar g ev) := by
  unfold sPar
  congr; funext r
  unfold kPar
  cases g r.1 ev r.2 <;> rfl
@[simp] theorem gP2_e (i j : Nat) : gP2 i j [x, y] ev S = some ((ev.set i (some x)).set j (some y), S) := rfl
@[simp] theorem gP3_e (i j l : Nat) : gP3 i j l [x, y, z] ev S = some (((ev.set i (some x)).set j (some y)).set l (some z), S) := rfl
@[simp] theorem gNm_e (i : Nat) : gNm i x ev S = some (ev.set i (some x), S) := rfl
def kSb3 (ev : EnvI) (S : Store) : Option (EnvI × Store) := some (ev, S)
@[simp] theorem kSb3_e : kSb3 ev S = some (ev, S) := rfl
def kSb2 (ev : EnvI) (w d : D) (r : D × Store) : Option (EnvI × Store) := (setI r.2 w r.1 d).bind (kSb3 ev)
@[simp] theorem kSb2_e (w d : D) : kSb2 ev w d (x, S) = (setI S w x d).bind (kSb3 ev) := rfl
def kSb1 (i : M) (ev : EnvI) (d : D) (r : D × Store) : Option (EnvI × Store) := (i ev r.2).bind (kSb2 ev r.1 d)
@[simp] theorem kSb1_e (i : M) (d : D) : kSb1 i ev d (x, S) = (i ev S).bind (kSb2 ev x d) := rfl
@[simp] theorem gSb_e (o i : M) (d : D) : gSb o i d ev S = (o ev S).bind (kSb1 i ev d) := by
  unfold gSb
  congr; funext r
  unfold kSb1
  congr; funext t
  unfold kSb2
  cases setI t.2 r.1 t.1 d <;> rfl
@[simp] theorem gTp_e (n : Nat) (r : List D → EnvI → Store → Option (EnvI × Store)) (xs : List PyData) : gTp n r (.p (.tuple xs)) ev S = if xs.length = n then r (xs.map .p) ev S else none := rfl
@[simp] theorem gsNil_e : gsNil [] ev S = some (ev, S) := rfl
def kGs (r : List D → EnvI → Store → Option (EnvI × Store)) (ds : List D) (a : EnvI × Store) : Option (EnvI × Store) := r ds a.1 a.2
@[simp] theorem kGs_e (r : List D → EnvI → Store → Option (EnvI × Store)) (ds : List D) : kGs r ds (ev, S) = r ds ev S := rfl
@[simp] theorem gsCons_e (g : MG) (r : List D → EnvI → Store → Option (EnvI × Store)) (d : D) (ds : List D) : gsCons g r (d :: ds) ev S = (g d ev S).bind (kGs r ds) := rfl
@[simp] theorem mYes_e : mYes ev S = some (.p (.bool true), S) := rfl
/-- the body of a def has ended -/
def kBody (r : Fl × EnvI × Store) : RD0 := match r.1 with
  | .nx => some (.p .none, r.2.2)
  | .rt d => some (d, r.2.2)
  | _ => none
@[simp] theorem kBody_nx : kBody (.nx, ev, S) = some (.p .none, S) := rfl
@[simp] theorem kBody_rt : kBody (.rt x, ev, S) = some (x, S) := rfl
theorem bodyF_e (N ps : List Str) (w : MS) (ds : List D) (h : ds.length = ps.length) : bodyF N ps w S ds = (w (startD N ds) S).bind kBody := by
  unfold bodyF
  rw [if_pos h]
  rfl
end
section
variable (S : Store) (bx : Bool)
@[simp] theorem isTru_e (k : Bool) : isTru (.p (.bool k)) = some k := rfl
def kInt (S : Store) (k : Int) : Option (D × Store) := some (.p (.int k), S)
@[simp] theorem kInt_e (k : Int) : kInt S k = some (.p (.int k), S) := rfl
@[simp] theorem binI_int (op : Operator) (i j : Int) : PI.binI bx op S (.p (.int i)) (.p (.int j)) = (PI.intOp op i j).bind (kInt S) := by
  show (PI.intOp op i j).map _ = _
  cases PI.intOp op i j <;> rfl
@[simp] theorem intOp_add (i j : Int) : PI.intOp .Add i j = some (i + j) := rfl
@[simp] theorem intOp_sub (i j : Int) : PI.intOp .Sub i j = some (i - j) := rfl
@[simp] theorem intOp_mul (i j : Int) : PI.intOp .Mult i j = if (-18446744073709551616 < i ∧ i < 18446744073709551616) ∨ (-18446744073709551616 < j ∧ j < 18446744073709551616) then some (i * j) else none := rfl
@[simp] theorem intOp_mod (i j : Int) : PI.intOp .Mod i j = if 0 < j then some (i % j) else none := rfl
@[simp] theorem intOp_div (i j : Int) : PI.intOp .FloorDiv i j = if 0 < j ∧ j < 1073741824 then some (i / j) else none := rfl
theorem intOp_pow (i j : Int) : PI.intOp .Pow i j = if 0 ≤ j ∧ j ≤ 1000000 ∧ i.natAbs < 18446744073709551616 then some (i ^ j.toNat) else none := rfl
@[simp] theorem pow9 : PI.intOp .Pow 10 9 = some 1000000000 := by decide +kernel
@[simp] theorem pow18 : PI.intOp .Pow 10 18 = some 1000000000000000000 := by decide +kernel
@[simp] theorem pow19 : PI.intOp .Pow 10 19 = some 10000000000000000000 := by decide +kernel
@[simp] theorem pow20 : PI.intOp .Pow 10 20 = some 100000000000000000000 := by decide +kernel
@[simp] theorem pow30 : PI.intOp .Pow 10 30 = some 1000000000000000000000000000000 := by decide +kernel
@[simp] theorem pow38 : PI.intOp .Pow 10 38 = some 100000000000000000000000000000000000000 := by decide +kernel
@[simp] theorem pow39 : PI.intOp .Pow 10 39 = some 1000000000000000000000000000000000000000 := by decide +kernel
@[simp] theorem pow40 : PI.intOp .Pow 10 40 = some 10000000000000000000000000000000000000000 := by decide +kernel
@[simp] theorem bInt_i (i : Int) : bInt S [.p (.int i)] = some (.p (.int i), S) := rfl
@[simp] theorem bInt_b (b : Bool) : bInt S [.p (.bool b)] = some (.p (.int (if b then 1 else 0)), S) := rfl
@[simp] theorem bMax_e (i j : Int) : bMax S [.p (.int i), .p (.int j)] = some (.p (.int (if j > i then j else i)), S) := rfl
@[simp] theorem bMx_e (i j : Int) : bMx S [.p (.int i), .p (.int j)] = some (.p (.int (if j > i then j else i)), S) := rfl
@[simp] theorem bMn_e (i j : Int) : bMn S [.p (.int i), .p (.int j)] = some (.p (.int (if j < i then j else i)), S) := rfl
@[simp] theorem cmpI_ge (i j : Int) : cmpI .GtE S (.p (.int i)) (.p (.int j)) = some (decide (j ≤ i)) := rfl
@[simp] theorem cmpI_gt (i j : Int) : cmpI .Gt S (.p (.int i)) (.p (.int j)) = some (decide (j < i)) := rfl
@[simp] theorem cmpI_le (i j : Int) : cmpI .LtE S (.p (.int i)) (.p (.int j)) = some (decide (i ≤ j)) := rfl
@[simp] theorem cmpI_lt (i j : Int) : cmpI .Lt S (.p (.int i)) (.p (.int j)) = some (decide (i < j)) := rfl
def kFlip (b : Bool) : Option Bool := some !b
@[simp] theorem kFlip_e (b : Bool) : kFlip b = some !b := rfl
@[simp] theorem cmpI_ne (x y : D) : cmpI .NotEq S x y = (eqI S x y).bind kFlip := by
  show (eqI S x y).map _ = _
  cases eqI S x y <;> rfl
@[simp] theorem cmpI_eq (x y : D) : cmpI .Eq S x y = eqI S x y := rfl
end
end PI
set_option maxHeartbeats 1000000
/-! Own text: bounds of shown texts; data that repr can tell; loops with an invariant. -/
namespace PI
open PySem PySem.Spec L2
open PyProof.Rows hiding St

mutual
/-- at most so long is what is shown -/
def wt : PyData → Nat
  | .none => 5
  | .bool _ => 5
  | .int _ => 1922
  | .str x => 10 * x.length + 2
  | .list xs => wtAll xs + 3
  | .tuple xs => wtAll xs + 3
  | .dict kvs => wtKv kvs + 3
def wtAll : List PyData → Nat
  | [] => 0
  | x :: r => wt x + 2 + wtAll r
def wtKv : List (PyData × PyData) → Nat
  | [] => 0
  | (k, x) :: r => wt k + wt x + 4 + wtKv r
end
mutual
/-- sound texts, numbers not too long -/
def okS : PyData → Bool
  | .none => true
  | .bool _ => true
  | .int i => decide (i.natAbs.log2 < 1920)
  | .str x => PyData.strOk x
  | .list xs => okAll xs
  | .tuple xs => okAll xs
  | .dict kvs => okKv kvs
def okAll : List PyData → Bool
  | [] => true
  | x :: r => okS x && okAll r
def okKv : List (PyData × PyData) → Bool
  | [] => true
  | (k, x) :: r => okS k && okS x && okKv r
end
theorem textFrom_le : ∀ (ts : List Str) (k : Nat) (acc : Str), (textFrom k acc ts).length ≤ acc.length + piled ts
  | [], k, acc => by show acc.length ≤ _; omega
  | t :: r, k, acc => by
    have ih := textFrom_le r (k + 1) (acc ++ (if k > 0 then ", " else "" : String) ++ t)
    have e : (acc ++ (if k > 0 then ", " else "" : String) ++ t).length ≤ acc.length + 2 + t.length := by
      rw [strLen_append, strLen_append]
      split
      · have : ((", " : String) : Str).length = 2 := rfl
        omega
      · have : (("" : String) : Str).length = 0 := rfl
        omega
    rw [piled_cons]
    show (textFrom (k + 1) _ r).length ≤ _
    omega
theorem listText_le (ts : List Str) : (listText ts).length ≤ piled ts + 2 := by
  have := textFrom_le ts 0 "["
  unfold listText
  rw [strLen_append]
  have h1 : (("[" : String) : Str).length = 1 := rfl
  have h2 : (("]" : String) : Str).length = 1 := rfl
  omega
theorem join_le (ts : List Str) : (Str.join ", " ts).length ≤ piled ts := by
  cases ts with
  | nil => exact Nat.le_of_eq rfl
  | cons t r =>
    have := join_length_add (t :: r) (by simp)
    omega
theorem tupleText_le (ts : List Str) : (tupleText ts).length ≤ piled ts + 3 := by
  have := join_le ts
  unfold tupleText
  rw [strLen_append, strLen_append]
  have h1 : (("(" : String) : Str).length = 1 := rfl
  have h2 : ((if ts.length == 1 then ",)" else ")" : String) : Str).length ≤ 2 := by
    split
    · exact Nat.le_of_eq rfl
    · exact Nat.le_succ_of_le (Nat.le_of_eq rfl)
  omega
theorem dictText_le (ts : List Str) : (dictText ts).length ≤ piled ts + 2 := by
  have := join_le ts
  unfold dictText
  rw [strLen_append, strLen_append]
  have h1 : (("{" : String) : Str).length = 1 := rfl
  have h2 : (("}" : String) : Str).length = 1 := rfl
  omega
theorem strOk_lt {x : Str} (h : PyData.strOk x = true) : ∀ c ∈ x.cps.toList, c < 16 ^ 8 := fun c hc => by
  unfold PyData.strOk at h
  rw [Array.all_eq_true_iff_forall_mem] at h
  have := of_decide_eq_true (h c (by simpa using hc))
  exact Nat.lt_trans this (by decide)
mutual
theorem shown_le : ∀ d : PyData, okS d = true → (PyData.shown d).length ≤ wt d
  | .none, _ => by decide
  | .bool b, _ => by cases b <;> decide
  | .int i, h => by
    have h : i.natAbs.log2 < 1920 := of_decide_eq_true h
    exact Nat.le_succ_of_le (int_text_len_1921 h)
  | .str x, h => StrLaws.reprText_len x (strOk_lt h)
  | .list xs, h => by
    have h1 := shownAll_le xs h
    have h2 := listText_le (PyData.shownAll xs)
    show (listText _).length ≤ wtAll xs + 3
    omega
  | .tuple xs, h => by
    have h1 := shownAll_le xs h
    have h2 := tupleText_le (PyData.shownAll xs)
    show (tupleText _).length ≤ wtAll xs + 3
    omega
  | .dict kvs, h => by
    have h1 := shownKv_le kvs h
    have h2 := dictText_le (PyData.shownKv kvs)
    show (dictText _).length ≤ wtKv kvs + 3
    omega
theorem shownAll_le : ∀ xs : List PyData, okAll xs = true → piled (PyData.shownAll xs) ≤ wtAll xs
  | [], _ => Nat.le_refl _
  | x :: r, h => by
    have h := (Bool.and_eq_true_iff.mp h)
    have h1 := shown_le x h.1
    have h2 := shownAll_le r h.2
    show piled (PyData.shown x :: PyData.shownAll r) ≤ wt x + 2 + wtAll r
    rw [piled_cons]
    omega
theorem shownKv_le : ∀ kvs : List (PyData × PyData), okKv kvs = true → piled (PyData.shownKv kvs) ≤ wtKv kvs
  | [], _ => Nat.le_refl _
  | (k, x) :: r, h => by
    have h := (Bool.and_eq_true_iff.mp h)
    have h0 := (Bool.and_eq_true_iff.mp h.1)
    have h1 := shown_le k h0.1
    have h3 := shown_le x h0.2
    have h2 := shownKv_le r h.2
    show piled ((PyData.shown k ++ ": " ++ PyData.shown x) :: PyData.shownKv r) ≤ wt k + wt x + 4 + wtKv r
    rw [piled_cons, strLen_append, strLen_append]
    have h4 : ((": " : String) : Str).length = 2 := rfl
    omega
end
mutual
theorem showable_of : ∀ d : PyData, okS d = true → PyData.showable d = true
  | .none, _ => rfl
  | .bool b, _ => rfl
  | .int i, h => h
  | .str x, h => rfl
  | .list xs, h => showableAll_of xs h
  | .tuple xs, h => showableAll_of xs h
  | .dict kvs, h => showableKv_of kvs h
theorem showableAll_of : ∀ xs : List PyData, okAll xs = true → PyData.showableAll xs = true
  | [], _ => rfl
  | x :: r, h => by
    have h := (Bool.and_eq_true_iff.mp h)
    exact Bool.and_eq_true_iff.mpr ⟨showable_of x h.1, showableAll_of r h.2⟩
theorem showableKv_of : ∀ kvs : List (PyData × PyData), okKv kvs = true → PyData.showableKv kvs = true
  | [], _ => rfl
  | (k, x) :: r, h => by
    have h := (Bool.and_eq_true_iff.mp h)
    have h0 := (Bool.and_eq_true_iff.mp h.1)
    exact Bool.and_eq_true_iff.mpr ⟨Bool.and_eq_true_iff.mpr ⟨showable_of k h0.1, showable_of x h0.2⟩, showableKv_of r h.2⟩
end
/-- repr tells it -/
def Fine (d : PyData) : Prop := okS d = true ∧ d.depth ≤ 64 ∧ wt d ≤ 16777216
theorem repr_fine {S : Store} {d : PyData} (h : Fine d) : bRepr S [.p d] = some (.p (.str d.shown), S) := by
  obtain ⟨h1, h2, h3⟩ := h
  show (if d.showable = true ∧ d.depth ≤ 64 ∧ d.shown.length ≤ sizeLine then some (D.p (.str d.shown), S) else none) = _
  rw [if_pos ⟨showable_of d h1, h2, Nat.le_trans (shown_le d h1) h3⟩]
theorem strOk_of (s : String) : PyData.strOk (Str.ofString s) = true := by
  unfold PyData.strOk
  rw [Array.all_eq_true_iff_forall_mem]
  intro c hc
  have hc : c ∈ (Str.ofString s).cps.toList := by simpa using hc
  rw [PyProof.Rows.signs_ofString] at hc
  obtain ⟨z, _, rfl⟩ := List.mem_map.mp hc
  have := z.valid
  rw [decide_eq_true_eq]
  rcases this with h | h
  · exact Nat.lt_trans h (by decide)
  · exact h.2
theorem log_small {i : Int} (h : i.natAbs < 2 ^ 1920) : i.natAbs.log2 < 1920 := by
  by_cases h0 : i.natAbs = 0
  · rw [h0]; decide
  · exact (Nat.log2_lt h0).mpr h

/-! ### loops with an invariant -/
def kTurn (body : MS) (r : EnvI × Store) : RS0 := body r.1 r.2
@[simp] theorem kTurn_e (body : MS) (ev : EnvI) (S : Store) : kTurn body (ev, S) = body ev S := rfl
theorem forL_inv {xs : List D} {g : MG} {body : MS} (Inv : Nat → EnvI → Store → Prop) (step : ∀ (i : Nat) (d : D) (ev : EnvI) (S : Store), xs[i]? = some d → Inv i ev S → ∃ ev2 S2, (g d ev S).bind (kTurn body) = some (.nx, ev2, S2) ∧ Inv (i + 1) ev2 S2) :
    ∀ (k i : Nat) (ev : EnvI) (S : Store), xs.length - i < k → i ≤ xs.length → Inv i ev S → ∃ ev' S', forLoop (srcL xs) g body k i ev S = some (.nx, ev', S') ∧ Inv xs.length ev' S'
  | 0, i, ev, S, h, _, _ => by omega
  | k + 1, i, ev, S, h, hi, q => by
    cases e : xs[i]? with
    | none =>
      have : xs.length ≤ i := List.getElem?_eq_none_iff.mp e
      obtain rfl : i = xs.length := by omega
      refine ⟨ev, S, ?_, q⟩
      show (some xs[xs.length]?).bind _ = _
      rw [e]; rfl
    | some d =>
      have hl : i < xs.length := (List.getElem?_eq_some_iff.mp e).1
      obtain ⟨ev2, S2, h12, h3⟩ := step i d ev S e q
      obtain ⟨⟨ev1, S1⟩, h1, h2⟩ := bind_some h12
      have h2 : body ev1 S1 = _ := h2
      obtain ⟨ev', S', h4, h5⟩ := forL_inv Inv step k (i + 1) ev2 S2 (by omega) hl h3
      refine ⟨ev', S', ?_, h5⟩
      show (some xs[i]?).bind _ = _
      rw [e]
      show (g d ev S).bind _ = _
      rw [h1]
      show (body ev1 S1).bind _ = _
      rw [h2]
      exact h4
theorem forN_inv {lo : Int} {n : Nat} {g : MG} {body : MS} (Inv : Nat → EnvI → Store → Prop) (step : ∀ (i : Nat) (ev : EnvI) (S : Store), i < n → Inv i ev S → ∃ ev2 S2, (g (.p (.int (lo + i))) ev S).bind (kTurn body) = some (.nx, ev2, S2) ∧ Inv (i + 1) ev2 S2) :
    ∀ (k i : Nat) (ev : EnvI) (S : Store), n - i < k → i ≤ n → Inv i ev S → ∃ ev' S', forLoop (srcN lo n) g body k i ev S = some (.nx, ev', S') ∧ Inv n ev' S'
  | 0, i, ev, S, h, _, _ => by omega
  | k + 1, i, ev, S, h, hi, q => by
    by_cases hl : i < n
    · obtain ⟨ev2, S2, h12, h3⟩ := step i ev S hl q
      obtain ⟨⟨ev1, S1⟩, h1, h2⟩ := bind_some h12
      have h2 : body ev1 S1 = _ := h2
      obtain ⟨ev', S', h4, h5⟩ := forN_inv Inv step k (i + 1) ev2 S2 (by omega) hl h3
      refine ⟨ev', S', ?_, h5⟩
      show (some (if i < n then some (D.p (.int (lo + i))) else none)).bind _ = _
      rw [if_pos hl]
      show (g _ ev S).bind _ = _
      rw [h1]
      show (body ev1 S1).bind _ = _
      rw [h2]
      exact h4
    · obtain rfl : i = n := by omega
      refine ⟨ev, S, ?_, q⟩
      show (some (if i < i then some (D.p (.int (lo + i))) else none)).bind _ = _
      rw [if_neg hl]; rfl
def kFor (L : Nat) (g : MG) (b : MS) (ev : EnvI) (r : Src × Store) : RS0 := forLoop r.1 g b L 0 ev r.2
@[simp] theorem kFor_e (L : Nat) (g : MG) (b : MS) (ev : EnvI) (f : Src) (S : Store) : kFor L g b ev (f, S) = forLoop f g b L 0 ev S := rfl
@[simp] theorem sFor_e (L : Nat) (mi : MIt) (g : MG) (b : MS) (ev : EnvI) (S : Store) : sFor L mi g b ev S = (mi ev S).bind (kFor L g b ev) := rfl
def kR1 (r : D × Store) : Option (Src × Store) := match r.1 with
  | .p (.int j) => if j.natAbs < 2 ^ 62 then some (srcN 0 j.toNat, r.2) else none
  | _ => none
@[simp] theorem kR1_e (S : Store) (j : Int) : kR1 (.p (.int j), S) = if j.natAbs < 4611686018427387904 then some (srcN 0 j.toNat, S) else none := rfl
@[simp] theorem mRng1_e (a : M) (ev : EnvI) (S : Store) : mRng1 a ev S = (a ev S).bind kR1 := rfl
def kR3 (x : D) (r : D × Store) : Option (Src × Store) := rng2 r.2 x r.1
@[simp] theorem kR3_e (S : Store) (i j : Int) : kR3 (.p (.int i)) (.p (.int j), S) = if i.natAbs < 4611686018427387904 ∧ j.natAbs < 4611686018427387904 then some (srcN i (j - i).toNat, S) else none := rfl
def kR2 (b : M) (ev : EnvI) (r : D × Store) : Option (Src × Store) := (b ev r.2).bind (kR3 r.1)
@[simp] theorem kR2_e (b : M) (ev : EnvI) (S : Store) (x : D) : kR2 b ev (x, S) = (b ev S).bind (kR3 x) := rfl
@[simp] theorem mRng2_e (a b : M) (ev : EnvI) (S : Store) : mRng2 a b ev S = (a ev S).bind (kR2 b ev) := rfl
theorem cut_all {α : Type} {xs : List α} {n : Nat} (h : xs.length ≤ n) : cutD xs none (some (n : Int)) = xs := by
  unfold cutD
  rw [HT.sIx_none, HT.sIx_nat, Nat.min_eq_right h]
  simp
theorem ix_list {S : Store} {l : List PyData} {r : Int} (h0 : 0 ≤ r) (h1 : r < l.length) : ∃ x, x ∈ l ∧ ixI S (.p (.list l)) (.p (.int r)) = some (.p x) := by
  have hl : r.toNat < l.length := by omega
  refine ⟨l[r.toNat], List.getElem_mem hl, ?_⟩
  show atI (l.map D.p) r = _
  unfold atI ixN
  rw [if_pos h0, List.length_map, if_pos h1]
  show (l.map D.p)[r.toNat]? = _
  rw [List.getElem?_map, List.getElem?_eq_getElem hl]; rfl
section
variable (ev : EnvI) (S : Store) (x : D) (key : Key)
def kMp4 (key : Key) (d : D) (r : List (Key × D) × Store) : Option (List (Key × D) × Store) := some ((key, d) :: r.1, r.2)
@[simp] theorem kMp4_e (l : List (Key × D)) : kMp4 key x (l, S) = some ((key, x) :: l, S) := rfl
def kMp3 (m : Mp) (ev : EnvI) (key : Key) (r : D × Store) : Option (List (Key × D) × Store) := (m ev r.2).bind (kMp4 key r.1)
@[simp] theorem kMp3_e (m : Mp) : kMp3 m ev key (x, S) = (m ev S).bind (kMp4 key x) := rfl
def kMp2 (v : M) (m : Mp) (ev : EnvI) (S : Store) (key : Key) : Option (List (Key × D) × Store) := (v ev S).bind (kMp3 m ev key)
@[simp] theorem kMp2_e (v : M) (m : Mp) : kMp2 v m ev S key = (v ev S).bind (kMp3 m ev key) := rfl
def kMp1 (v : M) (m : Mp) (ev : EnvI) (r : D × Store) : Option (List (Key × D) × Store) := match r.1 with
  | .p y => (keyP y).bind (kMp2 v m ev r.2)
  | _ => none
@[simp] theorem kMp1_e (v : M) (m : Mp) (y : PyData) : kMp1 v m ev (.p y, S) = (keyP y).bind (kMp2 v m ev S) := rfl
@[simp] theorem mpCons_e (k v : M) (m : Mp) : mpCons k v m ev S = (k ev S).bind (kMp1 v m ev) := by
  unfold mpCons
  congr; funext r
  obtain ⟨d, S1⟩ := r
  cases d with
  | p y =>
    show (keyP y).bind _ = (keyP y).bind _
    congr; funext q
    unfold kMp2
    congr; funext t
    unfold kMp3
    cases m ev t.2 <;> rfl
  | _ => rfl
@[simp] theorem key_s (z : Str) : keyP (.str z) = some (.inr z) := rfl
@[simp] theorem key_i (z : Int) : keyP (.int z) = some (.inl z) := rfl
@[simp] theorem src_l (xs : List PyData) : srcOf S (.p (.list xs)) = some (srcL (xs.map .p)) := rfl
@[simp] theorem src_t (xs : List PyData) : srcOf S (.p (.tuple xs)) = some (srcL (xs.map .p)) := rfl
@[simp] theorem lst_l (xs : List PyData) : lstOf S (.p (.list xs)) = some (xs.map .p) := rfl
@[simp] theorem bList_l (xs : List PyData) : bList false S [.p (.list xs)] = if xs.length ≤ sizeLine then some (.p (.list xs), S) else none := by
  show mkL false (xs.map D.p) S = _
  unfold mkL
  rw [List.length_map]
  split
  · have : allP (xs.map D.p) = some xs := by
      induction xs with
      | nil => rfl
      | cons y r ih => simp only [List.map_cons, allP, ih (by simp only [List.length_cons] at *; omega)]; rfl
    simp [this]
  · rfl
@[simp] theorem len_l (xs : List PyData) : bLen S [.p (.list xs)] = some (.p (.int xs.length), S) := by
  show some (D.p (.int ((xs.map D.p).length : Nat)), S) = _
  rw [List.length_map]
@[simp] theorem len_t (xs : List PyData) : bLen S [.p (.tuple xs)] = some (.p (.int xs.length), S) := by
  show some (D.p (.int ((xs.map D.p).length : Nat)), S) = _
  rw [List.length_map]
end
@[simp] theorem isi_non_bl (S : Store)  : bIsi S [.p .none, .ty .bl] = some (.p (.bool false), S) := rfl
@[simp] theorem isi_non_int (S : Store)  : bIsi S [.p .none, .ty .int] = some (.p (.bool false), S) := rfl
@[simp] theorem isi_non_str (S : Store)  : bIsi S [.p .none, .ty .str] = some (.p (.bool false), S) := rfl
@[simp] theorem isi_non_lst (S : Store)  : bIsi S [.p .none, .ty .lst] = some (.p (.bool false), S) := rfl
@[simp] theorem isi_non_tup (S : Store)  : bIsi S [.p .none, .ty .tup] = some (.p (.bool false), S) := rfl
@[simp] theorem isi_non_dct (S : Store)  : bIsi S [.p .none, .ty .dct] = some (.p (.bool false), S) := rfl
@[simp] theorem isi_bl_bl (S : Store) (b : Bool) : bIsi S [.p (.bool b), .ty .bl] = some (.p (.bool true), S) := rfl
@[simp] theorem isi_bl_int (S : Store) (b : Bool) : bIsi S [.p (.bool b), .ty .int] = some (.p (.bool true), S) := rfl
@[simp] theorem isi_bl_str (S : Store) (b : Bool) : bIsi S [.p (.bool b), .ty .str] = some (.p (.bool false), S) := rfl
@[simp] theorem isi_bl_lst (S : Store) (b : Bool) : bIsi S [.p (.bool b), .ty .lst] = some (.p (.bool false), S) := rfl
@[simp] theorem isi_bl_tup (S : Store) (b : Bool) : bIsi S [.p (.bool b), .ty .tup] = some (.p (.bool false), S) := rfl
@[simp] theorem isi_bl_dct (S : Store) (b : Bool) : bIsi S [.p (.bool b), .ty .dct] = some (.p (.bool false), S) := rfl
@[simp] theorem isi_int_bl (S : Store) (i : Int) : bIsi S [.p (.int i), .ty .bl] = some (.p (.bool false), S) := rfl
@[simp] theorem isi_int_int (S : Store) (i : Int) : bIsi S [.p (.int i), .ty .int] = some (.p (.bool true), S) := rfl
@[simp] theorem isi_int_str (S : Store) (i : Int) : bIsi S [.p (.int i), .ty .str] = some (.p (.bool false), S) := rfl
@[simp] theorem isi_int_lst (S : Store) (i : Int) : bIsi S [.p (.int i), .ty .lst] = some (.p (.bool false), S) := rfl
@[simp] theorem isi_int_tup (S : Store) (i : Int) : bIsi S [.p (.int i), .ty .tup] = some (.p (.bool false), S) := rfl
@[simp] theorem isi_int_dct (S : Store) (i : Int) : bIsi S [.p (.int i), .ty .dct] = some (.p (.bool false), S) := rfl
@[simp] theorem isi_str_bl (S : Store) (z : Str) : bIsi S [.p (.str z), .ty .bl] = some (.p (.bool false), S) := rfl
@[simp] theorem isi_str_int (S : Store) (z : Str) : bIsi S [.p (.str z), .ty .int] = some (.p (.bool false), S) := rfl
@[simp] theorem isi_str_str (S : Store) (z : Str) : bIsi S [.p (.str z), .ty .str] = some (.p (.bool true), S) := rfl
@[simp] theorem isi_str_lst (S : Store) (z : Str) : bIsi S [.p (.str z), .ty .lst] = some (.p (.bool false), S) := rfl
@[simp] theorem isi_str_tup (S : Store) (z : Str) : bIsi S [.p (.str z), .ty .tup] = some (.p (.bool false), S) := rfl
@[simp] theorem isi_str_dct (S : Store) (z : Str) : bIsi S [.p (.str z), .ty .dct] = some (.p (.bool false), S) := rfl
@[simp] theorem isi_lst_bl (S : Store) (l : List PyData) : bIsi S [.p (.list l), .ty .bl] = some (.p (.bool false), S) := rfl
@[simp] theorem isi_lst_int (S : Store) (l : List PyData) : bIsi S [.p (.list l), .ty .int] = some (.p (.bool false), S) := rfl
@[simp] theorem isi_lst_str (S : Store) (l : List PyData) : bIsi S [.p (.list l), .ty .str] = some (.p (.bool false), S) := rfl
@[simp] theorem isi_lst_lst (S : Store) (l : List PyData) : bIsi S [.p (.list l), .ty .lst] = some (.p (.bool true), S) := rfl
@[simp] theorem isi_lst_tup (S : Store) (l : List PyData) : bIsi S [.p (.list l), .ty .tup] = some (.p (.bool false), S) := rfl
@[simp] theorem isi_lst_dct (S : Store) (l : List PyData) : bIsi S [.p (.list l), .ty .dct] = some (.p (.bool false), S) := rfl
@[simp] theorem isi_tup_bl (S : Store) (l : List PyData) : bIsi S [.p (.tuple l), .ty .bl] = some (.p (.bool false), S) := rfl
@[simp] theorem isi_tup_int (S : Store) (l : List PyData) : bIsi S [.p (.tuple l), .ty .int] = some (.p (.bool false), S) := rfl
@[simp] theorem isi_tup_str (S : Store) (l : List PyData) : bIsi S [.p (.tuple l), .ty .str] = some (.p (.bool false), S) := rfl
@[simp] theorem isi_tup_lst (S : Store) (l : List PyData) : bIsi S [.p (.tuple l), .ty .lst] = some (.p (.bool false), S) := rfl
@[simp] theorem isi_tup_tup (S : Store) (l : List PyData) : bIsi S [.p (.tuple l), .ty .tup] = some (.p (.bool true), S) := rfl
@[simp] theorem isi_tup_dct (S : Store) (l : List PyData) : bIsi S [.p (.tuple l), .ty .dct] = some (.p (.bool false), S) := rfl
@[simp] theorem isi_dct_bl (S : Store) (kv : List (PyData × PyData)) : bIsi S [.p (.dict kv), .ty .bl] = some (.p (.bool false), S) := rfl
@[simp] theorem isi_dct_int (S : Store) (kv : List (PyData × PyData)) : bIsi S [.p (.dict kv), .ty .int] = some (.p (.bool false), S) := rfl
@[simp] theorem isi_dct_str (S : Store) (kv : List (PyData × PyData)) : bIsi S [.p (.dict kv), .ty .str] = some (.p (.bool false), S) := rfl
@[simp] theorem isi_dct_lst (S : Store) (kv : List (PyData × PyData)) : bIsi S [.p (.dict kv), .ty .lst] = some (.p (.bool false), S) := rfl
@[simp] theorem isi_dct_tup (S : Store) (kv : List (PyData × PyData)) : bIsi S [.p (.dict kv), .ty .tup] = some (.p (.bool false), S) := rfl
@[simp] theorem isi_dct_dct (S : Store) (kv : List (PyData × PyData)) : bIsi S [.p (.dict kv), .ty .dct] = some (.p (.bool true), S) := rfl
@[simp] theorem cmpI_in (S : Store) (x y : D) : cmpI .In S x y = PI.memI S x y := rfl
@[simp] theorem eq_ss (S : Store) (a b : Str) : eqI S (.p (.str a)) (.p (.str b)) = some (decide (a = b)) := rfl
@[simp] theorem eq_is (S : Store) (i : Int) (b : Str) (hb : PyData.strOk b = true) : eqI S (.p (.int i)) (.p (.str b)) = some false := by
  show eqG S (.p (.int i)) (.p (.str b)) = _
  show (if SeqAt.shaped (.int i) = true ∧ SeqAt.shaped (.str b) = true then _ else none) = _
  rw [if_pos ⟨rfl, by unfold SeqAt.shaped; simp [PyData.canLay0, hb, PyData.depth]⟩]
  rfl
@[simp] theorem ok_of (s : String) : PyData.strOk (Str.ofString s) = true := strOk_of s
@[simp] theorem cat_l (S : Store) (bx : Bool) (a b : List PyData) : PI.binI bx .Add S (.p (.list a)) (.p (.list b)) = mkL bx (a.map .p ++ b.map .p) S := rfl
@[simp] theorem cat_t (S : Store) (bx : Bool) (a b : List PyData) : PI.binI bx .Add S (.p (.tuple a)) (.p (.tuple b)) = mkT (a ++ b) S := rfl
@[simp] theorem mul_l (S : Store) (bx : Bool) (a : List PyData) (k : Int) : PI.binI bx .Mult S (.p (.list a)) (.p (.int k)) = if -9223372036854775808 ≤ k ∧ k < 9223372036854775808 then mkL bx (List.replicate k.toNat (a.map .p)).flatten S else none := rfl
@[simp] theorem mul_t (S : Store) (bx : Bool) (a : List PyData) (k : Int) : PI.binI bx .Mult S (.p (.tuple a)) (.p (.int k)) = if a ≠ [] ∧ k = 1 then some (.p (.tuple a), S) else if a ≠ [] ∧ k = 0 then some (.p (.tuple []), S) else if a ≠ [] ∧ 2 ≤ k ∧ k ≤ 1000 ∧ a.length ≤ 1000 then some (.p (.tuple (List.replicate k.toNat a).flatten), S) else none := rfl
instance (d : PyData) : Decidable (Fine d) := by unfold Fine; infer_instance
end PI
set_option maxHeartbeats 1000000
/-! Own text: the deck in the store: its cells at 0, itself at 1, other boxes behind. -/
namespace PI
open PySem PySem.Spec L2
open PyProof.Rows hiding St

def DS (xs : List Int) (mx dr : Int) (tl : Store) : Store := .lst (xs.map fun i => .p (.int i)) :: .dct [(.inr "left", .ref 0), (.inr "mixed", .p (.int mx)), (.inr "draws", .p (.int dr))] :: tl
theorem allP_ints : ∀ xs : List Int, allP (xs.map fun i => D.p (.int i)) = some (xs.map PyData.int)
  | [] => rfl
  | x :: r => by simp [allP, allP_ints r]
section
variable (xs : List Int) (mx dr i : Int) (tl : Store)
@[simp] theorem ds_left : ixI (DS xs mx dr tl) (.ref 1) (.p (.str "left")) = some (.ref 0) := rfl
@[simp] theorem ds_mixed : ixI (DS xs mx dr tl) (.ref 1) (.p (.str "mixed")) = some (.p (.int mx)) := rfl
@[simp] theorem ds_draws : ixI (DS xs mx dr tl) (.ref 1) (.p (.str "draws")) = some (.p (.int dr)) := rfl
@[simp] theorem ds_setd : setI (DS xs mx dr tl) (.ref 1) (.p (.str "draws")) (.p (.int i)) = some (DS xs mx i tl) := by
  have h : (3 : Nat) < sizeLine := by decide
  show (if 3 < sizeLine then _ else none) = _
  rw [if_pos h]; rfl
@[simp] theorem ds_setm : setI (DS xs mx dr tl) (.ref 1) (.p (.str "mixed")) (.p (.int i)) = some (DS xs i dr tl) := by
  have h : (3 : Nat) < sizeLine := by decide
  show (if 3 < sizeLine then _ else none) = _
  rw [if_pos h]; rfl
@[simp] theorem ds_tn : tnOf (DS xs mx dr tl) (.ref 0) = some .lst := rfl
@[simp] theorem ds_pop : mPop (DS (xs ++ [i]) mx dr tl) (.ref 0) [] = some (.p (.int i), DS xs mx dr tl) := by
  unfold mPop DS
  simp
theorem ds_app (h : xs.length < 64) : mAppend (DS xs mx dr tl) (.ref 0) [.p (.int i)] = some (.p .none, DS (xs ++ [i]) mx dr tl) := by
  have : xs.length < sizeLine := Nat.lt_trans h (by decide)
  unfold mAppend DS
  simp [this]
@[simp] theorem ds_none : eqI (DS [] mx dr tl) (.ref 0) (.p (.list [])) = some true := rfl
@[simp] theorem ds_some : eqI (DS (xs ++ [i]) mx dr tl) (.ref 0) (.p (.list [])) = some false := by
  cases xs <;> rfl
end
section
variable (m : Int) (x : Int)
theorem mod_lo (h : 0 < m) : (-18446744073709551616 < x % m) = True := eq_true (by have := Int.emod_nonneg x (Int.ne_of_gt h); omega)
theorem mod_hi (h : 0 < m) (h2 : m < 18446744073709551616) : (x % m < 18446744073709551616) = True := eq_true (by have := Int.emod_lt_of_pos x h; omega)
@[simp] theorem mod_lo1 : (-18446744073709551616 < x % 2147483647) = True := mod_lo _ x (by decide)
@[simp] theorem mod_hi1 : (x % 2147483647 < 18446744073709551616) = True := mod_hi _ x (by decide) (by decide)
@[simp] theorem mod_lo2 : (-18446744073709551616 < x % 2305843009213693951) = True := mod_lo _ x (by decide)
@[simp] theorem mod_hi2 : (x % 2305843009213693951 < 18446744073709551616) = True := mod_hi _ x (by decide) (by decide)
end
end PI
set_option maxHeartbeats 1000000
/-! Own text: comprehensions worked out with an invariant. -/
namespace PI
open PySem PySem.Spec L2
open PyProof.Rows hiding St

abbrev RL0 := Option (Option D × Store)
def kL4 (r : D × Store) : RL0 := some (some r.1, r.2)
@[simp] theorem kL4_e (y : D) (S : Store) : kL4 (y, S) = some (some y, S) := rfl
def kL3 (elt : M) (ev : EnvI) (S : Store) (b : Bool) : RL0 := if b then (elt ev S).bind kL4 else some (none, S)
@[simp] theorem kL3_t (elt : M) (ev : EnvI) (S : Store) : kL3 elt ev S true = (elt ev S).bind kL4 := rfl
@[simp] theorem kL3_f (elt : M) (ev : EnvI) (S : Store) : kL3 elt ev S false = some (none, S) := rfl
theorem kL3_d (elt : M) (ev : EnvI) (S : Store) (p : Prop) [Decidable p] : kL3 elt ev S (decide p) = if p then (elt ev S).bind kL4 else some (none, S) := by
  by_cases h : p <;> simp [h]
def kL2 (elt : M) (ev : EnvI) (r : D × Store) : RL0 := (isTru r.1).bind (kL3 elt ev r.2)
@[simp] theorem kL2_e (elt : M) (ev : EnvI) (x : D) (S : Store) : kL2 elt ev (x, S) = (isTru x).bind (kL3 elt ev S) := rfl
def kL1 (c elt : M) (r : EnvI × Store) : RL0 := (c r.1 r.2).bind (kL2 elt r.1)
@[simp] theorem kL1_e (c elt : M) (ev : EnvI) (S : Store) : kL1 c elt (ev, S) = (c ev S).bind (kL2 elt ev) := rfl
/-- one turn: an item or none -/
def lcTurn (g : MG) (c elt : M) (ev : EnvI) (d : D) (S : Store) : RL0 := (g d ev S).bind (kL1 c elt)
def addO (acc : List D) : Option D → List D
  | some y => acc ++ [y]
  | none => acc
@[simp] theorem addO_s (acc : List D) (y : D) : addO acc (some y) = acc ++ [y] := rfl
@[simp] theorem addO_n (acc : List D) : addO acc none = acc := rfl
theorem lc_step {src : Src} {g : MG} {c elt : M} {ev : EnvI} {k i : Nat} {acc : List D} {S S2 : Store} {d : D} {o : Option D} (h : src i S = some (some d)) (t : lcTurn g c elt ev d S = some (o, S2)) (hl : acc.length < sizeLine) :
    lcLoop src g c elt ev (k + 1) i acc S = lcLoop src g c elt ev k (i + 1) (addO acc o) S2 := by
  obtain ⟨⟨ev1, S1⟩, h1, t⟩ := bind_some t
  obtain ⟨⟨x, S3⟩, h2, t⟩ := bind_some t
  obtain ⟨b, h3, t⟩ := bind_some t
  have h2 : c ev1 S1 = some (x, S3) := h2
  have h3 : isTru x = some b := h3
  show (src i S).bind _ = _
  rw [h]
  show (g d ev S).bind _ = _
  rw [h1]
  show (c ev1 S1).bind _ = _
  rw [h2]
  show (isTru x).bind _ = _
  rw [h3]
  cases b with
  | false => cases t; rfl
  | true =>
    obtain ⟨⟨y, S4⟩, h4, t⟩ := bind_some (show (elt ev1 S3).bind kL4 = some (o, S2) from t)
    cases t
    show (elt ev1 S3).bind _ = _
    rw [h4]
    show (if acc.length < sizeLine then _ else none) = _
    rw [if_pos hl]; rfl
theorem addO_len (acc : List D) (o : Option D) : (addO acc o).length ≤ acc.length + 1 := by
  cases o <;> simp [addO]
theorem lcL_inv {xs : List D} {g : MG} {c elt : M} {ev : EnvI} (Inv : Nat → List D → Store → Prop) (hz : xs.length ≤ 16777215)
    (step : ∀ (i : Nat) (d : D) (acc : List D) (S : Store), xs[i]? = some d → Inv i acc S → ∃ o S2, lcTurn g c elt ev d S = some (o, S2) ∧ Inv (i + 1) (addO acc o) S2) :
    ∀ (k i : Nat) (acc : List D) (S : Store), xs.length - i < k → i ≤ xs.length → acc.length ≤ i → Inv i acc S → ∃ acc' S', lcLoop (srcL xs) g c elt ev k i acc S = some (acc', S') ∧ acc'.length ≤ xs.length ∧ Inv xs.length acc' S'
  | 0, i, acc, S, h, _, _, _ => by omega
  | k + 1, i, acc, S, h, hi, ha, q => by
    cases e : xs[i]? with
    | none =>
      have : xs.length ≤ i := List.getElem?_eq_none_iff.mp e
      obtain rfl : i = xs.length := by omega
      refine ⟨acc, S, ?_, ha, q⟩
      show (some xs[xs.length]?).bind _ = _
      rw [e]; rfl
    | some d =>
      have hl : i < xs.length := (List.getElem?_eq_some_iff.mp e).1
      obtain ⟨o, S2, h1, h2⟩ := step i d acc S e q
      have hal := addO_len acc o
      obtain ⟨acc', S', h3, h4, h5⟩ := lcL_inv Inv hz step k (i + 1) (addO acc o) S2 (by omega) hl (by omega) h2
      refine ⟨acc', S', ?_, h4, h5⟩
      rw [lc_step (d := d) (by show some xs[i]? = _; rw [e]) h1 (by rw [show sizeLine = 16777216 from rfl]; omega)]
      exact h3
theorem lcN_inv {lo : Int} {n : Nat} {g : MG} {c elt : M} {ev : EnvI} (Inv : Nat → List D → Store → Prop) (hz : n ≤ 16777215)
    (step : ∀ (i : Nat) (acc : List D) (S : Store), i < n → Inv i acc S → ∃ o S2, lcTurn g c elt ev (.p (.int (lo + i))) S = some (o, S2) ∧ Inv (i + 1) (addO acc o) S2) :
    ∀ (k i : Nat) (acc : List D) (S : Store), n - i < k → i ≤ n → acc.length ≤ i → Inv i acc S → ∃ acc' S', lcLoop (srcN lo n) g c elt ev k i acc S = some (acc', S') ∧ acc'.length ≤ n ∧ Inv n acc' S'
  | 0, i, acc, S, h, _, _, _ => by omega
  | k + 1, i, acc, S, h, hi, ha, q => by
    by_cases hl : i < n
    · obtain ⟨o, S2, h1, h2⟩ := step i acc S hl q
      have hal := addO_len acc o
      obtain ⟨acc', S', h3, h4, h5⟩ := lcN_inv Inv hz step k (i + 1) (addO acc o) S2 (by omega) hl (by omega) h2
      refine ⟨acc', S', ?_, h4, h5⟩
      rw [lc_step (d := .p (.int (lo + i))) (by show some (if i < n then some (D.p (.int (lo + i))) else none) = _; rw [if_pos hl]) h1 (by rw [show sizeLine = 16777216 from rfl]; omega)]
      exact h3
    · obtain rfl : i = n := by omega
      refine ⟨acc, S, ?_, ha, q⟩
      show (some (if i < i then some (D.p (.int (lo + i))) else none)).bind _ = _
      rw [if_neg hl]; rfl
def kLc2 (bx : Bool) (r : List D × Store) : RD0 := mkL bx r.1 r.2
@[simp] theorem kLc2_e (bx : Bool) (l : List D) (S : Store) : kLc2 bx (l, S) = mkL bx l S := rfl
def kLc (L : Nat) (bx : Bool) (own : List Nat) (g : MG) (c elt : M) (ev : EnvI) (r : Src × Store) : RD0 := (lcLoop r.1 g c elt (wipeE ev own) L 0 [] r.2).bind (kLc2 bx)
@[simp] theorem kLc_e (L : Nat) (bx : Bool) (own : List Nat) (g : MG) (c elt : M) (ev : EnvI) (f : Src) (S : Store) : kLc L bx own g c elt ev (f, S) = (lcLoop f g c elt (wipeE ev own) L 0 [] S).bind (kLc2 bx) := rfl
@[simp] theorem mLc_e (L : Nat) (bx : Bool) (mi : MIt) (own : List Nat) (g : MG) (c elt : M) (ev : EnvI) (S : Store) : mLc L bx mi own g c elt ev S = (mi ev S).bind (kLc L bx own g c elt ev) := rfl
end PI
set_option maxHeartbeats 1000000
/-! Own text: any source that tells a list's items; enumerate, zip. -/
namespace PI
open PySem PySem.Spec L2
open PyProof.Rows hiding St

/-- tells just these items, whatever the boxes are -/
def SrcIs (f : Src) (xs : List D) : Prop := ∀ (i : Nat) (S : Store), i ≤ xs.length → f i S = some xs[i]?
theorem srcL_is (xs : List D) : SrcIs (srcL xs) xs := fun _ _ _ => rfl
def pairsI (xs : List PyData) : List D := xs.mapIdx fun i x => .p (.tuple [.int (i : Nat), x])
theorem srcT_is (xs : List PyData) : SrcIs (srcT xs) (pairsI xs) := fun i S hi => by
  unfold pairsI at hi ⊢
  rw [List.length_mapIdx] at hi
  unfold srcT
  rw [if_pos hi, List.getElem?_mapIdx]
def pairsZ (xs ys : List PyData) : List D := (xs.zip ys).map fun p => .p (.tuple [p.1, p.2])
theorem srcZ_is (xs ys : List PyData) (hb : ∀ p ∈ xs.zip ys, bareP [p.1, p.2] = false) : SrcIs (srcZp (srcL (xs.map .p)) (srcL (ys.map .p))) (pairsZ xs ys) := fun i S hi => by
  have e : (xs.zip ys)[i]? = (match xs[i]?, ys[i]? with
    | some x, some y => some (x, y)
    | _, _ => none) := by
    simp only [List.zip, List.getElem?_zipWith]
    cases xs[i]? <;> cases ys[i]? <;> rfl
  unfold pairsZ at hi ⊢
  unfold srcZp srcL
  rw [List.getElem?_map, List.getElem?_map, List.getElem?_map, e]
  cases hx : xs[i]? with
  | none => cases hy : ys[i]? <;> rfl
  | some x =>
    cases hy : ys[i]? with
    | none => rfl
    | some y =>
      rw [hx, hy] at e
      have := hb (x, y) (List.mem_of_getElem? e)
      show (if bareP [x, y] = true then none else _) = _
      rw [if_neg (by rw [this]; exact Bool.false_ne_true)]; rfl
theorem srcM_is (xs ys : List PyData) (hb : ∀ p ∈ xs.zip ys, bareP [p.1, p.2] = false) : SrcIs (srcM xs ys) (pairsZ xs ys) := fun i S hi => by
  have hi2 : i ≤ xs.length ∧ i ≤ ys.length := by
    unfold pairsZ at hi
    rw [List.length_map, List.length_zip] at hi
    omega
  rw [← srcZ_is xs ys hb i S hi]
  unfold srcM srcZp srcL
  rw [if_pos hi2, List.getElem?_map, List.getElem?_map]
  cases xs[i]? with
  | none => cases ys[i]? <;> rfl
  | some x => cases ys[i]? <;> rfl
theorem forS_inv {f : Src} {xs : List D} (hf : SrcIs f xs) {g : MG} {body : MS} (Inv : Nat → EnvI → Store → Prop) (step : ∀ (i : Nat) (d : D) (ev : EnvI) (S : Store), xs[i]? = some d → Inv i ev S → ∃ ev2 S2, (g d ev S).bind (kTurn body) = some (.nx, ev2, S2) ∧ Inv (i + 1) ev2 S2) :
    ∀ (k i : Nat) (ev : EnvI) (S : Store), xs.length - i < k → i ≤ xs.length → Inv i ev S → ∃ ev' S', forLoop f g body k i ev S = some (.nx, ev', S') ∧ Inv xs.length ev' S'
  | 0, i, ev, S, h, _, _ => by omega
  | k + 1, i, ev, S, h, hi, q => by
    cases e : xs[i]? with
    | none =>
      have : xs.length ≤ i := List.getElem?_eq_none_iff.mp e
      obtain rfl : i = xs.length := by omega
      refine ⟨ev, S, ?_, q⟩
      show (f xs.length S).bind _ = _
      rw [hf _ S hi, e]; rfl
    | some d =>
      have hl : i < xs.length := (List.getElem?_eq_some_iff.mp e).1
      obtain ⟨ev2, S2, h12, h3⟩ := step i d ev S e q
      obtain ⟨⟨ev1, S1⟩, h1, h2⟩ := bind_some h12
      have h2 : body ev1 S1 = _ := h2
      obtain ⟨ev', S', h4, h5⟩ := forS_inv hf Inv step k (i + 1) ev2 S2 (by omega) hl h3
      refine ⟨ev', S', ?_, h5⟩
      show (f i S).bind _ = _
      rw [hf i S hi, e]
      show (g d ev S).bind _ = _
      rw [h1]
      show (body ev1 S1).bind _ = _
      rw [h2]
      exact h4
theorem lcS_inv {f : Src} {xs : List D} (hf : SrcIs f xs) {g : MG} {c elt : M} {ev : EnvI} (Inv : Nat → List D → Store → Prop) (hz : xs.length ≤ 16777215)
    (step : ∀ (i : Nat) (d : D) (acc : List D) (S : Store), xs[i]? = some d → Inv i acc S → ∃ o S2, lcTurn g c elt ev d S = some (o, S2) ∧ Inv (i + 1) (addO acc o) S2) :
    ∀ (k i : Nat) (acc : List D) (S : Store), xs.length - i < k → i ≤ xs.length → acc.length ≤ i → Inv i acc S → ∃ acc' S', lcLoop f g c elt ev k i acc S = some (acc', S') ∧ acc'.length ≤ xs.length ∧ Inv xs.length acc' S'
  | 0, i, acc, S, h, _, _, _ => by omega
  | k + 1, i, acc, S, h, hi, ha, q => by
    cases e : xs[i]? with
    | none =>
      have : xs.length ≤ i := List.getElem?_eq_none_iff.mp e
      obtain rfl : i = xs.length := by omega
      refine ⟨acc, S, ?_, ha, q⟩
      show (f xs.length S).bind _ = _
      rw [hf _ S hi, e]; rfl
    | some d =>
      have hl : i < xs.length := (List.getElem?_eq_some_iff.mp e).1
      obtain ⟨o, S2, h1, h2⟩ := step i d acc S e q
      have hal := addO_len acc o
      obtain ⟨acc', S', h3, h4, h5⟩ := lcS_inv hf Inv hz step k (i + 1) (addO acc o) S2 (by omega) hl (by omega) h2
      refine ⟨acc', S', ?_, h4, h5⟩
      rw [lc_step (d := d) (by rw [hf i S hi, e]) h1 (by rw [show sizeLine = 16777216 from rfl]; omega)]
      exact h3
/-- a comprehension that changes no box: its items by functions -/
theorem lc_pure {f : Src} {xs : List D} (hf : SrcIs f xs) {g : MG} {c elt : M} {ev : EnvI} {S : Store} {L : Nat} (t : D → Option D) (hz : xs.length ≤ 16777215) (hL : xs.length < L) (step : ∀ d ∈ xs, lcTurn g c elt ev d S = some (t d, S)) :
    lcLoop f g c elt ev L 0 [] S = some (xs.filterMap t, S) := by
  obtain ⟨acc, S', h1, h2, h3, h4⟩ := lcS_inv hf (g := g) (c := c) (elt := elt) (ev := ev) (fun i acc S2 => S2 = S ∧ acc = (xs.take i).filterMap t) hz (fun i d acc S2 hd ⟨q1, q2⟩ => by
    subst q1 q2
    refine ⟨t d, S2, step d (List.mem_of_getElem? hd), rfl, ?_⟩
    rw [List.take_add_one, hd, List.filterMap_append]
    cases ht : t d <;> simp [addO, ht]) L 0 [] S (by omega) (Nat.zero_le _) (Nat.le_refl _) ⟨rfl, by simp⟩
  subst h3 h4
  rw [h1, List.take_length]
section
variable (ev : EnvI) (S : Store) (a b : M)
def kEn2 (S : Store) (f : Src) : Option (Src × Store) := some (f, S)
@[simp] theorem kEn2_e (f : Src) : kEn2 S f = some (f, S) := rfl
def kEn (r : D × Store) : Option (Src × Store) := (enSrc r.2 r.1).bind (kEn2 r.2)
@[simp] theorem kEn_e (x : D) : kEn (x, S) = (enSrc S x).bind (kEn2 S) := rfl
@[simp] theorem mEn_e : mEn a ev S = (a ev S).bind kEn := by
  unfold mEn
  congr; funext r
  unfold kEn
  cases enSrc r.2 r.1 <;> rfl
@[simp] theorem enSrc_t (xs : List PyData) : enSrc S (.p (.tuple xs)) = some (srcT xs) := rfl
def zpSrc (S : Store) (x y : D) : Option (Src × Store) := (zpS S x y).map fun f => (f, S)
def kZp2 (x : D) (r : D × Store) : Option (Src × Store) := zpSrc r.2 x r.1
@[simp] theorem kZp2_e (x y : D) : kZp2 x (y, S) = zpSrc S x y := rfl
def kZp1 (b : M) (ev : EnvI) (r : D × Store) : Option (Src × Store) := (b ev r.2).bind (kZp2 r.1)
@[simp] theorem kZp1_e (x : D) : kZp1 b ev (x, S) = (b ev S).bind (kZp2 x) := rfl
@[simp] theorem mZp_e : mZp a b ev S = (a ev S).bind (kZp1 b ev) := rfl
@[simp] theorem zp_tt (xs ys : List PyData) : zpSrc S (.p (.tuple xs)) (.p (.tuple ys)) = some (srcZp (srcL (xs.map .p)) (srcL (ys.map .p)), S) := rfl
@[simp] theorem zp_tl (xs ys : List PyData) : zpSrc S (.p (.tuple xs)) (.p (.list ys)) = some (srcM xs ys, S) := rfl
@[simp] theorem zp_ll (xs ys : List PyData) : zpSrc S (.p (.list xs)) (.p (.list ys)) = some (srcZp (srcL (xs.map .p)) (srcL (ys.map .p)), S) := rfl
end
end PI
set_option maxHeartbeats 1000000
/-! Own text: all([.. for ..]), any([.. for ..]) in one step. -/
namespace PI
open PySem PySem.Spec L2
open PyProof.Rows hiding St

theorem blsP_map : ∀ bs : List Bool, blsP ((bs.map PyData.bool).map D.p) = some bs
  | [] => rfl
  | b :: r => by simp only [List.map_cons, blsP, blsP_map r]; rfl
theorem bAll_map (S : Store) (bs : List Bool) : bAll S [.p (.list (bs.map .bool))] = some (.p (.bool (bs.all id)), S) := by
  show (blsP ((bs.map PyData.bool).map D.p)).map _ = _
  rw [blsP_map]; rfl
theorem bAny_map (S : Store) (bs : List Bool) : bAny S [.p (.list (bs.map .bool))] = some (.p (.bool (bs.any id)), S) := by
  show (blsP ((bs.map PyData.bool).map D.p)).map _ = _
  rw [blsP_map]; rfl
theorem lc_bools {L : Nat} {mi : MIt} {own : List Nat} {g : MG} {c elt : M} {ev : EnvI} {S : Store} {f : Src} {xs : List D} (hmi : mi ev S = some (f, S)) (hf : SrcIs f xs) (t : D → Bool) (hz : xs.length ≤ 16777215) (hL : xs.length < L)
    (step : ∀ d ∈ xs, lcTurn g c elt (wipeE ev own) d S = some (some (.p (.bool (t d))), S)) : mLc L false mi own g c elt ev S = some (.p (.list ((xs.map t).map .bool)), S) := by
  have lc := lc_pure hf (g := g) (c := c) (elt := elt) (ev := wipeE ev own) (S := S) (L := L) (fun d => some (.p (.bool (t d)))) hz hL step
  have e : xs.filterMap (fun d => some (D.p (.bool (t d)))) = ((xs.map t).map PyData.bool).map D.p := by
    rw [List.map_map, List.map_map, ← List.filterMap_eq_map]; rfl
  rw [e] at lc
  rw [mLc_e, hmi]
  show (lcLoop f g c elt (wipeE ev own) L 0 [] S).bind _ = _
  rw [lc]
  show mkL false _ S = _
  unfold mkL
  rw [if_pos (by rw [List.length_map, List.length_map, List.length_map, show sizeLine = 16777216 from rfl]; omega), allP_map]
  rfl
theorem all_lc {L : Nat} {mi : MIt} {own : List Nat} {g : MG} {c elt : M} {ev : EnvI} {S : Store} {f : Src} {xs : List D} (hmi : mi ev S = some (f, S)) (hf : SrcIs f xs) (t : D → Bool) (hz : xs.length ≤ 16777215) (hL : xs.length < L)
    (step : ∀ d ∈ xs, lcTurn g c elt (wipeE ev own) d S = some (some (.p (.bool (t d))), S)) : mBlt bAll (mCons (mLc L false mi own g c elt) mNil) ev S = some (.p (.bool (xs.all t)), S) := by
  have h := lc_bools hmi hf t hz hL step
  rw [mBlt_e, mCons_e, h]
  show bAll S [.p (.list ((xs.map t).map .bool))] = _
  rw [bAll_map, List.all_map]; rfl
theorem any_lc {L : Nat} {mi : MIt} {own : List Nat} {g : MG} {c elt : M} {ev : EnvI} {S : Store} {f : Src} {xs : List D} (hmi : mi ev S = some (f, S)) (hf : SrcIs f xs) (t : D → Bool) (hz : xs.length ≤ 16777215) (hL : xs.length < L)
    (step : ∀ d ∈ xs, lcTurn g c elt (wipeE ev own) d S = some (some (.p (.bool (t d))), S)) : mBlt bAny (mCons (mLc L false mi own g c elt) mNil) ev S = some (.p (.bool (xs.any t)), S) := by
  have h := lc_bools hmi hf t hz hL step
  rw [mBlt_e, mCons_e, h]
  show bAny S [.p (.list ((xs.map t).map .bool))] = _
  rw [bAny_map, List.any_map]; rfl
theorem ix_tup {S : Store} {l : List PyData} {i : Nat} {x : PyData} (h : l[i]? = some x) : ixI S (.p (.tuple l)) (.p (.int (i : Nat))) = some (.p x) := by
  have hl : i < l.length := (List.getElem?_eq_some_iff.mp h).1
  show (atI l (i : Int)).map D.p = _
  unfold atI ixN
  rw [if_pos (by omega), if_pos (by omega)]
  show (l[((i : Nat) : Int).toNat]?).map D.p = _
  rw [Int.toNat_natCast, h]; rfl
theorem ix_lst {S : Store} {l : List PyData} {i : Nat} {x : PyData} (h : l[i]? = some x) : ixI S (.p (.list l)) (.p (.int (i : Nat))) = some (.p x) := by
  have hl : i < l.length := (List.getElem?_eq_some_iff.mp h).1
  show atI (l.map D.p) (i : Int) = _
  unfold atI ixN
  rw [if_pos (by omega), if_pos (by rw [List.length_map]; omega)]
  show (l.map D.p)[((i : Nat) : Int).toNat]? = _
  rw [Int.toNat_natCast, List.getElem?_map, h]; rfl
end PI
set_option maxHeartbeats 1000000
/-! Own text: what must hold behind a step (for drawn values: no witness has to be named). -/
namespace PI
open PySem PySem.Spec L2
open PyProof.Rows hiding St

def WP {α : Type} (o : Option α) (Q : α → Prop) : Prop := ∃ r, o = some r ∧ Q r
@[simp] theorem wp_some {α : Type} (r : α) (Q : α → Prop) : WP (some r) Q ↔ Q r := ⟨fun ⟨_, e, q⟩ => by cases e; exact q, fun q => ⟨r, rfl, q⟩⟩
@[simp] theorem wp_none {α : Type} (Q : α → Prop) : WP none Q ↔ False := ⟨fun ⟨_, e, _⟩ => (nomatch e), fun q => (False.elim q)⟩
@[simp] theorem wp_bind {α β : Type} (o : Option α) (f : α → Option β) (Q : β → Prop) : WP (o.bind f) Q ↔ WP o (fun r => WP (f r) Q) := by
  cases o with
  | none => simp
  | some r => simp
theorem WP.mono {α : Type} {o : Option α} {P Q : α → Prop} (h : WP o P) (k : ∀ r, P r → Q r) : WP o Q := let ⟨r, e, p⟩ := h; ⟨r, e, k r p⟩
theorem wp_ite {α : Type} {p : Prop} [Decidable p] {a b : Option α} {Q : α → Prop} (h1 : p → WP a Q) (h2 : ¬p → WP b Q) : WP (if p then a else b) Q := by
  by_cases h : p
  · rw [if_pos h]; exact h1 h
  · rw [if_neg h]; exact h2 h
theorem wp_eq {α : Type} {o : Option α} {Q : α → Prop} {r : α} (e : o = some r) (q : Q r) : WP o Q := ⟨r, e, q⟩

/-! ### loops -/
/-- what must hold behind a turn of a loop -/
def Behind (Inv : EnvI → Store → Prop) (R : Fl × EnvI × Store → Prop) (q : Fl × EnvI × Store) : Prop := match q.1 with
  | .nx => Inv q.2.1 q.2.2
  | .ct => Inv q.2.1 q.2.2
  | .bk => R (.nx, q.2.1, q.2.2)
  | .rt d => R (.rt d, q.2.1, q.2.2)
section
variable (Inv : EnvI → Store → Prop) (R : Fl × EnvI × Store → Prop) (ev : EnvI) (S : Store) (d : D)
@[simp] theorem behind_nx : Behind Inv R (.nx, ev, S) = Inv ev S := rfl
@[simp] theorem behind_ct : Behind Inv R (.ct, ev, S) = Inv ev S := rfl
@[simp] theorem behind_bk : Behind Inv R (.bk, ev, S) = R (.nx, ev, S) := rfl
@[simp] theorem behind_rt : Behind Inv R (.rt d, ev, S) = R (.rt d, ev, S) := rfl
end
/-- one turn of a for loop -/
def fTurn (g : MG) (body : MS) (d : D) (ev : EnvI) (S : Store) : RS0 := (g d ev S).bind (kTurn body)
@[simp] theorem fTurn_e (g : MG) (body : MS) (d : D) (ev : EnvI) (S : Store) : fTurn g body d ev S = (g d ev S).bind (kTurn body) := rfl
theorem wp_for0 {f : Src} {xs : List D} {g : MG} {body : MS} {R : Fl × EnvI × Store → Prop} (Inv : Nat → EnvI → Store → Prop)
    (hf : ∀ i ev S, i ≤ xs.length → Inv i ev S → f i S = some xs[i]?)
    (step : ∀ i d ev S, xs[i]? = some d → Inv i ev S → WP (fTurn g body d ev S) (Behind (Inv (i + 1)) R))
    (fin : ∀ ev S, Inv xs.length ev S → R (.nx, ev, S)) :
    ∀ (k i : Nat) (ev : EnvI) (S : Store), xs.length - i < k → i ≤ xs.length → Inv i ev S → WP (forLoop f g body k i ev S) R
  | 0, i, ev, S, h, _, _ => by omega
  | k + 1, i, ev, S, h, hi, q => by
    unfold forLoop
    rw [wp_bind, hf i ev S hi q, wp_some]
    cases e : xs[i]? with
    | none =>
      have : xs.length ≤ i := List.getElem?_eq_none_iff.mp e
      obtain rfl : i = xs.length := by omega
      exact (wp_some _ _).mpr (fin ev S q)
    | some d =>
      have hl : i < xs.length := (List.getElem?_eq_some_iff.mp e).1
      have st := step i d ev S e q
      rw [fTurn_e, wp_bind] at st
      refine (wp_bind _ _ _).mpr (st.mono fun r h2 => (wp_bind _ _ _).mpr (WP.mono h2 fun t h3 => ?_))
      obtain ⟨fl, ev2, S2⟩ := t
      cases fl with
      | nx => exact wp_for0 Inv hf step fin k (i + 1) ev2 S2 (by omega) hl h3
      | ct => exact wp_for0 Inv hf step fin k (i + 1) ev2 S2 (by omega) hl h3
      | bk => exact (wp_some _ _).mpr h3
      | rt x => exact (wp_some _ _).mpr h3
theorem wp_for {f : Src} {xs : List D} {g : MG} {body : MS} {R : Fl × EnvI × Store → Prop} {L : Nat} {ev : EnvI} {S : Store} (hf : SrcIs f xs) (Inv : Nat → EnvI → Store → Prop)
    (hL : xs.length < L) (start : Inv 0 ev S)
    (step : ∀ i d ev S, xs[i]? = some d → Inv i ev S → WP (fTurn g body d ev S) (Behind (Inv (i + 1)) R))
    (fin : ∀ ev S, Inv xs.length ev S → R (.nx, ev, S)) : WP (forLoop f g body L 0 ev S) R :=
  wp_for0 Inv (fun i _ S hi _ => hf i S hi) step fin L 0 ev S (by omega) (Nat.zero_le _) start
def numsD (lo : Int) (n : Nat) : List D := (List.range n).map fun (i : Nat) => D.p (.int (lo + i))
theorem intsL (lo : Int) (n : Nat) : (numsD lo n).length = n := by unfold numsD; rw [List.length_map, List.length_range]
theorem srcN_is (lo : Int) (n : Nat) : SrcIs (srcN lo n) (numsD lo n) := fun i S hi => by
  unfold numsD
  rw [List.getElem?_map]
  show some (if i < n then some (D.p (.int (lo + i))) else none) = _
  by_cases h : i < n
  · rw [if_pos h, List.getElem?_range h]; rfl
  · rw [if_neg h, List.getElem?_eq_none (by rw [List.length_range]; omega)]; rfl
theorem ints_get {lo : Int} {n i : Nat} {d : D} (h : (numsD lo n)[i]? = some d) : i < n ∧ d = .p (.int (lo + i)) := by
  have hl : i < n := by have := (List.getElem?_eq_some_iff.mp h).1; rwa [intsL] at this
  unfold numsD at h
  rw [List.getElem?_map, List.getElem?_range hl] at h
  cases h
  exact ⟨hl, rfl⟩
/-- a loop over numbers -/
theorem wp_forN {lo : Int} {n : Nat} {g : MG} {body : MS} {R : Fl × EnvI × Store → Prop} {L : Nat} {ev : EnvI} {S : Store} (Inv : Nat → EnvI → Store → Prop)
    (hL : n < L) (start : Inv 0 ev S)
    (step : ∀ (i : Nat) ev S, i < n → Inv i ev S → WP (fTurn g body (.p (.int (lo + i))) ev S) (Behind (Inv (i + 1)) R))
    (fin : ∀ ev S, Inv n ev S → R (.nx, ev, S)) : WP (forLoop (srcN lo n) g body L 0 ev S) R :=
  wp_for (srcN_is lo n) Inv (by rw [intsL]; exact hL) start (fun i d ev S h q => by
    obtain ⟨h1, rfl⟩ := ints_get h
    exact step i ev S h1 q) (fun ev S q => by rw [intsL] at q; exact fin ev S q)
/-- a loop that looks at each item, and may end with an answer -/
theorem for_look {f : Src} {xs : List D} {g : MG} {body : MS} {L : Nat} {ev : EnvI} {S : Store} (hf : SrcIs f xs) (p : D → Bool) (out : D) (Inv : EnvI → Prop)
    (hL : xs.length < L) (start : Inv ev)
    (step : ∀ d ∈ xs, ∀ ev, Inv ev → ∃ ev2, fTurn g body d ev S = some (if p d then .nx else .rt out, ev2, S) ∧ Inv ev2) :
    ∃ ev', forLoop f g body L 0 ev S = some (if xs.all p then .nx else .rt out, ev', S) ∧ Inv ev' := by
  have w := wp_for (R := fun r => ∃ ev', r = (if xs.all p then .nx else .rt out, ev', S) ∧ Inv ev') hf (fun i ev S2 => S2 = S ∧ Inv ev ∧ (xs.take i).all p = true) hL ⟨rfl, start, by simp⟩ (fun i d ev2 S2 hd ⟨e1, e2, e3⟩ => by
    subst e1
    obtain ⟨ev3, h1, h2⟩ := step d (List.mem_of_getElem? hd) ev2 e2
    rw [h1, wp_some]
    cases hp : p d with
    | true =>
      refine ⟨rfl, h2, ?_⟩
      rw [List.take_add_one, hd, List.all_append, e3]
      simp [hp]
    | false =>
      refine ⟨ev3, ?_, h2⟩
      have : xs.all p = false := by
        rw [List.all_eq_false]
        exact ⟨d, List.mem_of_getElem? hd, by simp [hp]⟩
      rw [this]; rfl) (fun ev2 S2 ⟨e1, e2, e3⟩ => by
    subst e1
    rw [List.take_length] at e3
    rw [e3]
    exact ⟨ev2, rfl, e2⟩)
  obtain ⟨r, h1, ev', rfl, h2⟩ := w
  exact ⟨ev', h1, h2⟩
theorem wp_while {c : M} {body : MS} {R : Fl × EnvI × Store → Prop} (Inv : Nat → EnvI → Store → Prop)
    (step : ∀ n ev S, Inv n ev S → WP (c ev S) fun r => ∃ b, r.1 = .p (.bool b) ∧ if b = true then WP (body ev r.2) (Behind (fun ev S => ∃ m, m < n ∧ Inv m ev S) R) else R (.nx, ev, r.2)) :
    ∀ (L n : Nat) (ev : EnvI) (S : Store), n < L → Inv n ev S → WP (whLoop c body L ev S) R
  | 0, n, ev, S, h, _ => by omega
  | k + 1, n, ev, S, h, q => by
    unfold whLoop
    rw [wp_bind]
    refine WP.mono (step n ev S q) fun r ⟨b, e, h2⟩ => ?_
    obtain ⟨x, S1⟩ := r
    cases e
    show WP ((some b).bind _) R
    rw [wp_bind, wp_some]
    cases b with
    | false => exact (wp_some _ _).mpr h2
    | true =>
      refine (wp_bind _ _ _).mpr (WP.mono (show WP (body ev S1) _ from h2) fun t h3 => ?_)
      obtain ⟨fl, ev2, S2⟩ := t
      cases fl with
      | nx => obtain ⟨m, hm, h4⟩ := h3; exact wp_while Inv step k m ev2 S2 (by omega) h4
      | ct => obtain ⟨m, hm, h4⟩ := h3; exact wp_while Inv step k m ev2 S2 (by omega) h4
      | bk => exact (wp_some _ _).mpr h3
      | rt x => exact (wp_some _ _).mpr h3
/-! ### comprehensions -/
theorem wp_lc0 {f : Src} {xs : List D} {g : MG} {c elt : M} {ev : EnvI} (Inv : Nat → List D → Store → Prop) (hz : xs.length ≤ 16777215)
    (hf : ∀ i acc S, i ≤ xs.length → Inv i acc S → f i S = some xs[i]?)
    (step : ∀ i d acc S, xs[i]? = some d → Inv i acc S → WP (lcTurn g c elt ev d S) fun r => Inv (i + 1) (addO acc r.1) r.2) :
    ∀ (k i : Nat) (acc : List D) (S : Store), xs.length - i < k → i ≤ xs.length → acc.length ≤ i → Inv i acc S → WP (lcLoop f g c elt ev k i acc S) fun r => r.1.length ≤ xs.length ∧ Inv xs.length r.1 r.2
  | 0, i, acc, S, h, _, _, _ => by omega
  | k + 1, i, acc, S, h, hi, ha, q => by
    cases e : xs[i]? with
    | none =>
      have : xs.length ≤ i := List.getElem?_eq_none_iff.mp e
      obtain rfl : i = xs.length := by omega
      refine ⟨(acc, S), ?_, ha, q⟩
      show (f xs.length S).bind _ = _
      rw [hf _ acc S hi q, e]; rfl
    | some d =>
      have hl : i < xs.length := (List.getElem?_eq_some_iff.mp e).1
      obtain ⟨⟨o, S2⟩, h1, h2⟩ := step i d acc S e q
      have hal := addO_len acc o
      have w := wp_lc0 Inv hz hf step k (i + 1) (addO acc o) S2 (by omega) hl (by omega) h2
      rw [lc_step (d := d) (by rw [hf i acc S hi q, e]) h1 (by rw [show sizeLine = 16777216 from rfl]; omega)]
      exact w
theorem wp_lc {f : Src} {xs : List D} {g : MG} {c elt : M} {ev : EnvI} {S : Store} {L : Nat} {Q : List D × Store → Prop} (hf : SrcIs f xs) (Inv : Nat → List D → Store → Prop) (hz : xs.length ≤ 16777215) (hL : xs.length < L)
    (start : Inv 0 [] S)
    (step : ∀ i d acc S, xs[i]? = some d → Inv i acc S → WP (lcTurn g c elt ev d S) fun r => Inv (i + 1) (addO acc r.1) r.2)
    (fin : ∀ acc S, acc.length ≤ xs.length → Inv xs.length acc S → Q (acc, S)) : WP (lcLoop f g c elt ev L 0 [] S) Q :=
  (wp_lc0 Inv hz (fun i _ S hi _ => hf i S hi) step L 0 [] S (by omega) (Nat.zero_le _) (Nat.le_refl _) start).mono fun r ⟨h1, h2⟩ => fin r.1 r.2 h1 h2
theorem wp_lcN {lo : Int} {n : Nat} {g : MG} {c elt : M} {ev : EnvI} {S : Store} {L : Nat} {Q : List D × Store → Prop} (Inv : Nat → List D → Store → Prop) (hz : n ≤ 16777215) (hL : n < L)
    (start : Inv 0 [] S)
    (step : ∀ (i : Nat) acc S, i < n → Inv i acc S → WP (lcTurn g c elt ev (.p (.int (lo + i))) S) fun r => Inv (i + 1) (addO acc r.1) r.2)
    (fin : ∀ acc S, acc.length ≤ n → Inv n acc S → Q (acc, S)) : WP (lcLoop (srcN lo n) g c elt ev L 0 [] S) Q :=
  wp_lc (srcN_is lo n) Inv (by rw [intsL]; exact hz) (by rw [intsL]; exact hL) start (fun i d acc S h q => by
    obtain ⟨h1, rfl⟩ := ints_get h
    exact step i acc S h1 q) (fun acc S h q => by rw [intsL] at h q; exact fin acc S h q)
/-- the deck at 0 and 1, other boxes behind -/
def Dk (tl : Store) (S : Store) : Prop := ∃ xs mx dr, S = DS xs mx dr tl ∧ xs.length ≤ 63
end PI
set_option maxHeartbeats 1000000
/-! Own text: typed reading, part 1: slots, stores, frames. -/
namespace PI
open PySem PySem.Spec L2
open PyProof.Rows hiding St

/-- what is known of the drawn deck in the store (cells 0 and 1) -/
class Deck where
  DK : Store → Prop
  two : ∀ S, DK S → 2 ≤ S.length
  cong : ∀ S S' : Store, S[0]? = S'[0]? → S[1]? = S'[1]? → DK S → DK S'
/-- what is known of a name: nothing, a datum, a value, an own box, a thing itself -/
inductive Slot where
  | u
  | p (x : PyData)
  | v (x : PyData)
  | b (x : PyData)
  | d (x : D)
abbrev Gam := List Slot
/-- how a value may be shared: a datum, a value that is not owned, maybe owned -/
inductive Md where
  | p | f | o
def Cel (S : Store) (n : Nat) : PyData → Prop
  | .list xs => S[n]? = some (.lst (xs.map .p))
  | .dict kvs => ∃ ks, keysP kvs = some ks ∧ S[n]? = some (.dct ks)
  | _ => False
def Is (S : Store) (d : D) (x : PyData) : Prop := d = .p x ∨ ∃ n, d = .ref n ∧ 2 ≤ n ∧ Cel S n x
abbrev NP := Nat → Prop
def no : NP := fun _ => False
def Fr (O : NP) (S S' : Store) : Prop := S.length ≤ S'.length ∧ ∀ n c, 2 ≤ n → ¬ O n → S[n]? = some c → S'[n]? = some c
theorem Fr.refl (O : NP) (S : Store) : Fr O S S := ⟨Nat.le_refl _, fun _ _ _ _ h => h⟩
theorem Fr.trans {O O1 : NP} {S S1 S2 : Store} (h : Fr O S S1) (h2 : Fr O1 S1 S2) (ho : ∀ n, O1 n → O n ∨ S.length ≤ n) : Fr O S S2 :=
  ⟨Nat.le_trans h.1 h2.1, fun n c a b e => h2.2 n c a (fun q => (ho n q).elim b fun z => by
    have := (List.getElem?_eq_some_iff.mp e).1
    omega) (h.2 n c a b e)⟩
theorem Fr.seq {S S1 S2 : Store} (h : Fr no S S1) (h2 : Fr no S1 S2) : Fr no S S2 := h.trans h2 fun n q => .inl q
theorem Fr.wide {O : NP} {S S1 : Store} (h : Fr no S S1) : Fr O S S1 := ⟨h.1, fun n c a _ e => h.2 n c a (fun q => q) e⟩
theorem Fr.app (S : Store) (l : Store) : Fr no S (S ++ l) := ⟨by simp, fun n c _ _ e => by rw [List.getElem?_append_left (List.getElem?_eq_some_iff.mp e).1]; exact e⟩
theorem Cel.lt {S : Store} {n : Nat} {x : PyData} (h : Cel S n x) : n < S.length := by
  cases x <;> first | exact h.elim | skip
  · exact (List.getElem?_eq_some_iff.mp h).1
  · obtain ⟨ks, _, e⟩ := h
    exact (List.getElem?_eq_some_iff.mp e).1
theorem Cel.at_ {S S' : Store} {n : Nat} {x : PyData} (h : Cel S n x) (e : ∀ c, S[n]? = some c → S'[n]? = some c) : Cel S' n x := by
  cases x <;> first | exact h.elim | skip
  · exact e _ h
  · obtain ⟨ks, a, b⟩ := h
    exact ⟨ks, a, e _ b⟩
theorem Cel.fr {O : NP} {S S' : Store} {n : Nat} {x : PyData} (h : Cel S n x) (f : Fr O S S') (h2 : 2 ≤ n) (ho : ¬ O n) : Cel S' n x := h.at_ fun c e => f.2 n c h2 ho e
theorem Is.fr {S S' : Store} {d : D} {x : PyData} (h : Is S d x) (f : Fr no S S') : Is S' d x := h.imp id fun ⟨n, a, b, c⟩ => ⟨n, a, b, c.fr f b fun q => q⟩
theorem Is.frO {O : NP} {S S' : Store} {d : D} {x : PyData} (h : Is S d x) (f : Fr O S S') (ho : ∀ n, d = .ref n → ¬ O n) : Is S' d x := h.imp id fun ⟨n, a, b, c⟩ => ⟨n, a, b, c.fr f b (ho n a)⟩
theorem Is.ref_lt {S : Store} {d : D} {x : PyData} (h : Is S d x) {n : Nat} (e : d = .ref n) : n < S.length ∧ 2 ≤ n := by
  rcases h with rfl | ⟨m, rfl, h2, c⟩
  · cases e
  · cases e
    exact ⟨c.lt, h2⟩
/-- data that no box holds -/
def nb : PyData → Bool
  | .list _ => false
  | .dict _ => false
  | _ => true
theorem Is.pure {S : Store} {d : D} {x : PyData} (h : Is S d x) (n : nb x = true) : d = .p x := by
  rcases h with h | ⟨m, _, _, c⟩
  · exact h
  · cases x <;> first | exact c.elim | cases n

section
variable [Deck]
open Deck
theorem DK.fr {S S' : Store} (h : DK S) (e0 : S'[0]? = S[0]?) (e1 : S'[1]? = S[1]?) : DK S' := Deck.cong S S' e0.symm e1.symm h
theorem DK.app {S : Store} (h : DK S) (l : Store) : DK (S ++ l) := by
  have := Deck.two S h
  exact DK.fr h (List.getElem?_append_left (by omega)) (List.getElem?_append_left (by omega))
theorem DK.set {S : Store} (h : DK S) {n : Nat} (hn : 2 ≤ n) (c : Cell) : DK (S.set n c) :=
  DK.fr h (List.getElem?_set_ne (by omega)) (List.getElem?_set_ne (by omega))
end

/-- a name's value is as is known -/
def SOk (S : Store) (q : Option (Option D)) (O F : NP) : Slot → Prop
  | .u => True
  | .p x => q = some (some (.p x))
  | .v x => ∃ d, q = some (some d) ∧ Is S d x ∧ ∀ n, d = .ref n → ¬ F n ∧ ¬ O n
  | .b x => ∃ n, q = some (some (.ref n)) ∧ O n ∧ 2 ≤ n ∧ Cel S n x ∧ ¬ F n
  | .d d => q = some (some d)
structure EG (S : Store) (ev : EnvI) (Γ : Gam) (O F : NP) : Prop where
  len : ev.length = Γ.length
  ok : ∀ (i : Nat) (s : Slot), Γ[i]? = some s → SOk S ev[i]? O F s
  nd : ∀ (i j n : Nat) (x y : PyData), i ≠ j → Γ[i]? = some (.b x) → Γ[j]? = some (.b y) → ev[i]? = some (some (.ref n)) → ev[j]? = some (some (.ref n)) → False
  oL : ∀ n, O n → n < S.length
  fL : ∀ n, F n → n < S.length
section
variable {S S' : Store} {ev : EnvI} {Γ : Gam} {O F : NP}
theorem SOk.fr {q : Option (Option D)} {s : Slot} (h : SOk S q O F s) (f : Fr no S S') : SOk S' q O F s := by
  cases s with
  | u => trivial
  | p x => exact h
  | v x =>
    obtain ⟨d, a, b, c⟩ := h
    exact ⟨d, a, b.fr f, c⟩
  | b x =>
    obtain ⟨n, a, b, c, d, e⟩ := h
    exact ⟨n, a, b, c, d.fr f c fun q => q, e⟩
  | d x => exact h
theorem EG.fr (h : EG S ev Γ O F) (f : Fr no S S') : EG S' ev Γ O F :=
  ⟨h.len, fun i s e => (h.ok i s e).fr f, h.nd, fun n q => Nat.lt_of_lt_of_le (h.oL n q) f.1, fun n q => Nat.lt_of_lt_of_le (h.fL n q) f.1⟩
theorem EG.oL' (h : EG S ev Γ O F) {n : Nat} : O n → n < S.length := h.oL n
theorem set_at {α : Type} {l : List α} {i j : Nat} {x y : α} (h : (l.set i x)[j]? = some y) : (j = i ∧ i < l.length ∧ x = y) ∨ (j ≠ i ∧ l[j]? = some y) := by
  by_cases e : i = j
  · subst e
    have hl : i < l.length := by
      have := (List.getElem?_eq_some_iff.mp h).1
      simpa using this
    rw [List.getElem?_set_self hl] at h
    exact .inl ⟨rfl, hl, Option.some.inj h⟩
  · rw [List.getElem?_set_ne e] at h
    exact .inr ⟨fun q => e q.symm, h⟩
/-- a slot that is set to a value that is not owned -/
theorem EG.set0 (h : EG S ev Γ O F) (i : Nat) (d : D) (s : Slot) (hs : SOk S (some (some d)) O F s) (hb : ∀ x, s ≠ .b x) : EG S (ev.set i (some d)) (Γ.set i s) O F := by
  refine ⟨by simp [h.len], fun j s' e => ?_, fun j k n x y hjk e1 e2 q1 q2 => ?_, h.oL, h.fL⟩
  · rcases set_at e with ⟨rfl, hl, rfl⟩ | ⟨hn, e⟩
    · rw [List.getElem?_set_self (by rw [h.len]; exact hl)]; exact hs
    · rw [List.getElem?_set_ne (fun z => hn z.symm)]; exact h.ok j s' e
  · rcases set_at e1 with ⟨_, _, z⟩ | ⟨n1, e1⟩
    · exact hb _ z
    rcases set_at e2 with ⟨_, _, z⟩ | ⟨n2, e2⟩
    · exact hb _ z
    rw [List.getElem?_set_ne (fun z => n1 z.symm)] at q1
    rw [List.getElem?_set_ne (fun z => n2 z.symm)] at q2
    exact h.nd j k n x y hjk e1 e2 q1 q2
theorem EG.ow (h : EG S ev Γ O F) {O' : NP} (ho : ∀ n, O n → O' n) (hl : ∀ n, O' n → n < S.length) (hv : ∀ (i : Nat) (x : PyData) (d : D) (n : Nat), Γ[i]? = some (.v x) → ev[i]? = some (some d) → d = .ref n → O' n → O n) : EG S ev Γ O' F := by
  refine ⟨h.len, fun i s e => ?_, h.nd, hl, h.fL⟩
  have := h.ok i s e
  cases s with
  | u => trivial
  | p x => exact this
  | v x =>
    obtain ⟨d, a, b, c⟩ := this
    exact ⟨d, a, b, fun n q => ⟨(c n q).1, fun z => (c n q).2 (hv i x d n e a q z)⟩⟩
  | b x =>
    obtain ⟨n, a, b, c⟩ := this
    exact ⟨n, a, ho n b, c⟩
  | d x => exact this
/-- a slot that is set to a new box -/
theorem EG.setb {S0 : Store} (h0 : EG S0 ev Γ O F) (f : Fr no S0 S) (i n : Nat) {x : PyData} (hn : S0.length ≤ n) (h2 : 2 ≤ n) (c : Cel S n x) : EG S (ev.set i (some (.ref n))) (Γ.set i (.b x)) (fun m => O m ∨ m = n) F := by
  have h := h0.fr f
  have hO : ¬ O n := fun q => by have := h0.oL n q; omega
  have hF : ¬ F n := fun q => by have := h0.fL n q; omega
  refine ⟨by simp [h.len], fun j s' e => ?_, fun j k m y z hjk e1 e2 q1 q2 => ?_, fun m q => q.elim (h.oL m) fun z => z ▸ c.lt, h.fL⟩
  · rcases set_at e with ⟨rfl, hl, rfl⟩ | ⟨hn', e⟩
    · rw [List.getElem?_set_self (by rw [h.len]; exact hl)]; exact ⟨n, rfl, .inr rfl, h2, c, hF⟩
    · rw [List.getElem?_set_ne (fun z => hn' z.symm)]
      have := h.ok j s' e
      cases s' with
      | u => trivial
      | p x => exact this
      | v x =>
        obtain ⟨d, a, b, c'⟩ := this
        refine ⟨d, a, b, fun m q => ⟨(c' m q).1, fun z => z.elim (c' m q).2 fun z => ?_⟩⟩
        have h0' := h0.ok j _ e
        obtain ⟨d', a', b', _⟩ := h0'
        rw [a] at a'
        cases a'
        have := (b'.ref_lt q).1
        omega
      | b x =>
        obtain ⟨m, a, b, c'⟩ := this
        exact ⟨m, a, .inl b, c'⟩
      | d x => exact this
  · rcases set_at e1 with ⟨z1, l1, _⟩ | ⟨n1, e1⟩
    · rcases set_at e2 with ⟨z2, _, _⟩ | ⟨n2, e2⟩
      · exact hjk (z1.trans z2.symm)
      · rw [z1, List.getElem?_set_self (by rw [h.len]; exact l1)] at q1
        cases q1
        rw [List.getElem?_set_ne (fun z => n2 z.symm)] at q2
        obtain ⟨m', a, b, _⟩ := h.ok k _ e2
        rw [a] at q2; cases q2
        exact hO b
    · rcases set_at e2 with ⟨z2, l2, _⟩ | ⟨n2, e2⟩
      · rw [z2, List.getElem?_set_self (by rw [h.len]; exact l2)] at q2
        cases q2
        rw [List.getElem?_set_ne (fun z => n1 z.symm)] at q1
        obtain ⟨m', a, b, _⟩ := h.ok j _ e1
        rw [a] at q1; cases q1
        exact hO b
      · rw [List.getElem?_set_ne (fun z => n1 z.symm)] at q1
        rw [List.getElem?_set_ne (fun z => n2 z.symm)] at q2
        exact h.nd j k m y z hjk e1 e2 q1 q2
/-- an own box that gets another content -/
theorem EG.mut (h : EG S ev Γ O F) {i n : Nat} {x y : PyData} {c : Cell} (e : Γ[i]? = some (.b x)) (en : ev[i]? = some (some (.ref n))) (hc : Cel (S.set n c) n y) : EG (S.set n c) ev (Γ.set i (.b y)) O F := by
  obtain ⟨m, a, hO, h2, c0, hF⟩ := h.ok i _ e
  rw [en] at a
  cases a
  have other : ∀ k q, k ≠ n → S[k]? = some q → (S.set n c)[k]? = some q := fun k q hk z => by rw [List.getElem?_set_ne (fun w => hk w.symm)]; exact z
  refine ⟨by simp [h.len], fun j s' e' => ?_, fun j k m y z hjk e1 e2 q1 q2 => ?_, fun m q => by rw [List.length_set]; exact h.oL m q, fun m q => by rw [List.length_set]; exact h.fL m q⟩
  · rcases set_at e' with ⟨rfl, hl, rfl⟩ | ⟨hn', e'⟩
    · exact ⟨n, en, hO, h2, hc, hF⟩
    · have := h.ok j s' e'
      cases s' with
      | u => trivial
      | p x => exact this
      | v x =>
        obtain ⟨d, a, b, c'⟩ := this
        refine ⟨d, a, b.imp id fun ⟨k, z1, z2, z3⟩ => ⟨k, z1, z2, z3.at_ fun q z => other k q (fun w => ?_) z⟩, c'⟩
        subst w
        exact (c' _ z1).2 hO
      | b x =>
        obtain ⟨k, a, b, c1, c2, c3⟩ := this
        refine ⟨k, a, b, c1, c2.at_ fun q z => other k q (fun w => ?_) z, c3⟩
        subst w
        exact h.nd i j k _ _ (fun z => hn' z.symm) e e' en a
      | d x => exact this
  · have f1 : ∃ y', Γ[j]? = some (.b y') := by
      rcases set_at e1 with ⟨z1, _, _⟩ | ⟨_, e1⟩
      · exact ⟨x, z1 ▸ e⟩
      · exact ⟨_, e1⟩
    have f2 : ∃ y', Γ[k]? = some (.b y') := by
      rcases set_at e2 with ⟨z1, _, _⟩ | ⟨_, e2⟩
      · exact ⟨x, z1 ▸ e⟩
      · exact ⟨_, e2⟩
    obtain ⟨y1, f1⟩ := f1
    obtain ⟨y2, f2⟩ := f2
    exact h.nd j k m y1 y2 hjk f1 f2 q1 q2
/-- less is known -/
inductive Sub : Gam → Gam → Prop
  | n : Sub [] []
  | k {s : Slot} {Γ Γ' : Gam} : Sub Γ Γ' → Sub (s :: Γ) (s :: Γ')
  | w {s : Slot} {Γ Γ' : Gam} : Sub Γ Γ' → Sub (s :: Γ) (.u :: Γ')
  | q {x : PyData} {Γ Γ' : Gam} : Sub Γ Γ' → Sub (.p x :: Γ) (.v x :: Γ')
theorem Sub.len {Γ Γ' : Gam} (h : Sub Γ Γ') : Γ.length = Γ'.length := by
  induction h with
  | n => rfl
  | k _ ih => simp [ih]
  | w _ ih => simp [ih]
  | q _ ih => simp [ih]
theorem Sub.at_ {Γ Γ' : Gam} (h : Sub Γ Γ') : ∀ {i : Nat} {s : Slot}, Γ'[i]? = some s → s = .u ∨ Γ[i]? = some s ∨ ∃ x, s = .v x ∧ Γ[i]? = some (.p x) := by
  induction h with
  | n => intro i s e; simp at e
  | k _ ih =>
    intro i s e
    cases i with
    | zero => exact .inr (.inl e)
    | succ i => exact ih e
  | w _ ih =>
    intro i s e
    cases i with
    | zero => simp at e; exact .inl e.symm
    | succ i => exact ih e
  | q _ ih =>
    intro i s e
    cases i with
    | zero =>
      simp at e
      exact .inr (.inr ⟨_, e.symm, rfl⟩)
    | succ i => exact ih e
theorem EG.sub (h : EG S ev Γ O F) {Γ' : Gam} (z : Sub Γ Γ') : EG S ev Γ' O F := by
  refine ⟨h.len.trans z.len, fun i s e => ?_, fun i j n x y hij e1 e2 q1 q2 => ?_, h.oL, h.fL⟩
  · rcases z.at_ e with rfl | e | ⟨x, rfl, e3⟩
    · trivial
    · exact h.ok i s e
    · exact ⟨_, h.ok i _ e3, .inl rfl, fun n q => by cases q⟩
  · rcases z.at_ e1 with q | e1 | ⟨x, q, _⟩
    · cases q
    · rcases z.at_ e2 with q | e2 | ⟨x, q, _⟩
      · cases q
      · exact h.nd i j n x y hij e1 e2 q1 q2
      · cases q
    · cases q
def wipeG (Γ : Gam) : List Nat → Gam
  | [] => Γ
  | v :: vs => (wipeG Γ vs).set v .u
theorem EG.wipe1 (h : EG S ev Γ O F) (i : Nat) (o : Option D) : EG S (ev.set i o) (Γ.set i .u) O F := by
  refine ⟨by simp [h.len], fun j s' e => ?_, fun j k n x y hjk e1 e2 q1 q2 => ?_, h.oL, h.fL⟩
  · rcases set_at e with ⟨rfl, hl, rfl⟩ | ⟨hn, e⟩
    · trivial
    · rw [List.getElem?_set_ne (fun z => hn z.symm)]; exact h.ok j s' e
  · rcases set_at e1 with ⟨_, _, z⟩ | ⟨n1, e1⟩
    · cases z
    rcases set_at e2 with ⟨_, _, z⟩ | ⟨n2, e2⟩
    · cases z
    rw [List.getElem?_set_ne (fun z => n1 z.symm)] at q1
    rw [List.getElem?_set_ne (fun z => n2 z.symm)] at q2
    exact h.nd j k n x y hjk e1 e2 q1 q2
theorem EG.wipe (h : EG S ev Γ O F) : ∀ vs : List Nat, EG S (wipeE ev vs) (wipeG Γ vs) O F
  | [] => h
  | v :: vs => (EG.wipe h vs).wipe1 v none
/-- an own box that is not written at any longer -/
theorem EG.frz (h : EG S ev Γ O F) {i : Nat} {x : PyData} (e : Γ[i]? = some (.b x)) : ∃ O', EG S ev (Γ.set i (.v x)) O' F ∧ ∀ n, O' n → O n := by
  obtain ⟨n, a, hO, h2, c, hF⟩ := h.ok i _ e
  have hl : i < Γ.length := (List.getElem?_eq_some_iff.mp e).1
  refine ⟨fun m => O m ∧ m ≠ n, ⟨by simp [h.len], fun j s' e' => ?_, fun j k m y z hjk e1 e2 q1 q2 => ?_, fun m q => h.oL m q.1, h.fL⟩, fun m q => q.1⟩
  · rcases set_at e' with ⟨rfl, _, rfl⟩ | ⟨hn', e'⟩
    · exact ⟨.ref n, a, .inr ⟨n, rfl, h2, c⟩, fun m q => by cases q; exact ⟨hF, fun z => z.2 rfl⟩⟩
    · have := h.ok j s' e'
      cases s' with
      | u => trivial
      | p x => exact this
      | v x =>
        obtain ⟨d, a, b, c'⟩ := this
        exact ⟨d, a, b, fun m q => ⟨(c' m q).1, fun z => (c' m q).2 z.1⟩⟩
      | b x =>
        obtain ⟨m, a', b, c'⟩ := this
        refine ⟨m, a', ⟨b, fun z => ?_⟩, c'⟩
        subst z
        exact h.nd i j m _ _ (fun z => hn' z.symm) e e' a a'
      | d x => exact this
  · rcases set_at e1 with ⟨_, _, z⟩ | ⟨n1, e1⟩
    · cases z
    rcases set_at e2 with ⟨_, _, z⟩ | ⟨n2, e2⟩
    · cases z
    exact h.nd j k m y z hjk e1 e2 q1 q2
end
end PI
set_option maxHeartbeats 1000000
/-! Own text: typed reading, part 2: judgements and their rules. -/
namespace PI
open PySem PySem.Spec L2
open PyProof.Rows hiding St

/-- what a typed step does: what it asks of what comes behind it -/
abbrev W (α : Type) := (α → Prop) → Prop
/-- a result as is told (b0: boxes there were before) -/
def Res (b0 : Nat) (S : Store) (O F : NP) (o : Md) (d : D) : Slot → Prop
  | .u => True
  | .p x => d = .p x
  | .v x => Is S d x ∧ (∀ n, d = .ref n → ¬ F n) ∧ match o with
    | .p => d = .p x
    | .f => ∀ n, d = .ref n → ¬ O n
    | .o => True
  | .b x => ∃ n, d = .ref n ∧ b0 ≤ n ∧ 2 ≤ n ∧ Cel S n x
  | .d d' => d = d'
theorem Res.fr {b0 : Nat} {S S' : Store} {O F : NP} {o : Md} {d : D} {s : Slot} (h : Res b0 S O F o d s) (f : Fr no S S') : Res b0 S' O F o d s := by
  cases s with
  | u => trivial
  | p x => exact h
  | v x => exact ⟨h.1.fr f, h.2⟩
  | b x =>
    obtain ⟨n, a, b, c, e⟩ := h
    exact ⟨n, a, b, c, e.fr f c fun q => q⟩
  | d x => exact h
section
variable [Deck]
open Deck
/-- behind an expression -/
def ROut {α : Type} (S : Store) (O F : NP) (Q : α → Prop) (sl : α → Slot) (o : Md) (r : D × Store) : Prop := Fr no S r.2 ∧ DK r.2 ∧ ∃ a, Q a ∧ Res S.length r.2 O F o r.1 (sl a)
/-- the expression m, read as the typed step t -/
def ES {α : Type} (Γ : Gam) (m : M) (t : W α) (sl : α → Slot) (o : Md) : Prop :=
  ∀ (S : Store) (ev : EnvI) (O F : NP) (Q : α → Prop), EG S ev Γ O F → DK S → t Q → WP (m ev S) (ROut S O F Q sl o)
abbrev EW {α : Type} (Γ : Gam) (m : M) (t : W α) (e : α → PyData) (o : Md) : Prop := ES Γ m t (fun a => .v (e a)) o
/-- arguments -/
def ArgsR (S : Store) (F : NP) : List D → List Slot → Prop
  | [], [] => True
  | d :: ds, s :: ss => Res 0 S no F .o d s ∧ ArgsR S F ds ss
  | _, _ => False
theorem ArgsR.fr {S S' : Store} {F : NP} (f : Fr no S S') : ∀ {ds : List D} {ss : List Slot}, ArgsR S F ds ss → ArgsR S' F ds ss
  | [], [], _ => trivial
  | d :: ds, s :: ss, h => ⟨h.1.fr f, ArgsR.fr f h.2⟩
/-- the arguments' values as they are told -/
def ROutS {α : Type} (S : Store) (O F : NP) (Q : α → Prop) (sl : α → List Slot) (o : Bool) (r : List D × Store) : Prop := Fr no S r.2 ∧ DK r.2 ∧ ∃ a, Q a ∧ ArgsR r.2 (fun n => F n ∨ (o = false ∧ O n)) r.1 (sl a)
def EA {α : Type} (Γ : Gam) (m : Ms) (t : W α) (sl : α → List Slot) (o : Bool) : Prop :=
  ∀ (S : Store) (ev : EnvI) (O F : NP) (Q : α → Prop), EG S ev Γ O F → DK S → t Q → WP (m ev S) (ROutS S O F Q sl o)
/-- a def on arguments of which so much is known -/
def CJ {β : Type} (f : BF) (ss : List Slot) (t : W β) (e : β → PyData) : Prop :=
  ∀ (S : Store) (ds : List D) (F : NP) (Q : β → Prop), ArgsR S F ds ss → (∀ n, F n → n < S.length) → DK S → t Q → WP (f S ds) (ROut S no F Q (fun a => .v (e a)) .o)

/-! ### names -/
variable {α β γ δ : Type} {Γ : Gam} {a b c : M} {ms : Ms} {ta : W α} {tb : W β} {ea : α → PyData} {eb : β → PyData} {o o1 o2 : Md}
theorem ev_at {S : Store} {ev : EnvI} {O F : NP} (h : EG S ev Γ O F) {i : Nat} {s : Slot} (e : Γ[i]? = some s) {d : D} (q : ev[i]? = some (some d)) : mV i ev S = some (d, S) := by rw [mV_e, q]; rfl
theorem ES.var (i : Nat) {x : α} {ea : α → PyData} (e : Γ[i]? = some (.v (ea x))) : EW Γ (mV i) (fun Q => Q x) ea .f := fun S ev O F Q h hD q => by
  obtain ⟨d, z, hi, hn⟩ := h.ok i _ e
  refine ⟨_, ev_at h e z, Fr.refl _ _, hD, x, q, hi, fun n w => (hn n w).1, fun n w => (hn n w).2⟩
theorem ES.varp (i : Nat) {x : α} {ea : α → PyData} (e : Γ[i]? = some (.p (ea x))) : EW Γ (mV i) (fun Q => Q x) ea .p := fun S ev O F Q h hD q => by
  have z := h.ok i _ e
  exact ⟨_, ev_at h e z, Fr.refl _ _, hD, x, q, .inl rfl, (fun n w => by cases w), rfl⟩
theorem ES.varb (i : Nat) {x : α} {ea : α → PyData} (e : Γ[i]? = some (.b (ea x))) : EW Γ (mV i) (fun Q => Q x) ea .o := fun S ev O F Q h hD q => by
  obtain ⟨n, z, hO, h2, c, hF⟩ := h.ok i _ e
  exact ⟨_, ev_at h e z, Fr.refl _ _, hD, x, q, .inr ⟨n, rfl, h2, c⟩, (fun m w => by cases w; exact hF), trivial⟩
theorem ES.vard (i : Nat) {d : D} (e : Γ[i]? = some (.d d)) : ES Γ (mV i) (fun Q => Q ()) (fun _ => .d d) .f := fun S ev O F Q h hD q =>
  ⟨_, ev_at h e (h.ok i _ e), Fr.refl _ _, hD, (), q, rfl⟩
theorem ES.con (x : α) {ea : α → PyData} : EW Γ (mC (.p (ea x))) (fun Q => Q x) ea .p := fun S ev O F Q h hD q => ⟨_, rfl, Fr.refl _ _, hD, x, q, .inl rfl, (fun n w => by cases w), rfl⟩
theorem ES.cond (d : D) : ES Γ (mC d) (fun Q => Q ()) (fun _ => .d d) .f := fun S ev O F Q h hD q => ⟨_, rfl, Fr.refl _ _, hD, (), q, rfl⟩
/-- a datum that no box holds -/
theorem ES.toP (h : EW Γ a ta ea o) (n : ∀ x, nb (ea x) = true) : ES Γ a ta (fun x => .p (ea x)) .p := fun S ev O F Q g hD q => (h S ev O F Q g hD q).mono fun r ⟨z1, z2, x, z3, z4, _⟩ => ⟨z1, z2, x, z3, z4.pure (n x)⟩
theorem ES.mdP (h : EW Γ a ta ea .p) : ES Γ a ta (fun x => .p (ea x)) .p := fun S ev O F Q g hD q => (h S ev O F Q g hD q).mono fun r ⟨z1, z2, x, z3, _, _, z4⟩ => ⟨z1, z2, x, z3, z4⟩
theorem ES.ofP (h : ES Γ a ta (fun x => .p (ea x)) o) : EW Γ a ta ea .p := fun S ev O F Q g hD q => (h S ev O F Q g hD q).mono fun r ⟨z1, z2, x, z3, z4⟩ => by
  have z4 : r.1 = .p (ea x) := z4
  exact ⟨z1, z2, x, z3, by rw [z4]; exact .inl rfl, (fun n w => by rw [z4] at w; cases w), z4⟩
/-- a new box read -/
theorem ES.ofB (h : ES Γ a ta (fun x => .b (ea x)) o) : EW Γ a ta ea .f := fun S ev O F Q g hD q => (h S ev O F Q g hD q).mono fun r ⟨z1, z2, x, z3, n, z4, z5, z6, z7⟩ =>
  ⟨z1, z2, x, z3, .inr ⟨n, z4, z6, z7⟩, (fun m w => by rw [z4] at w; cases w; exact fun y => by have := g.fL _ y; omega), fun m w => by rw [z4] at w; cases w; exact fun y => by have := g.oL _ y; omega⟩
theorem ES.toO (h : EW Γ a ta ea o) : EW Γ a ta ea .o := fun S ev O F Q g hD q => (h S ev O F Q g hD q).mono fun r ⟨z1, z2, x, z3, z4, z5, _⟩ => ⟨z1, z2, x, z3, z4, z5, trivial⟩
theorem ES.toF (h : EW Γ a ta ea .p) : EW Γ a ta ea .f := fun S ev O F Q g hD q => (h S ev O F Q g hD q).mono fun r ⟨z1, z2, x, z3, z4, z5, z6⟩ => ⟨z1, z2, x, z3, z4, z5, fun n w => by rw [show r.1 = _ from z6] at w; cases w⟩
/-- as another type -/
theorem ES.as (h : EW Γ a ta ea o) {eb : β → PyData} (f : α → β) (n : ∀ x, eb (f x) = ea x) : EW Γ a (fun Q => ta fun x => Q (f x)) eb o := fun S ev O F Q g hD q => (h S ev O F _ g hD q).mono fun r ⟨z1, z2, x, z3, z4⟩ => ⟨z1, z2, f x, z3, by show Res _ _ _ _ _ _ (.v (eb (f x))); rw [n]; exact z4⟩

/-! ### an operator of two values -/
/-- the operator makes no change of what there is -/
def New (S : Store) (r : D × Store) : Prop := (∃ l, r.2 = S ++ l) ∧ ∀ n, r.1 = .ref n → S.length ≤ n
theorem New.self (S : Store) (x : PyData) : New S (.p x, S) := ⟨⟨[], by simp⟩, fun n q => by cases q⟩
theorem New.fr {S : Store} {r : D × Store} (h : New S r) : Fr no S r.2 := by
  obtain ⟨⟨l, e⟩, _⟩ := h
  rw [e]; exact Fr.app S l
theorem New.dk {S : Store} {r : D × Store} (h : New S r) (d : DK S) : DK r.2 := by
  obtain ⟨⟨l, e⟩, _⟩ := h
  rw [e]; exact DK.app d l
/-- what an operator must tell: a datum, or a new value -/
def OpR {δ : Type} (S : Store) (Q : δ → Prop) (sl : δ → Slot) (r : D × Store) : Prop := New S r ∧ ∃ x, Q x ∧ Res S.length r.2 no no .f r.1 (sl x)
theorem OpR.out {S S0 : Store} {ev : EnvI} {O F : NP} {Q : δ → Prop} {sl : δ → Slot} {r : D × Store} (g : EG S0 ev Γ O F) (f : Fr no S0 S) (hD : DK S) (h : OpR S Q sl r) : ROut S0 O F Q sl .f r := by
  obtain ⟨h1, x, h2, h3⟩ := h
  refine ⟨f.seq h1.fr, h1.dk hD, x, h2, ?_⟩
  cases e : sl x with
  | u => trivial
  | p x => rw [e] at h3; exact h3
  | v x =>
    rw [e] at h3
    have hn : ∀ n, r.1 = .ref n → S0.length ≤ n := fun n q => Nat.le_trans f.1 (h1.2 n q)
    exact ⟨h3.1, fun n q z => by have := g.fL n z; have := hn n q; omega, fun n q z => by have := g.oL n z; have := hn n q; omega⟩
  | b x =>
    rw [e] at h3
    obtain ⟨n, z1, z2, z3⟩ := h3
    exact ⟨n, z1, Nat.le_trans f.1 z2, z3⟩
  | d x => rw [e] at h3; exact h3
theorem OpR.p {S : Store} {Q : δ → Prop} {e : δ → PyData} (x : δ) (q : Q x) : OpR S Q (fun x => .v (e x)) (.p (e x), S) := ⟨New.self S _, x, q, .inl rfl, (fun n w => by cases w), fun n w => by cases w⟩
theorem ES.un {m : M} {k : D × Store → RD0} {sl : δ → Slot} (he : ∀ ev S, m ev S = (a ev S).bind k) (ha : EW Γ a ta ea o1) {r : α → W δ}
    (op : ∀ x S d Q, 2 ≤ S.length → Is S d (ea x) → r x Q → WP (k (d, S)) (OpR S Q sl)) : ES Γ m (fun Q => ta fun x => r x Q) sl .f := fun S ev O F Q g hD q => by
  rw [he, wp_bind]
  refine (ha S ev O F _ g hD q).mono fun s ⟨z1, z2, x, z3, z4, _⟩ => ?_
  obtain ⟨d, S1⟩ := s
  exact (op x S1 d Q (Deck.two S1 z2) z4 z3).mono fun t h => h.out g z1 z2
theorem ES.two {m : M} {k : D → D × Store → RD0} {sl : δ → Slot} (he : ∀ ev S, m ev S = (a ev S).bind fun s => (b ev s.2).bind fun t => k s.1 t) (ha : EW Γ a ta ea o1) (hb : EW Γ b tb eb o2) {r : α → β → W δ}
    (op : ∀ x y S d1 d2 Q, 2 ≤ S.length → Is S d1 (ea x) → Is S d2 (eb y) → r x y Q → WP (k d1 (d2, S)) (OpR S Q sl)) : ES Γ m (fun Q => ta fun x => tb fun y => r x y Q) sl .f := fun S ev O F Q g hD q => by
  rw [he, wp_bind]
  refine (ha S ev O F _ g hD q).mono fun s ⟨z1, z2, x, z3, z4, _⟩ => ?_
  obtain ⟨d, S1⟩ := s
  rw [wp_bind]
  refine (hb S1 ev O F _ (g.fr z1) z2 z3).mono fun s ⟨y1, y2, y, y3, y4, _⟩ => ?_
  obtain ⟨d2, S2⟩ := s
  exact (op x y S2 d d2 Q (Deck.two S2 y2) (z4.fr y1) y4 y3).mono fun t h => h.out g (z1.seq y1) y2

/-! ### truth -/
def eB (b : Bool) : PyData := .bool b
theorem Is.bool {S : Store} {d : D} {b : Bool} (h : Is S d (eB b)) : d = .p (.bool b) := h.pure rfl
theorem ES.if_ {tc : W Bool} {t1 t2 : W α} {sl : α → Slot} (hc : EW Γ c tc eB o) (ha : ES Γ a t1 sl o1) (hb : ES Γ b t2 sl o1) : ES Γ (mIf c a b) (fun Q => tc fun x => if x = true then t1 Q else t2 Q) sl o1 := fun S ev O F Q g hD q => by
  show WP ((c ev S).bind _) _
  rw [wp_bind]
  refine (hc S ev O F _ g hD q).mono fun s ⟨z1, z2, x, z3, z4, _⟩ => ?_
  obtain ⟨d, S1⟩ := s
  obtain rfl := z4.bool
  show WP ((some x).bind _) _
  rw [wp_bind, wp_some]
  have fin : ∀ r, ROut S1 O F Q sl o1 r → ROut S O F Q sl o1 r := fun r ⟨y1, y2, y, y3, y4⟩ => ⟨z1.seq y1, y2, y, y3, by
    cases e : sl y with
    | b w =>
      rw [e] at y4
      obtain ⟨n, w1, w2, w3⟩ := y4
      exact ⟨n, w1, Nat.le_trans z1.1 w2, w3⟩
    | u => trivial
    | p w => rw [e] at y4; exact y4
    | v w => rw [e] at y4; exact y4
    | d w => rw [e] at y4; exact y4⟩
  cases x with
  | true =>
    rw [if_pos rfl] at z3 ⊢
    exact (ha S1 ev O F Q (g.fr z1) z2 z3).mono fin
  | false =>
    rw [if_neg (by decide)] at z3 ⊢
    exact (hb S1 ev O F Q (g.fr z1) z2 z3).mono fin
theorem Res.base {b0 b1 : Nat} {S : Store} {O F : NP} {o : Md} {d : D} {s : Slot} (h : Res b1 S O F o d s) (hb : b0 ≤ b1) : Res b0 S O F o d s := by
  cases s with
  | b w =>
    obtain ⟨n, w1, w2, w3⟩ := h
    exact ⟨n, w1, Nat.le_trans hb w2, w3⟩
  | u => trivial
  | p w => exact h
  | v w => exact h
  | d w => exact h
theorem ROut.tr {S S1 : Store} {O F : NP} {Q : α → Prop} {sl : α → Slot} {r : D × Store} (f : Fr no S S1) (h : ROut S1 O F Q sl o r) : ROut S O F Q sl o r := by
  obtain ⟨y1, y2, y, y3, y4⟩ := h
  exact ⟨f.seq y1, y2, y, y3, y4.base f.1⟩
theorem out_bool {S : Store} {O F : NP} {Q : Bool → Prop} {x : Bool} (hD : DK S) (q : Q x) : ROut S O F Q (fun a => .v (eB a)) .p (.p (.bool x), S) := ⟨Fr.refl _ _, hD, x, q, .inl rfl, (fun n w => by cases w), rfl⟩
theorem out_bp {S : Store} {O F : NP} {Q : Bool → Prop} {r : D × Store} (h : ROut S O F Q (fun a => .v (eB a)) o r) : ROut S O F Q (fun a => .v (eB a)) .p r := by
  obtain ⟨y1, y2, y, y3, y4, y5, _⟩ := h
  have := y4.bool
  exact ⟨y1, y2, y, y3, y4, y5, this⟩
theorem ES.and_ {t1 t2 : W Bool} (ha : EW Γ a t1 eB o) (hb : EW Γ b t2 eB o2) : EW Γ (mAnd a b) (fun Q => t1 fun x => if x = true then t2 Q else Q false) eB .p := fun S ev O F Q g hD q => by
  show WP ((a ev S).bind _) _
  rw [wp_bind]
  refine (ha S ev O F _ g hD q).mono fun s ⟨z1, z2, x, z3, z4, _⟩ => ?_
  obtain ⟨d, S1⟩ := s
  obtain rfl := z4.bool
  show WP ((some x).bind _) _
  rw [wp_bind, wp_some]
  cases x with
  | true =>
    rw [if_pos rfl] at z3 ⊢
    exact (hb S1 ev O F Q (g.fr z1) z2 z3).mono fun r h => out_bp (h.tr z1)
  | false =>
    rw [if_neg (by decide)] at z3 ⊢
    rw [wp_some]
    exact (out_bool z2 z3).tr z1
theorem ES.or_ {t1 t2 : W Bool} (ha : EW Γ a t1 eB o) (hb : EW Γ b t2 eB o2) : EW Γ (mOr a b) (fun Q => t1 fun x => if x = true then Q true else t2 Q) eB .p := fun S ev O F Q g hD q => by
  show WP ((a ev S).bind _) _
  rw [wp_bind]
  refine (ha S ev O F _ g hD q).mono fun s ⟨z1, z2, x, z3, z4, _⟩ => ?_
  obtain ⟨d, S1⟩ := s
  obtain rfl := z4.bool
  show WP ((some x).bind _) _
  rw [wp_bind, wp_some]
  cases x with
  | true =>
    rw [if_pos rfl] at z3 ⊢
    rw [wp_some]
    exact (out_bool z2 z3).tr z1
  | false =>
    rw [if_neg (by decide)] at z3 ⊢
    exact (hb S1 ev O F Q (g.fr z1) z2 z3).mono fun r h => out_bp (h.tr z1)
theorem ES.andp {x y : Bool} (ha : EW Γ a (fun Q => Q x) eB o) (hb : EW Γ b (fun Q => Q y) eB o2) : EW Γ (mAnd a b) (fun Q => Q (x && y)) eB .p := fun S ev O F Q g hD q => ES.and_ ha hb S ev O F Q g hD (by cases x <;> exact q)
theorem ES.orp {x y : Bool} (ha : EW Γ a (fun Q => Q x) eB o) (hb : EW Γ b (fun Q => Q y) eB o2) : EW Γ (mOr a b) (fun Q => Q (x || y)) eB .p := fun S ev O F Q g hD q => ES.or_ ha hb S ev O F Q g hD (by cases x <;> exact q)
theorem ES.ifp {x : Bool} {y z : α} {eb : α → PyData} (hc : EW Γ c (fun Q => Q x) eB o) (ha : EW Γ a (fun Q => Q y) eb o1) (hb : EW Γ b (fun Q => Q z) eb o1) : EW Γ (mIf c a b) (fun Q => Q (if x = true then y else z)) eb o1 := fun S ev O F Q g hD q => ES.if_ hc ha hb S ev O F Q g hD (by cases x <;> exact q)
theorem ES.not_ {t1 : W Bool} (ha : EW Γ a t1 eB o) : EW Γ (mNot a) (fun Q => t1 fun x => Q (!x)) eB .p := fun S ev O F Q g hD q => by
  show WP ((a ev S).bind _) _
  rw [wp_bind]
  refine (ha S ev O F _ g hD q).mono fun s ⟨z1, z2, x, z3, z4, _⟩ => ?_
  obtain ⟨d, S1⟩ := s
  obtain rfl := z4.bool
  show WP ((some x).map _) _
  exact (wp_some _ _).mpr ((out_bool z2 z3).tr z1)

/-! ### arguments, calls -/
theorem EA.nil {o : Bool} : EA Γ mNil (fun Q => Q ()) (fun _ => []) o := fun S ev O F Q g hD q => ⟨_, rfl, Fr.refl _ _, hD, (), q, trivial⟩
theorem EA.cons {ts : W β} {sl : β → List Slot} {s : α → Slot} {o' : Bool} (ha : ES Γ a ta s o) (hs : EA Γ ms ts sl o') (ho : ∀ S F O d x, Res 0 S O F o d (s x) → Res 0 S no (fun n => F n ∨ (o' = false ∧ O n)) .o d (s x)) : EA Γ (mCons a ms) (fun Q => ta fun x => ts fun y => Q (x, y)) (fun p => s p.1 :: sl p.2) o' := fun S ev O F Q g hD q => by
  show WP ((a ev S).bind _) _
  rw [wp_bind]
  refine (ha S ev O F _ g hD q).mono fun s ⟨z1, z2, x, z3, z4⟩ => ?_
  obtain ⟨d, S1⟩ := s
  show WP ((ms ev S1).map _) _
  have := (hs S1 ev O F _ (g.fr z1) z2 z3)
  obtain ⟨⟨ds, S2⟩, e, y1, y2, y, y3, y4⟩ := this
  rw [show ms ev S1 = _ from e]
  exact (wp_some _ _).mpr ⟨z1.seq y1, y2, (x, y), y3, (ho S2 F O d x ((z4.fr y1).base (Nat.zero_le _))), y4⟩
def okMd : Md → Bool → Prop
  | .o, b => b = true
  | _, _ => True
theorem ho_v {o : Md} {o' : Bool} {e : α → PyData} (h : okMd o o') : ∀ (S : Store) (F O : NP) (d : D) (x : α), Res 0 S O F o d (.v (e x)) → Res 0 S no (fun n => F n ∨ (o' = false ∧ O n)) .o d (.v (e x)) := fun S F O d x h1 => by
  refine ⟨h1.1, fun n q z => z.elim (h1.2.1 n q) fun z => ?_, trivial⟩
  cases o with
  | p => have := h1.2.2; rw [this] at q; cases q
  | f => exact h1.2.2 n q z.2
  | o => rw [show o' = true from h] at z; exact absurd z.1 (by decide)
theorem EA.v {ts : W β} {sl : β → List Slot} {o' : Bool} (ha : EW Γ a ta ea o) (hs : EA Γ ms ts sl o') (h : okMd o o' := by trivial) : EA Γ (mCons a ms) (fun Q => ta fun x => ts fun y => Q (x, y)) (fun p => .v (ea p.1) :: sl p.2) o' := EA.cons ha hs (ho_v h)
theorem EA.p {ts : W β} {sl : β → List Slot} {o' : Bool} (ha : EW Γ a ta ea .p) (hs : EA Γ ms ts sl o') : EA Γ (mCons a ms) (fun Q => ta fun x => ts fun y => Q (x, y)) (fun p => .p (ea p.1) :: sl p.2) o' := EA.cons (s := fun x => .p (ea x)) (ES.mdP ha) hs fun _ _ _ _ _ h => h
theorem EA.d {ts : W β} {sl : β → List Slot} {d : D} {o' : Bool} {td : W Unit} (ha : ES Γ a td (fun _ => .d d) o) (hs : EA Γ ms ts sl o') : EA Γ (mCons a ms) (fun Q => td fun x => ts fun y => Q (x, y)) (fun p => .d d :: sl p.2) o' := EA.cons (s := fun _ => .d d) ha hs fun _ _ _ _ _ h => h
def permS : List Slot → List Nat → Option (List Slot)
  | _, [] => some []
  | l, i :: r => match l[i]?, permS l r with
    | some x, some xs => some (x :: xs)
    | _, _ => none
theorem ArgsR.app {S : Store} {F : NP} : ∀ {ds : List D} {ss : List Slot} {ds' : List D} {ss' : List Slot}, ArgsR S F ds ss → ArgsR S F ds' ss' → ArgsR S F (ds ++ ds') (ss ++ ss')
  | [], [], _, _, _, h => h
  | d :: ds, s :: ss, _, _, h, h' => ⟨h.1, ArgsR.app h.2 h'⟩
theorem ArgsR.at_ {S : Store} {F : NP} : ∀ {ds : List D} {ss : List Slot}, ArgsR S F ds ss → ∀ {i : Nat} {s : Slot}, ss[i]? = some s → ∃ d, ds[i]? = some d ∧ Res 0 S no F .o d s
  | [], [], _, i, s, e => by simp at e
  | d :: ds, s :: ss, h, 0, s', e => by cases e; exact ⟨d, rfl, h.1⟩
  | d :: ds, s :: ss, h, i + 1, s', e => ArgsR.at_ h.2 (i := i) e
theorem ArgsR.perm {S : Store} {F : NP} {ds : List D} {ss : List Slot} (h : ArgsR S F ds ss) : ∀ {ix : List Nat} {full : List Slot}, permS ss ix = some full → ∃ fd, permD ds ix = some fd ∧ ArgsR S F fd full
  | [], full, e => by
    unfold permS at e
    cases e
    exact ⟨[], rfl, trivial⟩
  | i :: ix, full, e => by
    unfold permS at e
    split at e
    · rename_i x xs e1 e2
      cases e
      obtain ⟨d, q1, q2⟩ := h.at_ e1
      obtain ⟨fd, q3, q4⟩ := ArgsR.perm h e2
      exact ⟨d :: fd, by unfold permD; rw [q1, q3], q2, q4⟩
    · cases e
def mdB : Bool → Md
  | true => .o
  | false => .f
theorem ES.call {τ κ : Type} {f : BF} {ix : List Nat} {ms ks : Ms} {ts : W τ} {tk : W κ} {sl : τ → List Slot} {sk : κ → List Slot} {ob : Bool} {e : β → PyData} {tc : τ → κ → W β} {full : τ → κ → List Slot}
    (h1 : EA Γ ms ts sl ob) (h2 : EA Γ ks tk sk ob) (hp : ∀ x y, permS (sl x ++ sk y) ix = some (full x y)) (hf : ∀ x y, CJ f (full x y) (tc x y) e) :
    EW Γ (mCall f ix ms ks) (fun Q => ts fun x => tk fun y => tc x y Q) e (mdB ob) := fun S ev O F Q g hD q => by
  show WP ((ms ev S).bind _) _
  rw [wp_bind]
  refine (h1 S ev O F _ g hD q).mono fun r ⟨z1, z2, x, z3, z4⟩ => ?_
  obtain ⟨ds, S1⟩ := r
  show WP ((ks ev S1).bind _) _
  rw [wp_bind]
  refine (h2 S1 ev O F _ (g.fr z1) z2 z3).mono fun r ⟨y1, y2, y, y3, y4⟩ => ?_
  obtain ⟨dk, S2⟩ := r
  obtain ⟨fd, q1, q2⟩ := ((z4.fr y1).app y4).perm (hp x y)
  show WP ((permD (ds ++ dk) ix).bind _) _
  rw [q1, wp_bind, wp_some]
  have f02 := z1.seq y1
  have g2 := g.fr f02
  refine (hf x y S2 fd _ Q q2 (fun n h => h.elim (g2.fL n) fun h => g2.oL n h.2) y2 y3).mono fun r ⟨w1, w2, w, w3, w4, w5, _⟩ => ⟨f02.seq w1, w2, w, w3, w4, fun n h z => w5 n h (.inl z), ?_⟩
  cases ob with
  | true => trivial
  | false => exact fun n h z => w5 n h (.inr ⟨rfl, z⟩)
/-- a call without named arguments -/
theorem ES.call0 {τ : Type} {f : BF} {n : Nat} {ms : Ms} {ts : W τ} {sl : τ → List Slot} {ob : Bool} {e : β → PyData} {tc : τ → W β}
    (h1 : EA Γ ms ts sl ob) (hp : ∀ x, permS (sl x ++ []) (List.range n) = some (sl x)) (hf : ∀ x, CJ f (sl x) (tc x) e) :
    EW Γ (mCall f (List.range n) ms mNil) (fun Q => ts fun x => tc x Q) e (mdB ob) := ES.call (full := fun x _ => sl x) (tc := fun x _ => tc x) h1 EA.nil (fun x _ => hp x) fun x _ => hf x
end
end PI
set_option maxHeartbeats 1000000
/-! Own text: typed reading, part 3: targets, statements, loops. -/
namespace PI
open PySem PySem.Spec L2
open PyProof.Rows hiding St

section
variable [Deck]
open Deck
/-- a target: the names behind it -/
def GJ (Γ : Gam) (g : MG) (x : PyData) (Γ' : Gam) : Prop := ∀ (S : Store) (ev : EnvI) (O F : NP), EG S ev Γ O F → ∃ ev', g (.p x) ev S = some (ev', S) ∧ EG S ev' Γ' O F
def GsJ (Γ : Gam) (g : List D → EnvI → Store → Option (EnvI × Store)) (xs : List PyData) (Γ' : Gam) : Prop := ∀ (S : Store) (ev : EnvI) (O F : NP), EG S ev Γ O F → ∃ ev', g (xs.map .p) ev S = some (ev', S) ∧ EG S ev' Γ' O F
variable {α β τ σ ρ : Type} {Γ Γ' Γ1 Γ2 : Gam} {a b c m : M} {ms : Ms} {ta t : W α} {tb : W β} {ea : α → PyData} {eb : β → PyData} {o o1 o2 : Md}
theorem GJ.nm {x : PyData} (i : Nat) : GJ Γ (gNm i) x (Γ.set i (.p x)) := fun S ev O F g => ⟨_, rfl, g.set0 i (.p x) (.p x) rfl fun _ q => by cases q⟩
theorem GsJ.nil : GsJ Γ gsNil [] Γ := fun S ev O F g => ⟨ev, rfl, g⟩
theorem GsJ.nm {x : PyData} {xs : List PyData} (i : Nat) {gs : List D → EnvI → Store → Option (EnvI × Store)} (h : GsJ (Γ.set i (.p x)) gs xs Γ2) : GsJ Γ (gsCons (gNm i) gs) (x :: xs) Γ2 := fun S ev O F g => h S _ O F (g.set0 i (.p x) (.p x) rfl fun _ q => by cases q)
theorem GsJ.cons {x : PyData} {xs : List PyData} {g1 : MG} {gs : List D → EnvI → Store → Option (EnvI × Store)} (h1 : GJ Γ g1 x Γ1) (h : GsJ Γ1 gs xs Γ2) : GsJ Γ (gsCons g1 gs) (x :: xs) Γ2 := fun S ev O F g => by
  obtain ⟨ev1, e1, g1'⟩ := h1 S ev O F g
  obtain ⟨ev2, e2, g2⟩ := h S ev1 O F g1'
  exact ⟨ev2, by show (g1 (.p x) ev S).bind _ = _; rw [e1]; exact e2, g2⟩
theorem GJ.tp {xs : List PyData} {n : Nat} {gs : List D → EnvI → Store → Option (EnvI × Store)} (h : GsJ Γ gs xs Γ') (hn : xs.length = n) : GJ Γ (gTp n gs) (.tuple xs) Γ' := fun S ev O F g => by
  obtain ⟨ev', e, g'⟩ := h S ev O F g
  exact ⟨ev', by show (if xs.length = n then _ else none) = _; rw [if_pos hn]; exact e, g'⟩

/-- behind a statement -/
def SRes (S : Store) (S' : Store) (O F : NP) (Γn : τ → Gam) (Γf : σ → Gam) (e : ρ → PyData) (Qn : τ → Prop) (Qc Qb : σ → Prop) (Qr : ρ → Prop) (ev' : EnvI) : Fl → Prop
  | .nx => ∃ s O', Qn s ∧ EG S' ev' (Γn s) O' F ∧ ∀ n, O' n → O n ∨ S.length ≤ n
  | .ct => ∃ s O', Qc s ∧ EG S' ev' (Γf s) O' F ∧ ∀ n, O' n → O n ∨ S.length ≤ n
  | .bk => ∃ s O', Qb s ∧ EG S' ev' (Γf s) O' F ∧ ∀ n, O' n → O n ∨ S.length ≤ n
  | .rt d => ∃ r, Qr r ∧ Is S' d (e r) ∧ ∀ n, d = .ref n → ¬ F n
def SOut (S : Store) (O F : NP) (Γn : τ → Gam) (Γf : σ → Gam) (e : ρ → PyData) (Qn : τ → Prop) (Qc Qb : σ → Prop) (Qr : ρ → Prop) (r : Fl × EnvI × Store) : Prop :=
  Fr O S r.2.2 ∧ DK r.2.2 ∧ SRes S r.2.2 O F Γn Γf e Qn Qc Qb Qr r.2.1 r.1
/-- statements, read as a typed step: next, go on, leave, return -/
abbrev WS (τ σ ρ : Type) := (τ → Prop) → (σ → Prop) → (σ → Prop) → (ρ → Prop) → Prop
def SG (Γ : Gam) (m : MS) (p : WS τ σ ρ) (Γn : τ → Gam) (Γf : σ → Gam) (e : ρ → PyData) : Prop :=
  ∀ (S : Store) (ev : EnvI) (O F : NP) (Qn : τ → Prop) (Qc Qb : σ → Prop) (Qr : ρ → Prop), EG S ev Γ O F → DK S → p Qn Qc Qb Qr → WP (m ev S) (SOut S O F Γn Γf e Qn Qc Qb Qr)
theorem SOut.tr {S S1 : Store} {O O1 F : NP} {Γn : τ → Gam} {Γf : σ → Gam} {e : ρ → PyData} {Qn : τ → Prop} {Qc Qb : σ → Prop} {Qr : ρ → Prop} {r : Fl × EnvI × Store} (f : Fr O S S1) (ho : ∀ n, O1 n → O n ∨ S.length ≤ n) (h : SOut S1 O1 F Γn Γf e Qn Qc Qb Qr r) : SOut S O F Γn Γf e Qn Qc Qb Qr r := by
  obtain ⟨h1, h2, h3⟩ := h
  have hb : ∀ n, O1 n ∨ S1.length ≤ n → O n ∨ S.length ≤ n := fun n q => q.elim (ho n) fun q => .inr (Nat.le_trans f.1 q)
  refine ⟨f.trans h1 ho, h2, ?_⟩
  obtain ⟨fl, ev', S'⟩ := r
  cases fl with
  | nx =>
    obtain ⟨s, O', a, b, c⟩ := h3
    exact ⟨s, O', a, b, fun n q => hb n (c n q)⟩
  | ct =>
    obtain ⟨s, O', a, b, c⟩ := h3
    exact ⟨s, O', a, b, fun n q => hb n (c n q)⟩
  | bk =>
    obtain ⟨s, O', a, b, c⟩ := h3
    exact ⟨s, O', a, b, fun n q => hb n (c n q)⟩
  | rt d => exact h3
variable {Γn : τ → Gam} {Γf : σ → Gam} {e : ρ → PyData} {rest : MS} {p q : WS τ σ ρ}
theorem SG.nil {s : τ} (h : Sub Γ (Γn s)) : SG Γ sNil (fun Qn _ _ _ => Qn s) Γn Γf e := fun S ev O F Qn Qc Qb Qr g hD q => ⟨_, rfl, Fr.refl _ _, hD, s, O, q, g.sub h, fun n q => .inl q⟩
theorem SG.brk {s : σ} (h : Sub Γ (Γf s)) : SG Γ (sSeq sBrk rest) (fun _ _ Qb _ => Qb s) Γn Γf e := fun S ev O F Qn Qc Qb Qr g hD q => ⟨_, rfl, Fr.refl _ _, hD, s, O, q, g.sub h, fun n q => .inl q⟩
theorem SG.cnt {s : σ} (h : Sub Γ (Γf s)) : SG Γ (sSeq sCnt rest) (fun _ Qc _ _ => Qc s) Γn Γf e := fun S ev O F Qn Qc Qb Qr g hD q => ⟨_, rfl, Fr.refl _ _, hD, s, O, q, g.sub h, fun n q => .inl q⟩
theorem SG.no : SG Γ (sSeq sNo rest) (fun _ _ _ _ => False) Γn Γf e := fun S ev O F Qn Qc Qb Qr g hD q => q.elim
theorem SG.pass (h : SG Γ rest p Γn Γf e) : SG Γ (sSeq sNil rest) p Γn Γf e := h
theorem SG.ret {t : W ρ} (h : EW Γ m t e o) : SG Γ (sSeq (sRet m) rest) (fun _ _ _ Qr => t Qr) Γn Γf e := fun S ev O F Qn Qc Qb Qr g hD q => by
  show WP (((m ev S).map _).bind _) _
  obtain ⟨⟨d, S1⟩, e1, z1, z2, x, z3, z4, z5, _⟩ := h S ev O F Qr g hD q
  rw [e1]
  exact ⟨_, rfl, z1.wide, z2, x, z3, z4, z5⟩
/-- a value to a name -/
theorem Res.slot {b0 : Nat} {S : Store} {O F : NP} {d : D} {s : Slot} (h : Res b0 S O F .f d s) (hb : ∀ x, s ≠ .b x) : SOk S (some (some d)) O F s := by
  cases s with
  | u => trivial
  | p x => exact congrArg _ (congrArg _ h)
  | v x => exact ⟨d, rfl, h.1, fun n q => ⟨h.2.1 n q, h.2.2 n q⟩⟩
  | b x => exact (hb x rfl).elim
  | d x => exact congrArg _ (congrArg _ h)
theorem EG.res {S S1 : Store} {ev : EnvI} {O F : NP} (g : EG S ev Γ O F) (f : Fr no S S1) {d : D} {s : Slot} (h : Res S.length S1 O F .f d s) (i : Nat) : ∃ O', EG S1 (ev.set i (some d)) (Γ.set i s) O' F ∧ ∀ n, O' n → O n ∨ S.length ≤ n := by
  cases s with
  | b x =>
    obtain ⟨n, rfl, h1, h2, h3⟩ := h
    exact ⟨_, g.setb f i n h1 h2 h3, fun m q => q.imp id fun z => by rw [z]; exact h1⟩
  | u => exact ⟨O, (g.fr f).set0 i d .u trivial (fun x q => by cases q), fun n q => .inl q⟩
  | p x => exact ⟨O, (g.fr f).set0 i d (.p x) (h.slot fun _ q => by cases q) (fun x q => by cases q), fun n q => .inl q⟩
  | v x => exact ⟨O, (g.fr f).set0 i d (.v x) (h.slot fun _ q => by cases q) (fun x q => by cases q), fun n q => .inl q⟩
  | d x => exact ⟨O, (g.fr f).set0 i d (.d x) (h.slot fun _ q => by cases q) (fun x q => by cases q), fun n q => .inl q⟩
theorem SG.asg {sl : α → Slot} {i : Nat} {p : α → WS τ σ ρ} (h : ES Γ m t sl .f) (k : ∀ a, SG (Γ.set i (sl a)) rest (p a) Γn Γf e) : SG Γ (sSeq (sAsg m (gNm i)) rest) (fun Qn Qc Qb Qr => t fun a => p a Qn Qc Qb Qr) Γn Γf e := fun S ev O F Qn Qc Qb Qr g hD q => by
  obtain ⟨⟨d, S1⟩, e1, z1, z2, x, z3, z4⟩ := h S ev O F _ g hD q
  obtain ⟨O', g', ho⟩ := g.res z1 z4 i
  show WP ((((m ev S).bind _)).bind _) _
  rw [e1]
  exact (k x S1 _ O' F Qn Qc Qb Qr g' z2 z3).mono fun r h => h.tr z1.wide ho
/-- with a datum -/
theorem SG.asgp {i : Nat} {p : α → WS τ σ ρ} (h : EW Γ m t ea .p) (k : ∀ a, SG (Γ.set i (.p (ea a))) rest (p a) Γn Γf e) : SG Γ (sSeq (sAsg m (gNm i)) rest) (fun Qn Qc Qb Qr => t fun a => p a Qn Qc Qb Qr) Γn Γf e :=
  SG.asg (sl := fun a => .p (ea a)) (fun S ev O F Q g hD q => (ES.mdP h S ev O F Q g hD q).mono fun r ⟨z1, z2, x, z3, z4⟩ => ⟨z1, z2, x, z3, z4⟩) k
theorem SG.asgT {g : MG} {Γ2 : α → Gam} {p : α → WS τ σ ρ} (h : EW Γ m t ea .p) (hg : ∀ a, GJ Γ g (ea a) (Γ2 a)) (k : ∀ a, SG (Γ2 a) rest (p a) Γn Γf e) : SG Γ (sSeq (sAsg m g) rest) (fun Qn Qc Qb Qr => t fun a => p a Qn Qc Qb Qr) Γn Γf e := fun S ev O F Qn Qc Qb Qr g0 hD q => by
  obtain ⟨⟨d, S1⟩, e1, z1, z2, x, z3, z4, z5, z6⟩ := h S ev O F _ g0 hD q
  have z6 : d = .p (ea x) := z6
  subst z6
  obtain ⟨ev', e2, g'⟩ := hg x S1 ev O F (g0.fr z1)
  show WP ((((m ev S).bind _)).bind _) _
  rw [e1]
  show WP (((g (.p (ea x)) ev S1).map _).bind _) _
  rw [e2]
  exact (k x S1 _ O F Qn Qc Qb Qr g' z2 z3).mono fun r h => h.tr z1.wide fun n q => .inl q
theorem Res.lessO {b0 : Nat} {S : Store} {O O1 F : NP} {o : Md} {d : D} {s : Slot} (h : Res b0 S O1 F o d s) (ho : ∀ n, O n → n < S.length → O1 n) : Res b0 S O F o d s := by
  cases s with
  | b w => exact h
  | u => trivial
  | p w => exact h
  | v w =>
    refine ⟨h.1, h.2.1, ?_⟩
    cases o with
    | p => exact h.2.2
    | f => exact fun n q z => h.2.2 n q (ho n z (h.1.ref_lt q).1)
    | o => trivial
  | d w => exact h
theorem EG.more {S S1 : Store} {ev : EnvI} {O F : NP} (g : EG S ev Γ O F) (f : Fr no S S1) : EG S1 ev Γ (fun n => O n ∨ (S.length ≤ n ∧ n < S1.length)) F :=
  (g.fr f).ow (fun n q => .inl q) (fun n q => q.elim (g.fr f).oL' fun q => q.2) fun i x d n e q w z => z.elim id fun z => by
    obtain ⟨d', a, b, _⟩ := g.ok i _ e
    rw [q] at a
    cases a
    have := (b.ref_lt w).1
    omega
theorem SG.par2 {sa : α → Slot} {sb : β → Slot} {i j : Nat} {p : α → β → WS τ σ ρ} (ha : ES Γ a ta sa .f) (hb : ES Γ b tb sb .f) (k : ∀ x y, SG ((Γ.set i (sa x)).set j (sb y)) rest (p x y) Γn Γf e) :
    SG Γ (sSeq (sPar (mCons a (mCons b mNil)) (gP2 i j)) rest) (fun Qn Qc Qb Qr => ta fun x => tb fun y => p x y Qn Qc Qb Qr) Γn Γf e := fun S ev O F Qn Qc Qb Qr g hD q => by
  obtain ⟨⟨d1, S1⟩, e1, z1, z2, x, z3, z4⟩ := ha S ev O F _ g hD q
  obtain ⟨⟨d2, S2⟩, e2, y1, y2, y, y3, y4⟩ := hb S1 ev _ F _ (g.more z1) z2 z3
  have e3 : mCons a (mCons b mNil) ev S = some ([d1, d2], S2) := by
    show (a ev S).bind _ = _
    rw [e1]
    show ((mCons b mNil) ev S1).map _ = _
    show ((b ev S1).bind _).map _ = _
    rw [e2]; rfl
  show WP (((mCons a (mCons b mNil) ev S).bind _).bind _) _
  rw [e3]
  obtain ⟨O1, g1, h1⟩ := g.res z1 z4 i
  obtain ⟨O2, g2, h2⟩ := g1.res y1 (y4.lessO fun n q _ => (h1 n q).imp id fun z => ⟨z, g1.oL n q⟩) j
  exact (k x y S2 _ O2 F Qn Qc Qb Qr g2 y2 y3).mono fun r h => h.tr (z1.seq y1).wide fun n q => (h2 n q).elim (h1 n) fun q => .inr (Nat.le_trans z1.1 q)
theorem SG.par3 {γ : Type} {tc : W γ} {sa : α → Slot} {sb : β → Slot} {sc : γ → Slot} {i j l : Nat} {p : α → β → γ → WS τ σ ρ} (ha : ES Γ a ta sa .f) (hb : ES Γ b tb sb .f) (hc : ES Γ c tc sc .f) (k : ∀ x y z, SG (((Γ.set i (sa x)).set j (sb y)).set l (sc z)) rest (p x y z) Γn Γf e) :
    SG Γ (sSeq (sPar (mCons a (mCons b (mCons c mNil))) (gP3 i j l)) rest) (fun Qn Qc Qb Qr => ta fun x => tb fun y => tc fun z => p x y z Qn Qc Qb Qr) Γn Γf e := fun S ev O F Qn Qc Qb Qr g hD q => by
  obtain ⟨⟨d1, S1⟩, e1, z1, z2, x, z3, z4⟩ := ha S ev O F _ g hD q
  obtain ⟨⟨d2, S2⟩, e2, y1, y2, y, y3, y4⟩ := hb S1 ev _ F _ (g.more z1) z2 z3
  have z12 := z1.seq y1
  obtain ⟨⟨d3, S3⟩, e3, x1, x2, z, x3, x4⟩ := hc S2 ev _ F _ (g.more z12) y2 y3
  have e4 : mCons a (mCons b (mCons c mNil)) ev S = some ([d1, d2, d3], S3) := by
    show (a ev S).bind _ = _
    rw [e1]
    show ((b ev S1).bind _).map _ = _
    rw [e2]
    show (((c ev S2).bind _).map _).map _ = _
    rw [e3]; rfl
  show WP (((mCons a (mCons b (mCons c mNil)) ev S).bind _).bind _) _
  rw [e4]
  obtain ⟨O1, g1, h1⟩ := g.res z1 z4 i
  obtain ⟨O2, g2, h2⟩ := g1.res y1 (y4.lessO fun n q _ => (h1 n q).imp id fun z => ⟨z, g1.oL n q⟩) j
  have h2' : ∀ n, O2 n → O n ∨ S.length ≤ n := fun n q => (h2 n q).elim (h1 n) fun q => .inr (Nat.le_trans z1.1 q)
  obtain ⟨O3, g3, h3⟩ := g2.res x1 (x4.lessO fun n q _ => (h2' n q).imp id fun z => ⟨z, g2.oL n q⟩) l
  exact (k x y z S3 _ O3 F Qn Qc Qb Qr g3 x2 x3).mono fun r h => h.tr (z12.seq x1).wide fun n q => (h3 n q).elim (h2' n) fun q => .inr (Nat.le_trans z12.1 q)
/-- an expression by itself -/
theorem SG.ex {sl : α → Slot} {p : α → WS τ σ ρ} (h : ES Γ m t sl o) (k : ∀ x, SG Γ rest (p x) Γn Γf e) : SG Γ (sSeq (sEx m) rest) (fun Qn Qc Qb Qr => t fun x => p x Qn Qc Qb Qr) Γn Γf e := fun S ev O F Qn Qc Qb Qr g hD q => by
  obtain ⟨⟨d, S1⟩, e1, z1, z2, x, z3, _⟩ := h S ev O F _ g hD q
  show WP ((((m ev S).map _)).bind _) _
  rw [e1]
  exact (k x S1 _ O F Qn Qc Qb Qr (g.fr z1) z2 z3).mono fun r h => h.tr z1.wide fun n q => .inl q
theorem SG.seq {τ' : Type} {ms : MS} {Γm : τ' → Gam} {p : WS τ' σ ρ} {q : τ' → WS τ σ ρ} (h : SG Γ ms p Γm Γf e) (k : ∀ s, SG (Γm s) rest (q s) Γn Γf e) : SG Γ (sSeq ms rest) (fun Qn Qc Qb Qr => p (fun s => q s Qn Qc Qb Qr) Qc Qb Qr) Γn Γf e := fun S ev O F Qn Qc Qb Qr g hD z => by
  show WP ((ms ev S).bind _) _
  rw [wp_bind]
  refine (h S ev O F _ Qc Qb Qr g hD z).mono fun r hr => ?_
  obtain ⟨fl, ev1, S1⟩ := r
  obtain ⟨f, hD1, h3⟩ := hr
  cases fl with
  | nx =>
    obtain ⟨s, O', a, b, c⟩ := h3
    exact (k s S1 ev1 O' F Qn Qc Qb Qr b hD1 a).mono fun r h => h.tr f c
  | ct => exact (wp_some _ _).mpr ⟨f, hD1, h3⟩
  | bk => exact (wp_some _ _).mpr ⟨f, hD1, h3⟩
  | rt d => exact (wp_some _ _).mpr ⟨f, hD1, h3⟩
theorem SG.if_ {tc : W Bool} {sa sb : MS} {pa pb : WS τ σ ρ} (hc : EW Γ c tc eB o) (ha : SG Γ sa pa Γn Γf e) (hb : SG Γ sb pb Γn Γf e) : SG Γ (sIf c sa sb) (fun Qn Qc Qb Qr => tc fun x => if x = true then pa Qn Qc Qb Qr else pb Qn Qc Qb Qr) Γn Γf e := fun S ev O F Qn Qc Qb Qr g hD q => by
  obtain ⟨⟨d, S1⟩, e1, z1, z2, x, z3, z4, _⟩ := hc S ev O F _ g hD q
  obtain rfl := z4.bool
  show WP ((c ev S).bind _) _
  rw [e1]
  cases x with
  | true =>
    rw [if_pos rfl] at z3
    exact (ha S1 ev O F Qn Qc Qb Qr (g.fr z1) z2 z3).mono fun r h => h.tr z1.wide fun n q => .inl q
  | false =>
    rw [if_neg (by decide)] at z3
    exact (hb S1 ev O F Qn Qc Qb Qr (g.fr z1) z2 z3).mono fun r h => h.tr z1.wide fun n q => .inl q
/-- an if whose first part never goes on behind it -/
theorem SG.ifR {tc : W Bool} {sa sb : MS} {pa : WS Empty σ ρ} {pb : WS τ σ ρ} (hc : EW Γ c tc eB o) (ha : SG Γ sa pa (fun x => x.elim) Γf e) (hb : SG Γ (sSeq sb rest) pb Γn Γf e) : SG Γ (sSeq (sIf c sa sb) rest) (fun Qn Qc Qb Qr => tc fun x => if x = true then pa (fun _ => False) Qc Qb Qr else pb Qn Qc Qb Qr) Γn Γf e := fun S ev O F Qn Qc Qb Qr g hD q => by
  obtain ⟨⟨d, S1⟩, e1, z1, z2, x, z3, z4, _⟩ := hc S ev O F _ g hD q
  obtain rfl := z4.bool
  show WP (((c ev S).bind _).bind _) _
  rw [e1]
  cases x with
  | true =>
    rw [if_pos rfl] at z3
    show WP ((sa ev S1).bind _) _
    rw [wp_bind]
    refine (ha S1 ev O F (fun _ => False) Qc Qb Qr (g.fr z1) z2 z3).mono fun r h => ?_
    obtain ⟨fl, ev1, S2⟩ := r
    have h := h.tr z1.wide fun n q => .inl q
    obtain ⟨f, hD1, h3⟩ := h
    cases fl with
    | nx => exact h3.choose.elim
    | ct => exact (wp_some _ _).mpr ⟨f, hD1, h3⟩
    | bk => exact (wp_some _ _).mpr ⟨f, hD1, h3⟩
    | rt d => exact (wp_some _ _).mpr ⟨f, hD1, h3⟩
  | false =>
    rw [if_neg (by decide)] at z3
    exact (hb S1 ev O F Qn Qc Qb Qr (g.fr z1) z2 z3).mono fun r h => h.tr z1.wide fun n q => .inl q
/-- an if whose second part never goes on behind it -/
theorem SG.ifL {tc : W Bool} {sa sb : MS} {pb : WS Empty σ ρ} {pa : WS τ σ ρ} (hc : EW Γ c tc eB o) (ha : SG Γ (sSeq sa rest) pa Γn Γf e) (hb : SG Γ sb pb (fun x => x.elim) Γf e) : SG Γ (sSeq (sIf c sa sb) rest) (fun Qn Qc Qb Qr => tc fun x => if x = true then pa Qn Qc Qb Qr else pb (fun _ => False) Qc Qb Qr) Γn Γf e := fun S ev O F Qn Qc Qb Qr g hD q => by
  obtain ⟨⟨d, S1⟩, e1, z1, z2, x, z3, z4, _⟩ := hc S ev O F _ g hD q
  obtain rfl := z4.bool
  show WP (((c ev S).bind _).bind _) _
  rw [e1]
  cases x with
  | false =>
    rw [if_neg (by decide)] at z3
    show WP ((sb ev S1).bind _) _
    rw [wp_bind]
    refine (hb S1 ev O F (fun _ => False) Qc Qb Qr (g.fr z1) z2 z3).mono fun r h => ?_
    obtain ⟨fl, ev1, S2⟩ := r
    have h := h.tr z1.wide fun n q => .inl q
    obtain ⟨f, hD1, h3⟩ := h
    cases fl with
    | nx => exact h3.choose.elim
    | ct => exact (wp_some _ _).mpr ⟨f, hD1, h3⟩
    | bk => exact (wp_some _ _).mpr ⟨f, hD1, h3⟩
    | rt d => exact (wp_some _ _).mpr ⟨f, hD1, h3⟩
  | true =>
    rw [if_pos rfl] at z3
    exact (ha S1 ev O F Qn Qc Qb Qr (g.fr z1) z2 z3).mono fun r h => h.tr z1.wide fun n q => .inl q
theorem SG.sub {ms : MS} (h : Sub Γ Γ') (k : SG Γ' ms p Γn Γf e) : SG Γ ms p Γn Γf e := fun S ev O F Qn Qc Qb Qr g hD q => k S ev O F Qn Qc Qb Qr (g.sub h) hD q
/-- an own box that is not written at any longer -/
theorem SG.frz {x : PyData} {ms : MS} (i : Nat) (h : Γ[i]? = some (.b x)) (k : SG (Γ.set i (.v x)) ms p Γn Γf e) : SG Γ ms p Γn Γf e := fun S ev O F Qn Qc Qb Qr g hD q => by
  obtain ⟨O', g', ho⟩ := g.frz h
  exact (k S ev O' F Qn Qc Qb Qr g' hD q).mono fun r h => h.tr (Fr.refl _ _) fun n q => .inl (ho n q)
end
end PI
set_option maxHeartbeats 1000000
/-! Own text: typed reading, part 4: loops, comprehensions, own boxes, defs. -/
namespace PI
open PySem PySem.Spec L2
open PyProof.Rows hiding St

/-! ### typed loops -/
section
variable {α β σ ρ : Type}
def forGo (p : α → σ → (σ → Prop) → (σ → Prop) → (ρ → Prop) → Prop) (Qx : σ → Prop) (Qr : ρ → Prop) : List α → σ → Prop
  | [], s => Qx s
  | x :: r, s => p x s (fun s' => forGo p Qx Qr r s') Qx Qr
/-- over a list, with leaving and returning -/
def forW (xs : List α) (s : σ) (p : α → σ → (σ → Prop) → (σ → Prop) → (ρ → Prop) → Prop) (Qx : σ → Prop) (Qr : ρ → Prop) : Prop := xs.length < 1000000 ∧ forGo p Qx Qr xs s
def forNGo (p : α → σ → W σ) (Q : σ → Prop) : List α → σ → Prop
  | [], s => Q s
  | x :: r, s => p x s fun s' => forNGo p Q r s'
/-- over a list -/
def forN (xs : List α) (s : σ) (p : α → σ → W σ) (Q : σ → Prop) : Prop := xs.length < 1000000 ∧ forNGo p Q xs s
def whGo (c : σ → W Bool) (p : σ → (σ → Prop) → (σ → Prop) → (ρ → Prop) → Prop) (Qx : σ → Prop) (Qr : ρ → Prop) : Nat → σ → Prop
  | 0, _ => False
  | n + 1, s => c s fun b => if b = true then p s (fun s' => whGo c p Qx Qr n s') Qx Qr else Qx s
/-- as long as -/
def whW (s : σ) (c : σ → W Bool) (p : σ → (σ → Prop) → (σ → Prop) → (ρ → Prop) → Prop) (Qx : σ → Prop) (Qr : ρ → Prop) : Prop := ∃ n, n < 1000000 ∧ whGo c p Qx Qr n s
def compGo (p : α → W (Option β)) : List α → W (List β)
  | [], Q => Q []
  | x :: r, Q => p x fun o => compGo p r fun l => Q (o.toList ++ l)
/-- a comprehension -/
def compW (xs : List α) (p : α → W (Option β)) : W (List β) := fun Q => xs.length < 1000000 ∧ compGo p xs Q
def compNGo (p : α → W β) : List α → W (List β)
  | [], Q => Q []
  | x :: r, Q => p x fun y => compNGo p r fun l => Q (y :: l)
/-- a comprehension without a condition -/
def compN (xs : List α) (p : α → W β) : W (List β) := fun Q => xs.length < 1000000 ∧ compNGo p xs Q
end

section
variable [Deck]
open Deck
variable {α β τ σ ρ : Type} {Γ Γ' Γ1 Γ2 : Gam} {a b c m : M} {ms : Ms} {ta t : W α} {tb : W β} {ea : α → PyData} {eb : β → PyData} {o o1 o2 : Md}
variable {Γn : τ → Gam} {Γf : σ → Gam} {e : ρ → PyData} {rest : MS} {p q : WS τ σ ρ}
/-- what is walked tells its items, as long as no own box is meant -/
def SrcAt (f : Src) (S : Store) (O : NP) (xs : List PyData) : Prop := ∀ S', Fr O S S' → ∀ i, i ≤ xs.length → f i S' = some (xs[i]?.map .p)
def IJ (Γ : Gam) (mi : MIt) (t : W (List α)) (ea : α → PyData) (o : Md) : Prop :=
  ∀ (S : Store) (ev : EnvI) (O F : NP) (Q : List α → Prop), EG S ev Γ O F → DK S → t Q → WP (mi ev S) fun r => Fr no S r.2 ∧ DK r.2 ∧ ∃ xs, Q xs ∧ SrcAt r.1 r.2 (match o with | .o => no | _ => O) (xs.map ea)
theorem SrcAt.fr {f : Src} {S S1 : Store} {O O1 : NP} {xs : List PyData} (h : SrcAt f S O xs) (f1 : Fr O S S1) (ho : ∀ n, O1 n → O n ∨ S.length ≤ n) : SrcAt f S1 O1 xs := fun S' g => h S' (f1.trans g ho)
/-- a loop -/
theorem for_go {σ' : Type} {f : Src} {g : MG} {body : MS} {Γh : σ' → Gam} {Γt : α → σ' → Gam} {p : α → σ' → WS σ' σ' ρ} {Qx : σ' → Prop} {Qr : ρ → Prop} {F : NP} {xs : List α} {Γz : σ → Gam} {Qc Qb : σ → Prop}
    (hg : ∀ x s, GJ (Γh s) g (ea x) (Γt x s)) (hb : ∀ x s, SG (Γt x s) body (p x s) Γh Γh e) :
    ∀ (k i : Nat) (s : σ') (S : Store) (ev : EnvI) (O : NP), xs.length - i < k → i ≤ xs.length → SrcAt f S O (xs.map ea) → EG S ev (Γh s) O F → DK S → forGo (fun x s n b r => p x s n n b r) Qx Qr (xs.drop i) s →
      WP (forLoop f g body k i ev S) (SOut S O F Γh Γz e Qx Qc Qb Qr)
  | 0, i, s, S, ev, O, h, _, _, _, _, _ => by omega
  | k + 1, i, s, S, ev, O, h, hi, hf, hG, hD, z => by
    have hfi := hf S (Fr.refl _ _) i (by rw [List.length_map]; exact hi)
    unfold forLoop
    rw [wp_bind, hfi, wp_some]
    by_cases hl : i < xs.length
    · have ex : xs.drop i = xs[i] :: xs.drop (i + 1) := List.drop_eq_getElem_cons hl
      rw [ex] at z
      rw [List.getElem?_map, List.getElem?_eq_getElem hl]
      show WP ((g (.p (ea xs[i])) ev S).bind _) _
      obtain ⟨ev1, e1, g1⟩ := hg xs[i] s S ev O F hG
      rw [e1]
      show WP ((body ev1 S).bind _) _
      rw [wp_bind]
      refine (hb xs[i] s S ev1 O F _ _ _ _ g1 hD z).mono fun r hr => ?_
      obtain ⟨fl, ev2, S2⟩ := r
      obtain ⟨fr, hD2, h3⟩ := hr
      cases fl with
      | nx =>
        obtain ⟨s', O', y1, y2, y3⟩ := h3
        exact (for_go hg hb k (i + 1) s' S2 ev2 O' (by omega) hl (hf.fr fr y3) y2 hD2 y1).mono fun r h => h.tr fr y3
      | ct =>
        obtain ⟨s', O', y1, y2, y3⟩ := h3
        exact (for_go hg hb k (i + 1) s' S2 ev2 O' (by omega) hl (hf.fr fr y3) y2 hD2 y1).mono fun r h => h.tr fr y3
      | bk =>
        obtain ⟨s', O', y1, y2, y3⟩ := h3
        exact (wp_some _ _).mpr ⟨fr, hD2, s', O', y1, y2, y3⟩
      | rt d => exact (wp_some _ _).mpr ⟨fr, hD2, h3⟩
    · have : xs.length ≤ i := by omega
      rw [List.drop_eq_nil_of_le this] at z
      rw [List.getElem?_eq_none (by rw [List.length_map]; exact this)]
      exact (wp_some _ _).mpr ⟨Fr.refl _ _, hD, s, O, z, hG, fun n q => .inl q⟩
/-- what the top of a loop knows -/
theorem SG.forW {σ' : Type} {L : Nat} {mi : MIt} {g : MG} {body : MS} {Γh : σ' → Gam} {Γt : α → σ' → Gam} {p : α → σ' → WS σ' σ' ρ} {t : W (List α)} {s0 : σ'} {q : σ' → WS τ σ ρ} (hL : 1000000 ≤ L) (hi : IJ Γ mi t ea .f) (h0 : Sub Γ (Γh s0))
    (hg : ∀ x s, GJ (Γh s) g (ea x) (Γt x s)) (hb : ∀ x s, SG (Γt x s) body (p x s) Γh Γh e) (hk : ∀ s, SG (Γh s) rest (q s) Γn Γf e) :
    SG Γ (sSeq (sFor L mi g body) rest) (fun Qn Qc Qb Qr => t fun xs => forW xs s0 (fun x s n b r => p x s n n b r) (fun s => q s Qn Qc Qb Qr) Qr) Γn Γf e := fun S ev O F Qn Qc Qb Qr hG hD z => by
  obtain ⟨⟨f, S1⟩, e1, z1, z2, xs, ⟨zl, zg⟩, z4⟩ := hi S ev O F _ hG hD z
  show WP (((mi ev S).bind _).bind _) _
  rw [e1]
  show WP ((forLoop f g body L 0 ev S1).bind _) _
  rw [wp_bind]
  refine (for_go (Γz := Γf) (Qc := Qc) (Qb := Qb) hg hb L 0 s0 S1 ev O (by omega) (Nat.zero_le _) z4 ((hG.fr z1).sub h0) z2 zg).mono fun r hr => ?_
  obtain ⟨fl, ev2, S2⟩ := r
  have hr := hr.tr z1.wide fun n q => .inl q
  obtain ⟨fr, hD2, h3⟩ := hr
  cases fl with
  | nx =>
    obtain ⟨s', O', y1, y2, y3⟩ := h3
    exact (hk s' S2 ev2 O' F Qn Qc Qb Qr y2 hD2 y1).mono fun r h => h.tr fr y3
  | ct => exact (wp_some _ _).mpr ⟨fr, hD2, h3⟩
  | bk => exact (wp_some _ _).mpr ⟨fr, hD2, h3⟩
  | rt d => exact (wp_some _ _).mpr ⟨fr, hD2, h3⟩
theorem forGo_N {σ' : Type} {p : α → σ' → W σ'} {Qx : σ' → Prop} {Qr : ρ → Prop} : ∀ (xs : List α) (s : σ'), forNGo p Qx xs s = forGo (fun x s n b (r : ρ → Prop) => p x s n) Qx Qr xs s
  | [], s => rfl
  | x :: r, s => by
    show p x s _ = p x s _
    congr; funext s'
    exact forGo_N r s'
/-- a loop that is never left before its end -/
theorem SG.forN {σ' : Type} {L : Nat} {mi : MIt} {g : MG} {body : MS} {Γh : σ' → Gam} {Γt : α → σ' → Gam} {p : α → σ' → W σ'} {t : W (List α)} {s0 : σ'} {q : σ' → WS τ σ ρ} (hL : 1000000 ≤ L) (hi : IJ Γ mi t ea .f) (h0 : Sub Γ (Γh s0))
    (hg : ∀ x s, GJ (Γh s) g (ea x) (Γt x s)) (hb : ∀ x s, SG (Γt x s) body (fun Qn Qc _ _ => p x s Qn) Γh Γh e) (hk : ∀ s, SG (Γh s) rest (q s) Γn Γf e) :
    SG Γ (sSeq (sFor L mi g body) rest) (fun Qn Qc Qb Qr => t fun xs => forN xs s0 p (fun s => q s Qn Qc Qb Qr)) Γn Γf e := fun S ev O F Qn Qc Qb Qr hG hD z => by
  refine SG.forW (p := fun x s n c b r => p x s n) hL hi h0 hg hb hk S ev O F Qn Qc Qb Qr hG hD ?_
  have e : ∀ xs : List α, (PI.forN xs s0 p fun s => q s Qn Qc Qb Qr) = (PI.forW xs s0 (fun x s n b (r : ρ → Prop) => p x s n) (fun s => q s Qn Qc Qb Qr) Qr) := fun xs => by
    unfold PI.forN PI.forW
    rw [forGo_N]
  have e2 : (fun xs : List α => PI.forN xs s0 p fun s => q s Qn Qc Qb Qr) = fun xs => (PI.forW xs s0 (fun x s n b (r : ρ → Prop) => p x s n) (fun s => q s Qn Qc Qb Qr) Qr) := funext e
  have z : t (fun xs => PI.forN xs s0 p fun s => q s Qn Qc Qb Qr) := z
  rw [e2] at z
  exact z
theorem wh_go {σ' : Type} {c : M} {body : MS} {Γh : σ' → Gam} {tc : σ' → W Bool} {p : σ' → WS σ' σ' ρ} {Qx : σ' → Prop} {Qr : ρ → Prop} {F : NP} {Γz : σ → Gam} {Qc Qb : σ → Prop}
    (hc : ∀ s, EW (Γh s) c (tc s) eB o) (hb : ∀ s, SG (Γh s) body (p s) Γh Γh e) :
    ∀ (n k : Nat) (s : σ') (S : Store) (ev : EnvI) (O : NP), n ≤ k → EG S ev (Γh s) O F → DK S → whGo tc (fun s n b r => p s n n b r) Qx Qr n s → WP (whLoop c body k ev S) (SOut S O F Γh Γz e Qx Qc Qb Qr)
  | 0, k, s, S, ev, O, _, _, _, z => z.elim
  | n + 1, 0, s, S, ev, O, h, _, _, _ => by omega
  | n + 1, k + 1, s, S, ev, O, h, hG, hD, z => by
    unfold whLoop
    rw [wp_bind]
    refine (hc s S ev O F _ hG hD z).mono fun r ⟨z1, z2, x, z3, z4, _⟩ => ?_
    obtain ⟨d, S1⟩ := r
    obtain rfl := z4.bool
    show WP ((some x).bind _) _
    rw [wp_bind, wp_some]
    have hG1 := hG.fr z1
    cases x with
    | false =>
      rw [if_neg (by decide)] at z3 ⊢
      exact (wp_some _ _).mpr ⟨z1.wide, z2, s, O, z3, hG1, fun n q => .inl q⟩
    | true =>
      rw [if_pos rfl] at z3 ⊢
      rw [wp_bind]
      refine (hb s S1 ev O F _ _ _ _ hG1 z2 z3).mono fun r hr => ?_
      obtain ⟨fl, ev2, S2⟩ := r
      have hr := hr.tr z1.wide fun n q => .inl q
      obtain ⟨fr, hD2, h3⟩ := hr
      cases fl with
      | nx =>
        obtain ⟨s', O', y1, y2, y3⟩ := h3
        exact (wh_go hc hb n k s' S2 ev2 O' (by omega) y2 hD2 y1).mono fun r h => h.tr fr y3
      | ct =>
        obtain ⟨s', O', y1, y2, y3⟩ := h3
        exact (wh_go hc hb n k s' S2 ev2 O' (by omega) y2 hD2 y1).mono fun r h => h.tr fr y3
      | bk =>
        obtain ⟨s', O', y1, y2, y3⟩ := h3
        exact (wp_some _ _).mpr ⟨fr, hD2, s', O', y1, y2, y3⟩
      | rt d => exact (wp_some _ _).mpr ⟨fr, hD2, h3⟩
theorem SG.wh {σ' : Type} {L : Nat} {c : M} {body : MS} {Γh : σ' → Gam} {tc : σ' → W Bool} {p : σ' → WS σ' σ' ρ} {s0 : σ'} {q : σ' → WS τ σ ρ} (hL : 1000000 ≤ L) (h0 : Sub Γ (Γh s0))
    (hc : ∀ s, EW (Γh s) c (tc s) eB o) (hb : ∀ s, SG (Γh s) body (p s) Γh Γh e) (hk : ∀ s, SG (Γh s) rest (q s) Γn Γf e) :
    SG Γ (sSeq (whLoop c body L) rest) (fun Qn Qc Qb Qr => whW s0 tc (fun s n b r => p s n n b r) (fun s => q s Qn Qc Qb Qr) Qr) Γn Γf e := fun S ev O F Qn Qc Qb Qr hG hD z => by
  obtain ⟨n, hn, z⟩ := z
  show WP ((whLoop c body L ev S).bind _) _
  rw [wp_bind]
  refine (wh_go (Γz := Γf) (Qc := Qc) (Qb := Qb) hc hb n L s0 S ev O (by omega) (hG.sub h0) hD z).mono fun r hr => ?_
  obtain ⟨fl, ev2, S2⟩ := r
  obtain ⟨fr, hD2, h3⟩ := hr
  cases fl with
  | nx =>
    obtain ⟨s', O', y1, y2, y3⟩ := h3
    exact (hk s' S2 ev2 O' F Qn Qc Qb Qr y2 hD2 y1).mono fun r h => h.tr fr y3
  | ct => exact (wp_some _ _).mpr ⟨fr, hD2, h3⟩
  | bk => exact (wp_some _ _).mpr ⟨fr, hD2, h3⟩
  | rt d => exact (wp_some _ _).mpr ⟨fr, hD2, h3⟩

/-! ### a def -/
def isB : Slot → Bool
  | .b _ => true
  | _ => false
theorem slots_at {S : Store} {F : NP} : ∀ {ds : List D} {ss : List Slot} (n : Nat), ArgsR S F ds ss → ss.any isB = false → ∀ (i : Nat) (s : Slot), (ss ++ List.replicate n .u)[i]? = some s → SOk S (ds.map some ++ List.replicate n none)[i]? no F s
  | [], [], n, _, _, i, s, e => by
    rw [List.nil_append, List.getElem?_replicate] at e
    split at e
    · cases e; trivial
    · cases e
  | d :: ds, s' :: ss, n, h, hb, i, s, e => by
    rw [List.any_cons, Bool.or_eq_false_iff] at hb
    cases i with
    | zero =>
      cases e
      obtain ⟨h, _⟩ := h
      cases s' with
      | u => trivial
      | p x => exact congrArg _ (congrArg _ h)
      | v x => exact ⟨d, rfl, h.1, fun n q => ⟨h.2.1 n q, fun z => z⟩⟩
      | b x => exact absurd (show true = false from hb.1) (by decide)
      | d x => exact congrArg _ (congrArg _ h)
    | succ i => exact slots_at n h.2 hb.2 i s e
theorem ArgsR.len {S : Store} {F : NP} : ∀ {ds : List D} {ss : List Slot}, ArgsR S F ds ss → ds.length = ss.length
  | [], [], _ => rfl
  | d :: ds, s :: ss, h => by rw [List.length_cons, List.length_cons, ArgsR.len h.2]
theorem noB {ss : List Slot} (h : ss.any isB = false) {i : Nat} {x : PyData} (e : ss[i]? = some (.b x)) : False := by
  have := List.any_eq_false.mp h _ (List.mem_of_getElem? e)
  exact this rfl
/-- a def's body on its arguments -/
theorem CJ.mk {N ps : List Str} {body : MS} {ss : List Slot} {p : WS Unit Empty ρ} {tt : W ρ} (hl : ss.length = ps.length) (hb : ss.any isB = false)
    (h : SG (ss ++ List.replicate (N.length - ss.length) .u) body p (fun _ => ss ++ List.replicate (N.length - ss.length) .u) (fun x => x.elim) e) (ht : ∀ Q, tt Q → p (fun _ => False) (fun _ => False) (fun _ => False) Q) : CJ (bodyF N ps body) ss tt e := fun S ds F Q ha hF hD q => by
  have hd := ha.len
  show WP (if ds.length = ps.length then _ else none) _
  rw [if_pos (hd.trans hl), wp_bind]
  have ok := slots_at (N.length - ds.length) ha hb
  have g : EG S (startD N ds) (ss ++ List.replicate (N.length - ss.length) .u) no F := by
    refine ⟨by unfold startD; simp [hd], fun i s e => ?_, fun i j n x y hij e1 e2 _ _ => ?_, fun n q => q.elim, hF⟩
    · rw [← hd] at e
      exact ok i s e
    · by_cases hi : i < ss.length
      · rw [List.getElem?_append_left hi] at e1
        exact noB hb e1
      · rw [List.getElem?_append_right (by omega), List.getElem?_replicate] at e1
        split at e1 <;> cases e1
  refine (h S _ no F _ _ _ _ g hD (ht Q q)).mono fun r hr => ?_
  obtain ⟨fl, ev', S'⟩ := r
  obtain ⟨f, hD', h3⟩ := hr
  cases fl with
  | nx =>
    obtain ⟨_, _, z, _⟩ := h3
    exact z.elim
  | rt d =>
    obtain ⟨x, y1, y2, y3⟩ := h3
    exact (wp_some _ _).mpr ⟨f, hD', x, y1, y2, y3, trivial⟩
  | bk =>
    obtain ⟨x, _⟩ := h3
    exact x.elim
  | ct =>
    obtain ⟨x, _⟩ := h3
    exact x.elim
def eU (_ : Unit) : PyData := .none
/-- a def that ends without a value -/
theorem CJ.mkU {N ps : List Str} {body : MS} {ss : List Slot} {p : WS Unit Empty Unit} {tt : W Unit} (hl : ss.length = ps.length) (hb : ss.any isB = false)
    (h : SG (ss ++ List.replicate (N.length - ss.length) .u) body p (fun _ => List.replicate N.length .u) (fun x => x.elim) eU) (ht : ∀ Q, tt Q → p Q (fun _ => False) (fun _ => False) Q) : CJ (bodyF N ps body) ss tt eU := fun S ds F Q ha hF hD q => by
  have hd := ha.len
  show WP (if ds.length = ps.length then _ else none) _
  rw [if_pos (hd.trans hl), wp_bind]
  have ok := slots_at (N.length - ds.length) ha hb
  have g : EG S (startD N ds) (ss ++ List.replicate (N.length - ss.length) .u) no F := by
    refine ⟨by unfold startD; simp [hd], fun i s e => ?_, fun i j n x y hij e1 e2 _ _ => ?_, fun n q => q.elim, hF⟩
    · rw [← hd] at e
      exact ok i s e
    · by_cases hi : i < ss.length
      · rw [List.getElem?_append_left hi] at e1
        exact noB hb e1
      · rw [List.getElem?_append_right (by omega), List.getElem?_replicate] at e1
        split at e1 <;> cases e1
  refine (h S _ no F _ _ _ _ g hD (ht Q q)).mono fun r hr => ?_
  obtain ⟨fl, ev', S'⟩ := r
  obtain ⟨f, hD', h3⟩ := hr
  cases fl with
  | nx =>
    obtain ⟨x, O', z, _⟩ := h3
    exact (wp_some _ _).mpr ⟨f, hD', (), z, .inl rfl, (fun n w => by cases w), trivial⟩
  | rt d =>
    obtain ⟨x, y1, y2, y3⟩ := h3
    exact (wp_some _ _).mpr ⟨f, hD', x, y1, y2, y3, trivial⟩
  | bk =>
    obtain ⟨x, _⟩ := h3
    exact x.elim
  | ct =>
    obtain ⟨x, _⟩ := h3
    exact x.elim

/-! ### comprehensions -/
theorem comp_go {f : Src} {g : MG} {c elt : M} {tc : α → W Bool} {te : α → W β} {Γ2 : α → Gam} {xs : List α} {ev : EnvI} {O F : NP}
    (hg : ∀ x, GJ Γ g (ea x) (Γ2 x)) (hc : ∀ x, EW (Γ2 x) c (tc x) eB o1) (he : ∀ x, EW (Γ2 x) elt (te x) eb .p) :
    ∀ (k i : Nat) (acc : List β) (S : Store) (Q : List β → Prop), xs.length - i < k → i ≤ xs.length → acc.length ≤ i → xs.length < 1000000 → SrcAt f S no (xs.map ea) → EG S ev Γ O F → DK S → compGo (fun x Q => tc x fun b => if b = true then te x fun y => Q (some y) else Q none) (xs.drop i) (fun l => Q (acc ++ l)) →
      WP (lcLoop f g c elt ev k i (acc.map fun y => .p (eb y)) S) fun r => Fr no S r.2 ∧ DK r.2 ∧ ∃ l, Q l ∧ r.1 = (l.map fun y => D.p (eb y)) ∧ l.length < 1000000
  | 0, i, acc, S, Q, h, _, _, _, _, _, _, _ => by omega
  | k + 1, i, acc, S, Q, h, hi, ha, hx, hf, hG, hD, z => by
    have hfi := hf S (Fr.refl _ _) i (by rw [List.length_map]; exact hi)
    unfold lcLoop
    rw [wp_bind, hfi, wp_some]
    by_cases hl : i < xs.length
    · have ex : xs.drop i = xs[i] :: xs.drop (i + 1) := List.drop_eq_getElem_cons hl
      rw [ex] at z
      rw [List.getElem?_map, List.getElem?_eq_getElem hl]
      show WP ((g (.p (ea xs[i])) ev S).bind _) _
      obtain ⟨ev1, e1, g1⟩ := hg xs[i] S ev O F hG
      rw [e1]
      show WP ((c ev1 S).bind _) _
      rw [wp_bind]
      refine (hc xs[i] S ev1 O F _ g1 hD z).mono fun r ⟨z1, z2, b, z3, z4, _⟩ => ?_
      obtain ⟨d, S1⟩ := r
      obtain rfl := z4.bool
      show WP ((some b).bind _) _
      rw [wp_bind, wp_some]
      cases b with
      | true =>
        rw [if_pos rfl] at z3 ⊢
        rw [wp_bind]
        refine (he xs[i] S1 ev1 O F _ (g1.fr z1) z2 z3).mono fun r ⟨y1, y2, y, y3, _, _, y4⟩ => ?_
        obtain ⟨d, S2⟩ := r
        have y4 : d = .p (eb y) := y4
        subst y4
        have lt : acc.length < sizeLine := Nat.lt_trans (Nat.lt_of_le_of_lt ha (Nat.lt_trans hl hx)) (by decide)
        have fr := z1.seq y1
        show WP (if (acc.map _).length < sizeLine then _ else none) _
        rw [List.length_map, if_pos lt]
        have : (acc.map fun y => D.p (eb y)) ++ [.p (eb y)] = (acc ++ [y]).map fun y => D.p (eb y) := by simp
        rw [this]
        refine (comp_go hg hc he k (i + 1) (acc ++ [y]) S2 Q (by omega) hl (by simp; omega) hx (hf.fr fr fun n q => .inl q) (hG.fr fr) y2 ?_).mono fun r h => ⟨fr.seq h.1, h.2⟩
        simpa using y3
      | false =>
        rw [if_neg (by decide)] at z3 ⊢
        exact (comp_go hg hc he k (i + 1) acc S1 Q (by omega) hl (by omega) hx (hf.fr z1 fun n q => .inl q) (hG.fr z1) z2 z3).mono fun r h => ⟨z1.seq h.1, h.2⟩
    · have hz : xs.length ≤ i := by omega
      rw [List.drop_eq_nil_of_le hz] at z
      rw [List.getElem?_eq_none (by rw [List.length_map]; exact hz)]
      exact (wp_some _ _).mpr ⟨Fr.refl _ _, hD, acc, by simpa using (show Q (acc ++ []) from z), rfl, Nat.lt_of_le_of_lt ha (Nat.lt_of_le_of_lt hi hx)⟩
/-- list or tuple of a type -/
def eL (e : α → PyData) (l : List α) : PyData := .list (l.map e)
def eT (e : α → PyData) (l : List α) : PyData := .tuple (l.map e)
theorem mkL_op {bx : Bool} {l : List PyData} {S : Store} (h2 : 2 ≤ S.length) (h : l.length ≤ sizeLine) {Q : Unit → Prop} (q : Q ()) : WP (mkL bx (l.map .p) S) (OpR S Q fun _ => if bx = true then .b (.list l) else .p (.list l)) := by
  unfold mkL
  rw [List.length_map, if_pos h]
  cases bx with
  | true =>
    refine (wp_some _ _).mpr ⟨⟨⟨_, rfl⟩, fun n q => by cases q; exact Nat.le_refl _⟩, (), q, ?_⟩
    refine ⟨S.length, rfl, Nat.le_refl _, h2, ?_⟩
    show (S ++ [_])[S.length]? = _
    simp
  | false =>
    rw [if_neg (by decide), allP_map]
    exact (wp_some _ _).mpr ⟨New.self S _, (), q, rfl⟩
end
end PI
set_option maxHeartbeats 1000000
/-! Own text: typed reading, part 5: operators. -/
namespace PI
open PySem PySem.Spec L2
open PyProof.Rows hiding St

def eI (i : Int) : PyData := .int i
def eS (s : String) : PyData := .str (Str.ofString s)
def eX (x : PyData) : PyData := x
section
variable {α β γ δ : Type}
def eP1 (ea : α → PyData) (p : α) : PyData := .tuple [ea p]
def eP2 (ea : α → PyData) (eb : β → PyData) (p : α × β) : PyData := .tuple [ea p.1, eb p.2]
def eP3 (ea : α → PyData) (eb : β → PyData) (ec : γ → PyData) (p : α × β × γ) : PyData := .tuple [ea p.1, eb p.2.1, ec p.2.2]
def eP4 (ea : α → PyData) (eb : β → PyData) (ec : γ → PyData) (ed : δ → PyData) (p : α × β × γ × δ) : PyData := .tuple [ea p.1, eb p.2.1, ec p.2.2.1, ed p.2.2.2]
def eO (e : α → PyData) : Option α → PyData
  | none => .none
  | some x => e x
def eDI (e : α → PyData) (l : List (Int × α)) : PyData := .dict (l.map fun p => (.int p.1, e p.2))
end
/-! ### what can be compared -/
structure EqOk {α : Type} [DecidableEq α] (e : α → PyData) (n : Nat) : Prop where
  lay : ∀ a, PyData.canLay0 (e a) = true
  dep : ∀ a, (e a).depth ≤ n
  eq : ∀ a b, PyData.eqv (e a) (e b) = decide (a = b)
theorem beq_dec {α : Type} [DecidableEq α] (a b : α) : (a == b) = decide (a = b) := rfl
theorem char_inj {a b : Char} (h : a.toNat = b.toNat) : a = b := Char.ext (UInt32.toNat_inj.mp h)
theorem ofString_inj {a b : String} (h : Str.ofString a = Str.ofString b) : a = b := by
  rw [Str.ofString_eq_toList, Str.ofString_eq_toList] at h
  have h1 : a.toList.map Char.toNat = b.toList.map Char.toNat := by
    have := congrArg (fun s : Str => s.cps.toList) h
    simpa using this
  have : a.toList = b.toList := by
    have inj : Function.Injective Char.toNat := fun x y q => char_inj q
    exact (List.map_inj_right fun x y q => char_inj q).mp h1
  exact String.toList_inj.mp this
theorem eqok_I : EqOk eI 0 := ⟨fun _ => rfl, fun _ => Nat.le_refl _, fun a b => beq_dec a b⟩
theorem eqok_B : EqOk eB 0 := ⟨fun _ => rfl, fun _ => Nat.le_refl _, fun a b => by cases a <;> cases b <;> rfl⟩
theorem eqok_S : EqOk eS 0 := ⟨fun a => strOk_of a, fun _ => Nat.le_refl _, fun a b => by
  show (Str.ofString a == Str.ofString b) = _
  rw [beq_dec]
  exact decide_eq_decide.mpr ⟨ofString_inj, fun h => by rw [h]⟩⟩
section
variable {α β γ δ : Type} [DecidableEq α] [DecidableEq β] [DecidableEq γ] [DecidableEq δ] {ea : α → PyData} {eb : β → PyData} {ec : γ → PyData} {ed : δ → PyData} {n m n3 n4 : Nat}
theorem eqok_all (h : EqOk ea n) : ∀ a b : List α, PyData.eqvAll (a.map ea) (b.map ea) = decide (a = b)
  | [], [] => rfl
  | [], b :: t => rfl
  | a :: r, [] => rfl
  | a :: r, b :: t => by
    show (PyData.eqv (ea a) (ea b) && PyData.eqvAll (r.map ea) (t.map ea)) = _
    rw [h.eq, eqok_all h r t, ← Bool.decide_and]
    exact decide_eq_decide.mpr ⟨fun ⟨x, y⟩ => by rw [x, y], fun h => by cases h; exact ⟨rfl, rfl⟩⟩
theorem lay_all (h : EqOk ea n) : ∀ a : List α, PyData.canLayAll0 (a.map ea) = true
  | [] => rfl
  | a :: r => by
    show (PyData.canLay0 (ea a) && PyData.canLayAll0 (r.map ea)) = true
    rw [h.lay, lay_all h r]; rfl
theorem dep_all (h : EqOk ea n) : ∀ a : List α, PyData.depthAll (a.map ea) ≤ n
  | [] => Nat.zero_le _
  | a :: r => Nat.max_le.mpr ⟨h.dep a, dep_all h r⟩
theorem eqok_T (h : EqOk ea n) : EqOk (eT ea) (n + 1) := ⟨fun a => lay_all h a, fun a => Nat.succ_le_succ (dep_all h a), fun a b => eqok_all h a b⟩
theorem eqok_L (h : EqOk ea n) : EqOk (eL ea) (n + 1) := ⟨fun a => lay_all h a, fun a => Nat.succ_le_succ (dep_all h a), fun a b => eqok_all h a b⟩
theorem eqok_P2 (h : EqOk ea n) (k : EqOk eb m) : EqOk (eP2 ea eb) (max n m + 1) := ⟨fun a => by show (PyData.canLay0 (ea a.1) && (PyData.canLay0 (eb a.2) && true)) = true; rw [h.lay, k.lay]; rfl,
  fun a => by
    show max (ea a.1).depth (max (eb a.2).depth 0) + 1 ≤ _
    have := h.dep a.1; have := k.dep a.2; omega,
  fun a b => by
    show (PyData.eqv (ea a.1) (ea b.1) && (PyData.eqv (eb a.2) (eb b.2) && true)) = _
    rw [h.eq, k.eq, Bool.and_true, ← Bool.decide_and]
    exact decide_eq_decide.mpr ⟨fun ⟨x, y⟩ => Prod.ext x y, fun h => by cases h; exact ⟨rfl, rfl⟩⟩⟩
theorem eqok_P3 (h : EqOk ea n) (k : EqOk eb m) (l : EqOk ec n3) : EqOk (eP3 ea eb ec) (max n (max m n3) + 1) := ⟨fun a => by show (PyData.canLay0 (ea a.1) && (PyData.canLay0 (eb a.2.1) && (PyData.canLay0 (ec a.2.2) && true))) = true; rw [h.lay, k.lay, l.lay]; rfl,
  fun a => by
    show max (ea a.1).depth (max (eb a.2.1).depth (max (ec a.2.2).depth 0)) + 1 ≤ _
    have := h.dep a.1; have := k.dep a.2.1; have := l.dep a.2.2; omega,
  fun a b => by
    show (PyData.eqv (ea a.1) (ea b.1) && (PyData.eqv (eb a.2.1) (eb b.2.1) && (PyData.eqv (ec a.2.2) (ec b.2.2) && true))) = _
    rw [h.eq, k.eq, l.eq, Bool.and_true, ← Bool.decide_and, ← Bool.decide_and]
    exact decide_eq_decide.mpr ⟨fun ⟨x, y, z⟩ => Prod.ext x (Prod.ext y z), fun h => by cases h; exact ⟨rfl, rfl, rfl⟩⟩⟩
theorem eqok_P4 (h : EqOk ea n) (k : EqOk eb m) (l : EqOk ec n3) (w : EqOk ed n4) : EqOk (eP4 ea eb ec ed) (max n (max m (max n3 n4)) + 1) := ⟨fun a => by show (PyData.canLay0 (ea a.1) && (PyData.canLay0 (eb a.2.1) && (PyData.canLay0 (ec a.2.2.1) && (PyData.canLay0 (ed a.2.2.2) && true)))) = true; rw [h.lay, k.lay, l.lay, w.lay]; rfl,
  fun a => by
    show max (ea a.1).depth (max (eb a.2.1).depth (max (ec a.2.2.1).depth (max (ed a.2.2.2).depth 0))) + 1 ≤ _
    have := h.dep a.1; have := k.dep a.2.1; have := l.dep a.2.2.1; have := w.dep a.2.2.2; omega,
  fun a b => by
    show (PyData.eqv (ea a.1) (ea b.1) && (PyData.eqv (eb a.2.1) (eb b.2.1) && (PyData.eqv (ec a.2.2.1) (ec b.2.2.1) && (PyData.eqv (ed a.2.2.2) (ed b.2.2.2) && true)))) = _
    rw [h.eq, k.eq, l.eq, w.eq, Bool.and_true, ← Bool.decide_and, ← Bool.decide_and, ← Bool.decide_and]
    exact decide_eq_decide.mpr ⟨fun ⟨x, y, z, u⟩ => Prod.ext x (Prod.ext y (Prod.ext z u)), fun h => by cases h; exact ⟨rfl, rfl, rfl, rfl⟩⟩⟩
theorem eqok_P1 (h : EqOk ea n) : EqOk (eP1 ea) (n + 1) := ⟨fun a => by show (PyData.canLay0 (ea a) && true) = true; rw [h.lay]; rfl,
  fun a => by
    show max (ea a).depth 0 + 1 ≤ _
    have := h.dep a; omega,
  fun a b => by
    show (PyData.eqv (ea a) (ea b) && true) = _
    rw [h.eq, Bool.and_true]⟩
/-- never None, by eqv -/
structure NN {α : Type} (e : α → PyData) : Prop where
  n : ∀ a, e a ≠ .none
theorem eqv_none_r {x : PyData} (h : x ≠ .none) : PyData.eqv x .none = false := by cases x <;> first | rfl | exact absurd rfl h
theorem eqv_none_l {x : PyData} (h : x ≠ .none) : PyData.eqv .none x = false := by cases x <;> first | rfl | exact absurd rfl h
theorem eqok_O (h : EqOk ea n) (k : ∀ a, ea a ≠ .none) : EqOk (eO ea) n := ⟨fun a => by cases a with | none => rfl | some a => exact h.lay a, fun a => by cases a with | none => exact Nat.zero_le _ | some a => exact h.dep a,
  fun a b => by
    cases a with
    | none =>
      cases b with
      | none => rfl
      | some b =>
        show PyData.eqv .none (ea b) = _
        rw [eqv_none_l (k b)]; rfl
    | some a =>
      cases b with
      | none =>
        show PyData.eqv (ea a) .none = _
        rw [eqv_none_r (k a)]; rfl
      | some b =>
        show PyData.eqv (ea a) (ea b) = _
        rw [h.eq]
        exact decide_eq_decide.mpr ⟨fun h => by rw [h], fun h => Option.some.inj h⟩⟩
end
theorem Is.view {S : Store} {d : D} {x : PyData} (h : Is S d x) (k : PyData.canLay0 x = true) : viewP S d = some x := by
  rcases h with rfl | ⟨n, rfl, _, c⟩
  · rfl
  · cases x <;> first | exact c.elim | skip
    · have c : S[n]? = _ := c
      simp only [viewP, c, allP_map]; rfl
    · exact absurd k (by simp [PyData.canLay0])
theorem Is.lst {S : Store} {d : D} {l : List PyData} (h : Is S d (.list l)) : lstOf S d = some (l.map .p) := by
  rcases h with rfl | ⟨n, rfl, _, c⟩
  · rfl
  · have c : S[n]? = _ := c
    simp only [lstOf, c]
theorem Is.tup {S : Store} {d : D} {l : List PyData} (h : Is S d (.tuple l)) : d = .p (.tuple l) := h.pure rfl
theorem shaped_of {α : Type} [DecidableEq α] {e : α → PyData} {n : Nat} (k : EqOk e n) (hn : n ≤ 64) (a : α) : SeqAt.shaped (e a) = true := by
  unfold SeqAt.shaped
  rw [k.lay, decide_eq_true (Nat.le_trans (k.dep a) hn)]; rfl
theorem lst_not {x : PyData} (S : Store) (h : ∀ l, x ≠ .list l) : lstOf S (.p x) = none := by cases x <;> first | rfl | exact absurd rfl (h _)
theorem eqI_is {S : Store} {d1 d2 : D} {x y : PyData} (h1 : Is S d1 x) (h2 : Is S d2 y) (s1 : SeqAt.shaped x = true) (s2 : SeqAt.shaped y = true) : eqI S d1 d2 = some (PyData.eqv x y) := by
  have k1 : PyData.canLay0 x = true := (Bool.and_eq_true_iff.mp s1).1
  have k2 : PyData.canLay0 y = true := (Bool.and_eq_true_iff.mp s2).1
  have g : eqG S d1 d2 = some (PyData.eqv x y) := by
    unfold eqG
    rw [h1.view k1, h2.view k2]
    exact if_pos ⟨s1, s2⟩
  have hy : eqY S d1 d2 = some (PyData.eqv x y) := by
    unfold eqY
    have : eqZ S d1 d2 = none ∨ eqZ S d1 d2 = some (PyData.eqv x y) := by
      rcases h2 with rfl | ⟨n, rfl, _, c⟩
      · cases y <;> first | exact .inl rfl | skip
        · rename_i l
          cases l with
          | cons _ _ => exact .inl rfl
          | nil =>
            by_cases hx : ∃ m, x = .list m
            · obtain ⟨m, rfl⟩ := hx
              right
              show (lstOf S d1).map _ = _
              rw [h1.lst]
              cases m <;> rfl
            · left
              show (lstOf S d1).map _ = _
              rcases h1 with rfl | ⟨n, rfl, _, c⟩
              · rw [lst_not S fun l e => hx ⟨l, e⟩]; rfl
              · cases x <;> first | exact c.elim | skip
                · exact absurd ⟨_, rfl⟩ hx
                · exact absurd k1 (by simp [PyData.canLay0])
        · rename_i l
          cases l with
          | cons _ _ => exact .inl rfl
          | nil =>
            rcases h1 with rfl | ⟨n, rfl, _, c⟩
            · cases x <;> first | exact .inl rfl | skip
              rename_i m
              right
              show some m.isEmpty = _
              cases m <;> rfl
            · exact .inl rfl
      · exact .inl rfl
    rcases this with e | e
    · rw [e]; exact g
    · rw [e]
  by_cases hs : ∃ a b, d1 = .p (.str a) ∧ d2 = .p (.str b)
  · obtain ⟨a, b, rfl, rfl⟩ := hs
    have e1 : x = .str a := by
      rcases h1 with h | ⟨n, h, _⟩
      · cases h; rfl
      · cases h
    have e2 : y = .str b := by
      rcases h2 with h | ⟨n, h, _⟩
      · cases h; rfl
      · cases h
    subst e1; subst e2
    rfl
  · have : eqI S d1 d2 = eqY S d1 d2 := by
      unfold eqI
      split
      · rename_i a b
        exact absurd ⟨a, b, rfl, rfl⟩ hs
      · rfl
    rw [this]; exact hy
end PI
set_option maxHeartbeats 1000000
/-! Own text: typed reading, part 6: operators' rules. -/
namespace PI
open PySem PySem.Spec L2
open PyProof.Rows hiding St

section
variable [Deck]
open Deck
variable {α β γ δ : Type} {Γ : Gam} {a b c m : M} {ta : W α} {tb : W β} {ea : α → PyData} {eb : β → PyData} {ec : γ → PyData} {o o1 o2 o3 : Md}
theorem ES.unP {m : M} {k : D × Store → RD0} {e : δ → PyData} (he : ∀ ev S, m ev S = (a ev S).bind k) (ha : EW Γ a ta ea o1) {r : α → W δ}
    (op : ∀ x S d Q, Is S d (ea x) → r x Q → ∃ z, Q z ∧ k (d, S) = some (.p (e z), S)) : EW Γ m (fun Q => ta fun x => r x Q) e .p := fun S ev O F Q g hD q => by
  rw [he, wp_bind]
  refine (ha S ev O F _ g hD q).mono fun s ⟨z1, z2, x, z3, z4, _⟩ => ?_
  obtain ⟨d, S1⟩ := s
  obtain ⟨z, q1, q2⟩ := op x S1 d Q z4 z3
  rw [q2]
  exact (wp_some _ _).mpr ⟨z1, z2, z, q1, .inl rfl, (fun n w => by cases w), rfl⟩
theorem ES.twoP {m : M} {k : D → D × Store → RD0} {e : δ → PyData} (he : ∀ ev S, m ev S = (a ev S).bind fun s => (b ev s.2).bind fun t => k s.1 t) (ha : EW Γ a ta ea o1) (hb : EW Γ b tb eb o2) {r : α → β → W δ}
    (op : ∀ x y S d1 d2 Q, Is S d1 (ea x) → Is S d2 (eb y) → r x y Q → ∃ z, Q z ∧ k d1 (d2, S) = some (.p (e z), S)) : EW Γ m (fun Q => ta fun x => tb fun y => r x y Q) e .p := fun S ev O F Q g hD q => by
  rw [he, wp_bind]
  refine (ha S ev O F _ g hD q).mono fun s ⟨z1, z2, x, z3, z4, _⟩ => ?_
  obtain ⟨d, S1⟩ := s
  rw [wp_bind]
  refine (hb S1 ev O F _ (g.fr z1) z2 z3).mono fun s ⟨y1, y2, y, y3, y4, _⟩ => ?_
  obtain ⟨d2, S2⟩ := s
  obtain ⟨z, q1, q2⟩ := op x y S2 d d2 Q (z4.fr y1) y4 y3
  rw [q2]
  exact (wp_some _ _).mpr ⟨z1.seq y1, y2, z, q1, .inl rfl, (fun n w => by cases w), rfl⟩
theorem ES.nbp (h : EW Γ a ta ea o) (n : ∀ x, nb (ea x) = true) : EW Γ a ta ea .p := ES.ofP (ES.toP h n)

/-! ### numbers -/
theorem Is.int {S : Store} {d : D} {i : Int} (h : Is S d (eI i)) : d = .p (.int i) := h.pure rfl
theorem Is.str {S : Store} {d : D} {i : String} (h : Is S d (eS i)) : d = .p (.str (Str.ofString i)) := h.pure rfl
section
variable {t1 t2 t3 : W Int} {bx : Bool}
theorem ES.add (ha : EW Γ a t1 eI o1) (hb : EW Γ b t2 eI o2) : EW Γ (mBin bx .Add a b) (fun Q => t1 fun x => t2 fun y => Q (x + y)) eI .p :=
  ES.twoP (k := fun d t => PI.binI bx .Add t.2 d t.1) (fun _ _ => rfl) ha hb fun x y S d1 d2 Q h1 h2 q => ⟨_, q, by rw [h1.int, h2.int]; rfl⟩
theorem ES.sub (ha : EW Γ a t1 eI o1) (hb : EW Γ b t2 eI o2) : EW Γ (mBin bx .Sub a b) (fun Q => t1 fun x => t2 fun y => Q (x - y)) eI .p :=
  ES.twoP (k := fun d t => PI.binI bx .Sub t.2 d t.1) (fun _ _ => rfl) ha hb fun x y S d1 d2 Q h1 h2 q => ⟨_, q, by rw [h1.int, h2.int]; rfl⟩
/-- a product, one of both not too great -/
def mulW (x y : Int) : W Int := fun Q => ((-(2 ^ 64) < x ∧ x < 2 ^ 64) ∨ (-(2 ^ 64) < y ∧ y < 2 ^ 64)) ∧ Q (x * y)
def modW (x y : Int) : W Int := fun Q => 0 < y ∧ Q (x % y)
def fdivW (x y : Int) : W Int := fun Q => (0 < y ∧ y < 1073741824) ∧ Q (x / y)
def powW (x y : Int) : W Int := fun Q => (0 ≤ y ∧ y ≤ 1000000 ∧ x.natAbs < 2 ^ 64) ∧ Q (x ^ y.toNat)
theorem ES.mul (ha : EW Γ a t1 eI o1) (hb : EW Γ b t2 eI o2) : EW Γ (mBin bx .Mult a b) (fun Q => t1 fun x => t2 fun y => mulW x y Q) eI .p :=
  ES.twoP (k := fun d t => PI.binI bx .Mult t.2 d t.1) (fun _ _ => rfl) ha hb fun x y S d1 d2 Q h1 h2 q => ⟨_, q.2, by
    rw [h1.int, h2.int]
    show (if _ then some (x * y) else none).map _ = _
    rw [if_pos q.1]; rfl⟩
theorem ES.mod (ha : EW Γ a t1 eI o1) (hb : EW Γ b t2 eI o2) : EW Γ (mBin bx .Mod a b) (fun Q => t1 fun x => t2 fun y => modW x y Q) eI .p :=
  ES.twoP (k := fun d t => PI.binI bx .Mod t.2 d t.1) (fun _ _ => rfl) ha hb fun x y S d1 d2 Q h1 h2 q => ⟨_, q.2, by
    rw [h1.int, h2.int]
    show (if _ then some (x % y) else none).map _ = _
    rw [if_pos q.1]; rfl⟩
theorem ES.fdiv (ha : EW Γ a t1 eI o1) (hb : EW Γ b t2 eI o2) : EW Γ (mBin bx .FloorDiv a b) (fun Q => t1 fun x => t2 fun y => fdivW x y Q) eI .p :=
  ES.twoP (k := fun d t => PI.binI bx .FloorDiv t.2 d t.1) (fun _ _ => rfl) ha hb fun x y S d1 d2 Q h1 h2 q => ⟨_, q.2, by
    rw [h1.int, h2.int]
    show (if _ then some (x / y) else none).map _ = _
    rw [if_pos q.1]; rfl⟩
theorem ES.pow (ha : EW Γ a t1 eI o1) (hb : EW Γ b t2 eI o2) : EW Γ (mBin bx .Pow a b) (fun Q => t1 fun x => t2 fun y => powW x y Q) eI .p :=
  ES.twoP (k := fun d t => PI.binI bx .Pow t.2 d t.1) (fun _ _ => rfl) ha hb fun x y S d1 d2 Q h1 h2 q => ⟨_, q.2, by
    rw [h1.int, h2.int]
    show (if _ then some (x ^ y.toNat) else none).map _ = _
    rw [if_pos q.1]; rfl⟩
theorem ES.neg (ha : EW Γ a t1 eI o1) : EW Γ (mNeg a) (fun Q => t1 fun x => Q (-x)) eI .p :=
  ES.unP (k := kNeg) (fun _ _ => mNeg_e _ _ _) ha fun x S d Q h1 q => ⟨_, q, by rw [h1.int]; rfl⟩
/-- a comparison of numbers -/
theorem ES.cmp {op : CmpOp} {f : Int → Int → Bool} (ha : EW Γ a t1 eI o1) (hb : EW Γ b t2 eI o2) (h : ∀ S x y, PI.cmpI op S (.p (.int x)) (.p (.int y)) = some (f x y)) : EW Γ (mCmp op a b) (fun Q => t1 fun x => t2 fun y => Q (f x y)) eB .p :=
  ES.twoP (k := fun d t => (PI.cmpI op t.2 d t.1).map fun c => (.p (.bool c), t.2)) (fun _ _ => rfl) ha hb fun x y S d1 d2 Q h1 h2 q => ⟨_, q, by
    rw [h1.int, h2.int]
    show (PI.cmpI op S _ _).map _ = _
    rw [h]; rfl⟩
theorem ES.lt (ha : EW Γ a t1 eI o1) (hb : EW Γ b t2 eI o2) : EW Γ (mCmp .Lt a b) (fun Q => t1 fun x => t2 fun y => Q (decide (x < y))) eB .p := ES.cmp ha hb fun _ _ _ => rfl
theorem ES.le (ha : EW Γ a t1 eI o1) (hb : EW Γ b t2 eI o2) : EW Γ (mCmp .LtE a b) (fun Q => t1 fun x => t2 fun y => Q (decide (x ≤ y))) eB .p := ES.cmp ha hb fun _ _ _ => rfl
theorem ES.gt (ha : EW Γ a t1 eI o1) (hb : EW Γ b t2 eI o2) : EW Γ (mCmp .Gt a b) (fun Q => t1 fun x => t2 fun y => Q (decide (y < x))) eB .p := ES.cmp ha hb fun _ _ _ => rfl
theorem ES.ge (ha : EW Γ a t1 eI o1) (hb : EW Γ b t2 eI o2) : EW Γ (mCmp .GtE a b) (fun Q => t1 fun x => t2 fun y => Q (decide (y ≤ x))) eB .p := ES.cmp ha hb fun _ _ _ => rfl
/-- a chain of comparisons of numbers, the last one without steps -/
theorem ES.chain {op op' : CmpOp} {f f' : Int → Int → Bool} {z : Int} (ha : EW Γ a t1 eI o1) (hb : EW Γ b t2 eI o2) (hc : EW Γ c (fun Q => Q z) eI o3) (h : ∀ S x y, PI.cmpI op S (.p (.int x)) (.p (.int y)) = some (f x y)) (h' : ∀ S x y, PI.cmpI op' S (.p (.int x)) (.p (.int y)) = some (f' x y)) :
    EW Γ (mChain op op' a b c) (fun Q => t1 fun x => t2 fun y => Q (f x y && f' y z)) eB .p := fun S ev O F Q g hD q => by
  show WP ((a ev S).bind _) _
  rw [wp_bind]
  refine (ha S ev O F _ g hD q).mono fun s ⟨z1, z2, x, z3, z4, _⟩ => ?_
  obtain ⟨d, S1⟩ := s
  obtain rfl := z4.int
  rw [wp_bind]
  refine (hb S1 ev O F _ (g.fr z1) z2 z3).mono fun s ⟨y1, y2, y, y3, y4, _⟩ => ?_
  obtain ⟨d2, S2⟩ := s
  obtain rfl := y4.int
  have z12 := z1.seq y1
  show WP ((PI.cmpI op S2 (.p (.int x)) (.p (.int y))).bind _) _
  rw [h]
  show WP (if f x y = true then _ else _) _
  cases hx : f x y with
  | false =>
    have y3 : Q (f x y && f' y z) := y3
    rw [hx] at y3
    rw [if_neg (by decide)]
    exact (wp_some _ _).mpr ((out_bool y2 y3).tr z12)
  | true =>
    have y3 : Q (f x y && f' y z) := y3
    rw [hx] at y3
    rw [if_pos rfl, wp_bind]
    refine (hc S2 ev O F (fun w => w = z) (g.fr z12) y2 rfl).mono fun s ⟨x1, x2, w, x3, x4, _⟩ => ?_
    obtain ⟨d3, S3⟩ := s
    obtain rfl := x4.int
    subst x3
    show WP ((PI.cmpI op' S3 (.p (.int y)) (.p (.int w))).map _) _
    rw [h']
    exact (wp_some _ _).mpr ((out_bool x2 y3).tr (z12.seq x1))
end

/-! ### equality -/
section
variable [DecidableEq α] {t1 t2 : W α} {n : Nat}
theorem ES.eq (k : EqOk ea n) (hn : n ≤ 64) (ha : EW Γ a t1 ea o1) (hb : EW Γ b t2 ea o2) : EW Γ (mCmp .Eq a b) (fun Q => t1 fun x => t2 fun y => Q (decide (x = y))) eB .p :=
  ES.twoP (k := fun d t => (PI.cmpI .Eq t.2 d t.1).map fun c => (.p (.bool c), t.2)) (fun _ _ => rfl) ha hb fun x y S d1 d2 Q h1 h2 q => ⟨_, q, by
    show (eqI S d1 d2).map _ = _
    rw [eqI_is h1 h2 (shaped_of k hn x) (shaped_of k hn y), k.eq]; rfl⟩
theorem ES.ne (k : EqOk ea n) (hn : n ≤ 64) (ha : EW Γ a t1 ea o1) (hb : EW Γ b t2 ea o2) : EW Γ (mCmp .NotEq a b) (fun Q => t1 fun x => t2 fun y => Q (!decide (x = y))) eB .p :=
  ES.twoP (k := fun d t => (PI.cmpI .NotEq t.2 d t.1).map fun c => (.p (.bool c), t.2)) (fun _ _ => rfl) ha hb fun x y S d1 d2 Q h1 h2 q => ⟨_, q, by
    show ((eqI S d1 d2).map _).map _ = _
    rw [eqI_is h1 h2 (shaped_of k hn x) (shaped_of k hn y), k.eq]; rfl⟩
/-- among the items of a list or tuple -/
theorem any_dec {ea : α → PyData} (k : EqOk ea n) (x : α) (l : List α) : ((l.map ea).any fun z => PyData.eqv z (ea x)) = decide (x ∈ l) := by
  rw [List.any_map]
  induction l with
  | nil => rfl
  | cons y r ih =>
    rw [List.any_cons, ih]
    show (PyData.eqv (ea y) (ea x) || _) = _
    rw [k.eq, ← Bool.decide_or]
    exact decide_eq_decide.mpr ⟨fun h => h.elim (fun h => by rw [h]; exact List.mem_cons_self ..) (List.mem_cons_of_mem _), fun h => by rcases List.mem_cons.mp h with h | h; exact .inl h.symm; exact .inr h⟩
theorem memI_L {S : Store} {d1 d2 : D} {x : α} {l : List α} (k : EqOk ea n) (hn : n ≤ 64) (h1 : Is S d1 (ea x)) (h2 : Is S d2 (eL ea l)) : PI.memI S d1 d2 = some (decide (x ∈ l)) := by
  have l1 := h2.lst
  have e1 : seqP S d2 = some (l.map ea) := by
    rcases h2 with rfl | ⟨n, rfl, _, _⟩
    · show (lstOf S (.p (.list (l.map ea)))).bind allP = _
      exact allP_map _
    · show (lstOf S (.ref n)).bind allP = _
      rw [l1]; exact allP_map _
  have e2 : dctOf S d2 = none := by
    rcases h2 with rfl | ⟨n, rfl, _, c⟩
    · rfl
    · have c : S[n]? = _ := c
      simp only [dctOf, c]
  have e3 : PI.memI S d1 d2 = (match seqP S d2, viewP S d1 with
      | some xs, some a => if SeqAt.shaped a = true ∧ PyData.canLayAll0 xs = true then some (xs.any fun z => PyData.eqv z a) else none
      | _, _ => none) := by
    rcases h2 with rfl | ⟨n, rfl, _, c⟩
    · rfl
    · simp only [PI.memI, e2] <;> rfl
  rw [e3, e1, h1.view (k.lay x)]
  show (if _ then _ else none) = _
  rw [if_pos ⟨shaped_of k hn x, lay_all k l⟩, any_dec k]
theorem memI_T {S : Store} {d1 d2 : D} {x : α} {l : List α} (k : EqOk ea n) (hn : n ≤ 64) (h1 : Is S d1 (ea x)) (h2 : Is S d2 (eT ea l)) : PI.memI S d1 d2 = some (decide (x ∈ l)) := by
  obtain rfl := h2.tup
  show (match seqP S (.p (.tuple (l.map ea))), viewP S d1 with
      | some xs, some a => if SeqAt.shaped a = true ∧ PyData.canLayAll0 xs = true then some (xs.any fun z => PyData.eqv z a) else none
      | _, _ => none) = _
  rw [h1.view (k.lay x)]
  show (if _ then _ else none) = _
  rw [if_pos ⟨shaped_of k hn x, lay_all k l⟩, any_dec k]
variable {t3 : W (List α)}
theorem ES.inL (k : EqOk ea n) (hn : n ≤ 64) (ha : EW Γ a t1 ea o1) (hb : EW Γ b t3 (eL ea) o2) : EW Γ (mCmp .In a b) (fun Q => t1 fun x => t3 fun y => Q (decide (x ∈ y))) eB .p :=
  ES.twoP (k := fun d t => (PI.cmpI .In t.2 d t.1).map fun c => (.p (.bool c), t.2)) (fun _ _ => rfl) ha hb fun x y S d1 d2 Q h1 h2 q => ⟨_, q, by
    show (PI.memI S d1 d2).map _ = _
    rw [memI_L k hn h1 h2]; rfl⟩
theorem ES.inT (k : EqOk ea n) (hn : n ≤ 64) (ha : EW Γ a t1 ea o1) (hb : EW Γ b t3 (eT ea) o2) : EW Γ (mCmp .In a b) (fun Q => t1 fun x => t3 fun y => Q (decide (x ∈ y))) eB .p :=
  ES.twoP (k := fun d t => (PI.cmpI .In t.2 d t.1).map fun c => (.p (.bool c), t.2)) (fun _ _ => rfl) ha hb fun x y S d1 d2 Q h1 h2 q => ⟨_, q, by
    show (PI.memI S d1 d2).map _ = _
    rw [memI_T k hn h1 h2]; rfl⟩
theorem ES.ninL (k : EqOk ea n) (hn : n ≤ 64) (ha : EW Γ a t1 ea o1) (hb : EW Γ b t3 (eL ea) o2) : EW Γ (mCmp .NotIn a b) (fun Q => t1 fun x => t3 fun y => Q (!decide (x ∈ y))) eB .p :=
  ES.twoP (k := fun d t => (PI.cmpI .NotIn t.2 d t.1).map fun c => (.p (.bool c), t.2)) (fun _ _ => rfl) ha hb fun x y S d1 d2 Q h1 h2 q => ⟨_, q, by
    show ((PI.memI S d1 d2).map _).map _ = _
    rw [memI_L k hn h1 h2]; rfl⟩
theorem ES.ninT (k : EqOk ea n) (hn : n ≤ 64) (ha : EW Γ a t1 ea o1) (hb : EW Γ b t3 (eT ea) o2) : EW Γ (mCmp .NotIn a b) (fun Q => t1 fun x => t3 fun y => Q (!decide (x ∈ y))) eB .p :=
  ES.twoP (k := fun d t => (PI.cmpI .NotIn t.2 d t.1).map fun c => (.p (.bool c), t.2)) (fun _ _ => rfl) ha hb fun x y S d1 d2 Q h1 h2 q => ⟨_, q, by
    show ((PI.memI S d1 d2).map _).map _ = _
    rw [memI_T k hn h1 h2]; rfl⟩
end
section
variable {t1 : W (List α)}
theorem ES.eqnil (ha : EW Γ a t1 (eL ea) o1) : EW Γ (mCmp .Eq a (mLst false mNil)) (fun Q => t1 fun x => Q x.isEmpty) eB .p :=
  ES.unP (k := fun r => (eqI r.2 r.1 (.p (.list []))).map fun c => (.p (.bool c), r.2)) (fun _ _ => rfl) ha fun x S d Q h1 q => ⟨_, q, by
    have : eqI S d (.p (.list [])) = some x.isEmpty := by
      have : eqI S d (.p (.list [])) = eqY S d (.p (.list [])) := by
        rcases h1 with rfl | ⟨n, rfl, _⟩ <;> rfl
      rw [this]
      unfold eqY eqZ
      simp only [h1.lst]
      cases x <;> rfl
    show (eqI S d _).map _ = _
    rw [this]; rfl⟩
theorem ES.nenil (ha : EW Γ a t1 (eL ea) o1) : EW Γ (mCmp .NotEq a (mLst false mNil)) (fun Q => t1 fun x => Q (!x.isEmpty)) eB .p :=
  ES.unP (k := fun r => ((eqI r.2 r.1 (.p (.list []))).map (!·)).map fun c => (.p (.bool c), r.2)) (fun _ _ => rfl) ha fun x S d Q h1 q => ⟨_, q, by
    have : eqI S d (.p (.list [])) = some x.isEmpty := by
      have : eqI S d (.p (.list [])) = eqY S d (.p (.list [])) := by
        rcases h1 with rfl | ⟨n, rfl, _⟩ <;> rfl
      rw [this]
      unfold eqY eqZ
      simp only [h1.lst]
      cases x <;> rfl
    show ((eqI S d _).map _).map _ = _
    rw [this]; rfl⟩
theorem ES.eqtil (ha : EW Γ a t1 (eT ea) o1) : EW Γ (mCmp .Eq a (mTup mNil)) (fun Q => t1 fun x => Q x.isEmpty) eB .p :=
  ES.unP (k := fun r => (eqI r.2 r.1 (.p (.tuple []))).map fun c => (.p (.bool c), r.2)) (fun ev S => by
      show (a ev S).bind _ = _
      congr) ha fun x S d Q h1 q => ⟨_, q, by
    obtain rfl := h1.tup
    cases x <;> rfl⟩
theorem ES.netil (ha : EW Γ a t1 (eT ea) o1) : EW Γ (mCmp .NotEq a (mTup mNil)) (fun Q => t1 fun x => Q (!x.isEmpty)) eB .p :=
  ES.unP (k := fun r => ((eqI r.2 r.1 (.p (.tuple []))).map (!·)).map fun c => (.p (.bool c), r.2)) (fun ev S => by
      show (a ev S).bind _ = _
      congr) ha fun x S d Q h1 q => ⟨_, q, by
    obtain rfl := h1.tup
    cases x <;> rfl⟩
end
section
variable {t1 : W (Option α)}
theorem isD_O {S : Store} {d : D} {x : Option α} (k : ∀ x, ea x ≠ .none) (h : Is S d (eO ea x)) : isD d (.p .none) = some x.isNone := by
  rcases h with rfl | ⟨n, rfl, _, c⟩
  · cases x with
    | none => rfl
    | some x =>
      show isI (ea x) .none = some false
      have := k x
      revert this
      cases ea x <;> intro h <;> first | rfl | exact absurd rfl h
  · cases x with
    | none => exact c.elim
    | some x => rfl
theorem ES.isN (k : ∀ x, ea x ≠ .none) (ha : EW Γ a t1 (eO ea) o1) : EW Γ (mCmp .Is a (mC (.p .none))) (fun Q => t1 fun x => Q x.isNone) eB .p :=
  ES.unP (k := fun r => (isD r.1 (.p .none)).map fun c => (.p (.bool c), r.2)) (fun _ _ => rfl) ha fun x S d Q h1 q => ⟨_, q, by
    show (isD d _).map _ = _
    rw [isD_O k h1]; rfl⟩
theorem ES.isnN (k : ∀ x, ea x ≠ .none) (ha : EW Γ a t1 (eO ea) o1) : EW Γ (mCmp .IsNot a (mC (.p .none))) (fun Q => t1 fun x => Q x.isSome) eB .p :=
  ES.unP (k := fun r => ((isD r.1 (.p .none)).map (!·)).map fun c => (.p (.bool c), r.2)) (fun _ _ => rfl) ha fun x S d Q h1 q => ⟨_, q, by
    show ((isD d _).map _).map _ = _
    rw [isD_O k h1]
    cases x <;> rfl⟩
end
theorem ES.isB {t1 : W Bool} {y : Bool} (ha : EW Γ a t1 eB o1) : EW Γ (mCmp .Is a (mC (.p (.bool y)))) (fun Q => t1 fun x => Q (x == y)) eB .p :=
  ES.unP (k := fun r => (isD r.1 (.p (.bool y))).map fun c => (.p (.bool c), r.2)) (fun _ _ => rfl) ha fun x S d Q h1 q => ⟨_, q, by rw [h1.bool]; rfl⟩
theorem ES.isnB {t1 : W Bool} {y : Bool} (ha : EW Γ a t1 eB o1) : EW Γ (mCmp .IsNot a (mC (.p (.bool y)))) (fun Q => t1 fun x => Q (!(x == y))) eB .p :=
  ES.unP (k := fun r => ((isD r.1 (.p (.bool y))).map (!·)).map fun c => (.p (.bool c), r.2)) (fun _ _ => rfl) ha fun x S d Q h1 q => ⟨_, q, by rw [h1.bool]; rfl⟩

/-! ### items -/
def atW (xs : List α) (i : Int) : W α := fun Q => ∃ x, L2.atI xs i = some x ∧ Q x
theorem atI_m (f : α → β) (xs : List α) (i : Int) : L2.atI (xs.map f) i = (L2.atI xs i).map f := by
  unfold L2.atI
  rw [List.length_map]
  cases L2.ixN xs.length i with
  | none => rfl
  | some j => show (xs.map f)[j]? = _; rw [List.getElem?_map]; rfl
variable {t1 : W (List α)} {t2 : W Int}
theorem ES.ixT (ha : EW Γ a t1 (eT ea) o1) (hb : EW Γ b t2 eI o2) : EW Γ (mIx a b) (fun Q => t1 fun x => t2 fun i => atW x i Q) ea .p :=
  ES.twoP (k := fun d t => (PI.ixI t.2 d t.1).map fun d => (d, t.2)) (fun _ _ => rfl) ha hb fun x y S d1 d2 Q h1 h2 ⟨z, e, q⟩ => ⟨z, q, by
    rw [h1.tup, h2.int]
    show ((L2.atI (x.map ea) y).map D.p).map _ = _
    rw [atI_m, e]; rfl⟩
theorem ES.ixL (ha : EW Γ a t1 (eL ea) o1) (hb : EW Γ b t2 eI o2) : EW Γ (mIx a b) (fun Q => t1 fun x => t2 fun i => atW x i Q) ea .p :=
  ES.twoP (k := fun d t => (PI.ixI t.2 d t.1).map fun d => (d, t.2)) (fun _ _ => rfl) ha hb fun x y S d1 d2 Q h1 h2 ⟨z, e, q⟩ => ⟨z, q, by
    rw [h2.int]
    have l1 := h1.lst
    have : PI.ixI S d1 (.p (.int y)) = (lstOf S d1).bind fun xs => L2.atI xs y := by
      rcases h1 with rfl | ⟨n, rfl, _, c⟩
      · rfl
      · have c : S[n]? = _ := c
        simp only [PI.ixI, dctOf, lstOf, c]
    show (PI.ixI S d1 (.p (.int y))).map _ = _
    rw [this, l1]
    show (L2.atI ((x.map ea).map D.p) y).map _ = _
    rw [atI_m, atI_m, e]; rfl⟩
/-- an item of a tuple of several types -/
theorem ES.ixc {i : Int} {t : W α} (f : α → β) (h : ∀ x, ∃ l, ea x = .tuple l ∧ L2.atI l i = some (eb (f x))) (ha : EW Γ a t ea o1) : EW Γ (mIx a (mC (.p (.int i)))) (fun Q => t fun x => Q (f x)) eb .p :=
  ES.unP (k := fun r => (PI.ixI r.2 r.1 (.p (.int i))).map fun d => (d, r.2)) (fun _ _ => rfl) ha fun x S d Q h1 q => ⟨_, q, by
    obtain ⟨l, e1, e2⟩ := h x
    rw [e1] at h1
    rw [h1.tup]
    show ((L2.atI l i).map D.p).map _ = _
    rw [e2]; rfl⟩
/-- bounds of a slice -/
def OJ (Γ : Gam) (m : MO) (t : W (Option Int)) : Prop := ∀ (S : Store) (ev : EnvI) (O F : NP) (Q : Option Int → Prop), EG S ev Γ O F → DK S → t Q → WP (m ev S) fun r => Fr no S r.2 ∧ DK r.2 ∧ Q r.1
theorem OJ.none : OJ Γ mONone (fun Q => Q none) := fun S ev O F Q g hD q => ⟨_, rfl, Fr.refl _ _, hD, q⟩
theorem OJ.some (ha : EW Γ a t2 eI o1) : OJ Γ (mOSome a) (fun Q => t2 fun x => Q (some x)) := fun S ev O F Q g hD q => by
  show WP ((a ev S).bind _) _
  rw [wp_bind]
  refine (ha S ev O F _ g hD q).mono fun s ⟨z1, z2, x, z3, z4, _⟩ => ?_
  obtain ⟨d, S1⟩ := s
  obtain rfl := z4.int
  exact (wp_some _ _).mpr ⟨z1, z2, z3⟩
variable {lo hi : MO} {tl th : W (Option Int)} {bx : Bool}
theorem ES.sl {sl : β → Slot} {t : W α} {r : α → Option Int → Option Int → W β} (ha : EW Γ a t ea o1) (hl : OJ Γ lo tl) (hh : OJ Γ hi th)
    (op : ∀ x l h S d Q, 2 ≤ S.length → Is S d (ea x) → r x l h Q → WP (PI.slI bx S d l h) (OpR S Q sl)) : ES Γ (mSl bx a lo hi) (fun Q => t fun x => tl fun l => th fun h => r x l h Q) sl .f := fun S ev O F Q g hD q => by
  show WP ((a ev S).bind _) _
  rw [wp_bind]
  refine (ha S ev O F _ g hD q).mono fun s ⟨z1, z2, x, z3, z4, _⟩ => ?_
  obtain ⟨d, S1⟩ := s
  rw [wp_bind]
  refine (hl S1 ev O F _ (g.fr z1) z2 z3).mono fun s ⟨y1, y2, y3⟩ => ?_
  obtain ⟨l, S2⟩ := s
  have z12 := z1.seq y1
  rw [wp_bind]
  refine (hh S2 ev O F _ (g.fr z12) y2 y3).mono fun s ⟨x1, x2, x3⟩ => ?_
  obtain ⟨h, S3⟩ := s
  exact (op x l h S3 d Q (Deck.two S3 x2) (z4.fr (y1.seq x1)) x3).mono fun r h => h.out g (z12.seq x1) x2
theorem cut_map (f : α → β) (xs : List α) (lo hi : Option Int) : PI.cutD (xs.map f) lo hi = (PI.cutD xs lo hi).map f := by
  unfold PI.cutD
  rw [List.length_map, List.map_take, List.map_drop]
theorem OpR.cast {sl sl' : α → Slot} {S : Store} {Q : α → Prop} {r : D × Store} (h : OpR S Q sl r) (e : ∀ x, sl x = sl' x) : OpR S Q sl' r := by
  obtain ⟨h1, x, h2, h3⟩ := h
  exact ⟨h1, x, h2, by rw [← e x]; exact h3⟩
theorem OpR.mk {S : Store} {Q : δ → Prop} {sl : δ → Slot} {r : D × Store} (x : δ) {sl' : Unit → Slot} (h : OpR S (fun _ => Q x) sl' r) (e : sl' () = sl x) : OpR S Q sl r := by
  obtain ⟨h1, u, h2, h3⟩ := h
  exact ⟨h1, x, h2, by rw [← e]; exact h3⟩
theorem ES.slT (ha : EW Γ a t1 (eT ea) o1) (hl : OJ Γ lo tl) (hh : OJ Γ hi th) : EW Γ (mSl bx a lo hi) (fun Q => t1 fun x => tl fun l => th fun h => Q (PI.cutD x l h)) (eT ea) .p :=
  ES.nbp (ES.sl (sl := fun x => .v (eT ea x)) ha hl hh fun x l h S d Q h2 h1 q => by
    obtain rfl := h1.tup
    show WP (some _) _
    rw [cut_map]
    exact (wp_some _ _).mpr (OpR.p (e := eT ea) _ q)) fun _ => rfl
theorem bx_slot {bx : Bool} {l : List PyData} : (if bx = true then Slot.b (.list l) else .p (.list l)) = (match bx with | true => .b (.list l) | false => .p (.list l)) := by cases bx <;> rfl
/-- the slot of a list that is made: an own box, or a datum -/
def slL (bx : Bool) (e : α → PyData) (l : List α) : Slot := match bx with
  | true => .b (eL e l)
  | false => .p (eL e l)
theorem mkL_r {S : Store} (h2 : 2 ≤ S.length) {l : List α} (hl : l.length < 1000000) {Q : List α → Prop} (q : Q l) : WP (mkL bx ((l.map ea).map .p) S) (OpR S Q (slL bx ea)) :=
  (mkL_op (bx := bx) (l := l.map ea) (Q := fun _ => Q l) h2 (by rw [List.length_map]; exact Nat.le_trans (Nat.le_of_lt hl) (by decide)) q).mono fun r h => OpR.mk l h (by cases bx <;> rfl)
/-- a list of which the length is bounded -/
def small (l : List α) : W (List α) := fun Q => l.length < 1000000 ∧ Q l
theorem ES.slLs (ha : EW Γ a t1 (eL ea) o1) (hl : OJ Γ lo tl) (hh : OJ Γ hi th) : ES Γ (mSl bx a lo hi) (fun Q => t1 fun x => tl fun l => th fun h => small (PI.cutD x l h) Q) (slL bx ea) .f :=
  ES.sl (r := fun x l h Q => small (PI.cutD x l h) Q) ha hl hh fun x l h S d Q h2 h1 q => by
    have : PI.slI bx S d l h = (lstOf S d).bind fun xs => mkL bx (PI.cutD xs l h) S := by
      rcases h1 with rfl | ⟨n, rfl, _, c⟩ <;> rfl
    rw [this, h1.lst]
    show WP (mkL bx (PI.cutD ((x.map ea).map D.p) l h) S) _
    rw [cut_map, cut_map]
    exact mkL_r h2 q.1 q.2
/-- a slice of a tuple of several types -/
theorem ES.slc {l h : Option Int} {t : W α} (f : α → β) (hf : ∀ x, ∃ z, ea x = .tuple z ∧ .tuple (PI.cutD z l h) = eb (f x)) (ha : EW Γ a t ea o1) (hl : OJ Γ lo (fun Q => Q l)) (hh : OJ Γ hi (fun Q => Q h)) : EW Γ (mSl bx a lo hi) (fun Q => t fun x => Q (f x)) eb .p := fun S ev O F Q g hD q => by
  show WP ((a ev S).bind _) _
  rw [wp_bind]
  refine (ha S ev O F _ g hD q).mono fun s ⟨z1, z2, x, z3, z4, _⟩ => ?_
  obtain ⟨d, S1⟩ := s
  rw [wp_bind]
  refine (hl S1 ev O F (fun w => w = l) (g.fr z1) z2 rfl).mono fun s ⟨y1, y2, y3⟩ => ?_
  obtain ⟨l', S2⟩ := s
  have y3 : l' = l := y3
  subst y3
  have z12 := z1.seq y1
  rw [wp_bind]
  refine (hh S2 ev O F (fun w => w = h) (g.fr z12) y2 rfl).mono fun s ⟨x1, x2, x3⟩ => ?_
  obtain ⟨h', S3⟩ := s
  have x3 : h' = h := x3
  subst x3
  obtain ⟨z, e1, e2⟩ := hf x
  rw [e1] at z4
  obtain rfl := z4.tup
  show WP (some (D.p (.tuple (PI.cutD z l' h')), S3)) _
  rw [e2]
  exact (wp_some _ _).mpr ⟨z12.seq x1, x2, f x, z3, .inl rfl, (fun n w => by cases w), rfl⟩
end
end PI
set_option maxHeartbeats 1000000
/-! Own text: typed reading, part 7: displays, builtins, sources, comprehensions. -/
namespace PI
open PySem PySem.Spec L2
open PyProof.Rows hiding St

section
variable [Deck]
open Deck
variable {α β γ δ : Type} {Γ : Gam} {a b c m : M} {ms : Ms} {ta : W α} {tb : W β} {tc : W γ} {ea : α → PyData} {eb : β → PyData} {ec : γ → PyData} {ed : δ → PyData} {o o1 o2 o3 o4 : Md} {bx : Bool}

/-! ### displays -/
/-- arguments that are data -/
def EL {τ : Type} (Γ : Gam) (m : Ms) (t : W τ) (el : τ → List PyData) : Prop :=
  ∀ (S : Store) (ev : EnvI) (O F : NP) (Q : τ → Prop), EG S ev Γ O F → DK S → t Q → WP (m ev S) fun r => Fr no S r.2 ∧ DK r.2 ∧ ∃ a, Q a ∧ r.1 = (el a).map .p
theorem EL.nil : EL Γ mNil (fun Q => Q ()) (fun _ => []) := fun S ev O F Q g hD q => ⟨_, rfl, Fr.refl _ _, hD, (), q, rfl⟩
theorem EL.cons {τ : Type} {ts : W τ} {el : τ → List PyData} (ha : EW Γ a ta ea .p) (hs : EL Γ ms ts el) : EL Γ (mCons a ms) (fun Q => ta fun x => ts fun y => Q (x, y)) (fun p => ea p.1 :: el p.2) := fun S ev O F Q g hD q => by
  obtain ⟨⟨d, S1⟩, e1, z1, z2, x, z3, _, _, z4⟩ := ha S ev O F _ g hD q
  obtain ⟨⟨ds, S2⟩, e2, y1, y2, y, y3, y4⟩ := hs S1 ev O F _ (g.fr z1) z2 z3
  show WP ((a ev S).bind _) _
  rw [e1]
  show WP ((ms ev S1).map _) _
  rw [e2]
  refine (wp_some _ _).mpr ⟨z1.seq y1, y2, (x, y), y3, ?_⟩
  show d :: ds = _
  rw [show d = _ from z4, show ds = _ from y4]; rfl
theorem EL.as {τ κ : Type} {t : W τ} {el : τ → List PyData} (h : EL Γ ms t el) {el2 : κ → List PyData} (f : τ → κ) (n : ∀ x, el2 (f x) = el x) : EL Γ ms (fun Q => t fun x => Q (f x)) el2 := fun S ev O F Q g hD q => (h S ev O F _ g hD q).mono fun r ⟨z1, z2, x, z3, z4⟩ => ⟨z1, z2, f x, z3, by rw [n]; exact z4⟩
/-- items of one type -/
def EV (Γ : Gam) (m : Ms) (t : W (List α)) (ea : α → PyData) : Prop := EL Γ m t (fun l => l.map ea)
theorem EV.nil : EV Γ mNil (fun Q => Q []) ea := EL.as EL.nil (fun _ => []) fun _ => rfl
theorem EV.cons {ts : W (List α)} (ha : EW Γ a ta ea .p) (hs : EV Γ ms ts ea) : EV Γ (mCons a ms) (fun Q => ta fun x => ts fun l => Q (x :: l)) ea := EL.as (EL.cons ha hs) (fun p => p.1 :: p.2) fun _ => rfl
theorem ES.tup {τ : Type} {t : W τ} {el : τ → List PyData} (h : EL Γ ms t el) (n : ∀ x, (el x).length ≤ 100) {eb : β → PyData} (f : τ → β) (hf : ∀ x, eb (f x) = .tuple (el x)) : EW Γ (mTup ms) (fun Q => t fun x => Q (f x)) eb .p := fun S ev O F Q g hD q => by
  obtain ⟨⟨ds, S1⟩, e1, z1, z2, x, z3, z4⟩ := h S ev O F _ g hD q
  show WP ((ms ev S).bind _) _
  rw [e1]
  show WP ((allP ds).bind _) _
  rw [show ds = _ from z4, allP_map]
  show WP (if (el x).length ≤ sizeLine then _ else none) _
  rw [if_pos (Nat.le_trans (n x) (by decide))]
  exact (wp_some _ _).mpr ⟨z1, z2, f x, z3, by rw [hf]; exact .inl rfl, (fun n w => by cases w), by rw [hf]⟩
theorem ES.t1 (ha : EW Γ a ta ea .p) : EW Γ (mTup (mCons a mNil)) (fun Q => ta fun x => Q x) (eP1 ea) .p := ES.tup (EL.cons ha EL.nil) (fun _ => by simp) (fun p => p.1) fun _ => rfl
theorem ES.t2 (ha : EW Γ a ta ea .p) (hb : EW Γ b tb eb .p) : EW Γ (mTup (mCons a (mCons b mNil))) (fun Q => ta fun x => tb fun y => Q (x, y)) (eP2 ea eb) .p := ES.tup (EL.cons ha (EL.cons hb EL.nil)) (fun _ => by simp) (fun p => (p.1, p.2.1)) fun _ => rfl
theorem ES.t3 {c' : M} (ha : EW Γ a ta ea .p) (hb : EW Γ b tb eb .p) (hc : EW Γ c' tc ec .p) : EW Γ (mTup (mCons a (mCons b (mCons c' mNil)))) (fun Q => ta fun x => tb fun y => tc fun z => Q (x, y, z)) (eP3 ea eb ec) .p := ES.tup (EL.cons ha (EL.cons hb (EL.cons hc EL.nil))) (fun _ => by simp) (fun p => (p.1, p.2.1, p.2.2.1)) fun _ => rfl
theorem ES.t4 {c' d' : M} {td : W δ} (ha : EW Γ a ta ea .p) (hb : EW Γ b tb eb .p) (hc : EW Γ c' tc ec .p) (hd : EW Γ d' td ed .p) : EW Γ (mTup (mCons a (mCons b (mCons c' (mCons d' mNil))))) (fun Q => ta fun x => tb fun y => tc fun z => td fun w => Q (x, y, z, w)) (eP4 ea eb ec ed) .p := ES.tup (EL.cons ha (EL.cons hb (EL.cons hc (EL.cons hd EL.nil)))) (fun _ => by simp) (fun p => (p.1, p.2.1, p.2.2.1, p.2.2.2.1)) fun _ => rfl
/-- a tuple of items of one type -/
theorem ES.tupV {ts : W (List α)} (h : EV Γ ms ts ea) : EW Γ (mTup ms) (fun Q => ts fun l => small l Q) (eT ea) .p := fun S ev O F Q g hD q => by
  obtain ⟨⟨ds, S1⟩, e1, z1, z2, x, z3, z4⟩ := h S ev O F _ g hD q
  show WP ((ms ev S).bind _) _
  rw [e1]
  show WP ((allP ds).bind _) _
  rw [show ds = _ from z4, allP_map]
  show WP (if (x.map ea).length ≤ sizeLine then _ else none) _
  rw [if_pos (by rw [List.length_map]; exact Nat.le_trans (Nat.le_of_lt z3.1) (by decide))]
  exact (wp_some _ _).mpr ⟨z1, z2, x, z3.2, .inl rfl, (fun n w => by cases w), rfl⟩
theorem ES.lstV {ts : W (List α)} (h : EV Γ ms ts ea) : ES Γ (mLst bx ms) (fun Q => ts fun l => small l Q) (slL bx ea) .f := fun S ev O F Q g hD q => by
  obtain ⟨⟨ds, S1⟩, e1, z1, z2, x, z3, z4⟩ := h S ev O F _ g hD q
  show WP ((ms ev S).bind _) _
  rw [e1]
  show WP (mkL bx ds S1) _
  rw [show ds = _ from z4]
  exact (mkL_r (Deck.two _ z2) z3.1 z3.2).mono fun r h => h.out g z1 z2
/-- a datum out of a slot -/
theorem ES.ofL {t : W (List α)} (h : ES Γ a t (slL false ea) o) : EW Γ a t (eL ea) .p := ES.ofP h
theorem ES.ofBL {t : W (List α)} (h : ES Γ a t (slL true ea) o) : ES Γ a t (fun l => .b (eL ea l)) o := h
/-- lists and tuples that are written out: no bound is to be shown -/
theorem EV.n0 : EV Γ mNil (fun Q => Q []) ea := EV.nil
theorem ES.lnil : ES Γ (mLst bx mNil) (fun Q => Q []) (slL bx ea) .f := fun S ev O F Q g hD q => ES.lstV (EV.nil (ea := ea)) S ev O F Q g hD ⟨by simp, q⟩
theorem ES.tnil : EW Γ (mTup mNil) (fun Q => Q []) (eT ea) .p := fun S ev O F Q g hD q => ES.tupV (EV.nil (ea := ea)) S ev O F Q g hD ⟨by simp, q⟩
/-- pure items -/
theorem EV.pn : EV Γ mNil (fun Q => Q []) ea := EV.nil
theorem EV.pc {x : α} {l : List α} (ha : EW Γ a (fun Q => Q x) ea .p) (hs : EV Γ ms (fun Q => Q l) ea) : EV Γ (mCons a ms) (fun Q => Q (x :: l)) ea := EV.cons ha hs
theorem ES.lstP {l : List α} (h : EV Γ ms (fun Q => Q l) ea) (hn : l.length ≤ 100) : ES Γ (mLst bx ms) (fun Q => Q l) (slL bx ea) .f := fun S ev O F Q g hD q => ES.lstV h S ev O F Q g hD ⟨by omega, q⟩
theorem ES.tupP {l : List α} (h : EV Γ ms (fun Q => Q l) ea) (hn : l.length ≤ 100) : EW Γ (mTup ms) (fun Q => Q l) (eT ea) .p := fun S ev O F Q g hD q => ES.tupV h S ev O F Q g hD ⟨by omega, q⟩

/-! ### joining, repeating -/
variable {t1 t2 : W (List α)} {tn : W Int}
theorem ES.catT (ha : EW Γ a t1 (eT ea) o1) (hb : EW Γ b t2 (eT ea) o2) : EW Γ (mBin bx .Add a b) (fun Q => t1 fun x => t2 fun y => small (x ++ y) Q) (eT ea) .p :=
  ES.twoP (k := fun d t => PI.binI bx .Add t.2 d t.1) (fun _ _ => rfl) ha hb fun x y S d1 d2 Q h1 h2 q => ⟨_, q.2, by
    rw [h1.tup, h2.tup]
    show (if (x.map ea ++ y.map ea).length ≤ sizeLine then _ else none) = _
    rw [if_pos (by rw [← List.map_append, List.length_map]; exact Nat.le_trans (Nat.le_of_lt q.1) (by decide)), ← List.map_append]; rfl⟩
/-- tuples of several types joined -/
theorem ES.catc {f : α → β → δ} (h : ∀ x y, ∃ l k, ea x = .tuple l ∧ eb y = .tuple k ∧ .tuple (l ++ k) = ed (f x y) ∧ (l ++ k).length ≤ 100) (ha : EW Γ a ta ea o1) (hb : EW Γ b tb eb o2) : EW Γ (mBin bx .Add a b) (fun Q => ta fun x => tb fun y => Q (f x y)) ed .p :=
  ES.twoP (k := fun d t => PI.binI bx .Add t.2 d t.1) (fun _ _ => rfl) ha hb fun x y S d1 d2 Q h1 h2 q => ⟨_, q, by
    obtain ⟨l, k, e1, e2, e3, e4⟩ := h x y
    rw [e1] at h1
    rw [e2] at h2
    rw [h1.tup, h2.tup]
    show (if (l ++ k).length ≤ sizeLine then _ else none) = _
    rw [if_pos (Nat.le_trans e4 (by decide)), e3]⟩
theorem seqOp_L {S : Store} {d1 d2 : D} {x y : List PyData} (h1 : Is S d1 (.list x)) (h2 : Is S d2 (.list y)) : PI.binI bx .Add S d1 d2 = mkL bx ((x ++ y).map .p) S := by
  have l1 := h1.lst
  have l2 := h2.lst
  have : PI.binI bx .Add S d1 d2 = (match lstOf S d1, lstOf S d2 with
      | some xs, some ys => mkL bx (xs ++ ys) S
      | _, _ => none) := by
    rcases h1 with rfl | ⟨n, rfl, _⟩ <;> rcases h2 with rfl | ⟨m, rfl, _⟩ <;> rfl
  rw [this, l1, l2, List.map_append]
theorem ES.catL (ha : EW Γ a t1 (eL ea) o1) (hb : EW Γ b t2 (eL ea) o2) : ES Γ (mBin bx .Add a b) (fun Q => t1 fun x => t2 fun y => small (x ++ y) Q) (slL bx ea) .f :=
  ES.two (r := fun x y Q => small (x ++ y) Q) (k := fun d t => PI.binI bx .Add t.2 d t.1) (fun _ _ => rfl) ha hb fun x y S d1 d2 Q h0 h1 h2 q => by
    show WP (PI.binI bx .Add S d1 d2) _
    rw [seqOp_L h1 h2, ← List.map_append]
    exact mkL_r h0 q.1 q.2
theorem flat_map (f : α → β) (k : Nat) (l : List α) : (List.replicate k (l.map f)).flatten = ((List.replicate k l).flatten).map f := by
  rw [List.map_flatten, List.map_replicate]
/-- a tuple so often -/
def mulT (l : List α) (k : Int) : W (List α) := fun Q => (l ≠ [] ∧ 0 ≤ k ∧ k ≤ 1000 ∧ l.length ≤ 1000) ∧ Q (List.replicate k.toNat l).flatten
def mulL (l : List α) (k : Int) : W (List α) := fun Q => (-(2 ^ 63) ≤ k ∧ k < 2 ^ 63) ∧ small (List.replicate k.toNat l).flatten Q
theorem ES.mulT (ha : EW Γ a t1 (eT ea) o1) (hb : EW Γ b tn eI o2) : EW Γ (mBin bx .Mult a b) (fun Q => t1 fun x => tn fun k => PI.mulT x k Q) (eT ea) .p :=
  ES.twoP (k := fun d t => PI.binI bx .Mult t.2 d t.1) (fun _ _ => rfl) ha hb fun x k S d1 d2 Q h1 h2 ⟨⟨q1, q2, q3, q4⟩, q⟩ => ⟨_, q, by
    rw [h1.tup, h2.int, mul_t]
    have ne : x.map ea ≠ [] := fun e => q1 (List.map_eq_nil_iff.mp e)
    rw [flat_map] at *
    obtain ⟨n, rfl⟩ : ∃ n : Nat, k = n := ⟨k.toNat, by omega⟩
    rw [Int.toNat_natCast]
    match n with
    | 0 =>
      rw [if_neg (fun h => by have := h.2; omega), if_pos ⟨ne, rfl⟩]; rfl
    | 1 =>
      rw [if_pos ⟨ne, rfl⟩]
      show some (D.p (.tuple (x.map ea)), S) = some (D.p (.tuple ((List.replicate 1 x).flatten.map ea)), S)
      simp
    | n + 2 =>
      rw [if_neg (fun h => by have := h.2; omega), if_neg (fun h => by have := h.2; omega), if_pos ⟨ne, by omega, by omega, by rw [List.length_map]; exact q4⟩]; rfl⟩
theorem ES.mulL (ha : EW Γ a t1 (eL ea) o1) (hb : EW Γ b tn eI o2) : ES Γ (mBin bx .Mult a b) (fun Q => t1 fun x => tn fun k => PI.mulL x k Q) (slL bx ea) .f :=
  ES.two (r := fun x k Q => PI.mulL x k Q) (k := fun d t => PI.binI bx .Mult t.2 d t.1) (fun _ _ => rfl) ha hb fun x k S d1 d2 Q h0 h1 h2 ⟨q1, q2⟩ => by
    show WP (PI.binI bx .Mult S d1 d2) _
    rw [h2.int]
    have l1 := h1.lst
    have : PI.binI bx .Mult S d1 (.p (.int k)) = (match lstOf S d1 with
      | some xs => if -(2 ^ 63) ≤ k ∧ k < 2 ^ 63 then mkL bx (List.replicate k.toNat xs).flatten S else none
      | none => none) := by rcases h1 with rfl | ⟨n, rfl, _⟩ <;> rfl
    rw [this, l1]
    show WP (if _ then _ else none) _
    rw [if_pos q1, flat_map, flat_map]
    exact mkL_r h0 q2.1 q2.2

/-! ### builtins -/
theorem blt1 (f : BF) (ev : EnvI) (S : Store) : mBlt f (mCons a mNil) ev S = (a ev S).bind fun r => f r.2 [r.1] := by
  show ((a ev S).bind _).bind _ = _
  cases a ev S <;> rfl
theorem blt2 (f : BF) (ev : EnvI) (S : Store) : mBlt f (mCons a (mCons b mNil)) ev S = (a ev S).bind fun s => (b ev s.2).bind fun t => f t.2 [s.1, t.1] := by
  show ((a ev S).bind _).bind _ = _
  cases a ev S with
  | none => rfl
  | some r =>
    show ((((b ev r.2).bind _).map _).bind _ : Option (D × Store)) = (b ev r.2).bind _
    cases b ev r.2 <;> rfl
theorem Is.nolen {S : Store} {d : D} {l : List PyData} (h : Is S d (.list l)) : dctOf S d = none ∧ seqD S d = some (l.map .p) ∧ ∀ z, d ≠ .p (.str z) := by
  have l1 := h.lst
  rcases h with rfl | ⟨n, rfl, _, c⟩
  · exact ⟨rfl, rfl, fun z q => by cases q⟩
  · have c : S[n]? = _ := c
    exact ⟨by simp only [dctOf, c], l1, fun z q => by cases q⟩
theorem ES.lenT (ha : EW Γ a t1 (eT ea) o1) : EW Γ (mBlt bLen (mCons a mNil)) (fun Q => t1 fun x => Q (x.length : Int)) eI .p :=
  ES.unP (k := fun r => bLen r.2 [r.1]) (blt1 _) ha fun x S d Q h1 q => ⟨_, q, by
    rw [h1.tup, len_t, List.length_map]; rfl⟩
theorem ES.lenL (ha : EW Γ a t1 (eL ea) o1) : EW Γ (mBlt bLen (mCons a mNil)) (fun Q => t1 fun x => Q (x.length : Int)) eI .p :=
  ES.unP (k := fun r => bLen r.2 [r.1]) (blt1 _) ha fun x S d Q h1 q => ⟨_, q, by
    obtain ⟨l1, l2, l3⟩ := Is.nolen h1
    have : bLen S [d] = (match dctOf S d with
      | some kvs => some (.p (.int kvs.length), S)
      | none => (seqD S d).map fun xs => (.p (.int xs.length), S)) := by
      unfold bLen
      split
      · rename_i z _ e
        cases e
        exact absurd rfl (l3 _)
      · rename_i x' _ e
        cases e; rfl
      · rename_i e1 e2
        exact absurd rfl (e2 d)
    show bLen S [d] = _
    rw [this, l1, l2]
    show some (D.p (.int ((x.map ea).map D.p).length), S) = _
    rw [List.length_map, List.length_map]; rfl⟩
theorem ES.int_ (ha : EW Γ a tn eI o1) : EW Γ (mBlt bInt (mCons a mNil)) (fun Q => tn fun x => Q x) eI .p :=
  ES.unP (k := fun r => bInt r.2 [r.1]) (blt1 _) ha fun x S d Q h1 q => ⟨_, q, by rw [h1.int]; rfl⟩
theorem ES.boolI (ha : EW Γ a tn eI o1) : EW Γ (mBlt bBool (mCons a mNil)) (fun Q => tn fun x => Q (x != 0)) eB .p :=
  ES.unP (k := fun r => bBool r.2 [r.1]) (blt1 _) ha fun x S d Q h1 q => ⟨_, q, by rw [h1.int]; rfl⟩
theorem ES.max2 {t' : W Int} (ha : EW Γ a tn eI o1) (hb : EW Γ b t' eI o2) : EW Γ (mBlt bMx (mCons a (mCons b mNil))) (fun Q => tn fun x => t' fun y => Q (if y > x then y else x)) eI .p :=
  ES.twoP (k := fun d t => bMx t.2 [d, t.1]) (blt2 _) ha hb fun x y S d1 d2 Q h1 h2 q => ⟨_, q, by rw [h1.int, h2.int]; rfl⟩
theorem ES.min2 {t' : W Int} (ha : EW Γ a tn eI o1) (hb : EW Γ b t' eI o2) : EW Γ (mBlt bMn (mCons a (mCons b mNil))) (fun Q => tn fun x => t' fun y => Q (if y < x then y else x)) eI .p :=
  ES.twoP (k := fun d t => bMn t.2 [d, t.1]) (blt2 _) ha hb fun x y S d1 d2 Q h1 h2 q => ⟨_, q, by rw [h1.int, h2.int]; rfl⟩
theorem intsP_map (l : List Int) : intsP (l.map eI) = some l := by
  induction l with
  | nil => rfl
  | cons x r ih => simp [eI, intsP, ih]
theorem Is.nums {S : Store} {d : D} {l : List Int} (h : Is S d (eL eI l)) : numsOf S d = some l := by
  unfold numsOf
  rw [h.lst]
  show (allP ((l.map eI).map D.p)).bind intsP = _
  rw [allP_map]
  exact intsP_map l
def optW (x : Option α) : W α := fun Q => ∃ y, x = some y ∧ Q y
variable {tI : W (List Int)} {tB : W (List Bool)}
theorem ES.maxL (ha : EW Γ a tI (eL eI) o1) : EW Γ (mBlt bMx (mCons a mNil)) (fun Q => tI fun x => optW x.max? Q) eI .p :=
  ES.unP (k := fun r => bMx r.2 [r.1]) (blt1 _) ha fun x S d Q h1 ⟨y, e, q⟩ => ⟨_, q, by
    show (numsOf S d).bind _ = _
    rw [h1.nums]
    show (x.max?).map _ = _
    rw [e]; rfl⟩
theorem ES.minL (ha : EW Γ a tI (eL eI) o1) : EW Γ (mBlt bMn (mCons a mNil)) (fun Q => tI fun x => optW x.min? Q) eI .p :=
  ES.unP (k := fun r => bMn r.2 [r.1]) (blt1 _) ha fun x S d Q h1 ⟨y, e, q⟩ => ⟨_, q, by
    show (numsOf S d).bind _ = _
    rw [h1.nums]
    show (x.min?).map _ = _
    rw [e]; rfl⟩
theorem ES.sumL (ha : EW Γ a tI (eL eI) o1) : EW Γ (mBlt bSum (mCons a mNil)) (fun Q => tI fun x => Q x.sum) eI .p :=
  ES.unP (k := fun r => bSum r.2 [r.1]) (blt1 _) ha fun x S d Q h1 q => ⟨_, q, by
    show (numsOf S d).map _ = _
    rw [h1.nums]; rfl⟩
theorem ES.anyL (ha : EW Γ a tB (eL eB) o1) : EW Γ (mBlt bAny (mCons a mNil)) (fun Q => tB fun x => Q (x.any id)) eB .p :=
  ES.unP (k := fun r => bAny r.2 [r.1]) (blt1 _) ha fun x S d Q h1 q => ⟨_, q, by
    show (lstOf S d).bind _ = _
    rw [h1.lst]
    show (blsP ((x.map eB).map D.p)).map _ = _
    rw [show x.map eB = x.map PyData.bool from rfl, blsP_map]; rfl⟩
theorem ES.allL (ha : EW Γ a tB (eL eB) o1) : EW Γ (mBlt bAll (mCons a mNil)) (fun Q => tB fun x => Q (x.all id)) eB .p :=
  ES.unP (k := fun r => bAll r.2 [r.1]) (blt1 _) ha fun x S d Q h1 q => ⟨_, q, by
    show (lstOf S d).bind _ = _
    rw [h1.lst]
    show (blsP ((x.map eB).map D.p)).map _ = _
    rw [show x.map eB = x.map PyData.bool from rfl, blsP_map]; rfl⟩
theorem ES.tupleL (ha : EW Γ a t1 (eL ea) o1) : EW Γ (mBlt bTuple (mCons a mNil)) (fun Q => t1 fun x => small x Q) (eT ea) .p :=
  ES.unP (k := fun r => bTuple r.2 [r.1]) (blt1 _) ha fun x S d Q h1 q => ⟨_, q.2, by
    have : bTuple S [d] = (lstOf S d).bind fun xs => (allP xs).bind fun ys => mkT ys S := by
      rcases h1 with rfl | ⟨n, rfl, _⟩ <;> rfl
    show bTuple S [d] = _
    rw [this, h1.lst]
    show (allP _).bind _ = _
    rw [allP_map]
    show (if (x.map ea).length ≤ sizeLine then _ else none) = _
    rw [if_pos (by rw [List.length_map]; exact Nat.le_trans (Nat.le_of_lt q.1) (by decide))]; rfl⟩
theorem ES.tupleT (ha : EW Γ a t1 (eT ea) o1) : EW Γ (mBlt bTuple (mCons a mNil)) (fun Q => t1 fun x => Q x) (eT ea) .p :=
  ES.unP (k := fun r => bTuple r.2 [r.1]) (blt1 _) ha fun x S d Q h1 q => ⟨_, q, by rw [h1.tup]; rfl⟩
theorem ES.listL (ha : EW Γ a t1 (eL ea) o1) : ES Γ (mBlt (bList bx) (mCons a mNil)) (fun Q => t1 fun x => small x Q) (slL bx ea) .f :=
  ES.un (r := fun x Q => small x Q) (k := fun r => bList bx r.2 [r.1]) (blt1 _) ha fun x S d Q h0 h1 q => by
    show WP ((seqD S d).bind _) _
    rw [(Is.nolen h1).2.1]
    exact mkL_r h0 q.1 q.2
theorem ES.listT (ha : EW Γ a t1 (eT ea) o1) : ES Γ (mBlt (bList bx) (mCons a mNil)) (fun Q => t1 fun x => small x Q) (slL bx ea) .f :=
  ES.un (r := fun x Q => small x Q) (k := fun r => bList bx r.2 [r.1]) (blt1 _) ha fun x S d Q h0 h1 q => by
    show WP ((seqD S d).bind _) _
    rw [h1.tup]
    exact mkL_r h0 q.1 q.2
/-- what sorted makes of items of a type -/
structure SortOk (e : α → PyData) (le : α → α → Bool) : Prop where
  ok : ∀ l : List α, sortOk (l.map e) = true
  eq : ∀ l : List α, sortP (l.map e) = (l.mergeSort le).map e
theorem ES.sortL {le : α → α → Bool} (k : SortOk ea le) (ha : EW Γ a t1 (eL ea) o1) : ES Γ (mBlt (bSorted bx) (mCons a mNil)) (fun Q => t1 fun x => small (x.mergeSort le) Q) (slL bx ea) .f :=
  ES.un (r := fun x Q => small (x.mergeSort le) Q) (k := fun r => bSorted bx r.2 [r.1]) (blt1 _) ha fun x S d Q h0 h1 q => by
    show WP ((lstOf S d).bind _) _
    rw [h1.lst]
    show WP ((allP _).bind _) _
    rw [allP_map]
    show WP (if _ then _ else none) _
    rw [if_pos (k.ok x), k.eq]
    exact mkL_r h0 q.1 q.2
def reprW (e : α → PyData) (x : α) : W Str := fun Q => Fine (e x) ∧ Q (e x).shown
def eTx (x : Str) : PyData := .str x
theorem Is.viewT {S : Store} {d : D} {x : PyData} (h : Is S d x) (hn : ∀ l, x ≠ .dict l) : viewP S d = some x := by
  rcases h with rfl | ⟨n, rfl, _, c⟩
  · rfl
  · cases x <;> first | exact c.elim | skip
    · have c : S[n]? = _ := c
      simp only [viewP, c, allP_map]; rfl
    · exact absurd rfl (hn _)
theorem ES.repr_ (hn : ∀ x l, ea x ≠ .dict l) (ha : EW Γ a ta ea o1) : EW Γ (mBlt bRepr (mCons a mNil)) (fun Q => ta fun x => reprW ea x Q) eTx .p :=
  ES.unP (k := fun r => bRepr r.2 [r.1]) (blt1 _) ha fun x S d Q h1 ⟨⟨q1, q2, q3⟩, q⟩ => ⟨_, q, by
    show (viewP S d).bind _ = _
    rw [h1.viewT (hn x)]
    show (if _ then _ else none) = _
    rw [if_pos ⟨showable_of _ q1, q2, Nat.le_trans (shown_le _ q1) q3⟩]; rfl⟩
theorem ES.eqTx {t1 t2 : W Str} (ha : EW Γ a t1 eTx o1) (hb : EW Γ b t2 eTx o2) : EW Γ (mCmp .Eq a b) (fun Q => t1 fun x => t2 fun y => Q (decide (x = y))) eB .p :=
  ES.twoP (k := fun d t => (PI.cmpI .Eq t.2 d t.1).map fun c => (.p (.bool c), t.2)) (fun _ _ => rfl) ha hb fun x y S d1 d2 Q h1 h2 q => ⟨_, q, by rw [h1.pure rfl, h2.pure rfl]; rfl⟩
theorem ES.neTx {t1 t2 : W Str} (ha : EW Γ a t1 eTx o1) (hb : EW Γ b t2 eTx o2) : EW Γ (mCmp .NotEq a b) (fun Q => t1 fun x => t2 fun y => Q (!decide (x = y))) eB .p :=
  ES.twoP (k := fun d t => (PI.cmpI .NotEq t.2 d t.1).map fun c => (.p (.bool c), t.2)) (fun _ _ => rfl) ha hb fun x y S d1 d2 Q h1 h2 q => ⟨_, q, by rw [h1.pure rfl, h2.pure rfl]; rfl⟩
theorem ES.isi (t : Tn) {tx : W PyData} (ha : EW Γ a tx eX o1) : EW Γ (mBlt bIsi (mCons a (mCons (mC (.ty t)) mNil))) (fun Q => tx fun x => Q ((tnOf [] (.p x)).any fun u => isSub u t)) eB .p :=
  ES.unP (k := fun r => bIsi r.2 [r.1, .ty t]) (fun ev S => by
    rw [blt2]; rfl) ha fun x S d Q h1 q => ⟨_, q, by
    have : ∃ u, tnOf S d = some u ∧ tnOf [] (.p x) = some u := by
      rcases h1 with rfl | ⟨n, rfl, _, c⟩
      · show ∃ u, tnOf S (.p x) = some u ∧ _
        cases x <;> exact ⟨_, rfl, rfl⟩
      · have c : Cel S n x := c
        cases x <;> first | exact c.elim | skip
        · have c : S[n]? = _ := c
          exact ⟨.lst, by simp only [tnOf, c], rfl⟩
        · obtain ⟨ks, _, c⟩ := c
          exact ⟨.dct, by simp only [tnOf, c], rfl⟩
    obtain ⟨u, e1, e2⟩ := this
    show (tnOf S d).map _ = _
    rw [e1, e2]; rfl⟩
end
end PI
set_option maxHeartbeats 1000000
/-! Own text: typed reading, part 8: dicts, sources, comprehensions, own boxes written at. -/
namespace PI
open PySem PySem.Spec L2
open PyProof.Rows hiding St

/-! ### dicts -/
section
variable {κ α β : Type} [DecidableEq κ]
structure KeyOk (ek : κ → PyData) (kf : κ → Key) : Prop where
  key : ∀ k, keyP (ek k) = some (kf k)
  inj : ∀ a b, kf a = kf b → a = b
theorem keyok_I : KeyOk eI .inl := ⟨fun _ => rfl, fun a b h => Sum.inl.inj h⟩
theorem keyok_S : KeyOk eS (fun s => .inr (Str.ofString s)) := ⟨fun _ => rfl, fun a b h => ofString_inj (Sum.inr.inj h)⟩
def eD (ek : κ → PyData) (e : α → PyData) (l : List (κ × α)) : PyData := .dict (l.map fun p => (ek p.1, e p.2))
def dget (l : List (κ × α)) (k : κ) : Option α := (l.find? fun p => decide (p.1 = k)).map (·.2)
def dput (l : List (κ × α)) (k : κ) (v : α) : List (κ × α) := if l.any (fun p => decide (p.1 = k)) then l.map (fun p => if p.1 = k then (p.1, v) else p) else l ++ [(k, v)]
def dmk (l : List (κ × α)) : List (κ × α) := l.foldl (fun acc p => dput acc p.1 p.2) []
variable {ek : κ → PyData} {kf : κ → Key} {e : α → PyData}
def kvD (kf : κ → Key) (e : α → PyData) (l : List (κ × α)) : List (Key × D) := l.map fun p => (kf p.1, .p (e p.2))
theorem keysP_eD (h : KeyOk ek kf) : ∀ l : List (κ × α), keysP (l.map fun p => (ek p.1, e p.2)) = some (kvD kf e l)
  | [] => rfl
  | p :: r => by
    show (match keyP (ek p.1), keysP (r.map fun p => (ek p.1, e p.2)) with
      | some k', some r' => some ((k', D.p (e p.2)) :: r')
      | _, _ => none) = _
    rw [h.key, keysP_eD h r]; rfl
theorem Is.dct (h : KeyOk ek kf) {S : Store} {d : D} {l : List (κ × α)} (i : Is S d (eD ek e l)) : dctOf S d = some (kvD kf e l) := by
  rcases i with rfl | ⟨n, rfl, _, ks, c1, c2⟩
  · exact keysP_eD h l
  · rw [keysP_eD h l] at c1
    cases c1
    simp only [dctOf, c2]
theorem valD_kv (h : KeyOk ek kf) (k : κ) : ∀ l : List (κ × α), valD (kvD kf e l) (kf k) = (dget l k).map fun x => .p (e x)
  | [] => rfl
  | p :: r => by
    have ih := valD_kv h k r
    unfold valD dget kvD at *
    rw [List.map_cons, List.find?_cons, List.find?_cons]
    by_cases hk : p.1 = k
    · rw [decide_eq_true (show kf p.1 = kf k by rw [hk]), decide_eq_true hk]; rfl
    · rw [decide_eq_false (fun q => hk (h.inj _ _ q)), decide_eq_false hk]; exact ih
theorem putD_kv (h : KeyOk ek kf) (l : List (κ × α)) (k : κ) (x : α) : putD (kvD kf e l) (kf k) (.p (e x)) = kvD kf e (dput l k x) := by
  unfold putD dput kvD
  have e1 : ((l.map fun p => (kf p.1, D.p (e p.2))).any fun kv => decide (kv.1 = kf k)) = l.any fun p => decide (p.1 = k) := by
    rw [List.any_map]
    congr; funext p
    exact decide_eq_decide.mpr ⟨fun q => h.inj _ _ q, fun q => by show kf p.1 = kf k; rw [q]⟩
  rw [e1]
  split
  · rw [List.map_map, List.map_map]
    refine List.map_congr_left fun p _ => ?_
    show (if kf p.1 = kf k then _ else _) = _
    by_cases hk : p.1 = k
    · rw [if_pos (by rw [hk])]
      show (kf p.1, D.p (e x)) = (fun p : κ × α => (kf p.1, D.p (e p.2))) (if p.1 = k then (p.1, x) else p)
      rw [if_pos hk]
    · rw [if_neg fun q => hk (h.inj _ _ q)]
      show (kf p.1, D.p (e p.2)) = (fun p : κ × α => (kf p.1, D.p (e p.2))) (if p.1 = k then (p.1, x) else p)
      rw [if_neg hk]
  · rw [List.map_append]; rfl
theorem mergeD_kv (h : KeyOk ek kf) : ∀ (l acc : List (κ × α)), mergeD (kvD kf e acc) (kvD kf e l) = kvD kf e (l.foldl (fun acc p => dput acc p.1 p.2) acc)
  | [], acc => rfl
  | p :: r, acc => by
    show mergeD (putD (kvD kf e acc) (kf p.1) (.p (e p.2))) (kvD kf e r) = _
    rw [putD_kv h]
    exact mergeD_kv h r _
theorem dput_len (l : List (κ × α)) (k : κ) (x : α) : (dput l k x).length ≤ l.length + 1 := by
  unfold dput
  split
  · rw [List.length_map]; omega
  · rw [List.length_append]; exact Nat.le_refl _
theorem foldl_len : ∀ (l acc : List (κ × α)), (l.foldl (fun acc p => dput acc p.1 p.2) acc).length ≤ acc.length + l.length
  | [], acc => Nat.le_refl _
  | p :: r, acc => by
    have := foldl_len r (dput acc p.1 p.2)
    have h2 := dput_len acc p.1 p.2
    rw [List.foldl_cons, List.length_cons]
    omega
theorem dmk_len (l : List (κ × α)) : (dmk l).length ≤ l.length := by
  have h : (dmk l).length ≤ ([] : List (κ × α)).length + l.length := foldl_len l []
  simpa using h
theorem allKV_kv {k : κ → PyData} (h : ∀ x, kP (kf x) = k x) : ∀ l : List (κ × α), allKV (kvD kf e l) = some (l.map fun p => (k p.1, e p.2))
  | [] => rfl
  | p :: r => by
    show (allKV (kvD kf e r)).map _ = _
    rw [allKV_kv h r]
    show some ((kP (kf p.1), e p.2) :: _) = _
    rw [h]; rfl
end
/-- the slot of a dict that is made -/
def slD' {κ α : Type} (bx : Bool) (ek : κ → PyData) (e : α → PyData) (l : List (κ × α)) : Slot := match bx with
  | true => .b (eD ek e l)
  | false => .p (eD ek e l)
section
variable [Deck]
open Deck
variable {κ α β γ δ : Type} [DecidableEq κ] {Γ : Gam} {a b c m : M} {ms : Ms} {ta : W α} {tb : W β} {ea : α → PyData} {eb : β → PyData} {o o1 o2 o3 : Md} {bx : Bool}
variable {ek : κ → PyData} {kf : κ → Key} {t1 : W (List (κ × α))} {tk : W κ}
theorem mkD_r (h : KeyOk ek kf) (hk : ∀ x, kP (kf x) = ek x) {S : Store} (h2 : 2 ≤ S.length) {l : List (κ × α)} (hl : l.length < 1000000) {Q : List (κ × α) → Prop} (q : Q l) : WP (mkD bx (kvD kf ea l) S) (OpR S Q (slD' bx ek ea)) := by
  unfold mkD
  have hl' : (kvD kf ea l).length ≤ sizeLine := by
    unfold kvD
    rw [List.length_map]
    exact Nat.le_trans (Nat.le_of_lt hl) (by decide)
  rw [if_pos hl']
  cases bx with
  | true =>
    refine (wp_some _ _).mpr ⟨⟨⟨_, rfl⟩, fun n q => by cases q; exact Nat.le_refl _⟩, l, q, ?_⟩
    refine ⟨S.length, rfl, Nat.le_refl _, h2, _, keysP_eD h l, ?_⟩
    simp
  | false =>
    rw [if_neg (by decide), allKV_kv hk]
    exact (wp_some _ _).mpr ⟨New.self S _, l, q, rfl⟩
theorem kP_I (i : Int) : kP (.inl i) = eI i := rfl
theorem kP_S (s : String) : kP (.inr (Str.ofString s)) = eS s := rfl
/-- dict(..) of a list of pairs -/
theorem ES.dictL (h : KeyOk ek kf) (hk : ∀ x, kP (kf x) = ek x) (ha : EW Γ a t1 (eL (eP2 ek ea)) o1) : ES Γ (mBlt (bDict bx) (mCons a mNil)) (fun Q => t1 fun x => x.length < 1000000 ∧ Q (dmk x)) (slD' bx ek ea) .f :=
  ES.un (r := fun x Q => x.length < 1000000 ∧ Q (dmk x)) (k := fun r => bDict bx r.2 [r.1]) (blt1 _) ha fun x S d Q h0 h1 q => by
    have e1 : bDict bx S [d] = (lstOf S d).bind fun ys => (allP ys).bind fun xs => (pairsK xs).bind fun es => mkD bx (mergeD [] es) S := by
      rcases h1 with rfl | ⟨n, rfl, _⟩ <;> rfl
    have e2 : ∀ l : List (κ × α), pairsK (l.map (eP2 ek ea)) = some (kvD kf ea l) := fun l => by
      induction l with
      | nil => rfl
      | cons p r ih =>
        show (pairK (.tuple [ek p.1, ea p.2])).bind _ = _
        show ((keyP (ek p.1)).map _).bind _ = _
        rw [h.key, ih]; rfl
    show WP (bDict bx S [d]) _
    rw [e1, h1.lst]
    show WP ((allP _).bind _) _
    rw [allP_map]
    show WP ((pairsK (x.map (eP2 ek ea))).bind _) _
    rw [e2]
    show WP (mkD bx (mergeD (kvD kf ea []) (kvD kf ea x)) S) _
    rw [mergeD_kv h]
    exact mkD_r h hk h0 (Nat.lt_of_le_of_lt (dmk_len x) q.1) q.2
/-- dict(..) of a tuple of pairs of numbers -/
theorem ES.dictT {t1 : W (List (Int × Int))} (ha : EW Γ a t1 (eT (eP2 eI eI)) o1) : ES Γ (mBlt (bDict bx) (mCons a mNil)) (fun Q => t1 fun x => x.length < 1000000 ∧ Q (dmk x)) (slD' bx eI eI) .f :=
  ES.un (r := fun x Q => x.length < 1000000 ∧ Q (dmk x)) (k := fun r => bDict bx r.2 [r.1]) (blt1 _) ha fun x S d Q h0 h1 q => by
    obtain rfl := h1.tup
    have e3 : ∀ l : List (Int × Int), bareP (l.map (eP2 eI eI)) = true := fun l => by
      unfold bareP
      rw [List.all_map, List.all_eq_true]
      exact fun _ _ => rfl
    have e2 : ∀ l : List (Int × Int), pairsK (l.map (eP2 eI eI)) = some (kvD .inl eI l) := fun l => by
      induction l with
      | nil => rfl
      | cons p r ih =>
        show (pairK (.tuple [eI p.1, eI p.2])).bind _ = _
        show ((some _).bind _) = _
        rw [show pairsK _ = _ from ih]; rfl
    show WP (if bareP (x.map (eP2 eI eI)) = true then _ else none) _
    rw [if_pos (e3 x), e2]
    show WP (mkD bx (mergeD (kvD .inl eI []) (kvD .inl eI x)) S) _
    rw [mergeD_kv keyok_I]
    exact mkD_r keyok_I kP_I h0 (Nat.lt_of_le_of_lt (dmk_len x) q.1) q.2
theorem ES.dnil (h : KeyOk ek kf) (hk : ∀ x, kP (kf x) = ek x) : ES Γ (mDic bx mpNil) (fun Q => Q ([] : List (κ × α))) (slD' bx ek ea) .f := fun S ev O F Q g hD q => by
  show WP (mkD bx (mergeD [] []) S) _
  exact (mkD_r (l := []) h hk (Deck.two S hD) (by simp) q).mono fun r h => h.out g (Fr.refl _ _) hD
/-- a dict with one item -/
theorem ES.d1 (h : KeyOk ek kf) (hk : ∀ x, kP (kf x) = ek x) (ha : EW Γ a tk ek o1) (hb : EW Γ b ta ea .p) : ES Γ (mDic bx (mpCons a b mpNil)) (fun Q => tk fun k => ta fun x => Q [(k, x)]) (slD' bx ek ea) .f := fun S ev O F Q g hD q => by
  obtain ⟨⟨d, S1⟩, e1, z1, z2, x, z3, z4, _⟩ := ha S ev O F _ g hD q
  obtain ⟨⟨d2, S2⟩, e2, y1, y2, y, y3, _, _, y4⟩ := hb S1 ev O F _ (g.fr z1) z2 z3
  have nbk : nb (ek x) = true := by
    have := h.key x
    cases hx : ek x <;> rw [hx] at this <;> first | rfl | cases this
  have z5 : d = .p (ek x) := z4.pure nbk
  have y4 : d2 = .p (ea y) := y4
  subst z5; subst y4
  have e3 : mpCons a b mpNil ev S = some ([(kf x, .p (ea y))], S2) := by
    show (a ev S).bind _ = _
    rw [e1]
    show (keyP (ek x)).bind _ = _
    rw [h.key]
    show (b ev S1).bind _ = _
    rw [e2]; rfl
  show WP ((mpCons a b mpNil ev S).bind _) _
  rw [e3]
  show WP (mkD bx (kvD kf ea [(x, y)]) S2) _
  exact (mkD_r h hk (Deck.two _ y2) (by simp) y3).mono fun r h => h.out g (z1.seq y1) y2
theorem ES.ixD (h : KeyOk ek kf) (ha : EW Γ a t1 (eD ek ea) o1) (hb : EW Γ b tk ek o2) : EW Γ (mIx a b) (fun Q => t1 fun x => tk fun k => optW (dget x k) Q) ea .p :=
  ES.twoP (k := fun d t => (PI.ixI t.2 d t.1).map fun d => (d, t.2)) (fun _ _ => rfl) ha hb fun x k S d1 d2 Q h1 h2 ⟨z, e, q⟩ => ⟨z, q, by
    have nbk : nb (ek k) = true := by
      have := h.key k
      cases hx : ek k <;> rw [hx] at this <;> first | rfl | cases this
    rw [h2.pure nbk]
    have : PI.ixI S d1 (.p (ek k)) = (dctOf S d1).bind fun kvs => (keyP (ek k)).bind (valD kvs) := by
      have d := h1.dct h
      rcases h1 with rfl | ⟨n, rfl, _, c⟩
      · have d' : dctOf S (.p (eD ek ea x)) = some (kvD kf ea x) := d
        unfold eD at d' ⊢
        simp only [PI.ixI, d']; rfl
      · simp only [PI.ixI, d]; rfl
    show (PI.ixI S d1 _).map _ = _
    rw [this, h1.dct h, h.key]
    show (valD (kvD kf ea x) (kf k)).map _ = _
    rw [valD_kv h, e]; rfl⟩
theorem memI_D (h : KeyOk ek kf) {S : Store} {d1 d2 : D} {x : List (κ × α)} {k : κ} (h1 : Is S d1 (ek k)) (h2 : Is S d2 (eD ek ea x)) : PI.memI S d1 d2 = some (dget x k).isSome := by
  have nbk : nb (ek k) = true := by
    have := h.key k
    cases hx : ek k <;> rw [hx] at this <;> first | rfl | cases this
  rw [h1.pure nbk]
  have d := h2.dct h
  have : PI.memI S (.p (ek k)) d2 = (keyP (ek k)).map fun q => (valD (kvD kf ea x) q).isSome := by
    rcases h2 with rfl | ⟨n, rfl, _, c⟩
    · have d' : dctOf S (.p (eD ek ea x)) = some (kvD kf ea x) := d
      unfold eD at d' ⊢
      simp only [PI.memI, d']
    · simp only [PI.memI, d]
  rw [this, h.key]
  show some (valD (kvD kf ea x) (kf k)).isSome = _
  rw [valD_kv h]
  cases dget x k <;> rfl
theorem ES.inD (h : KeyOk ek kf) (ha : EW Γ a tk ek o1) (hb : EW Γ b t1 (eD ek ea) o2) : EW Γ (mCmp .In a b) (fun Q => tk fun k => t1 fun x => Q (dget x k).isSome) eB .p :=
  ES.twoP (k := fun d t => (PI.cmpI .In t.2 d t.1).map fun c => (.p (.bool c), t.2)) (fun _ _ => rfl) ha hb fun x y S d1 d2 Q h1 h2 q => ⟨_, q, by
    show (PI.memI S d1 d2).map _ = _
    rw [memI_D h h1 h2]; rfl⟩
theorem ES.ninD (h : KeyOk ek kf) (ha : EW Γ a tk ek o1) (hb : EW Γ b t1 (eD ek ea) o2) : EW Γ (mCmp .NotIn a b) (fun Q => tk fun k => t1 fun x => Q (!(dget x k).isSome)) eB .p :=
  ES.twoP (k := fun d t => (PI.cmpI .NotIn t.2 d t.1).map fun c => (.p (.bool c), t.2)) (fun _ _ => rfl) ha hb fun x y S d1 d2 Q h1 h2 q => ⟨_, q, by
    show ((PI.memI S d1 d2).map _).map _ = _
    rw [memI_D h h1 h2]; rfl⟩
theorem ES.lenD (h : KeyOk ek kf) (ha : EW Γ a t1 (eD ek ea) o1) : EW Γ (mBlt bLen (mCons a mNil)) (fun Q => t1 fun x => Q (x.length : Int)) eI .p :=
  ES.unP (k := fun r => bLen r.2 [r.1]) (blt1 _) ha fun x S d Q h1 q => ⟨_, q, by
    have l1 := h1.dct h
    have l3 : ∀ z, d ≠ .p (.str z) := fun z e => by
      rw [e] at l1
      cases l1
    have : bLen S [d] = (match dctOf S d with
      | some kvs => some (.p (.int kvs.length), S)
      | none => (seqD S d).map fun xs => (.p (.int xs.length), S)) := by
      unfold bLen
      split
      · rename_i z _ e
        cases e
        exact absurd rfl (l3 _)
      · rename_i x' _ e
        cases e; rfl
      · rename_i e1 e2
        exact absurd rfl (e2 d)
    show bLen S [d] = _
    rw [this, l1]
    show some (D.p (.int (kvD kf ea x).length), S) = _
    unfold kvD
    rw [List.length_map]; rfl⟩
theorem tn_D (h : KeyOk ek kf) {S : Store} {d : D} {x : List (κ × α)} (h1 : Is S d (eD ek ea x)) : tnOf S d = some .dct := by
  rcases h1 with rfl | ⟨n, rfl, _, ks, _, c⟩
  · rfl
  · simp only [tnOf, c]
/-- d.get(k) -/
theorem ES.get1 (h : KeyOk ek kf) (ha : EW Γ a t1 (eD ek ea) o1) (hb : EW Γ b tk ek o2) : EW Γ (mMet "get" a (mCons b mNil)) (fun Q => t1 fun x => tk fun k => Q (dget x k)) (eO ea) .p := fun S ev O F Q g hD q => by
  obtain ⟨⟨d, S1⟩, e1, z1, z2, x, z3, z4, _⟩ := ha S ev O F _ g hD q
  obtain ⟨⟨d2, S2⟩, e2, y1, y2, k, y3, y4, _⟩ := hb S1 ev O F _ (g.fr z1) z2 z3
  have nbk : nb (ek k) = true := by
    have := h.key k
    cases hx : ek k <;> rw [hx] at this <;> first | rfl | cases this
  have y5 : d2 = .p (ek k) := y4.pure nbk
  subst y5
  show WP ((a ev S).bind _) _
  rw [e1]
  show WP ((tnOf S1 d).bind _) _
  rw [tn_D h z4]
  show WP ((mCons b mNil ev S1).bind _) _
  have e3 : mCons b mNil ev S1 = some ([.p (ek k)], S2) := by
    show (b ev S1).bind _ = _
    rw [e2]; rfl
  rw [e3]
  show WP (mGet S2 d [.p (ek k)]) _
  have : mGet S2 d [.p (ek k)] = some ((valD (kvD kf ea x) (kf k)).getD (.p .none), S2) := by
    simp only [mGet, (z4.fr y1).dct h, h.key]
  rw [this, valD_kv h]
  refine (wp_some _ _).mpr ⟨z1.seq y1, y2, _, y3, ?_⟩
  cases dget x k with
  | none => exact ⟨.inl rfl, (fun n w => by cases w), rfl⟩
  | some y => exact ⟨.inl rfl, (fun n w => by cases w), rfl⟩
theorem ES.get2 (h : KeyOk ek kf) (ha : EW Γ a t1 (eD ek ea) o1) (hb : EW Γ b tk ek o2) (hc : EW Γ c ta ea .p) : EW Γ (mMet "get" a (mCons b (mCons c mNil))) (fun Q => t1 fun x => tk fun k => ta fun z => Q ((dget x k).getD z)) ea .p := fun S ev O F Q g hD q => by
  obtain ⟨⟨d, S1⟩, e1, z1, z2, x, z3, z4, _⟩ := ha S ev O F _ g hD q
  obtain ⟨⟨d2, S2⟩, e2, y1, y2, k, y3, y4, _⟩ := hb S1 ev O F _ (g.fr z1) z2 z3
  obtain ⟨⟨d3, S3⟩, e3, x1, x2, z, x3, _, _, x4⟩ := hc S2 ev O F _ (g.fr (z1.seq y1)) y2 y3
  have nbk : nb (ek k) = true := by
    have := h.key k
    cases hx : ek k <;> rw [hx] at this <;> first | rfl | cases this
  have y5 : d2 = .p (ek k) := y4.pure nbk
  have x5 : d3 = .p (ea z) := x4
  subst y5; subst x5
  show WP ((a ev S).bind _) _
  rw [e1]
  show WP ((tnOf S1 d).bind _) _
  rw [tn_D h z4]
  show WP ((mCons b (mCons c mNil) ev S1).bind _) _
  have e4 : mCons b (mCons c mNil) ev S1 = some ([.p (ek k), .p (ea z)], S3) := by
    show (b ev S1).bind _ = _
    rw [e2]
    show ((c ev S2).bind _).map _ = _
    rw [e3]; rfl
  rw [e4]
  show WP (mGet S3 d [.p (ek k), .p (ea z)]) _
  have : mGet S3 d [.p (ek k), .p (ea z)] = some ((valD (kvD kf ea x) (kf k)).getD (.p (ea z)), S3) := by
    simp only [mGet, (z4.fr (y1.seq x1)).dct h, h.key]
  rw [this, valD_kv h]
  refine (wp_some _ _).mpr ⟨(z1.seq y1).seq x1, x2, _, x3, ?_⟩
  cases dget x k with
  | none => exact ⟨.inl rfl, (fun n w => by cases w), rfl⟩
  | some y => exact ⟨.inl rfl, (fun n w => by cases w), rfl⟩
end
end PI
set_option maxHeartbeats 1000000
/-! Own text: typed reading, part 9: what is walked, comprehensions, own boxes written at. -/
namespace PI
open PySem PySem.Spec L2
open PyProof.Rows hiding St

def rangeI (lo : Int) (n : Nat) : List Int := (List.range n).map fun (i : Nat) => lo + (i : Int)
def enumI {α : Type} (l : List α) : List (Int × α) := l.mapIdx fun i x => ((i : Int), x)
section
variable [Deck]
open Deck
variable {κ α β γ δ τ σ ρ : Type} {Γ : Gam} {a b c m : M} {ms : Ms} {ta : W α} {tb : W β} {ea : α → PyData} {eb : β → PyData} {ee : β → PyData} {o o1 o2 o3 : Md} {bx : Bool}
variable {Γn : τ → Gam} {Γf : σ → Gam} {e : ρ → PyData} {rest : MS}
variable {t1 : W (List α)} {t2 : W (List β)} {tn tm : W Int}

/-! ### sources -/
def srcO (O : NP) : Md → NP
  | .o => no
  | _ => O
/-- a list that stands in the store -/
theorem srcAt_L {S : Store} {d : D} {l : List PyData} {O : NP} (h : Is S d (.list l)) (hn : ∀ n, d = .ref n → ¬ O n) : ∃ f, srcOf S d = some f ∧ SrcAt f S O l := by
  rcases h with rfl | ⟨n, rfl, h2, c⟩
  · exact ⟨_, rfl, fun S' _ i _ => by show some ((l.map D.p)[i]?) = _; rw [List.getElem?_map]⟩
  · have c : S[n]? = _ := c
    refine ⟨srcR n, by simp only [srcOf, c], fun S' fr i _ => ?_⟩
    have : S'[n]? = some (.lst (l.map .p)) := fr.2 n _ h2 (hn n rfl) c
    simp only [srcR, this, List.getElem?_map]
theorem md_no {b0 : Nat} {S : Store} {O F : NP} {o : Md} {d : D} {x : PyData} (h : Res b0 S O F o d (.v x)) : ∀ n, d = .ref n → ¬ srcO O o n := fun n q z => by
  cases o with
  | p => have := h.2.2; rw [this] at q; cases q
  | f => exact h.2.2 n q z
  | o => exact z
theorem IJ.ofL (ha : EW Γ a t1 (eL ea) o) : IJ Γ (mIter a) t1 ea o := fun S ev O F Q g hD q => by
  obtain ⟨⟨d, S1⟩, e1, z1, z2, x, z3, z4⟩ := ha S ev O F _ g hD q
  obtain ⟨f, f1, f2⟩ := srcAt_L (O := srcO O o) z4.1 (md_no z4)
  show WP ((a ev S).bind _) _
  rw [e1]
  show WP ((srcOf S1 d).map _) _
  rw [f1]
  exact (wp_some _ _).mpr ⟨z1, z2, x, z3, by cases o <;> exact f2⟩
theorem IJ.ofT (ha : EW Γ a t1 (eT ea) o) : IJ Γ (mIter a) t1 ea .f := fun S ev O F Q g hD q => by
  obtain ⟨⟨d, S1⟩, e1, z1, z2, x, z3, z4⟩ := ha S ev O F _ g hD q
  obtain rfl : d = .p (.tuple (x.map ea)) := Is.tup z4.1
  show WP ((a ev S).bind _) _
  rw [e1]
  exact (wp_some _ _).mpr ⟨z1, z2, x, z3, fun S' _ i _ => by show some (((x.map ea).map D.p)[i]?) = _; rw [List.getElem?_map]⟩
/-- a range not too wide -/
def rng1W (n : Int) : W (List Int) := fun Q => n.natAbs < 2 ^ 62 ∧ Q (rangeI 0 n.toNat)
def rng2W (lo hi : Int) : W (List Int) := fun Q => (lo.natAbs < 2 ^ 62 ∧ hi.natAbs < 2 ^ 62) ∧ Q (rangeI lo (hi - lo).toNat)
theorem srcN_at (lo : Int) (n : Nat) (S : Store) (O : NP) : SrcAt (srcN lo n) S O ((rangeI lo n).map eI) := fun S' _ i hi => by
  unfold rangeI at *
  rw [List.length_map, List.length_map, List.length_range] at hi
  show some (if i < n then _ else none) = _
  by_cases h : i < n
  · rw [if_pos h, List.getElem?_map, List.getElem?_map, List.getElem?_range h]; rfl
  · rw [if_neg h, List.getElem?_eq_none (by simp; omega)]; rfl
theorem IJ.rng1 (ha : EW Γ a tn eI o) : IJ Γ (mRng1 a) (fun Q => tn fun n => rng1W n Q) eI .f := fun S ev O F Q g hD q => by
  obtain ⟨⟨d, S1⟩, e1, z1, z2, x, z3, z4, _⟩ := ha S ev O F _ g hD q
  obtain rfl := z4.int
  show WP ((a ev S).bind _) _
  rw [e1]
  show WP (if x.natAbs < 2 ^ 62 then _ else none) _
  rw [if_pos z3.1]
  exact (wp_some _ _).mpr ⟨z1, z2, _, z3.2, srcN_at _ _ _ _⟩
theorem IJ.rng2 (ha : EW Γ a tn eI o) (hb : EW Γ b tm eI o2) : IJ Γ (mRng2 a b) (fun Q => tn fun x => tm fun y => rng2W x y Q) eI .f := fun S ev O F Q g hD q => by
  obtain ⟨⟨d, S1⟩, e1, z1, z2, x, z3, z4, _⟩ := ha S ev O F _ g hD q
  obtain rfl := z4.int
  obtain ⟨⟨d, S2⟩, e2, y1, y2, y, y3, y4, _⟩ := hb S1 ev O F _ (g.fr z1) z2 z3
  obtain rfl := y4.int
  show WP ((a ev S).bind _) _
  rw [e1]
  show WP ((b ev S1).bind _) _
  rw [e2]
  show WP (if _ then _ else none) _
  rw [if_pos y3.1]
  exact (wp_some _ _).mpr ⟨z1.seq y1, y2, _, y3.2, srcN_at _ _ _ _⟩
theorem IJ.enT (ha : EW Γ a t1 (eT ea) o) : IJ Γ (mEn a) (fun Q => t1 fun l => Q (enumI l)) (eP2 eI ea) .f := fun S ev O F Q g hD q => by
  obtain ⟨⟨d, S1⟩, e1, z1, z2, x, z3, z4⟩ := ha S ev O F _ g hD q
  obtain rfl : d = .p (.tuple (x.map ea)) := Is.tup z4.1
  show WP ((a ev S).bind _) _
  rw [e1]
  refine (wp_some _ _).mpr ⟨z1, z2, _, z3, fun S' _ i hi => ?_⟩
  unfold enumI at *
  rw [List.length_map, List.length_mapIdx] at hi
  show (if i ≤ (x.map ea).length then _ else none) = _
  rw [if_pos (by rw [List.length_map]; exact hi), List.getElem?_map, List.getElem?_map, List.getElem?_mapIdx]
  cases x[i]? <;> rfl
theorem IJ.enL (ha : EW Γ a t1 (eL ea) o) : IJ Γ (mEn a) (fun Q => t1 fun l => Q (enumI l)) (eP2 eI ea) o := fun S ev O F Q g hD q => by
  obtain ⟨⟨d, S1⟩, e1, z1, z2, x, z3, z4⟩ := ha S ev O F _ g hD q
  obtain ⟨f, f1, f2⟩ := srcAt_L (O := srcO O o) z4.1 (md_no z4)
  have hs : enSrc S1 d = some (srcEn f) := by
    have : IsLst S1 d = true := by
      rcases z4.1 with h | ⟨n, h, _, c⟩
      · rw [show d = _ from h]; rfl
      · have c : S1[n]? = _ := c
        rw [show d = _ from h]
        simp only [IsLst, c]
    have e : enSrc S1 d = if IsLst S1 d then (srcOf S1 d).map srcEn else none := by
      rcases z4.1 with h | ⟨n, h, _, c⟩
      · rw [show d = _ from h]; rfl
      · rw [show d = _ from h]; rfl
    rw [e, if_pos this, f1]; rfl
  show WP ((a ev S).bind _) _
  rw [e1]
  show WP ((enSrc S1 d).map _) _
  rw [hs]
  refine (wp_some _ _).mpr ⟨z1, z2, _, z3, ?_⟩
  have : SrcAt (srcEn f) S1 (srcO O o) ((enumI x).map (eP2 eI ea)) := fun S' fr i hi => by
    unfold enumI at *
    rw [List.length_map, List.length_mapIdx] at hi
    have := f2 S' fr i (by rw [List.length_map]; exact hi)
    unfold srcEn
    rw [this, List.getElem?_map, List.getElem?_map, List.getElem?_mapIdx]
    cases x[i]? <;> rfl
  cases o <;> exact this
/-- the pair is no pair of pairs of numbers -/
theorem zp_at {x y : List PyData} {f g : Src} {S : Store} {O : NP} (hf : SrcAt f S O x) (hg : SrcAt g S O y) (hb : ∀ p ∈ x.zip y, bareP [p.1, p.2] = false) : SrcAt (srcZp f g) S O ((x.zip y).map fun p => .tuple [p.1, p.2]) := fun S' fr i hi => by
  rw [List.length_map, List.length_zip] at hi
  have h1 := hf S' fr i (by omega)
  have h2 := hg S' fr i (by omega)
  unfold srcZp
  rw [h1, h2, List.getElem?_map]
  simp only [List.zip, List.getElem?_zipWith]
  cases hx : x[i]? with
  | none => cases hy : y[i]? <;> rfl
  | some u =>
    cases hy : y[i]? with
    | none => rfl
    | some v =>
      have := hb (u, v) (List.mem_of_getElem? (i := i) (by simp only [List.zip, List.getElem?_zipWith, hx, hy]))
      show (if bareP [u, v] = true then none else _) = _
      rw [if_neg (by rw [this]; exact Bool.false_ne_true)]; rfl
theorem zip_mapE {ea : α → PyData} {eb : β → PyData} (x : List α) (y : List β) : ((x.map ea).zip (y.map eb)).map (fun p => PyData.tuple [p.1, p.2]) = (x.zip y).map (eP2 ea eb) := by
  rw [List.zip_map, List.map_map]; rfl
theorem zip_bare {ea : α → PyData} {eb : β → PyData} (h : ∀ x y, bareP [ea x, eb y] = false) (x : List α) (y : List β) : ∀ p ∈ (x.map ea).zip (y.map eb), bareP [p.1, p.2] = false := fun p hp => by
  rw [List.zip_map] at hp
  obtain ⟨q, _, rfl⟩ := List.mem_map.mp hp
  exact h _ _
theorem srcAt_T (x : List PyData) (S : Store) (O : NP) : SrcAt (srcL (x.map .p)) S O x := fun S' _ i _ => by show some ((x.map D.p)[i]?) = _; rw [List.getElem?_map]
theorem zp_core {S : Store} {O : NP} {d1 d2 : D} {x : List α} {y : List β} (hb : ∀ x y, bareP [ea x, eb y] = false) (h : (∃ f g, zpS S d1 d2 = some (srcZp f g) ∧ SrcAt f S O (x.map ea) ∧ SrcAt g S O (y.map eb)) ∨ (zpS S d1 d2 = some (srcM (x.map ea) (y.map eb)))) : ∃ f, zpS S d1 d2 = some f ∧ SrcAt f S O ((x.zip y).map (eP2 ea eb)) := by
  rcases h with ⟨f, g, e, h1, h2⟩ | e
  · exact ⟨_, e, by rw [← zip_mapE]; exact zp_at h1 h2 (zip_bare hb x y)⟩
  · refine ⟨_, e, ?_⟩
    rw [← zip_mapE]
    intro S' fr i hi
    have z := zp_at (srcAt_T (x.map ea) S O) (srcAt_T (y.map eb) S O) (zip_bare hb x y) S' fr i hi
    rw [← z]
    rw [List.length_map, List.length_zip] at hi
    unfold srcM srcZp srcL
    rw [if_pos (by omega)]
    simp only [List.getElem?_map]
    cases x[i]? <;> cases y[i]? <;> rfl
theorem IJ.zpTT (hb : ∀ x y, bareP [ea x, eb y] = false) (h1 : EW Γ a t1 (eT ea) o) (h2 : EW Γ b t2 (eT eb) o2) : IJ Γ (mZp a b) (fun Q => t1 fun x => t2 fun y => Q (x.zip y)) (eP2 ea eb) .f := fun S ev O F Q g hD q => by
  obtain ⟨⟨d1, S1⟩, e1, z1, z2, x, z3, z4⟩ := h1 S ev O F _ g hD q
  obtain ⟨⟨d2, S2⟩, e2, y1, y2, y, y3, y4⟩ := h2 S1 ev O F _ (g.fr z1) z2 z3
  have e3 : mZp a b ev S = ((zpS S2 d1 d2).map fun f => (f, S2)) := by
    show ((a ev S).bind _) = _
    rw [e1]
    show ((b ev S1).bind _) = _
    rw [e2]; rfl
  rw [e3]
  obtain rfl : d1 = .p (.tuple (x.map ea)) := Is.tup z4.1
  obtain rfl : d2 = .p (.tuple (y.map eb)) := Is.tup y4.1
  obtain ⟨f, f1, f2⟩ := zp_core (ea := ea) (eb := eb) (O := O) (S := S2) (x := x) (y := y) (d1 := .p (.tuple (x.map ea))) (d2 := .p (.tuple (y.map eb))) hb (.inl ⟨_, _, rfl, srcAt_T _ _ _, srcAt_T _ _ _⟩)
  rw [f1]
  exact (wp_some _ _).mpr ⟨z1.seq y1, y2, _, y3, f2⟩
theorem isLst_of {S : Store} {d : D} {l : List PyData} (h : Is S d (.list l)) : IsLst S d = true := by
  rcases h with rfl | ⟨n, rfl, _, c⟩
  · rfl
  · have c : S[n]? = _ := c
    simp only [IsLst, c]
theorem IJ.zpLL (hb : ∀ x y, bareP [ea x, eb y] = false) (h1 : EW Γ a t1 (eL ea) .f) (h2 : EW Γ b t2 (eL eb) .f) : IJ Γ (mZp a b) (fun Q => t1 fun x => t2 fun y => Q (x.zip y)) (eP2 ea eb) .f := fun S ev O F Q g hD q => by
  obtain ⟨⟨d1, S1⟩, e1, z1, z2, x, z3, z4, _, z5⟩ := h1 S ev O F _ g hD q
  obtain ⟨⟨d2, S2⟩, e2, y1, y2, y, y3, y4, _, y5⟩ := h2 S1 ev O F _ (g.fr z1) z2 z3
  show WP ((a ev S).bind _) _
  rw [e1]
  show WP ((b ev S1).bind _) _
  rw [e2]
  have z4 : Is S2 d1 (.list (x.map ea)) := z4.fr y1
  have y4 : Is S2 d2 (.list (y.map eb)) := y4
  obtain ⟨f1, f2, f3⟩ := srcAt_L (O := O) z4 z5
  obtain ⟨k1, k2, k3⟩ := srcAt_L (O := O) y4 y5
  have hz : zpS S2 d1 d2 = some (srcZp f1 k1) := by
    have : zpS S2 d1 d2 = if (IsLst S2 d1 && IsLst S2 d2) || (IsTup d1 && IsTup d2) then (srcOf S2 d1).bind fun f => (srcOf S2 d2).map fun g => srcZp f g else none := by
      rcases z4 with rfl | ⟨n, rfl, _⟩ <;> rcases y4 with rfl | ⟨m, rfl, _⟩ <;> rfl
    rw [this, isLst_of z4, isLst_of y4, f2, k2]; rfl
  obtain ⟨f, w1, w2⟩ := zp_core (ea := ea) (eb := eb) (O := O) (S := S2) (x := x) (y := y) hb (.inl ⟨_, _, hz, f3, k3⟩)
  show WP ((zpS S2 d1 d2).map _) _
  rw [w1]
  exact (wp_some _ _).mpr ⟨z1.seq y1, y2, _, y3, w2⟩
theorem IJ.zpTL (hb : ∀ x y, bareP [ea x, eb y] = false) (h1 : EW Γ a t1 (eT ea) o) (h2 : EW Γ b t2 (eL eb) .p) : IJ Γ (mZp a b) (fun Q => t1 fun x => t2 fun y => Q (x.zip y)) (eP2 ea eb) .f := fun S ev O F Q g hD q => by
  obtain ⟨⟨d1, S1⟩, e1, z1, z2, x, z3, z4⟩ := h1 S ev O F _ g hD q
  obtain ⟨⟨d2, S2⟩, e2, y1, y2, y, y3, y4⟩ := h2 S1 ev O F _ (g.fr z1) z2 z3
  have e3 : mZp a b ev S = ((zpS S2 d1 d2).map fun f => (f, S2)) := by
    show ((a ev S).bind _) = _
    rw [e1]
    show ((b ev S1).bind _) = _
    rw [e2]; rfl
  rw [e3]
  obtain rfl : d1 = .p (.tuple (x.map ea)) := Is.tup z4.1
  obtain rfl : d2 = .p (.list (y.map eb)) := y4.2.2
  obtain ⟨f, f1, f2⟩ := zp_core (ea := ea) (eb := eb) (O := O) (S := S2) (x := x) (y := y) (d1 := .p (.tuple (x.map ea))) (d2 := .p (.list (y.map eb))) hb (.inr rfl)
  rw [f1]
  exact (wp_some _ _).mpr ⟨z1.seq y1, y2, _, y3, f2⟩

/-! ### comprehensions -/
theorem srcAt_no {f : Src} {S : Store} {O : NP} {l : List PyData} {o : Md} (h : SrcAt f S (match o with | .o => no | _ => O) l) : SrcAt f S no l := fun S' fr => h S' (by cases o <;> exact fr.wide)
variable {L : Nat} {mi : MIt} {own : List Nat} {g : MG} {elt : M} {tc : α → W Bool} {te : α → W β} {Γ2 : α → Gam}
theorem ES.lc (hL : 1000000 ≤ L) (hi : IJ Γ mi t1 ea o) (hg : ∀ x, GJ (wipeG Γ own) g (ea x) (Γ2 x)) (hc : ∀ x, EW (Γ2 x) c (tc x) eB o1) (he : ∀ x, EW (Γ2 x) elt (te x) eb .p) :
    ES Γ (mLc L bx mi own g c elt) (fun Q => t1 fun xs => compW xs (fun x Q => tc x fun b => if b = true then te x fun y => Q (some y) else Q none) Q) (slL bx eb) .f := fun S ev O F Q gE hD q => by
  obtain ⟨⟨f, S1⟩, e1, z1, z2, xs, ⟨zl, zg⟩, z4⟩ := hi S ev O F _ gE hD q
  show WP ((mi ev S).bind _) _
  rw [e1]
  show WP ((lcLoop f g c elt (wipeE ev own) L 0 [] S1).bind _) _
  rw [wp_bind]
  have := comp_go hg hc he L 0 [] S1 Q (by omega) (Nat.zero_le _) (Nat.le_refl _) zl (srcAt_no z4) ((gE.fr z1).wipe own) z2 (by simpa using zg)
  refine this.mono fun r ⟨y1, y2, l, y3, y4, y5⟩ => ?_
  obtain ⟨ds, S2⟩ := r
  show WP (mkL bx ds S2) _
  rw [show ds = _ from y4]
  have e5 : (l.map fun y => D.p (eb y)) = (l.map eb).map .p := by rw [List.map_map]; rfl
  rw [e5]
  exact (mkL_r (Deck.two _ y2) y5 y3).mono fun r h => h.out gE (z1.seq y1) y2
theorem compGo_N {p : α → W β} : ∀ (xs : List α), compNGo p xs = compGo (fun x Q => (fun (Q : Bool → Prop) => Q true) fun b => if b = true then p x fun y => Q (some y) else Q none) xs
  | [] => rfl
  | x :: r => by
    have ih := compGo_N (p := p) r
    funext Q
    show (p x fun y => compNGo p r fun l => Q (y :: l)) = (p x fun y => compGo _ r fun l => Q (y :: l))
    rw [ih]
/-- without a condition -/
theorem ES.lcN (hL : 1000000 ≤ L) (hi : IJ Γ mi t1 ea o) (hg : ∀ x, GJ (wipeG Γ own) g (ea x) (Γ2 x)) (he : ∀ x, EW (Γ2 x) elt (te x) eb .p) :
    ES Γ (mLc L bx mi own g mYes elt) (fun Q => t1 fun xs => compN xs te Q) (slL bx eb) .f := fun S ev O F Q gE hD q => by
  refine ES.lc (tc := fun _ Q => Q true) (te := te) hL hi hg (fun x => ES.con (ea := eB) true) he S ev O F Q gE hD ?_
  have e : (fun xs : List α => compN xs te Q) = fun xs => compW xs (fun x Q => (fun (Q : Bool → Prop) => Q true) fun b => if b = true then te x fun y => Q (some y) else Q none) Q := funext fun xs => by
    unfold compN compW
    rw [compGo_N]
  have q : t1 fun xs : List α => compN xs te Q := q
  rw [e] at q
  exact q
theorem compP_go {c : α → Bool} {f : α → β} : ∀ (xs : List α) (Q : List β → Prop), compGo (fun x Q => (fun (Q : Bool → Prop) => Q (c x)) fun b => if b = true then (fun (Q : β → Prop) => Q (f x)) fun y => Q (some y) else Q none) xs Q = Q ((xs.filter c).map f)
  | [], Q => rfl
  | x :: r, Q => by
    show (if c x = true then compGo _ r (fun l => Q (f x :: l)) else compGo _ r fun l => Q l) = _
    rw [List.filter_cons]
    by_cases h : c x = true
    · rw [if_pos h, if_pos h, compP_go r]; rfl
    · rw [if_neg h, if_neg h, compP_go r]
/-- of pure parts -/
theorem ES.lcP {cp : α → Bool} {f : α → β} (hL : 1000000 ≤ L) (hi : IJ Γ mi t1 ea o) (hg : ∀ x, GJ (wipeG Γ own) g (ea x) (Γ2 x)) (hc : ∀ x, EW (Γ2 x) c (fun Q => Q (cp x)) eB o1) (he : ∀ x, EW (Γ2 x) elt (fun Q => Q (f x)) eb .p) :
    ES Γ (mLc L bx mi own g c elt) (fun Q => t1 fun xs => xs.length < 1000000 ∧ Q ((xs.filter cp).map f)) (slL bx eb) .f := fun S ev O F Q gE hD q => by
  refine ES.lc (tc := fun x Q => Q (cp x)) (te := fun x Q => Q (f x)) hL hi hg hc he S ev O F Q gE hD ?_
  have e : (fun xs : List α => xs.length < 1000000 ∧ Q ((xs.filter cp).map f)) = fun xs => compW xs (fun x Q => (fun (Q : Bool → Prop) => Q (cp x)) fun b => if b = true then (fun (Q : β → Prop) => Q (f x)) fun y => Q (some y) else Q none) Q := funext fun xs => by
    unfold compW
    rw [compP_go]
  have q : t1 fun xs : List α => xs.length < 1000000 ∧ Q ((xs.filter cp).map f) := q
  rw [e] at q
  exact q
theorem ES.lcNP {f : α → β} (hL : 1000000 ≤ L) (hi : IJ Γ mi t1 ea o) (hg : ∀ x, GJ (wipeG Γ own) g (ea x) (Γ2 x)) (he : ∀ x, EW (Γ2 x) elt (fun Q => Q (f x)) eb .p) :
    ES Γ (mLc L bx mi own g mYes elt) (fun Q => t1 fun xs => xs.length < 1000000 ∧ Q (xs.map f)) (slL bx eb) .f := fun S ev O F Q gE hD q => by
  refine ES.lcP (cp := fun _ => true) (f := f) hL hi hg (fun x => ES.con (ea := eB) true) he S ev O F Q gE hD ?_
  have e : (fun xs : List α => xs.length < 1000000 ∧ Q (xs.map f)) = fun xs => xs.length < 1000000 ∧ Q ((xs.filter fun _ => true).map f) := funext fun xs => by
    rw [List.filter_eq_self.mpr fun _ _ => rfl]
  have q : t1 fun xs : List α => xs.length < 1000000 ∧ Q (xs.map f) := q
  rw [e] at q
  exact q

/-! ### lists made of ranges, sets, dicts -/
def lrgW (n : Int) : W (List Int) := fun Q => n < 1000000 ∧ -1000000 < n ∧ Q (rangeI 0 n.toNat)
theorem ES.lrg1 (ha : EW Γ a tn eI o) : ES Γ (mLrg1 bx a) (fun Q => tn fun n => lrgW n Q) (slL bx eI) .f :=
  ES.un (r := fun n Q => lrgW n Q) (k := fun r => PI.lrg1 bx r.2 r.1) (fun _ _ => rfl) ha fun n S d Q h0 h1 ⟨q1, q2, q3⟩ => by
    rw [h1.int]
    show WP (if _ then _ else none) _
    rw [if_pos ⟨by omega, by omega⟩]
    have e : rngL 0 n.toNat = ((rangeI 0 n.toNat).map eI).map .p := by
      unfold rngL rangeI
      rw [List.map_map, List.map_map]; rfl
    rw [e]
    exact mkL_r h0 (by unfold rangeI; rw [List.length_map, List.length_range]; omega) q3
theorem setL_len' {ns : List Int} : (setL ns).length ≤ ns.length := by
  unfold setL
  rw [List.length_mergeSort]
  exact PyProof.Rows.firstMet_length_le _ _
/-- sorted(set(..)) of some numbers -/
def ssetW (ns : List Int) : W (List Int) := fun Q => ns.length < 64 ∧ Q (setL ns)
theorem ES.sset {tI : W (List Int)} (ha : EW Γ a tI (eL eI) o) : ES Γ (mSset bx a) (fun Q => tI fun l => ssetW l Q) (slL bx eI) .f :=
  ES.un (r := fun l Q => ssetW l Q) (k := fun r => PI.sset bx r.2 r.1) (fun _ _ => rfl) ha fun l S d Q h0 h1 ⟨q1, q2⟩ => by
    show WP ((numsOf S d).bind _) _
    rw [h1.nums]
    show WP (if l.length < 64 then _ else none) _
    rw [if_pos q1]
    have e : ((setL l).map fun i => D.p (.int i)) = ((setL l).map eI).map .p := by rw [List.map_map]; rfl
    rw [e]
    exact mkL_r h0 (by have := setL_len' (ns := l); omega) q2
/-- sorted(d.items()) -/
theorem ES.sit [DecidableEq κ] {ek : κ → PyData} {kf : κ → Key} {le : κ × α → κ × α → Bool} {td : W (List (κ × α))} (h : KeyOk ek kf) (hk : ∀ x, kP (kf x) = ek x) (k : SortOk (eP2 ek ea) le) (ha : EW Γ a td (eD ek ea) o) : ES Γ (mSit bx a) (fun Q => td fun l => small (l.mergeSort le) Q) (slL bx (eP2 ek ea)) .f :=
  ES.un (r := fun l Q => small (l.mergeSort le) Q) (k := fun r => sitI bx r.2 r.1) (fun _ _ => rfl) ha fun l S d Q h0 h1 q => by
    show WP ((dctOf S d).bind _) _
    rw [h1.dct h]
    show WP ((itemsP (kvD kf ea l)).bind _) _
    have e : ∀ l : List (κ × α), itemsP (kvD kf ea l) = some (l.map (eP2 ek ea)) := fun l => by
      induction l with
      | nil => rfl
      | cons p r ih =>
        show (itemP (kf p.1, .p (ea p.2))).bind _ = _
        show (some (PyData.tuple [kP (kf p.1), ea p.2])).bind _ = _
        show (itemsP (kvD kf ea r)).map _ = _
        rw [ih, hk]; rfl
    rw [e]
    show WP (if _ then _ else none) _
    rw [if_pos (k.ok l), k.eq]
    exact mkL_r h0 q.1 q.2
theorem sortok_I : SortOk eI (fun a b => decide (a ≤ b)) := ⟨fun ns => by
    unfold sortOk
    rw [Bool.and_eq_true, Bool.and_eq_true, Bool.or_eq_true, List.all_eq_true, List.all_eq_true, List.all_eq_true, List.all_eq_true]
    refine ⟨⟨fun a ha => List.all_eq_true.mpr fun b hb => ?_, .inr fun a ha => ?_⟩, fun a ha => ?_⟩
    · obtain ⟨i, _, rfl⟩ := List.mem_map.mp ha
      obtain ⟨j, _, rfl⟩ := List.mem_map.mp hb
      rfl
    · obtain ⟨i, _, rfl⟩ := List.mem_map.mp ha; rfl
    · obtain ⟨i, _, rfl⟩ := List.mem_map.mp ha; rfl, fun ns => by
    unfold sortP
    refine (List.map_mergeSort (f := eI) (r := fun a b => decide (a ≤ b)) (s := PySem.W.dataLe false id) fun a _ b _ => ?_).symm
    exact (congrFun (congrFun (PySem.W.dataLe_int (β := Int) id) a) b).symm⟩
def leII (p q : Int × Int) : Bool := decide (p.1 < q.1 ∨ (p.1 = q.1 ∧ p.2 ≤ q.2))
theorem sortok_II : SortOk (eP2 eI eI) leII := ⟨fun ns => by
    unfold sortOk
    rw [Bool.and_eq_true, Bool.and_eq_true, Bool.or_eq_true, List.all_eq_true, List.all_eq_true, List.all_eq_true, List.all_eq_true]
    refine ⟨⟨fun a ha => List.all_eq_true.mpr fun b hb => ?_, .inl fun a ha => ?_⟩, fun a ha => ?_⟩
    · obtain ⟨i, _, rfl⟩ := List.mem_map.mp ha
      obtain ⟨j, _, rfl⟩ := List.mem_map.mp hb
      rfl
    · obtain ⟨i, _, rfl⟩ := List.mem_map.mp ha; rfl
    · obtain ⟨i, _, rfl⟩ := List.mem_map.mp ha; rfl, fun ns => by
    unfold sortP
    refine (List.map_mergeSort (f := eP2 eI eI) (r := leII) (s := PySem.W.dataLe false id) fun a _ b _ => ?_).symm
    exact (congrFun (congrFun (PySem.W.dataLe_ii (β := Int × Int) (·.1) (·.2)) a) b).symm⟩

/-! ### own boxes written at -/
variable {p : α → WS τ σ ρ}
/-- so many more at the end -/
def push {α : Type} (l : List α) (x : α) : W (List α) := fun Q => l.length < 1000000 ∧ Q (l ++ [x])
theorem EG.mine {S : Store} {ev : EnvI} {O F : NP} (g : EG S ev Γ O F) {i : Nat} {x : PyData} (h : Γ[i]? = some (.b x)) : ∃ n, ev[i]? = some (some (.ref n)) ∧ O n ∧ 2 ≤ n ∧ Cel S n x := by
  obtain ⟨n, a, b, c, d, _⟩ := g.ok i _ h
  exact ⟨n, a, b, c, d⟩
theorem Fr.set {S : Store} {O : NP} {n : Nat} (h : O n) (c : Cell) : Fr O S (S.set n c) := ⟨by rw [List.length_set]; exact Nat.le_refl _, fun m q _ ho e => by rw [List.getElem?_set_ne (fun z => by subst z; exact ho h)]; exact e⟩
theorem SG.app {i : Nat} {l : List β} {t : W β} {p : List β → WS τ σ ρ} (h : Γ[i]? = some (.b (eL eb l))) (hm : EW Γ m t eb .p) (k : ∀ l, SG (Γ.set i (.b (eL eb l))) rest (p l) Γn Γf e) :
    SG Γ (sSeq (sEx (mMet "append" (mV i) (mCons m mNil))) rest) (fun Qn Qc Qb Qr => t fun x => push l x fun l => p l Qn Qc Qb Qr) Γn Γf e := fun S ev O F Qn Qc Qb Qr g hD q => by
  obtain ⟨n, n1, n2, n3, n4⟩ := g.mine h
  obtain ⟨⟨d, S1⟩, e1, z1, z2, x, ⟨z3, z3'⟩, _, _, z4⟩ := hm S ev O F _ g hD q
  have z4 : d = .p (eb x) := z4
  subst z4
  have c0 : S[n]? = _ := n4
  have c1 : S1[n]? = some (.lst ((l.map eb).map .p)) := n4.fr z1 n3 (fun q => q)
  have e2 : (sEx (mMet "append" (mV i) (mCons m mNil))) ev S = some (.nx, ev, S1.set n (.lst (((l ++ [x]).map eb).map .p))) := by
    have e3 : mMet "append" (mV i) (mCons m mNil) ev S = some (.p .none, S1.set n (.lst (((l ++ [x]).map eb).map .p))) := by
      show (mV i ev S).bind _ = _
      rw [ev_at g h n1]
      show (tnOf S (.ref n)).bind _ = _
      have : tnOf S (.ref n) = some .lst := by simp only [tnOf, c0]
      rw [this]
      show (mCons m mNil ev S).bind _ = _
      have : mCons m mNil ev S = some ([.p (eb x)], S1) := by
        show (m ev S).bind _ = _
        rw [e1]; rfl
      rw [this]
      show mAppend S1 (.ref n) [.p (eb x)] = _
      simp only [mAppend, c1]
      rw [if_pos (by rw [List.length_map, List.length_map]; exact Nat.lt_trans z3 (by decide)), List.map_append, List.map_append]; rfl
    show (mMet _ _ _ ev S).map _ = _
    rw [e3]; rfl
  show WP ((sEx _ ev S).bind _) _
  rw [e2]
  have hc : Cel (S1.set n (.lst (((l ++ [x]).map eb).map .p))) n (eL eb (l ++ [x])) := by
    show (S1.set n _)[n]? = _
    rw [List.getElem?_set_self (by exact (List.getElem?_eq_some_iff.mp c1).1)]
  exact (k _ _ ev O F Qn Qc Qb Qr ((g.fr z1).mut h n1 hc) (DK.set z2 n3 _) z3').mono fun r h => h.tr (z1.wide.trans (Fr.set n2 _) fun n q => .inl q) fun n q => .inl q
/-- an item put anew -/
def lset {α : Type} (l : List α) (i : Int) (x : α) : W (List α) := fun Q => ∃ n, L2.ixN l.length i = some n ∧ Q (l.set n x)
theorem SG.setL {i : Nat} {mi : M} {ti : W Int} {l : List β} {t : W β} {p : List β → WS τ σ ρ} (h : Γ[i]? = some (.b (eL eb l))) (hm : EW Γ m t eb .p) (hi : EW Γ mi ti eI o) (k : ∀ l, SG (Γ.set i (.b (eL eb l))) rest (p l) Γn Γf e) :
    SG Γ (sSeq (sAsg m (gSb (mV i) mi)) rest) (fun Qn Qc Qb Qr => t fun x => ti fun j => lset l j x fun l => p l Qn Qc Qb Qr) Γn Γf e := fun S ev O F Qn Qc Qb Qr g hD q => by
  obtain ⟨n, n1, n2, n3, n4⟩ := g.mine h
  obtain ⟨⟨d, S1⟩, e1, z1, z2, x, z3, _, _, z4⟩ := hm S ev O F _ g hD q
  have z4 : d = .p (eb x) := z4
  subst z4
  obtain ⟨⟨d2, S2⟩, e2, y1, y2, j, ⟨m', y3, y3'⟩, y4, _⟩ := hi S1 ev O F _ (g.fr z1) z2 z3
  obtain rfl := y4.int
  have z12 := z1.seq y1
  have c1 : S2[n]? = some (.lst ((l.map eb).map .p)) := n4.fr z12 n3 (fun q => q)
  have e3 : sAsg m (gSb (mV i) mi) ev S = some (.nx, ev, S2.set n (.lst (((l.set m' x).map eb).map .p))) := by
    show (m ev S).bind _ = _
    rw [e1]
    show ((gSb (mV i) mi (.p (eb x)) ev S1).map _) = _
    show (((mV i ev S1).bind _).map _) = _
    rw [ev_at (g.fr z1) h n1]
    show (((mi ev S1).bind _).map _) = _
    rw [e2]
    show (((setI S2 (.ref n) (.p (.int j)) (.p (eb x))).map _).map _) = _
    have : setI S2 (.ref n) (.p (.int j)) (.p (eb x)) = some (S2.set n (.lst (((l.set m' x).map eb).map .p))) := by
      simp only [setI, c1]
      rw [List.length_map, List.length_map, y3]
      show some _ = _
      rw [List.map_set, List.map_set]
    rw [this]; rfl
  show WP ((sAsg _ _ ev S).bind _) _
  rw [e3]
  have hc : Cel (S2.set n (.lst (((l.set m' x).map eb).map .p))) n (eL eb (l.set m' x)) := by
    show (S2.set n _)[n]? = _
    rw [List.getElem?_set_self (by exact (List.getElem?_eq_some_iff.mp c1).1)]
  exact (k _ _ ev O F Qn Qc Qb Qr ((g.fr z12).mut h n1 hc) (DK.set y2 n3 _) y3').mono fun r h => h.tr (z12.wide.trans (Fr.set n2 _) fun n q => .inl q) fun n q => .inl q
theorem SG.setD [DecidableEq κ] {ek : κ → PyData} {kf : κ → Key} {i : Nat} {mi : M} {ti : W κ} {l : List (κ × β)} {t : W β} {p : List (κ × β) → WS τ σ ρ} (hK : KeyOk ek kf) (h : Γ[i]? = some (.b (eD ek eb l))) (hm : EW Γ m t eb .p) (hi : EW Γ mi ti ek o) (k : ∀ l, SG (Γ.set i (.b (eD ek eb l))) rest (p l) Γn Γf e) :
    SG Γ (sSeq (sAsg m (gSb (mV i) mi)) rest) (fun Qn Qc Qb Qr => t fun x => ti fun j => l.length < 1000000 ∧ p (dput l j x) Qn Qc Qb Qr) Γn Γf e := fun S ev O F Qn Qc Qb Qr g hD q => by
  obtain ⟨n, n1, n2, n3, ks, n4, n5⟩ := g.mine h
  rw [keysP_eD hK] at n4
  cases n4
  obtain ⟨⟨d, S1⟩, e1, z1, z2, x, z3, _, _, z4⟩ := hm S ev O F _ g hD q
  have z4 : d = .p (eb x) := z4
  subst z4
  obtain ⟨⟨d2, S2⟩, e2, y1, y2, j, ⟨y3, y3'⟩, y4, _⟩ := hi S1 ev O F _ (g.fr z1) z2 z3
  have nbk : nb (ek j) = true := by
    have := hK.key j
    cases hx : ek j <;> rw [hx] at this <;> first | rfl | cases this
  obtain rfl : d2 = .p (ek j) := y4.pure nbk
  have z12 := z1.seq y1
  have c1 : S2[n]? = some (.dct (kvD kf eb l)) := z12.2 n _ n3 (fun q => q) n5
  have e3 : sAsg m (gSb (mV i) mi) ev S = some (.nx, ev, S2.set n (.dct (kvD kf eb (dput l j x)))) := by
    show (m ev S).bind _ = _
    rw [e1]
    show ((gSb (mV i) mi (.p (eb x)) ev S1).map _) = _
    show (((mV i ev S1).bind _).map _) = _
    rw [ev_at (g.fr z1) h n1]
    show (((mi ev S1).bind _).map _) = _
    rw [e2]
    show (((setI S2 (.ref n) (.p (ek j)) (.p (eb x))).map _).map _) = _
    have : setI S2 (.ref n) (.p (ek j)) (.p (eb x)) = some (S2.set n (.dct (kvD kf eb (dput l j x)))) := by
      simp only [setI, c1]
      rw [if_pos (by unfold kvD; rw [List.length_map]; exact Nat.lt_trans y3 (by decide)), hK.key]
      show some (List.set S2 n (Cell.dct (putD (kvD kf eb l) (kf j) (.p (eb x))))) = _
      rw [putD_kv hK]
    rw [this]; rfl
  show WP ((sAsg _ _ ev S).bind _) _
  rw [e3]
  have hc : Cel (S2.set n (.dct (kvD kf eb (dput l j x)))) n (eD ek eb (dput l j x)) := by
    refine ⟨_, keysP_eD hK _, ?_⟩
    rw [List.getElem?_set_self (by exact (List.getElem?_eq_some_iff.mp c1).1)]
  exact (k _ _ ev O F Qn Qc Qb Qr ((g.fr z12).mut h n1 hc) (DK.set y2 n3 _) y3').mono fun r h => h.tr (z12.wide.trans (Fr.set n2 _) fun n q => .inl q) fun n q => .inl q
theorem erase_map {α β : Type} (f : α → β) : ∀ (l : List α) (k : Nat), (l.map f).eraseIdx k = (l.eraseIdx k).map f
  | [], _ => rfl
  | x :: r, 0 => rfl
  | x :: r, k + 1 => by
    show f x :: (r.map f).eraseIdx k = f x :: (r.eraseIdx k).map f
    rw [erase_map f r k]
/-- an item taken out -/
def popW {α : Type} (l : List α) (i : Int) : (α → List α → Prop) → Prop := fun Q => (-(2 ^ 63) ≤ i ∧ i < 2 ^ 63) ∧ ∃ n x, seqIndex? i l.length = some n ∧ l[n]? = some x ∧ Q x (l.eraseIdx n)
def popLast {α : Type} (l : List α) : (α → List α → Prop) → Prop := fun Q => ∃ x, l[l.length - 1]? = some x ∧ Q x l.dropLast
/-- found.append(left.pop(..)) -/
theorem SG.appPop {i j : Nat} {mi : M} {ti : W Int} {l l2 : List β} {p : List β → List β → WS τ σ ρ} (hij : i ≠ j) (h : Γ[i]? = some (.b (eL eb l))) (h2 : Γ[j]? = some (.b (eL eb l2))) (hi : EW Γ mi ti eI o) (k : ∀ l l2, SG ((Γ.set j (.b (eL eb l2))).set i (.b (eL eb l))) rest (p l l2) Γn Γf e) :
    SG Γ (sSeq (sEx (mMet "append" (mV i) (mCons (mMet "pop" (mV j) (mCons mi mNil)) mNil))) rest) (fun Qn Qc Qb Qr => ti fun k => popW l2 k fun x l2 => push l x fun l => p l l2 Qn Qc Qb Qr) Γn Γf e := fun S ev O F Qn Qc Qb Qr g hD q => by
  obtain ⟨n, n1, n2, n3, n4⟩ := g.mine h
  obtain ⟨m', m1, m2, m3, m4⟩ := g.mine h2
  have ne : n ≠ m' := fun z => by subst z; exact g.nd i j n _ _ hij h h2 n1 m1
  obtain ⟨⟨d2, S2⟩, e2, y1, y2, k', ⟨y3, r, x, y5, y6, y7, y8⟩, y4, _⟩ := hi S ev O F _ g hD q
  obtain rfl := y4.int
  have c0 : S[n]? = _ := n4
  have c0' : S[m']? = _ := m4
  have c1 : S2[n]? = some (.lst ((l.map eb).map .p)) := n4.fr y1 n3 (fun q => q)
  have c2 : S2[m']? = some (.lst ((l2.map eb).map .p)) := m4.fr y1 m3 (fun q => q)
  have g2 := g.fr y1
  have hc1 : Cel (S2.set m' (.lst (((l2.eraseIdx r).map eb).map .p))) m' (eL eb (l2.eraseIdx r)) := by
    show (S2.set m' _)[m']? = _
    rw [List.getElem?_set_self (by exact (List.getElem?_eq_some_iff.mp c2).1)]
  have g3 := g2.mut h2 m1 hc1
  have h' : (Γ.set j (.b (eL eb (l2.eraseIdx r))))[i]? = some (.b (eL eb l)) := by rw [List.getElem?_set_ne (fun z => hij z.symm)]; exact h
  have c1' : (S2.set m' (.lst (((l2.eraseIdx r).map eb).map .p)))[n]? = some (.lst ((l.map eb).map .p)) := by rw [List.getElem?_set_ne (fun z => ne z.symm)]; exact c1
  have hc2 : Cel ((S2.set m' (.lst (((l2.eraseIdx r).map eb).map .p))).set n (.lst (((l ++ [x]).map eb).map .p))) n (eL eb (l ++ [x])) := by
    show (List.set _ n _)[n]? = _
    rw [List.getElem?_set_self (by exact (List.getElem?_eq_some_iff.mp c1').1)]
  have g4 := g3.mut h' n1 hc2
  have ep : mMet "pop" (mV j) (mCons mi mNil) ev S = some (.p (eb x), S2.set m' (.lst (((l2.eraseIdx r).map eb).map .p))) := by
    show (mV j ev S).bind _ = _
    rw [ev_at g h2 m1]
    show (tnOf S (.ref m')).bind _ = _
    have : tnOf S (.ref m') = some .lst := by simp only [tnOf, c0']
    rw [this]
    show (mCons mi mNil ev S).bind _ = _
    have : mCons mi mNil ev S = some ([.p (.int k')], S2) := by
      show (mi ev S).bind _ = _
      rw [e2]; rfl
    rw [this]
    show mPop S2 (.ref m') [.p (.int k')] = _
    simp only [mPop, c2]
    rw [if_pos y3, List.length_map, List.length_map, y5]
    show ((((l2.map eb).map D.p)[r]?).map _) = _
    rw [List.getElem?_map, List.getElem?_map, y6]
    show some (D.p (eb x), S2.set m' (.lst (((l2.map eb).map D.p).eraseIdx r))) = _
    rw [erase_map, erase_map]
  have e3 : mMet "append" (mV i) (mCons (mMet "pop" (mV j) (mCons mi mNil)) mNil) ev S = some (.p .none, (S2.set m' (.lst (((l2.eraseIdx r).map eb).map .p))).set n (.lst (((l ++ [x]).map eb).map .p))) := by
    show (mV i ev S).bind _ = _
    rw [ev_at g h n1]
    show (tnOf S (.ref n)).bind _ = _
    have : tnOf S (.ref n) = some .lst := by simp only [tnOf, c0]
    rw [this]
    show (mCons _ mNil ev S).bind _ = _
    have : mCons (mMet "pop" (mV j) (mCons mi mNil)) mNil ev S = some ([.p (eb x)], S2.set m' (.lst (((l2.eraseIdx r).map eb).map .p))) := by
      show (mMet "pop" (mV j) (mCons mi mNil) ev S).bind _ = _
      rw [ep]; rfl
    rw [this]
    show mAppend _ (.ref n) [.p (eb x)] = _
    simp only [mAppend, c1']
    rw [if_pos (by rw [List.length_map, List.length_map]; exact Nat.lt_trans y7 (by decide)), List.map_append, List.map_append]; rfl
  show WP ((sEx _ ev S).bind _) _
  have e4 : (sEx (mMet "append" (mV i) (mCons (mMet "pop" (mV j) (mCons mi mNil)) mNil))) ev S = some (.nx, ev, (S2.set m' (.lst (((l2.eraseIdx r).map eb).map .p))).set n (.lst (((l ++ [x]).map eb).map .p))) := by
    show (mMet _ _ _ ev S).map _ = _
    rw [e3]; rfl
  rw [e4]
  exact (k _ _ _ ev O F Qn Qc Qb Qr g4 (DK.set (DK.set y2 m3 _) n3 _) y8).mono fun r h => h.tr ((y1.wide.trans (Fr.set m2 _) fun n q => .inl q).trans (Fr.set n2 _) fun n q => .inl q) fun n q => .inl q
end
end PI
set_option maxHeartbeats 1000000
/-! Own text: typed reading, part 10: values of any kind; words for the typed texts. -/
namespace PI
open PySem PySem.Spec L2
open PyProof.Rows hiding St

abbrev letW {α : Type} (v : α) (k : α → Prop) : Prop := k v
abbrev joinW {α : Type} (t : W α) (k : α → Prop) : Prop := t k
def isT (x : PyData) (t : Tn) : Bool := (tnOf [] (.p x)).any fun u => isSub u t
def asTup (x : PyData) : W (List PyData) := fun Q => ∃ l, x = .tuple l ∧ Q l
def asLst (x : PyData) : W (List PyData) := fun Q => ∃ l, x = .list l ∧ Q l
def asInt (x : PyData) : W Int := fun Q => ∃ i, x = .int i ∧ Q i
def asBl (x : PyData) : W Bool := fun Q => ∃ i, x = .bool i ∧ Q i
def asTxt (x : PyData) : W Str := fun Q => ∃ i, x = .str i ∧ Q i
def eqX (x y : PyData) : W Bool := fun Q => (SeqAt.shaped x = true ∧ SeqAt.shaped y = true) ∧ Q (PyData.eqv x y)
def isNone : PyData → Bool
  | .none => true
  | _ => false
section
variable [Deck]
open Deck
variable {α β : Type} {Γ : Gam} {a b c m : M} {ta : W α} {tb : W β} {ea : α → PyData} {eb : β → PyData} {o o1 o2 : Md} {tx ty : W PyData}
theorem ES.conv {un : α → W β} (ha : EW Γ a ta ea o) (h : ∀ x Q, un x Q → ∃ y, Q y ∧ ea x = eb y) (hn : ∀ y, nb (eb y) = true) : EW Γ a (fun Q => ta fun x => un x Q) eb .p := fun S ev O F Q g hD q => by
  refine (ha S ev O F _ g hD q).mono fun r ⟨z1, z2, x, z3, z4⟩ => ?_
  obtain ⟨y, y1, y2⟩ := h x Q z3
  have z5 : Is r.2 r.1 (eb y) := by rw [← y2]; exact z4.1
  have z6 := z5.pure (hn y)
  exact ⟨z1, z2, y, y1, z5, (fun n w => by rw [z6] at w; cases w), z6⟩
theorem map_id' (l : List PyData) : l.map eX = l := by
  show l.map (fun x => x) = l
  exact List.map_id' l
theorem ES.asTup_ (ha : EW Γ a tx eX o) : EW Γ a (fun Q => tx fun x => asTup x Q) (eT eX) .p := ES.conv (un := asTup) ha (fun x Q ⟨l, e, q⟩ => ⟨l, q, by
  show x = .tuple (l.map eX)
  rw [map_id', e]⟩) fun _ => rfl
theorem ES.asInt_ (ha : EW Γ a tx eX o) : EW Γ a (fun Q => tx fun x => asInt x Q) eI .p := ES.conv (un := asInt) ha (fun x Q ⟨l, e, q⟩ => ⟨l, q, e⟩) fun _ => rfl
theorem ES.asBl_ (ha : EW Γ a tx eX o) : EW Γ a (fun Q => tx fun x => asBl x Q) eB .p := ES.conv (un := asBl) ha (fun x Q ⟨l, e, q⟩ => ⟨l, q, e⟩) fun _ => rfl
theorem ES.asTxt_ (ha : EW Γ a tx eX o) : EW Γ a (fun Q => tx fun x => asTxt x Q) eTx .p := ES.conv (un := asTxt) ha (fun x Q ⟨l, e, q⟩ => ⟨l, q, e⟩) fun _ => rfl
theorem ES.eqX_ (ha : EW Γ a tx eX o1) (hb : EW Γ b ty eX o2) : EW Γ (mCmp .Eq a b) (fun Q => tx fun x => ty fun y => eqX x y Q) eB .p :=
  ES.twoP (k := fun d t => (PI.cmpI .Eq t.2 d t.1).map fun c => (.p (.bool c), t.2)) (fun _ _ => rfl) ha hb fun x y S d1 d2 Q h1 h2 ⟨⟨s1, s2⟩, q⟩ => ⟨_, q, by
    show (eqI S d1 d2).map _ = _
    rw [eqI_is h1 h2 s1 s2]; rfl⟩
theorem ES.neX_ (ha : EW Γ a tx eX o1) (hb : EW Γ b ty eX o2) : EW Γ (mCmp .NotEq a b) (fun Q => tx fun x => ty fun y => eqX x y fun c => Q (!c)) eB .p :=
  ES.twoP (r := fun x y Q => eqX x y fun c => Q (!c)) (k := fun d t => (PI.cmpI .NotEq t.2 d t.1).map fun c => (.p (.bool c), t.2)) (fun _ _ => rfl) ha hb fun x y S d1 d2 Q h1 h2 ⟨⟨s1, s2⟩, q⟩ => ⟨_, q, by
    show ((eqI S d1 d2).map _).map _ = _
    rw [eqI_is h1 h2 s1 s2]; rfl⟩
/-- among some words -/
def wordIn (x : Str) (l : List String) : Bool := l.any fun w => decide (Str.ofString w = x)
theorem memI_W {S : Store} {x : Str} {l : List String} (hx : PyData.strOk x = true) : PI.memI S (.p (.str x)) (.p (eT eS l)) = some (wordIn x l) := by
  show (match seqP S (.p (.tuple (l.map eS))), viewP S (.p (.str x)) with
      | some xs, some a => if SeqAt.shaped a = true ∧ PyData.canLayAll0 xs = true then some (xs.any fun z => PyData.eqv z a) else none
      | _, _ => none) = _
  show (if _ then _ else none) = _
  rw [if_pos ⟨by unfold SeqAt.shaped; simp [PyData.canLay0, hx, PyData.depth], lay_all eqok_S l⟩]
  unfold wordIn
  rw [List.any_map]; rfl
/-- a text among some words -/
def inW (x : Str) (l : List String) : W Bool := fun Q => PyData.strOk x = true ∧ Q (wordIn x l)
theorem ES.inW_ {t1 : W Str} {t2 : W (List String)} (ha : EW Γ a t1 eTx o1) (hb : EW Γ b t2 (eT eS) o2) : EW Γ (mCmp .In a b) (fun Q => t1 fun x => t2 fun y => inW x y Q) eB .p :=
  ES.twoP (k := fun d t => (PI.cmpI .In t.2 d t.1).map fun c => (.p (.bool c), t.2)) (fun _ _ => rfl) ha hb fun x y S d1 d2 Q h1 h2 ⟨s, q⟩ => ⟨_, q, by
    obtain rfl : d1 = .p (.str x) := h1.pure rfl
    obtain rfl := h2.tup
    show (PI.memI S (.p (.str x)) (.p (eT eS y))).map _ = _
    rw [memI_W s]; rfl⟩
theorem ES.isi_ (t : Tn) (ha : EW Γ a tx eX o1) : EW Γ (mBlt bIsi (mCons a (mCons (mC (.ty t)) mNil))) (fun Q => tx fun x => Q (isT x t)) eB .p := ES.isi t ha
theorem isD_X {S : Store} {d : D} {x : PyData} (h : Is S d x) : isD d (.p .none) = some (isNone x) := by
  rcases h with rfl | ⟨n, rfl, _, c⟩
  · cases x <;> rfl
  · cases x <;> first | exact c.elim | rfl
theorem ES.isNX (ha : EW Γ a tx eX o1) : EW Γ (mCmp .Is a (mC (.p .none))) (fun Q => tx fun x => Q (isNone x)) eB .p :=
  ES.unP (k := fun r => (isD r.1 (.p .none)).map fun c => (.p (.bool c), r.2)) (fun _ _ => rfl) ha fun x S d Q h1 q => ⟨_, q, by
    show (isD d _).map _ = _
    rw [isD_X h1]; rfl⟩
theorem ES.isnNX (ha : EW Γ a tx eX o1) : EW Γ (mCmp .IsNot a (mC (.p .none))) (fun Q => tx fun x => Q (!isNone x)) eB .p :=
  ES.unP (k := fun r => ((isD r.1 (.p .none)).map (!·)).map fun c => (.p (.bool c), r.2)) (fun _ _ => rfl) ha fun x S d Q h1 q => ⟨_, q, by
    show ((isD d _).map _).map _ = _
    rw [isD_X h1]; rfl⟩
end
/-- numbers: an integer or a word -/
inductive Nm where
  | i (x : Int)
  | s (x : String)
  deriving DecidableEq
def eN : Nm → PyData
  | .i x => .int x
  | .s x => eS x
theorem eqok_N : EqOk eN 0 := ⟨fun a => by cases a with | i x => rfl | s x => exact strOk_of x, fun a => by cases a <;> exact Nat.le_refl _, fun a b => by
  cases a with
  | i x =>
    cases b with
    | i y =>
      show (x == y) = _
      rw [beq_dec]
      exact decide_eq_decide.mpr ⟨fun h => by rw [h], fun h => by cases h; rfl⟩
    | s y =>
      show false = _
      exact (decide_eq_false fun h => by cases h).symm
  | s x =>
    cases b with
    | i y =>
      show false = _
      exact (decide_eq_false fun h => by cases h).symm
    | s y =>
      show (Str.ofString x == Str.ofString y) = _
      rw [beq_dec]
      exact decide_eq_decide.mpr ⟨fun h => by rw [ofString_inj h], fun h => by cases h; rfl⟩⟩
theorem nn_I : ∀ x, eI x ≠ .none := fun _ h => by unfold eI at h; cases h
theorem nn_B : ∀ x, eB x ≠ .none := fun _ h => by unfold eB at h; cases h
theorem nn_S : ∀ x, eS x ≠ .none := fun _ h => by unfold eS at h; cases h
section
variable {α β γ δ : Type} {ea : α → PyData} {eb : β → PyData} {ec : γ → PyData} {ed : δ → PyData}
theorem nn_T : ∀ x, eT ea x ≠ .none := fun _ h => by unfold eT at h; cases h
theorem nn_L : ∀ x, eL ea x ≠ .none := fun _ h => by unfold eL at h; cases h
theorem nn_P2 : ∀ x, eP2 ea eb x ≠ .none := fun _ h => by unfold eP2 at h; cases h
theorem nn_P3 : ∀ x, eP3 ea eb ec x ≠ .none := fun _ h => by unfold eP3 at h; cases h
theorem nn_P4 : ∀ x, eP4 ea eb ec ed x ≠ .none := fun _ h => by unfold eP4 at h; cases h
theorem nb_O (h : ∀ x, nb (ea x) = true) : ∀ x, nb (eO ea x) = true := fun x => by cases x with | none => rfl | some x => exact h x
end
theorem nn_N : ∀ x, eN x ≠ .none := fun x h => by cases x <;> cases h
theorem nb_N : ∀ x, nb (eN x) = true := fun x => by cases x <;> rfl
section
variable [Deck]
open Deck
variable {α β τ σ ρ : Type} {Γ Γ0 : Gam} {a b c m : M} {ms rest : MS} {e : ρ → PyData} {Γn : τ → Gam} {Γf : σ → Gam} {p : WS τ σ ρ} {o : Md}
/-- statements behind which nothing is reached -/
theorem SG.stop {pa : WS Empty σ ρ} (h : SG Γ ms pa (fun x => x.elim) Γf e) : SG Γ (sSeq ms rest) (fun _ Qc Qb Qr => pa (fun _ => False) Qc Qb Qr) Γn Γf e := fun S ev O F Qn Qc Qb Qr g hD z => by
  show WP ((ms ev S).bind _) _
  rw [wp_bind]
  refine (h S ev O F _ Qc Qb Qr g hD z).mono fun r hr => ?_
  obtain ⟨fl, ev1, S1⟩ := r
  obtain ⟨f, hD1, h3⟩ := hr
  cases fl with
  | nx => exact h3.choose.elim
  | ct => exact (wp_some _ _).mpr ⟨f, hD1, h3⟩
  | bk => exact (wp_some _ _).mpr ⟨f, hD1, h3⟩
  | rt d => exact (wp_some _ _).mpr ⟨f, hD1, h3⟩
theorem sSeq_assoc (x y z : MS) : sSeq (sSeq x y) z = sSeq x (sSeq y z) := by
  funext ev S
  show ((x ev S).bind _).bind _ = (x ev S).bind _
  cases x ev S with
  | none => rfl
  | some r =>
    obtain ⟨fl, ev1, S1⟩ := r
    cases fl <;> rfl
theorem SG.assoc {x y z : MS} (h : SG Γ (sSeq x (sSeq y z)) p Γn Γf e) : SG Γ (sSeq (sSeq x y) z) p Γn Γf e := by
  rw [sSeq_assoc]; exact h
/-- a def's body on its arguments; Γ0: what is known at its beginning -/
theorem CJ.of {N ps : List Str} {body : MS} {ss : List Slot} {p : WS Empty Empty ρ} {tt : W ρ} (Γ0 : Gam) (hl : ss.length = ps.length) (hb : ss.any isB = false) (h0 : ss ++ List.replicate (N.length - ss.length) .u = Γ0)
    (h : SG Γ0 body p (fun x => x.elim) (fun x => x.elim) e) (ht : ∀ Q, tt Q → p (fun _ => False) (fun _ => False) (fun _ => False) Q) : CJ (bodyF N ps body) ss tt e := by
  refine CJ.mk (p := fun _ Qc Qb Qr => p (fun _ => False) Qc Qb Qr) hl hb (fun S ev O F Qn Qc Qb Qr g hD z => ?_) ht
  rw [h0] at g
  refine (h S ev O F _ Qc Qb Qr g hD z).mono fun r hr => ?_
  obtain ⟨fl, ev1, S1⟩ := r
  obtain ⟨f, hD1, h3⟩ := hr
  cases fl with
  | nx => exact h3.choose.elim
  | ct => exact ⟨f, hD1, h3⟩
  | bk => exact ⟨f, hD1, h3⟩
  | rt d => exact ⟨f, hD1, h3⟩
theorem CJ.ofU {N ps : List Str} {body : MS} {ss : List Slot} {p : WS Unit Empty Unit} {tt : W Unit} (Γ0 : Gam) (hl : ss.length = ps.length) (hb : ss.any isB = false) (h0 : ss ++ List.replicate (N.length - ss.length) .u = Γ0)
    (h : SG Γ0 body p (fun _ => List.replicate N.length .u) (fun x => x.elim) eU) (ht : ∀ Q, tt Q → p Q (fun _ => False) (fun _ => False) Q) : CJ (bodyF N ps body) ss tt eU :=
  CJ.mkU hl hb (by rw [h0]; exact h) ht
theorem Sub.all : ∀ (Γ : Gam), Sub Γ (List.replicate Γ.length .u)
  | [] => .n
  | _ :: Γ => .w (Sub.all Γ)
end
section
variable [Deck]
open Deck
variable {κ α β τ σ ρ : Type} {Γ Γ0 : Gam} {a b c m : M} {ms rest : MS} {ea : α → PyData} {e : ρ → PyData} {Γn : τ → Gam} {Γf : σ → Gam} {p : WS τ σ ρ} {o : Md} {ek : κ → PyData}
theorem ES.ofBD {t : W (List (κ × α))} (h : ES Γ a t (slD' true ek ea) o) : ES Γ a t (fun l => .b (eD ek ea l)) o := h
theorem ES.mdPF {t : W α} (h : EW Γ a t ea .p) : ES Γ a t (fun x => .p (ea x)) .f := ES.mdP h
theorem IJ.toF {mi : MIt} {t1 : W (List α)} (h : IJ Γ mi t1 ea .p) : IJ Γ mi t1 ea .f := h
theorem IJ.ofLp {t1 : W (List α)} (ha : EW Γ a t1 (eL ea) .p) : IJ Γ (mIter a) t1 ea .f := IJ.toF (IJ.ofL ha)
theorem IJ.enLp {t1 : W (List α)} (ha : EW Γ a t1 (eL ea) .p) : IJ Γ (mEn a) (fun Q => t1 fun l => Q (enumI l)) (eP2 eI ea) .f := IJ.toF (IJ.enL ha)
def asI (x : Nm) : W Int := fun Q => ∃ i, x = .i i ∧ Q i
theorem ES.asI_ {t : W Nm} (ha : EW Γ a t eN o) : EW Γ a (fun Q => t fun x => asI x Q) eI .p := ES.conv (un := asI) ha (fun x Q ⟨i, e, q⟩ => ⟨i, q, by rw [e]; rfl⟩) fun _ => rfl
end
/-- a value of any kind that is one of a type -/
def asOf {α : Type} (e : α → PyData) (x : PyData) : W α := fun Q => ∃ y, x = e y ∧ Q y
/-- a name that may be unset -/
def mb {α : Type} (o : Option α) (f : α → Slot) : Slot := match o with
  | none => .u
  | some x => f x
section
variable [Deck]
open Deck
variable {κ α β τ σ ρ : Type} {Γ Γ0 : Gam} {a b c m : M} {ms rest : MS} {ea : α → PyData} {e : ρ → PyData} {o : Md}
theorem ES.asOf_ {t : W PyData} (hn : ∀ y, nb (ea y) = true) (ha : EW Γ a t eX o) : EW Γ a (fun Q => t fun x => asOf ea x Q) ea .p := ES.conv (un := asOf ea) ha (fun x Q ⟨y, e, q⟩ => ⟨y, q, e⟩) hn
theorem ES.asSome {t : W (Option α)} (hn : ∀ y, nb (ea y) = true) (ha : EW Γ a t (eO ea) o) : EW Γ a (fun Q => t fun x => optW x Q) ea .p := ES.conv (un := optW) ha (fun x Q ⟨y, e, q⟩ => ⟨y, q, by rw [e]; rfl⟩) hn
theorem ES.varm (i : Nat) {v : Option α} {ea : α → PyData} (e : Γ[i]? = some (mb v fun x => .v (ea x))) : EW Γ (mV i) (fun Q => optW v Q) ea .f := fun S ev O F Q g hD ⟨y, e2, q⟩ => by
  subst e2
  exact ES.var i e S ev O F Q g hD q
theorem ES.varmp (i : Nat) {v : Option α} {ea : α → PyData} (e : Γ[i]? = some (mb v fun x => .p (ea x))) : EW Γ (mV i) (fun Q => optW v Q) ea .p := fun S ev O F Q g hD ⟨y, e2, q⟩ => by
  subst e2
  exact ES.varp i e S ev O F Q g hD q
theorem eL_X (ea : α → PyData) (l : List α) : eL eX (l.map ea) = eL ea l := by
  show PyData.list ((l.map ea).map eX) = _
  rw [map_id']; rfl
theorem eT_X (ea : α → PyData) (l : List α) : eT eX (l.map ea) = eT ea l := by
  show PyData.tuple ((l.map ea).map eX) = _
  rw [map_id']; rfl
end
/-- a drawn number below many -/
def drawW (many : Int) : W Int := fun Q => (0 < many ∧ many < 1073741824) ∧ ∀ r, 0 ≤ r → r < many → Q r
/-- one of some -/
def pickW {α : Type} (l : List α) : W α := fun Q => (l ≠ [] ∧ l.length < 1000000) ∧ ∀ x ∈ l, Q x
theorem pickW_at {α : Type} {l : List α} {Q : α → Prop} (h : pickW l Q) {i : Int} (h0 : 0 ≤ i) (h1 : i < l.length) : atW l i Q := by
  have hi : i.toNat < l.length := by omega
  refine ⟨l[i.toNat], ?_, h.2 _ (List.getElem_mem hi)⟩
  unfold L2.atI L2.ixN
  rw [if_pos h0, if_pos h1]
  show l[i.toNat]? = _
  rw [List.getElem?_eq_getElem hi]
end PI
set_option maxHeartbeats 1000000
/-! Own text: typed reading, part 11: the rules as functions that bring along what they read (printed by mkx.py). -/
namespace PI
set_option autoImplicit true
open PySem PySem.Spec L2
open PyProof.Rows hiding St
section
variable [Deck]
open Deck
abbrev ESx {α : Type} (Γ : Gam) (m : M) (sl : α → Slot) (o : Md) : Type := {t : W α // ES Γ m t sl o}
abbrev EWx {α : Type} (Γ : Gam) (m : M) (e : α → PyData) (o : Md) : Type := {t : W α // EW Γ m t e o}
abbrev EPx {α : Type} (Γ : Gam) (m : M) (e : α → PyData) (o : Md) : Type := {v : α // EW Γ m (fun Q => Q v) e o}
abbrev EAx {τ : Type} (Γ : Gam) (ms : Ms) (sl : τ → List Slot) (o : Bool) : Type := {t : W τ // EA Γ ms t sl o}
abbrev ELx {τ : Type} (Γ : Gam) (ms : Ms) (el : τ → List PyData) : Type := {t : W τ // EL Γ ms t el}
abbrev EVx {α : Type} (Γ : Gam) (ms : Ms) (e : α → PyData) : Type := {t : W (List α) // EV Γ ms t e}
abbrev EVPx {α : Type} (Γ : Gam) (ms : Ms) (e : α → PyData) : Type := {l : List α // EV Γ ms (fun Q => Q l) e}
abbrev IJx {α : Type} (Γ : Gam) (mi : MIt) (e : α → PyData) (o : Md) : Type := {t : W (List α) // IJ Γ mi t e o}
abbrev OJx (Γ : Gam) (m : MO) : Type := {t : W (Option Int) // OJ Γ m t}
abbrev OPx (Γ : Gam) (m : MO) : Type := {v : Option Int // OJ Γ m (fun Q => Q v)}
abbrev GJx (Γ : Gam) (g : MG) (x : PyData) : Type := {Γ' : Gam // GJ Γ g x Γ'}
abbrev GsJx (Γ : Gam) (g : List D → EnvI → Store → Option (EnvI × Store)) (xs : List PyData) : Type := {Γ' : Gam // GsJ Γ g xs Γ'}
abbrev SGx {τ σ ρ : Type} (Γ : Gam) (ms : MS) (Γn : τ → Gam) (Γf : σ → Gam) (e : ρ → PyData) : Type := {p : WS τ σ ρ // SG Γ ms p Γn Γf e}
variable {α β γ δ κ τ : Type} {Γ Γ' Γ1 Γ2 : Gam} {a b c m elt : M} {ms : Ms} {ea : α → PyData} {eb : β → PyData} {ec : γ → PyData} {ed : δ → PyData} {ek : κ → PyData} {kf : κ → Key} {o o1 o2 o3 o4 : Md} {bx : Bool} {lo hi : MO} {n L : Nat} {mi : MIt} {own : List Nat} {g : MG}
@[reducible] def XES.var (i : Nat) {x : α} {ea : α → PyData} (e : Γ[i]? = some (.v (ea x))) : EWx Γ (mV i) ea .f := ⟨_, ES.var i e⟩
@[reducible] def XES.varp (i : Nat) {x : α} {ea : α → PyData} (e : Γ[i]? = some (.p (ea x))) : EWx Γ (mV i) ea .p := ⟨_, ES.varp i e⟩
@[reducible] def XES.varb (i : Nat) {x : α} {ea : α → PyData} (e : Γ[i]? = some (.b (ea x))) : EWx Γ (mV i) ea .o := ⟨_, ES.varb i e⟩
@[reducible] def XES.vard (i : Nat) {d : D} (e : Γ[i]? = some (.d d)) : ESx Γ (mV i) (fun _ : Unit => .d d) .f := ⟨_, ES.vard i e⟩
@[reducible] def XES.con (x : α) {ea : α → PyData} : EWx Γ (mC (.p (ea x))) ea .p := ⟨_, ES.con x⟩
@[reducible] def XES.cond (d : D) : ESx Γ (mC d) (fun _ : Unit => .d d) .f := ⟨_, ES.cond d⟩
@[reducible] def XES.toP (h : EWx Γ a ea o) (n : ∀ x, nb (ea x) = true) : ESx Γ a (fun x => .p (ea x)) .p := ⟨_, ES.toP h.2 n⟩
@[reducible] def XES.mdP (h : EWx Γ a ea .p) : ESx Γ a (fun x => .p (ea x)) .p := ⟨_, ES.mdP h.2⟩
@[reducible] def XES.ofP (h : ESx Γ a (fun x => .p (ea x)) o) : EWx Γ a ea .p := ⟨_, ES.ofP h.2⟩
@[reducible] def XES.ofB (h : ESx Γ a (fun x => .b (ea x)) o) : EWx Γ a ea .f := ⟨_, ES.ofB h.2⟩
@[reducible] def XES.toO (h : EWx Γ a ea o) : EWx Γ a ea .o := ⟨_, ES.toO h.2⟩
@[reducible] def XES.toF (h : EWx Γ a ea .p) : EWx Γ a ea .f := ⟨_, ES.toF h.2⟩
@[reducible] def XES.as (h : EWx Γ a ea o) {eb : β → PyData} (f : α → β) (n : ∀ x, eb (f x) = ea x) : EWx Γ a eb o := ⟨_, ES.as h.2 f n⟩
@[reducible] def XES.if_ {sl : α → Slot} (hc : EWx Γ c eB o) (ha : ESx Γ a sl o1) (hb : ESx Γ b sl o1) : ESx Γ (mIf c a b) sl o1 := ⟨_, ES.if_ hc.2 ha.2 hb.2⟩
@[reducible] def XES.and_ (ha : EWx Γ a eB o) (hb : EWx Γ b eB o2) : EWx Γ (mAnd a b) eB .p := ⟨_, ES.and_ ha.2 hb.2⟩
@[reducible] def XES.or_ (ha : EWx Γ a eB o) (hb : EWx Γ b eB o2) : EWx Γ (mOr a b) eB .p := ⟨_, ES.or_ ha.2 hb.2⟩
@[reducible] def XES.andp (ha : EPx Γ a eB o) (hb : EPx Γ b eB o2) : EPx Γ (mAnd a b) eB .p := ⟨_, ES.andp ha.2 hb.2⟩
@[reducible] def XES.orp (ha : EPx Γ a eB o) (hb : EPx Γ b eB o2) : EPx Γ (mOr a b) eB .p := ⟨_, ES.orp ha.2 hb.2⟩
@[reducible] def XES.ifp {eb : α → PyData} (hc : EPx Γ c eB o) (ha : EPx Γ a eb o1) (hb : EPx Γ b eb o1) : EPx Γ (mIf c a b) eb o1 := ⟨_, ES.ifp hc.2 ha.2 hb.2⟩
@[reducible] def XES.not_ (ha : EWx Γ a eB o) : EWx Γ (mNot a) eB .p := ⟨_, ES.not_ ha.2⟩
@[reducible] def XEA.nil {o : Bool} : EAx Γ mNil (fun _ : Unit => []) o := ⟨_, EA.nil ⟩
@[reducible] def XEA.v {sl : β → List Slot} {o' : Bool} (ha : EWx Γ a ea o) (hs : EAx Γ ms sl o') (h : okMd o o' := by trivial) : EAx Γ (mCons a ms) (fun p : α × β => .v (ea p.1) :: sl p.2) o' := ⟨_, EA.v ha.2 hs.2 h⟩
@[reducible] def XEA.p {sl : β → List Slot} {o' : Bool} (ha : EWx Γ a ea .p) (hs : EAx Γ ms sl o') : EAx Γ (mCons a ms) (fun p : α × β => .p (ea p.1) :: sl p.2) o' := ⟨_, EA.p ha.2 hs.2⟩
@[reducible] def XEA.d {sl : β → List Slot} {d : D} {o' : Bool} (ha : ESx Γ a (fun _ : Unit => .d d) o) (hs : EAx Γ ms sl o') : EAx Γ (mCons a ms) (fun p : Unit × β => .d d :: sl p.2) o' := ⟨_, EA.d ha.2 hs.2⟩
@[reducible] def XGJ.nm {x : PyData} (i : Nat) : GJx Γ (gNm i) x := ⟨_, GJ.nm i⟩
@[reducible] def XGsJ.nil  : GsJx Γ gsNil [] := ⟨_, GsJ.nil ⟩
@[reducible] def XGsJ.nm {x : PyData} {xs : List PyData} (i : Nat) {gs : List D → EnvI → Store → Option (EnvI × Store)} (h : GsJx (Γ.set i (.p x)) gs xs) : GsJx Γ (gsCons (gNm i) gs) (x :: xs) := ⟨_, GsJ.nm i h.2⟩
@[reducible] def XGsJ.cons {x : PyData} {xs : List PyData} {g1 : MG} {gs : List D → EnvI → Store → Option (EnvI × Store)} (h1 : GJx Γ g1 x) (h : GsJx h1.1 gs xs) : GsJx Γ (gsCons g1 gs) (x :: xs) := ⟨_, GsJ.cons h1.2 h.2⟩
@[reducible] def XGJ.tp {xs : List PyData} {n : Nat} {gs : List D → EnvI → Store → Option (EnvI × Store)} (h : GsJx Γ gs xs) (hn : xs.length = n) : GJx Γ (gTp n gs) (.tuple xs) := ⟨_, GJ.tp h.2 hn⟩
@[reducible] def XES.nbp (h : EWx Γ a ea o) (n : ∀ x, nb (ea x) = true) : EWx Γ a ea .p := ⟨_, ES.nbp h.2 n⟩
@[reducible] def XES.add (ha : EWx Γ a eI o1) (hb : EWx Γ b eI o2) : EWx Γ (mBin bx .Add a b) eI .p := ⟨_, ES.add ha.2 hb.2⟩
@[reducible] def XES.sub (ha : EWx Γ a eI o1) (hb : EWx Γ b eI o2) : EWx Γ (mBin bx .Sub a b) eI .p := ⟨_, ES.sub ha.2 hb.2⟩
@[reducible] def XES.mul (ha : EWx Γ a eI o1) (hb : EWx Γ b eI o2) : EWx Γ (mBin bx .Mult a b) eI .p := ⟨_, ES.mul ha.2 hb.2⟩
@[reducible] def XES.mod (ha : EWx Γ a eI o1) (hb : EWx Γ b eI o2) : EWx Γ (mBin bx .Mod a b) eI .p := ⟨_, ES.mod ha.2 hb.2⟩
@[reducible] def XES.fdiv (ha : EWx Γ a eI o1) (hb : EWx Γ b eI o2) : EWx Γ (mBin bx .FloorDiv a b) eI .p := ⟨_, ES.fdiv ha.2 hb.2⟩
@[reducible] def XES.pow (ha : EWx Γ a eI o1) (hb : EWx Γ b eI o2) : EWx Γ (mBin bx .Pow a b) eI .p := ⟨_, ES.pow ha.2 hb.2⟩
@[reducible] def XES.neg (ha : EWx Γ a eI o1) : EWx Γ (mNeg a) eI .p := ⟨_, ES.neg ha.2⟩
@[reducible] def XES.cmp {op : CmpOp} {f : Int → Int → Bool} (ha : EWx Γ a eI o1) (hb : EWx Γ b eI o2) (h : ∀ S x y, PI.cmpI op S (.p (.int x)) (.p (.int y)) = some (f x y)) : EWx Γ (mCmp op a b) eB .p := ⟨_, ES.cmp ha.2 hb.2 h⟩
@[reducible] def XES.lt (ha : EWx Γ a eI o1) (hb : EWx Γ b eI o2) : EWx Γ (mCmp .Lt a b) eB .p := ⟨_, ES.lt ha.2 hb.2⟩
@[reducible] def XES.le (ha : EWx Γ a eI o1) (hb : EWx Γ b eI o2) : EWx Γ (mCmp .LtE a b) eB .p := ⟨_, ES.le ha.2 hb.2⟩
@[reducible] def XES.gt (ha : EWx Γ a eI o1) (hb : EWx Γ b eI o2) : EWx Γ (mCmp .Gt a b) eB .p := ⟨_, ES.gt ha.2 hb.2⟩
@[reducible] def XES.ge (ha : EWx Γ a eI o1) (hb : EWx Γ b eI o2) : EWx Γ (mCmp .GtE a b) eB .p := ⟨_, ES.ge ha.2 hb.2⟩
@[reducible] def XES.chain {op op' : CmpOp} {f f' : Int → Int → Bool} (ha : EWx Γ a eI o1) (hb : EWx Γ b eI o2) (hc : EPx Γ c eI o3) (h : ∀ S x y, PI.cmpI op S (.p (.int x)) (.p (.int y)) = some (f x y)) (h' : ∀ S x y, PI.cmpI op' S (.p (.int x)) (.p (.int y)) = some (f' x y)) : EWx Γ (mChain op op' a b c) eB .p := ⟨_, ES.chain ha.2 hb.2 hc.2 h h'⟩
@[reducible] def XES.eq [DecidableEq α] (k : EqOk ea n) (hn : n ≤ 64) (ha : EWx Γ a ea o1) (hb : EWx Γ b ea o2) : EWx Γ (mCmp .Eq a b) eB .p := ⟨_, ES.eq k hn ha.2 hb.2⟩
@[reducible] def XES.ne [DecidableEq α] (k : EqOk ea n) (hn : n ≤ 64) (ha : EWx Γ a ea o1) (hb : EWx Γ b ea o2) : EWx Γ (mCmp .NotEq a b) eB .p := ⟨_, ES.ne k hn ha.2 hb.2⟩
@[reducible] def XES.inL [DecidableEq α] (k : EqOk ea n) (hn : n ≤ 64) (ha : EWx Γ a ea o1) (hb : EWx Γ b (eL ea) o2) : EWx Γ (mCmp .In a b) eB .p := ⟨_, ES.inL k hn ha.2 hb.2⟩
@[reducible] def XES.inT [DecidableEq α] (k : EqOk ea n) (hn : n ≤ 64) (ha : EWx Γ a ea o1) (hb : EWx Γ b (eT ea) o2) : EWx Γ (mCmp .In a b) eB .p := ⟨_, ES.inT k hn ha.2 hb.2⟩
@[reducible] def XES.ninL [DecidableEq α] (k : EqOk ea n) (hn : n ≤ 64) (ha : EWx Γ a ea o1) (hb : EWx Γ b (eL ea) o2) : EWx Γ (mCmp .NotIn a b) eB .p := ⟨_, ES.ninL k hn ha.2 hb.2⟩
@[reducible] def XES.ninT [DecidableEq α] (k : EqOk ea n) (hn : n ≤ 64) (ha : EWx Γ a ea o1) (hb : EWx Γ b (eT ea) o2) : EWx Γ (mCmp .NotIn a b) eB .p := ⟨_, ES.ninT k hn ha.2 hb.2⟩
@[reducible] def XES.eqnil (ha : EWx Γ a (eL ea) o1) : EWx Γ (mCmp .Eq a (mLst false mNil)) eB .p := ⟨_, ES.eqnil ha.2⟩
@[reducible] def XES.nenil (ha : EWx Γ a (eL ea) o1) : EWx Γ (mCmp .NotEq a (mLst false mNil)) eB .p := ⟨_, ES.nenil ha.2⟩
@[reducible] def XES.eqtil (ha : EWx Γ a (eT ea) o1) : EWx Γ (mCmp .Eq a (mTup mNil)) eB .p := ⟨_, ES.eqtil ha.2⟩
@[reducible] def XES.netil (ha : EWx Γ a (eT ea) o1) : EWx Γ (mCmp .NotEq a (mTup mNil)) eB .p := ⟨_, ES.netil ha.2⟩
@[reducible] def XES.isN (k : ∀ x, ea x ≠ .none) (ha : EWx Γ a (eO ea) o1) : EWx Γ (mCmp .Is a (mC (.p .none))) eB .p := ⟨_, ES.isN k ha.2⟩
@[reducible] def XES.isnN (k : ∀ x, ea x ≠ .none) (ha : EWx Γ a (eO ea) o1) : EWx Γ (mCmp .IsNot a (mC (.p .none))) eB .p := ⟨_, ES.isnN k ha.2⟩
@[reducible] def XES.isB {y : Bool} (ha : EWx Γ a eB o1) : EWx Γ (mCmp .Is a (mC (.p (.bool y)))) eB .p := ⟨_, ES.isB ha.2⟩
@[reducible] def XES.isnB {y : Bool} (ha : EWx Γ a eB o1) : EWx Γ (mCmp .IsNot a (mC (.p (.bool y)))) eB .p := ⟨_, ES.isnB ha.2⟩
@[reducible] def XES.ixT (ha : EWx Γ a (eT ea) o1) (hb : EWx Γ b eI o2) : EWx Γ (mIx a b) ea .p := ⟨_, ES.ixT ha.2 hb.2⟩
@[reducible] def XES.ixL (ha : EWx Γ a (eL ea) o1) (hb : EWx Γ b eI o2) : EWx Γ (mIx a b) ea .p := ⟨_, ES.ixL ha.2 hb.2⟩
@[reducible] def XES.ixc {i : Int} (f : α → β) (h : ∀ x, ∃ l, ea x = .tuple l ∧ L2.atI l i = some (eb (f x))) (ha : EWx Γ a ea o1) : EWx Γ (mIx a (mC (.p (.int i)))) eb .p := ⟨_, ES.ixc f h ha.2⟩
@[reducible] def XOJ.none  : OJx Γ mONone := ⟨_, OJ.none ⟩
@[reducible] def XOJ.some (ha : EWx Γ a eI o1) : OJx Γ (mOSome a) := ⟨_, OJ.some ha.2⟩
@[reducible] def XES.slT (ha : EWx Γ a (eT ea) o1) (hl : OJx Γ lo) (hh : OJx Γ hi) : EWx Γ (mSl bx a lo hi) (eT ea) .p := ⟨_, ES.slT ha.2 hl.2 hh.2⟩
@[reducible] def XES.slLs (ha : EWx Γ a (eL ea) o1) (hl : OJx Γ lo) (hh : OJx Γ hi) : ESx Γ (mSl bx a lo hi) (slL bx ea) .f := ⟨_, ES.slLs ha.2 hl.2 hh.2⟩
@[reducible] def XEL.nil  : ELx Γ mNil (fun _ : Unit => []) := ⟨_, EL.nil ⟩
@[reducible] def XEL.cons {τ : Type} {el : τ → List PyData} (ha : EWx Γ a ea .p) (hs : ELx Γ ms el) : ELx Γ (mCons a ms) (fun p : α × τ => ea p.1 :: el p.2) := ⟨_, EL.cons ha.2 hs.2⟩
@[reducible] def XEV.nil  : EVx Γ mNil ea := ⟨_, EV.nil ⟩
@[reducible] def XEV.cons (ha : EWx Γ a ea .p) (hs : EVx Γ ms ea) : EVx Γ (mCons a ms) ea := ⟨_, EV.cons ha.2 hs.2⟩
@[reducible] def XES.t1 (ha : EWx Γ a ea .p) : EWx Γ (mTup (mCons a mNil)) (eP1 ea) .p := ⟨_, ES.t1 ha.2⟩
@[reducible] def XES.t2 (ha : EWx Γ a ea .p) (hb : EWx Γ b eb .p) : EWx Γ (mTup (mCons a (mCons b mNil))) (eP2 ea eb) .p := ⟨_, ES.t2 ha.2 hb.2⟩
@[reducible] def XES.t3 {c' : M} (ha : EWx Γ a ea .p) (hb : EWx Γ b eb .p) (hc : EWx Γ c' ec .p) : EWx Γ (mTup (mCons a (mCons b (mCons c' mNil)))) (eP3 ea eb ec) .p := ⟨_, ES.t3 ha.2 hb.2 hc.2⟩
@[reducible] def XES.t4 {c' d' : M} (ha : EWx Γ a ea .p) (hb : EWx Γ b eb .p) (hc : EWx Γ c' ec .p) (hd : EWx Γ d' ed .p) : EWx Γ (mTup (mCons a (mCons b (mCons c' (mCons d' mNil))))) (eP4 ea eb ec ed) .p := ⟨_, ES.t4 ha.2 hb.2 hc.2 hd.2⟩
@[reducible] def XES.tupV (h : EVx Γ ms ea) : EWx Γ (mTup ms) (eT ea) .p := ⟨_, ES.tupV h.2⟩
@[reducible] def XES.lstV (h : EVx Γ ms ea) : ESx Γ (mLst bx ms) (slL bx ea) .f := ⟨_, ES.lstV h.2⟩
@[reducible] def XES.ofL (h : ESx Γ a (slL false ea) o) : EWx Γ a (eL ea) .p := ⟨_, ES.ofL h.2⟩
@[reducible] def XES.ofBL (h : ESx Γ a (slL true ea) o) : ESx Γ a (fun l => .b (eL ea l)) o := ⟨_, ES.ofBL h.2⟩
@[reducible] def XEV.n0  : EVx Γ mNil ea := ⟨_, EV.n0 ⟩
@[reducible] def XES.lnil  : ESx Γ (mLst bx mNil) (slL bx ea) .f := ⟨_, ES.lnil ⟩
@[reducible] def XES.tnil  : EWx Γ (mTup mNil) (eT ea) .p := ⟨_, ES.tnil ⟩
@[reducible] def XEV.pn  : EVPx Γ mNil ea := ⟨_, EV.pn ⟩
@[reducible] def XEV.pc (ha : EPx Γ a ea .p) (hs : EVPx Γ ms ea) : EVPx Γ (mCons a ms) ea := ⟨_, EV.pc ha.2 hs.2⟩
@[reducible] def XES.lstP (h : EVPx Γ ms ea) (hn : h.1.length ≤ 100) : ESx Γ (mLst bx ms) (slL bx ea) .f := ⟨_, ES.lstP h.2 hn⟩
@[reducible] def XES.tupP (h : EVPx Γ ms ea) (hn : h.1.length ≤ 100) : EWx Γ (mTup ms) (eT ea) .p := ⟨_, ES.tupP h.2 hn⟩
@[reducible] def XES.catT (ha : EWx Γ a (eT ea) o1) (hb : EWx Γ b (eT ea) o2) : EWx Γ (mBin bx .Add a b) (eT ea) .p := ⟨_, ES.catT ha.2 hb.2⟩
@[reducible] def XES.catc {f : α → β → δ} (h : ∀ x y, ∃ l k, ea x = .tuple l ∧ eb y = .tuple k ∧ .tuple (l ++ k) = ed (f x y) ∧ (l ++ k).length ≤ 100) (ha : EWx Γ a ea o1) (hb : EWx Γ b eb o2) : EWx Γ (mBin bx .Add a b) ed .p := ⟨_, ES.catc h ha.2 hb.2⟩
@[reducible] def XES.catL (ha : EWx Γ a (eL ea) o1) (hb : EWx Γ b (eL ea) o2) : ESx Γ (mBin bx .Add a b) (slL bx ea) .f := ⟨_, ES.catL ha.2 hb.2⟩
@[reducible] def XES.mulT (ha : EWx Γ a (eT ea) o1) (hb : EWx Γ b eI o2) : EWx Γ (mBin bx .Mult a b) (eT ea) .p := ⟨_, ES.mulT ha.2 hb.2⟩
@[reducible] def XES.mulL (ha : EWx Γ a (eL ea) o1) (hb : EWx Γ b eI o2) : ESx Γ (mBin bx .Mult a b) (slL bx ea) .f := ⟨_, ES.mulL ha.2 hb.2⟩
@[reducible] def XES.lenT (ha : EWx Γ a (eT ea) o1) : EWx Γ (mBlt bLen (mCons a mNil)) eI .p := ⟨_, ES.lenT ha.2⟩
@[reducible] def XES.lenL (ha : EWx Γ a (eL ea) o1) : EWx Γ (mBlt bLen (mCons a mNil)) eI .p := ⟨_, ES.lenL ha.2⟩
@[reducible] def XES.int_ (ha : EWx Γ a eI o1) : EWx Γ (mBlt bInt (mCons a mNil)) eI .p := ⟨_, ES.int_ ha.2⟩
@[reducible] def XES.boolI (ha : EWx Γ a eI o1) : EWx Γ (mBlt bBool (mCons a mNil)) eB .p := ⟨_, ES.boolI ha.2⟩
@[reducible] def XES.max2 (ha : EWx Γ a eI o1) (hb : EWx Γ b eI o2) : EWx Γ (mBlt bMx (mCons a (mCons b mNil))) eI .p := ⟨_, ES.max2 ha.2 hb.2⟩
@[reducible] def XES.min2 (ha : EWx Γ a eI o1) (hb : EWx Γ b eI o2) : EWx Γ (mBlt bMn (mCons a (mCons b mNil))) eI .p := ⟨_, ES.min2 ha.2 hb.2⟩
@[reducible] def XES.maxL (ha : EWx Γ a (eL eI) o1) : EWx Γ (mBlt bMx (mCons a mNil)) eI .p := ⟨_, ES.maxL ha.2⟩
@[reducible] def XES.minL (ha : EWx Γ a (eL eI) o1) : EWx Γ (mBlt bMn (mCons a mNil)) eI .p := ⟨_, ES.minL ha.2⟩
@[reducible] def XES.sumL (ha : EWx Γ a (eL eI) o1) : EWx Γ (mBlt bSum (mCons a mNil)) eI .p := ⟨_, ES.sumL ha.2⟩
@[reducible] def XES.anyL (ha : EWx Γ a (eL eB) o1) : EWx Γ (mBlt bAny (mCons a mNil)) eB .p := ⟨_, ES.anyL ha.2⟩
@[reducible] def XES.allL (ha : EWx Γ a (eL eB) o1) : EWx Γ (mBlt bAll (mCons a mNil)) eB .p := ⟨_, ES.allL ha.2⟩
@[reducible] def XES.tupleL (ha : EWx Γ a (eL ea) o1) : EWx Γ (mBlt bTuple (mCons a mNil)) (eT ea) .p := ⟨_, ES.tupleL ha.2⟩
@[reducible] def XES.tupleT (ha : EWx Γ a (eT ea) o1) : EWx Γ (mBlt bTuple (mCons a mNil)) (eT ea) .p := ⟨_, ES.tupleT ha.2⟩
@[reducible] def XES.listL (ha : EWx Γ a (eL ea) o1) : ESx Γ (mBlt (bList bx) (mCons a mNil)) (slL bx ea) .f := ⟨_, ES.listL ha.2⟩
@[reducible] def XES.listT (ha : EWx Γ a (eT ea) o1) : ESx Γ (mBlt (bList bx) (mCons a mNil)) (slL bx ea) .f := ⟨_, ES.listT ha.2⟩
@[reducible] def XES.sortL {le : α → α → Bool} (k : SortOk ea le) (ha : EWx Γ a (eL ea) o1) : ESx Γ (mBlt (bSorted bx) (mCons a mNil)) (slL bx ea) .f := ⟨_, ES.sortL k ha.2⟩
@[reducible] def XES.repr_ (hn : ∀ x l, ea x ≠ .dict l) (ha : EWx Γ a ea o1) : EWx Γ (mBlt bRepr (mCons a mNil)) eTx .p := ⟨_, ES.repr_ hn ha.2⟩
@[reducible] def XES.eqTx (ha : EWx Γ a eTx o1) (hb : EWx Γ b eTx o2) : EWx Γ (mCmp .Eq a b) eB .p := ⟨_, ES.eqTx ha.2 hb.2⟩
@[reducible] def XES.neTx (ha : EWx Γ a eTx o1) (hb : EWx Γ b eTx o2) : EWx Γ (mCmp .NotEq a b) eB .p := ⟨_, ES.neTx ha.2 hb.2⟩
@[reducible] def XES.isi (t : Tn) (ha : EWx Γ a eX o1) : EWx Γ (mBlt bIsi (mCons a (mCons (mC (.ty t)) mNil))) eB .p := ⟨_, ES.isi t ha.2⟩
@[reducible] def XES.dictL [DecidableEq κ] (h : KeyOk ek kf) (hk : ∀ x, kP (kf x) = ek x) (ha : EWx Γ a (eL (eP2 ek ea)) o1) : ESx Γ (mBlt (bDict bx) (mCons a mNil)) (slD' bx ek ea) .f := ⟨_, ES.dictL h hk ha.2⟩
@[reducible] def XES.dictT (ha : EWx Γ a (eT (eP2 eI eI)) o1) : ESx Γ (mBlt (bDict bx) (mCons a mNil)) (slD' bx eI eI) .f := ⟨_, ES.dictT ha.2⟩
@[reducible] def XES.dnil [DecidableEq κ] (h : KeyOk ek kf) (hk : ∀ x, kP (kf x) = ek x) : ESx Γ (mDic bx mpNil) (slD' bx ek ea) .f := ⟨_, ES.dnil h hk⟩
@[reducible] def XES.d1 [DecidableEq κ] (h : KeyOk ek kf) (hk : ∀ x, kP (kf x) = ek x) (ha : EWx Γ a ek o1) (hb : EWx Γ b ea .p) : ESx Γ (mDic bx (mpCons a b mpNil)) (slD' bx ek ea) .f := ⟨_, ES.d1 h hk ha.2 hb.2⟩
@[reducible] def XES.ixD [DecidableEq κ] (h : KeyOk ek kf) (ha : EWx Γ a (eD ek ea) o1) (hb : EWx Γ b ek o2) : EWx Γ (mIx a b) ea .p := ⟨_, ES.ixD h ha.2 hb.2⟩
@[reducible] def XES.inD [DecidableEq κ] (h : KeyOk ek kf) (ha : EWx Γ a ek o1) (hb : EWx Γ b (eD ek ea) o2) : EWx Γ (mCmp .In a b) eB .p := ⟨_, ES.inD h ha.2 hb.2⟩
@[reducible] def XES.ninD [DecidableEq κ] (h : KeyOk ek kf) (ha : EWx Γ a ek o1) (hb : EWx Γ b (eD ek ea) o2) : EWx Γ (mCmp .NotIn a b) eB .p := ⟨_, ES.ninD h ha.2 hb.2⟩
@[reducible] def XES.lenD [DecidableEq κ] (h : KeyOk ek kf) (ha : EWx Γ a (eD ek ea) o1) : EWx Γ (mBlt bLen (mCons a mNil)) eI .p := ⟨_, ES.lenD h ha.2⟩
@[reducible] def XES.get1 [DecidableEq κ] (h : KeyOk ek kf) (ha : EWx Γ a (eD ek ea) o1) (hb : EWx Γ b ek o2) : EWx Γ (mMet "get" a (mCons b mNil)) (eO ea) .p := ⟨_, ES.get1 h ha.2 hb.2⟩
@[reducible] def XES.get2 [DecidableEq κ] (h : KeyOk ek kf) (ha : EWx Γ a (eD ek ea) o1) (hb : EWx Γ b ek o2) (hc : EWx Γ c ea .p) : EWx Γ (mMet "get" a (mCons b (mCons c mNil))) ea .p := ⟨_, ES.get2 h ha.2 hb.2 hc.2⟩
@[reducible] def XIJ.ofL (ha : EWx Γ a (eL ea) o) : IJx Γ (mIter a) ea o := ⟨_, IJ.ofL ha.2⟩
@[reducible] def XIJ.ofT (ha : EWx Γ a (eT ea) o) : IJx Γ (mIter a) ea .f := ⟨_, IJ.ofT ha.2⟩
@[reducible] def XIJ.rng1 (ha : EWx Γ a eI o) : IJx Γ (mRng1 a) eI .f := ⟨_, IJ.rng1 ha.2⟩
@[reducible] def XIJ.rng2 (ha : EWx Γ a eI o) (hb : EWx Γ b eI o2) : IJx Γ (mRng2 a b) eI .f := ⟨_, IJ.rng2 ha.2 hb.2⟩
@[reducible] def XIJ.enT (ha : EWx Γ a (eT ea) o) : IJx Γ (mEn a) (eP2 eI ea) .f := ⟨_, IJ.enT ha.2⟩
@[reducible] def XIJ.enL (ha : EWx Γ a (eL ea) o) : IJx Γ (mEn a) (eP2 eI ea) o := ⟨_, IJ.enL ha.2⟩
@[reducible] def XIJ.zpTT (hb : ∀ x y, bareP [ea x, eb y] = false) (h1 : EWx Γ a (eT ea) o) (h2 : EWx Γ b (eT eb) o2) : IJx Γ (mZp a b) (eP2 ea eb) .f := ⟨_, IJ.zpTT hb h1.2 h2.2⟩
@[reducible] def XIJ.zpLL (hb : ∀ x y, bareP [ea x, eb y] = false) (h1 : EWx Γ a (eL ea) .f) (h2 : EWx Γ b (eL eb) .f) : IJx Γ (mZp a b) (eP2 ea eb) .f := ⟨_, IJ.zpLL hb h1.2 h2.2⟩
@[reducible] def XIJ.zpTL (hb : ∀ x y, bareP [ea x, eb y] = false) (h1 : EWx Γ a (eT ea) o) (h2 : EWx Γ b (eL eb) .p) : IJx Γ (mZp a b) (eP2 ea eb) .f := ⟨_, IJ.zpTL hb h1.2 h2.2⟩
@[reducible] def XES.lc (hL : 1000000 ≤ L) (hi : IJx Γ mi ea o) (hg : ∀ x, GJx (wipeG Γ own) g (ea x)) (hc : ∀ x, EWx (hg x).1 c eB o1) (he : ∀ x, EWx (hg x).1 elt eb .p) : ESx Γ (mLc L bx mi own g c elt) (slL bx eb) .f := ⟨_, ES.lc hL hi.2 (fun x => (hg x).2) (fun x => (hc x).2) (fun x => (he x).2)⟩
@[reducible] def XES.lcN (hL : 1000000 ≤ L) (hi : IJx Γ mi ea o) (hg : ∀ x, GJx (wipeG Γ own) g (ea x)) (he : ∀ x, EWx (hg x).1 elt eb .p) : ESx Γ (mLc L bx mi own g mYes elt) (slL bx eb) .f := ⟨_, ES.lcN hL hi.2 (fun x => (hg x).2) (fun x => (he x).2)⟩
@[reducible] def XES.lcP (hL : 1000000 ≤ L) (hi : IJx Γ mi ea o) (hg : ∀ x, GJx (wipeG Γ own) g (ea x)) (hc : ∀ x, EPx (hg x).1 c eB o1) (he : ∀ x, EPx (hg x).1 elt eb .p) : ESx Γ (mLc L bx mi own g c elt) (slL bx eb) .f := ⟨_, ES.lcP hL hi.2 (fun x => (hg x).2) (fun x => (hc x).2) (fun x => (he x).2)⟩
@[reducible] def XES.lcNP (hL : 1000000 ≤ L) (hi : IJx Γ mi ea o) (hg : ∀ x, GJx (wipeG Γ own) g (ea x)) (he : ∀ x, EPx (hg x).1 elt eb .p) : ESx Γ (mLc L bx mi own g mYes elt) (slL bx eb) .f := ⟨_, ES.lcNP hL hi.2 (fun x => (hg x).2) (fun x => (he x).2)⟩
@[reducible] def XES.lrg1 (ha : EWx Γ a eI o) : ESx Γ (mLrg1 bx a) (slL bx eI) .f := ⟨_, ES.lrg1 ha.2⟩
@[reducible] def XES.sset (ha : EWx Γ a (eL eI) o) : ESx Γ (mSset bx a) (slL bx eI) .f := ⟨_, ES.sset ha.2⟩
@[reducible] def XES.sit [DecidableEq κ] {ek : κ → PyData} {kf : κ → Key} {le : κ × α → κ × α → Bool} (h : KeyOk ek kf) (hk : ∀ x, kP (kf x) = ek x) (k : SortOk (eP2 ek ea) le) (ha : EWx Γ a (eD ek ea) o) : ESx Γ (mSit bx a) (slL bx (eP2 ek ea)) .f := ⟨_, ES.sit h hk k ha.2⟩
@[reducible] def XES.asTup_ (ha : EWx Γ a eX o) : EWx Γ a (eT eX) .p := ⟨_, ES.asTup_ ha.2⟩
@[reducible] def XES.asInt_ (ha : EWx Γ a eX o) : EWx Γ a eI .p := ⟨_, ES.asInt_ ha.2⟩
@[reducible] def XES.asBl_ (ha : EWx Γ a eX o) : EWx Γ a eB .p := ⟨_, ES.asBl_ ha.2⟩
@[reducible] def XES.asTxt_ (ha : EWx Γ a eX o) : EWx Γ a eTx .p := ⟨_, ES.asTxt_ ha.2⟩
@[reducible] def XES.eqX_ (ha : EWx Γ a eX o1) (hb : EWx Γ b eX o2) : EWx Γ (mCmp .Eq a b) eB .p := ⟨_, ES.eqX_ ha.2 hb.2⟩
@[reducible] def XES.neX_ (ha : EWx Γ a eX o1) (hb : EWx Γ b eX o2) : EWx Γ (mCmp .NotEq a b) eB .p := ⟨_, ES.neX_ ha.2 hb.2⟩
@[reducible] def XES.inW_ (ha : EWx Γ a eTx o1) (hb : EWx Γ b (eT eS) o2) : EWx Γ (mCmp .In a b) eB .p := ⟨_, ES.inW_ ha.2 hb.2⟩
@[reducible] def XES.isi_ (t : Tn) (ha : EWx Γ a eX o1) : EWx Γ (mBlt bIsi (mCons a (mCons (mC (.ty t)) mNil))) eB .p := ⟨_, ES.isi_ t ha.2⟩
@[reducible] def XES.isNX (ha : EWx Γ a eX o1) : EWx Γ (mCmp .Is a (mC (.p .none))) eB .p := ⟨_, ES.isNX ha.2⟩
@[reducible] def XES.isnNX (ha : EWx Γ a eX o1) : EWx Γ (mCmp .IsNot a (mC (.p .none))) eB .p := ⟨_, ES.isnNX ha.2⟩
@[reducible] def XES.ofBD [DecidableEq κ] (h : ESx Γ a (slD' true ek ea) o) : ESx Γ a (fun l => .b (eD ek ea l)) o := ⟨_, ES.ofBD h.2⟩
@[reducible] def XES.mdPF (h : EWx Γ a ea .p) : ESx Γ a (fun x => .p (ea x)) .f := ⟨_, ES.mdPF h.2⟩
@[reducible] def XIJ.ofLp (ha : EWx Γ a (eL ea) .p) : IJx Γ (mIter a) ea .f := ⟨_, IJ.ofLp ha.2⟩
@[reducible] def XIJ.enLp (ha : EWx Γ a (eL ea) .p) : IJx Γ (mEn a) (eP2 eI ea) .f := ⟨_, IJ.enLp ha.2⟩
@[reducible] def XES.asI_ (ha : EWx Γ a eN o) : EWx Γ a eI .p := ⟨_, ES.asI_ ha.2⟩
@[reducible] def XES.asOf_ (hn : ∀ y, nb (ea y) = true) (ha : EWx Γ a eX o) : EWx Γ a ea .p := ⟨_, ES.asOf_ hn ha.2⟩
@[reducible] def XES.asSome (hn : ∀ y, nb (ea y) = true) (ha : EWx Γ a (eO ea) o) : EWx Γ a ea .p := ⟨_, ES.asSome hn ha.2⟩
@[reducible] def XES.varm (i : Nat) {v : Option α} {ea : α → PyData} (e : Γ[i]? = some (mb v fun x => .v (ea x))) : EWx Γ (mV i) ea .f := ⟨_, ES.varm i e⟩
@[reducible] def XES.varmp (i : Nat) {v : Option α} {ea : α → PyData} (e : Γ[i]? = some (mb v fun x => .p (ea x))) : EWx Γ (mV i) ea .p := ⟨_, ES.varmp i e⟩
/-- a value that is known -/
@[reducible] def XES.pv (v : α) (h : EWx Γ m ea o) (hv : h.1 = fun Q => Q v) : EPx Γ m ea o := ⟨v, hv ▸ h.2⟩
@[reducible] def XES.w (h : EPx Γ m ea o) : EWx Γ m ea o := ⟨_, h.2⟩
@[reducible] def XOJ.noneP : {v : Option Int // OJ Γ mONone (fun Q => Q v)} := ⟨_, OJ.none⟩
@[reducible] def XOJ.someP (h : EPx Γ a eI o) : {v : Option Int // OJ Γ (mOSome a) (fun Q => Q v)} := ⟨_, OJ.some h.2⟩
@[reducible] def XES.slc {α β : Type} {ea : α → PyData} {eb : β → PyData} {l h : Option Int} (f : α → β) (hf : ∀ x, ∃ z, ea x = .tuple z ∧ .tuple (PI.cutD z l h) = eb (f x)) (ha : EWx Γ a ea o1) (hl : OPx Γ lo) (hh : OPx Γ hi) (e1 : hl.1 = l := by rfl) (e2 : hh.1 = h := by rfl) : EWx Γ (mSl bx a lo hi) eb .p := ⟨_, ES.slc f hf ha.2 (e1 ▸ hl.2) (e2 ▸ hh.2)⟩
@[reducible] def XES.call {τ κ β : Type} {f : BF} {ix : List Nat} {ms ks : Ms} {sl : τ → List Slot} {sk : κ → List Slot} {ob : Bool} {e : β → PyData} {tc : τ → κ → W β} {full : τ → κ → List Slot}
    (h1 : EAx Γ ms sl ob) (h2 : EAx Γ ks sk ob) (hp : ∀ x y, permS (sl x ++ sk y) ix = some (full x y)) (hf : ∀ x y, CJ f (full x y) (tc x y) e) : EWx Γ (mCall f ix ms ks) e (mdB ob) := ⟨_, ES.call h1.2 h2.2 hp hf⟩
section
variable {α β γ κ τ σ ρ σ' τ' : Type} {Γ : Gam} {a b c m : M} {ea : α → PyData} {eb : β → PyData} {o o1 o2 : Md} {Γn : τ → Gam} {Γf : σ → Gam} {e : ρ → PyData} {rest ms sa sb : MS} {i j l : Nat} {x : PyData}
@[reducible] def XSG.nil {s : τ} (h : Sub Γ (Γn s)) : SGx Γ sNil Γn Γf e := ⟨_, SG.nil h⟩
@[reducible] def XSG.brk {s : σ} (h : Sub Γ (Γf s)) : SGx Γ (sSeq sBrk rest) Γn Γf e := ⟨_, SG.brk h⟩
@[reducible] def XSG.cnt {s : σ} (h : Sub Γ (Γf s)) : SGx Γ (sSeq sCnt rest) Γn Γf e := ⟨_, SG.cnt h⟩
@[reducible] def XSG.no : SGx Γ (sSeq sNo rest) Γn Γf e := ⟨_, SG.no⟩
@[reducible] def XSG.pass (h : SGx Γ rest Γn Γf e) : SGx Γ (sSeq sNil rest) Γn Γf e := ⟨_, SG.pass h.2⟩
@[reducible] def XSG.nrm (Γ' : Gam) (h : Γ = Γ') (k : SGx Γ' ms Γn Γf e) : SGx Γ ms Γn Γf e := ⟨k.1, by subst h; exact k.2⟩
@[reducible] def XSG.ret (h : EWx Γ m e o) : SGx Γ (sSeq (sRet m) rest) Γn Γf e := ⟨_, SG.ret h.2⟩
@[reducible] def XSG.asg {sl : α → Slot} (h : ESx Γ m sl .f) (k : ∀ a, SGx (Γ.set i (sl a)) rest Γn Γf e) : SGx Γ (sSeq (sAsg m (gNm i)) rest) Γn Γf e := ⟨_, SG.asg h.2 fun a => (k a).2⟩
@[reducible] def XSG.asgp (h : EWx Γ m ea .p) (k : ∀ a, SGx (Γ.set i (.p (ea a))) rest Γn Γf e) : SGx Γ (sSeq (sAsg m (gNm i)) rest) Γn Γf e := ⟨_, SG.asgp h.2 fun a => (k a).2⟩
@[reducible] def XSG.asgT {g : MG} (h : EWx Γ m ea .p) (hg : ∀ a, GJx Γ g (ea a)) (k : ∀ a, SGx (hg a).1 rest Γn Γf e) : SGx Γ (sSeq (sAsg m g) rest) Γn Γf e := ⟨_, SG.asgT h.2 (fun a => (hg a).2) fun a => (k a).2⟩
@[reducible] def XSG.par2 {sa : α → Slot} {sb : β → Slot} (ha : ESx Γ a sa .f) (hb : ESx Γ b sb .f) (k : ∀ x y, SGx ((Γ.set i (sa x)).set j (sb y)) rest Γn Γf e) : SGx Γ (sSeq (sPar (mCons a (mCons b mNil)) (gP2 i j)) rest) Γn Γf e := ⟨_, SG.par2 ha.2 hb.2 fun x y => (k x y).2⟩
@[reducible] def XSG.par3 {sa : α → Slot} {sb : β → Slot} {sc : γ → Slot} (ha : ESx Γ a sa .f) (hb : ESx Γ b sb .f) (hc : ESx Γ c sc .f) (k : ∀ x y z, SGx (((Γ.set i (sa x)).set j (sb y)).set l (sc z)) rest Γn Γf e) : SGx Γ (sSeq (sPar (mCons a (mCons b (mCons c mNil))) (gP3 i j l)) rest) Γn Γf e := ⟨_, SG.par3 ha.2 hb.2 hc.2 fun x y z => (k x y z).2⟩
@[reducible] def XSG.ex {sl : α → Slot} (h : ESx Γ m sl o) (k : ∀ _ : α, SGx Γ rest Γn Γf e) : SGx Γ (sSeq (sEx m) rest) Γn Γf e := ⟨_, SG.ex h.2 fun x => (k x).2⟩
@[reducible] def XSG.seq {Γm : τ' → Gam} (h : SGx Γ ms Γm Γf e) (k : ∀ s, SGx (Γm s) rest Γn Γf e) : SGx Γ (sSeq ms rest) Γn Γf e := ⟨_, SG.seq h.2 fun s => (k s).2⟩
@[reducible] def XSG.if_ (hc : EWx Γ c eB o) (ha : SGx Γ sa Γn Γf e) (hb : SGx Γ sb Γn Γf e) : SGx Γ (sIf c sa sb) Γn Γf e := ⟨_, SG.if_ hc.2 ha.2 hb.2⟩
@[reducible] def XSG.ifR (hc : EWx Γ c eB o) (ha : SGx Γ sa (fun x : Empty => x.elim) Γf e) (hb : SGx Γ (sSeq sb rest) Γn Γf e) : SGx Γ (sSeq (sIf c sa sb) rest) Γn Γf e := ⟨_, SG.ifR hc.2 ha.2 hb.2⟩
@[reducible] def XSG.ifL (hc : EWx Γ c eB o) (ha : SGx Γ (sSeq sa rest) Γn Γf e) (hb : SGx Γ sb (fun x : Empty => x.elim) Γf e) : SGx Γ (sSeq (sIf c sa sb) rest) Γn Γf e := ⟨_, SG.ifL hc.2 ha.2 hb.2⟩
@[reducible] def XSG.stop (h : SGx Γ ms (fun x : Empty => x.elim) Γf e) : SGx Γ (sSeq ms rest) Γn Γf e := ⟨_, SG.stop h.2⟩
@[reducible] def XSG.assoc {x y z : MS} (h : SGx Γ (sSeq x (sSeq y z)) Γn Γf e) : SGx Γ (sSeq (sSeq x y) z) Γn Γf e := ⟨h.1, SG.assoc h.2⟩
@[reducible] def XSG.frz (i : Nat) (h : Γ[i]? = some (.b x)) (k : SGx (Γ.set i (.v x)) ms Γn Γf e) : SGx Γ ms Γn Γf e := ⟨k.1, SG.frz i h k.2⟩
theorem for_goN {f : Src} {g : MG} {body : MS} {Γh : σ' → Gam} {Γt : α → σ' → Gam} {p : α → σ' → WS σ' σ' ρ} {Qx : σ' → Prop} {F : NP} {xs : List α} {Γz : σ → Gam} {Qc Qb : σ → Prop} {Qr : ρ → Prop}
    (hg : ∀ x s, GJ (Γh s) g (ea x) (Γt x s)) (hb : ∀ x s, SG (Γt x s) body (p x s) Γh Γh e) :
    ∀ (k i : Nat) (s : σ') (S : Store) (ev : EnvI) (O : NP), xs.length - i < k → i ≤ xs.length → SrcAt f S O (xs.map ea) → EG S ev (Γh s) O F → DK S → forNGo (fun x s Q => p x s Q Q (fun _ => False) (fun _ => False)) Qx (xs.drop i) s →
      WP (forLoop f g body k i ev S) (SOut S O F Γh Γz e Qx Qc Qb Qr)
  | 0, i, s, S, ev, O, h, _, _, _, _, _ => by omega
  | k + 1, i, s, S, ev, O, h, hi, hf, hG, hD, z => by
    have hfi := hf S (Fr.refl _ _) i (by rw [List.length_map]; exact hi)
    unfold forLoop
    rw [wp_bind, hfi, wp_some]
    by_cases hl : i < xs.length
    · have ex : xs.drop i = xs[i] :: xs.drop (i + 1) := List.drop_eq_getElem_cons hl
      rw [ex] at z
      rw [List.getElem?_map, List.getElem?_eq_getElem hl]
      show WP ((g (.p (ea xs[i])) ev S).bind _) _
      obtain ⟨ev1, e1, g1⟩ := hg xs[i] s S ev O F hG
      rw [e1]
      show WP ((body ev1 S).bind _) _
      rw [wp_bind]
      refine (hb xs[i] s S ev1 O F _ _ _ _ g1 hD z).mono fun r hr => ?_
      obtain ⟨fl, ev2, S2⟩ := r
      obtain ⟨fr, hD2, h3⟩ := hr
      cases fl with
      | nx =>
        obtain ⟨s', O', y1, y2, y3⟩ := h3
        exact (for_goN hg hb k (i + 1) s' S2 ev2 O' (by omega) hl (hf.fr fr y3) y2 hD2 y1).mono fun r h => h.tr fr y3
      | ct =>
        obtain ⟨s', O', y1, y2, y3⟩ := h3
        exact (for_goN hg hb k (i + 1) s' S2 ev2 O' (by omega) hl (hf.fr fr y3) y2 hD2 y1).mono fun r h => h.tr fr y3
      | bk =>
        obtain ⟨s', O', y1, y2, y3⟩ := h3
        exact y1.elim
      | rt d =>
        obtain ⟨x, y1, _⟩ := h3
        exact y1.elim
    · have : xs.length ≤ i := by omega
      rw [List.drop_eq_nil_of_le this] at z
      rw [List.getElem?_eq_none (by rw [List.length_map]; exact this)]
      exact (wp_some _ _).mpr ⟨Fr.refl _ _, hD, s, O, z, hG, fun n q => .inl q⟩
theorem SG.forN2 {L : Nat} {mi : MIt} {g : MG} {body : MS} {Γh : σ' → Gam} {Γt : α → σ' → Gam} {p : α → σ' → WS σ' σ' ρ} {t : W (List α)} {s0 : σ'} {q : σ' → WS τ σ ρ} (hL : 1000000 ≤ L) (hi : IJ Γ mi t ea .f) (h0 : Sub Γ (Γh s0))
    (hg : ∀ x s, GJ (Γh s) g (ea x) (Γt x s)) (hb : ∀ x s, SG (Γt x s) body (p x s) Γh Γh e) (hk : ∀ s, SG (Γh s) rest (q s) Γn Γf e) :
    SG Γ (sSeq (sFor L mi g body) rest) (fun Qn Qc Qb Qr => t fun xs => PI.forN xs s0 (fun x s Q => p x s Q Q (fun _ => False) (fun _ => False)) (fun s => q s Qn Qc Qb Qr)) Γn Γf e := fun S ev O F Qn Qc Qb Qr hG hD z => by
  obtain ⟨⟨f, S1⟩, e1, z1, z2, xs, ⟨zl, zg⟩, z4⟩ := hi S ev O F _ hG hD z
  show WP (((mi ev S).bind _).bind _) _
  rw [e1]
  show WP ((forLoop f g body L 0 ev S1).bind _) _
  rw [wp_bind]
  refine (for_goN (Γz := Γf) (Qc := Qc) (Qb := Qb) (Qr := Qr) hg hb L 0 s0 S1 ev O (by omega) (Nat.zero_le _) z4 ((hG.fr z1).sub h0) z2 zg).mono fun r hr => ?_
  obtain ⟨fl, ev2, S2⟩ := r
  have hr := hr.tr z1.wide fun n q => .inl q
  obtain ⟨fr, hD2, h3⟩ := hr
  cases fl with
  | nx =>
    obtain ⟨s', O', y1, y2, y3⟩ := h3
    exact (hk s' S2 ev2 O' F Qn Qc Qb Qr y2 hD2 y1).mono fun r h => h.tr fr y3
  | ct => exact (wp_some _ _).mpr ⟨fr, hD2, h3⟩
  | bk => exact (wp_some _ _).mpr ⟨fr, hD2, h3⟩
  | rt d => exact (wp_some _ _).mpr ⟨fr, hD2, h3⟩
@[reducible] def XSG.forN {L : Nat} {mi : MIt} {g : MG} {body : MS} {Γh : σ' → Gam} {s0 : σ'} (hL : 1000000 ≤ L) (hi : IJx Γ mi ea .f) (h0 : Sub Γ (Γh s0)) (hg : ∀ x s, GJx (Γh s) g (ea x)) (hb : ∀ x s, SGx (hg x s).1 body Γh Γh e) (hk : ∀ s, SGx (Γh s) rest Γn Γf e) : SGx Γ (sSeq (sFor L mi g body) rest) Γn Γf e :=
  ⟨_, SG.forN2 hL hi.2 h0 (fun x s => (hg x s).2) (fun x s => (hb x s).2) fun s => (hk s).2⟩
@[reducible] def XSG.forW {L : Nat} {mi : MIt} {g : MG} {body : MS} {Γh : σ' → Gam} {s0 : σ'} (hL : 1000000 ≤ L) (hi : IJx Γ mi ea .f) (h0 : Sub Γ (Γh s0)) (hg : ∀ x s, GJx (Γh s) g (ea x)) (hb : ∀ x s, SGx (hg x s).1 body Γh Γh e) (hk : ∀ s, SGx (Γh s) rest Γn Γf e) : SGx Γ (sSeq (sFor L mi g body) rest) Γn Γf e :=
  ⟨_, SG.forW hL hi.2 h0 (fun x s => (hg x s).2) (fun x s => (hb x s).2) fun s => (hk s).2⟩
@[reducible] def XSG.wh {L : Nat} {c : M} {body : MS} {Γh : σ' → Gam} {s0 : σ'} (hL : 1000000 ≤ L) (h0 : Sub Γ (Γh s0)) (hc : ∀ s, EWx (Γh s) c eB o) (hb : ∀ s, SGx (Γh s) body Γh Γh e) (hk : ∀ s, SGx (Γh s) rest Γn Γf e) : SGx Γ (sSeq (whLoop c body L) rest) Γn Γf e :=
  ⟨_, SG.wh hL h0 (fun s => (hc s).2) (fun s => (hb s).2) fun s => (hk s).2⟩
@[reducible] def XSG.app {l : List β} (h : Γ[i]? = some (.b (eL eb l))) (hm : EWx Γ m eb .p) (k : ∀ l, SGx (Γ.set i (.b (eL eb l))) rest Γn Γf e) : SGx Γ (sSeq (sEx (mMet "append" (mV i) (mCons m mNil))) rest) Γn Γf e := ⟨_, SG.app h hm.2 fun l => (k l).2⟩
@[reducible] def XSG.setL {mi : M} {l : List β} (h : Γ[i]? = some (.b (eL eb l))) (hm : EWx Γ m eb .p) (hi : EWx Γ mi eI o) (k : ∀ l, SGx (Γ.set i (.b (eL eb l))) rest Γn Γf e) : SGx Γ (sSeq (sAsg m (gSb (mV i) mi)) rest) Γn Γf e := ⟨_, SG.setL h hm.2 hi.2 fun l => (k l).2⟩
@[reducible] def XSG.setD [DecidableEq κ] {ek : κ → PyData} {kf : κ → Key} {mi : M} {l : List (κ × β)} (hK : KeyOk ek kf) (h : Γ[i]? = some (.b (eD ek eb l))) (hm : EWx Γ m eb .p) (hi : EWx Γ mi ek o) (k : ∀ l, SGx (Γ.set i (.b (eD ek eb l))) rest Γn Γf e) : SGx Γ (sSeq (sAsg m (gSb (mV i) mi)) rest) Γn Γf e := ⟨_, SG.setD hK h hm.2 hi.2 fun l => (k l).2⟩
@[reducible] def XSG.appPop {mi : M} {l l2 : List β} (hij : i ≠ j) (h : Γ[i]? = some (.b (eL eb l))) (h2 : Γ[j]? = some (.b (eL eb l2))) (hi : EWx Γ mi eI o) (k : ∀ l l2, SGx ((Γ.set j (.b (eL eb l2))).set i (.b (eL eb l))) rest Γn Γf e) : SGx Γ (sSeq (sEx (mMet "append" (mV i) (mCons (mMet "pop" (mV j) (mCons mi mNil)) mNil))) rest) Γn Γf e := ⟨_, SG.appPop hij h h2 hi.2 fun l l2 => (k l l2).2⟩
theorem SG.never' : SG Γ ms (fun (_ : τ → Prop) (_ _ : σ → Prop) (_ : ρ → Prop) => False) Γn Γf e := fun S ev O F Qn Qc Qb Qr g hD q => q.elim
@[reducible] def XSG.never : SGx Γ ms Γn Γf e := ⟨_, SG.never'⟩
theorem CJ.ofx {N ps : List Str} {body : MS} {ss : List Slot} {tt : W ρ} (Γ0 : Gam) (hl : ss.length = ps.length) (hb : ss.any isB = false) (h0 : ss ++ List.replicate (N.length - ss.length) .u = Γ0)
    (h : SGx Γ0 body (fun x : Empty => x.elim) (fun x : Empty => x.elim) e) (ht : ∀ Q, tt Q → h.1 (fun _ => False) (fun _ => False) (fun _ => False) Q) : CJ (bodyF N ps body) ss tt e := CJ.of Γ0 hl hb h0 h.2 ht
theorem CJ.ofUx {N ps : List Str} {body : MS} {ss : List Slot} {tt : W Unit} (Γ0 : Gam) (hl : ss.length = ps.length) (hb : ss.any isB = false) (h0 : ss ++ List.replicate (N.length - ss.length) .u = Γ0)
    (h : SGx Γ0 body (fun _ : Unit => List.replicate N.length .u) (fun x : Empty => x.elim) eU) (ht : ∀ Q, tt Q → h.1 Q (fun _ => False) (fun _ => False) Q) : CJ (bodyF N ps body) ss tt eU := CJ.ofU Γ0 hl hb h0 h.2 ht
end
end
end PI
set_option maxHeartbeats 1000000
/-! Own text: typed reading, part 12: a law's def; words for plain proofs. -/
namespace PI
open PySem PySem.Spec L2
open PyProof.Rows hiding St

theorem law_run [Deck] {N : List Str} {x : Str} {rest : MS} {m : M} {Γ1 : Gam} {ns : List Int} {S1 : Store} (e1 : m (startD N [.p (.list (ns.map .int))]) [] = some (.ref 1, S1)) (hD : Deck.DK S1) (hN : 2 ≤ N.length) (h0 : [Slot.u, .d (.ref 1)] ++ List.replicate (N.length - 2) .u = Γ1)
    (h : SGx Γ1 rest (fun x : Empty => x.elim) (fun x : Empty => x.elim) eB) (ht : h.1 (fun _ => False) (fun _ => False) (fun _ => False) (fun b => b = true)) : ∃ S', bodyF N [x] (sSeq (sAsg m (gNm 1)) rest) [] [.p (.list (ns.map .int))] = some (.p (.bool true), S') := by
  have hl := Deck.two S1 hD
  have hlen : (startD N [.p (.list (ns.map .int))]).length = N.length := by unfold startD; simp; omega
  have g : EG S1 ((startD N [.p (.list (ns.map .int))]).set 1 (some (.ref 1))) Γ1 no no := by
    subst h0
    refine ⟨by rw [List.length_set, hlen]; simp; omega, fun i s e => ?_, fun i j n x y _ e1 _ _ _ => ?_, fun n q => q.elim, fun n q => q.elim⟩
    · match i, e with
      | 0, e => cases e; trivial
      | 1, e =>
        cases e
        show (List.set _ 1 _)[1]? = _
        rw [List.getElem?_set_self (by omega)]
      | i + 2, e =>
        have e : (List.replicate (N.length - 2) Slot.u)[i]? = some s := e
        rw [List.getElem?_replicate] at e
        split at e
        · cases e; trivial
        · cases e
    · match i, e1 with
      | 0, e => cases e
      | 1, e => cases e
      | i + 2, e =>
        have e : (List.replicate (N.length - 2) Slot.u)[i]? = some _ := e
        rw [List.getElem?_replicate] at e
        split at e <;> cases e
  obtain ⟨⟨fl, ev', S'⟩, e2, f, hD2, h3⟩ := h.2 S1 _ no no _ _ _ _ g hD ht
  have e3 : sSeq (sAsg m (gNm 1)) rest (startD N [.p (.list (ns.map .int))]) [] = some (fl, ev', S') := by
    show (((m _ []).bind _).bind _) = _
    rw [e1]; exact e2
  cases fl with
  | rt d =>
    obtain ⟨b, hb, hi, _⟩ := h3
    have hb : b = true := hb
    subst hb
    obtain rfl := hi.bool
    refine ⟨S', ?_⟩
    show (if 1 = 1 then (sSeq (sAsg m (gNm 1)) rest _ []).bind _ else none) = _
    rw [if_pos rfl, e3]; rfl
  | nx =>
    obtain ⟨x, _⟩ := h3
    exact x.elim
  | bk =>
    obtain ⟨x, _⟩ := h3
    exact x.elim
  | ct =>
    obtain ⟨x, _⟩ := h3
    exact x.elim

theorem call_1 (f : BF) (d : D) (N : List Str) (S : Store) {r : Option (D × Store)} (h : f S [d] = r) : mCall f [0] (mCons (mV 0) mNil) mNil (startD N [d]) S = r := h
theorem call_2 (f : BF) (d e : D) (N : List Str) (S : Store) {r : Option (D × Store)} (h : f S [d, e] = r) : mCall f [0, 1] (mCons (mV 0) (mCons (mC e) mNil)) mNil (startD N [d]) S = r := h
theorem nd_N : ∀ x l, eN x ≠ .dict l := fun x l h => by
  cases x with
  | i x => exact PyData.noConfusion h
  | s x => exact PyData.noConfusion h
theorem nd_O {α : Type} {e : α → PyData} (k : ∀ x l, e x ≠ .dict l) : ∀ x l, eO e x ≠ .dict l := fun x l h => by
  cases x with
  | none => exact PyData.noConfusion h
  | some x => exact k x l h

/-! ### plain proofs over typed texts -/
section
variable {α β σ ρ : Type}
/-- over a list, with what is done so far -/
theorem loopN_inv {xs : List α} {s0 : σ} {p : α → σ → W σ} {Q : σ → Prop} (I : List α → σ → Prop) (hl : xs.length < 1000000) (h0 : I [] s0) (hs : ∀ (l : List α) (x : α) (r : List α) (s : σ), xs = l ++ x :: r → I l s → ∀ Q' : σ → Prop, (∀ s', I (l ++ [x]) s' → Q' s') → p x s Q') (hf : ∀ s, I xs s → Q s) : forN xs s0 p Q := by
  refine ⟨hl, ?_⟩
  have go : ∀ (r l : List α) (s : σ), xs = l ++ r → I l s → forNGo p Q r s := by
    intro r
    induction r with
    | nil => intro l s e h; rw [List.append_nil] at e; exact hf s (e ▸ h)
    | cons x r ih =>
      intro l s e h
      exact hs l x r s e h _ fun s' h' => ih (l ++ [x]) s' (by rw [e]; simp) h'
  exact go xs [] s0 rfl h0
theorem loopN_all {xs : List α} {s0 : σ} {p : α → σ → W σ} {Q : σ → Prop} (I : σ → Prop) (hl : xs.length < 1000000) (h0 : I s0) (hs : ∀ x ∈ xs, ∀ s, I s → ∀ Q' : σ → Prop, (∀ s', I s' → Q' s') → p x s Q') (hf : ∀ s, I s → Q s) : forN xs s0 p Q :=
  loopN_inv (fun _ s => I s) hl h0 (fun l x r s e h => hs x (e ▸ by simp) s h) hf
theorem loopW_inv {xs : List α} {s0 : σ} {p : α → σ → (σ → Prop) → (σ → Prop) → (ρ → Prop) → Prop} {Qx : σ → Prop} {Qr : ρ → Prop} (I : List α → σ → Prop) (hl : xs.length < 1000000) (h0 : I [] s0) (hs : ∀ (l : List α) (x : α) (r : List α) (s : σ), xs = l ++ x :: r → I l s → ∀ Q' : σ → Prop, (∀ s', I (l ++ [x]) s' → Q' s') → p x s Q' Qx Qr) (hf : ∀ s, I xs s → Qx s) : forW xs s0 p Qx Qr := by
  refine ⟨hl, ?_⟩
  have go : ∀ (r l : List α) (s : σ), xs = l ++ r → I l s → forGo p Qx Qr r s := by
    intro r
    induction r with
    | nil => intro l s e h; rw [List.append_nil] at e; exact hf s (e ▸ h)
    | cons x r ih =>
      intro l s e h
      exact hs l x r s e h _ fun s' h' => ih (l ++ [x]) s' (by rw [e]; simp) h'
  exact go xs [] s0 rfl h0
theorem loopW_all {xs : List α} {s0 : σ} {p : α → σ → (σ → Prop) → (σ → Prop) → (ρ → Prop) → Prop} {Qx : σ → Prop} {Qr : ρ → Prop} (I : σ → Prop) (hl : xs.length < 1000000) (h0 : I s0) (hs : ∀ x ∈ xs, ∀ s, I s → ∀ Q' : σ → Prop, (∀ s', I s' → Q' s') → p x s Q' Qx Qr) (hf : ∀ s, I s → Qx s) : forW xs s0 p Qx Qr :=
  loopW_inv (fun _ s => I s) hl h0 (fun l x r s e h => hs x (e ▸ by simp) s h) hf
/-- a while loop by a measure -/
theorem whW_inv {s0 : σ} {c : σ → W Bool} {p : σ → (σ → Prop) → (σ → Prop) → (ρ → Prop) → Prop} {Qx : σ → Prop} {Qr : ρ → Prop} (I : σ → Prop) (μ : σ → Nat) (h0 : I s0) (hm : μ s0 < 999999) (hs : ∀ s, I s → ∀ Q' : σ → Prop, (∀ s', I s' → μ s' < μ s → Q' s') → c s fun b => if b = true then p s Q' Qx Qr else Qx s) : whW s0 c p Qx Qr := by
  have go : ∀ (n : Nat) (s : σ), I s → μ s < n → whGo c p Qx Qr n s := by
    intro n
    induction n with
    | zero => intro s _ h; omega
    | succ n ih =>
      intro s h hn
      exact hs s h _ fun s' h1 h2 => ih s' h1 (by omega)
  exact ⟨μ s0 + 1, by omega, go _ s0 h0 (by omega)⟩
theorem compN_map {xs : List α} {p : α → W β} {Q : List β → Prop} (f : α → β) (hl : xs.length < 1000000) (h : ∀ x ∈ xs, ∀ Q' : β → Prop, Q' (f x) → p x Q') (q : Q (xs.map f)) : compN xs p Q := by
  refine ⟨hl, ?_⟩
  have go : ∀ (l : List α) (Q : List β → Prop), (∀ x ∈ l, x ∈ xs) → Q (l.map f) → compNGo p l Q := by
    intro l
    induction l with
    | nil => intro Q _ q; exact q
    | cons x r ih =>
      intro Q hx q
      exact h x (hx x (List.mem_cons_self ..)) _ (ih _ (fun y hy => hx y (List.mem_cons_of_mem _ hy)) q)
  exact go xs Q (fun x h => h) q
theorem compN_all {xs : List α} {p : α → W β} {Q : List β → Prop} (P : β → Prop) (hl : xs.length < 1000000) (h : ∀ x ∈ xs, ∀ Q' : β → Prop, (∀ y, P y → Q' y) → p x Q') (q : ∀ l : List β, l.length = xs.length → (∀ y ∈ l, P y) → Q l) : compN xs p Q := by
  refine ⟨hl, ?_⟩
  have go : ∀ (l : List α) (Q : List β → Prop), (∀ x ∈ l, x ∈ xs) → (∀ m : List β, m.length = l.length → (∀ y ∈ m, P y) → Q m) → compNGo p l Q := by
    intro l
    induction l with
    | nil => intro Q _ q; exact q [] rfl fun y hy => (List.not_mem_nil hy).elim
    | cons x r ih =>
      intro Q hx q
      refine h x (hx x (List.mem_cons_self ..)) _ fun y hy => ih _ (fun z hz => hx z (List.mem_cons_of_mem _ hz)) fun m hm hp => q (y :: m) (by simp [hm]) fun z hz => ?_
      rcases List.mem_cons.mp hz with rfl | hz
      · exact hy
      · exact hp z hz
  exact go xs Q (fun x h => h) q
theorem compW_fm {xs : List α} {p : α → W (Option β)} {Q : List β → Prop} (f : α → Option β) (hl : xs.length < 1000000) (h : ∀ x ∈ xs, ∀ Q' : Option β → Prop, Q' (f x) → p x Q') (q : Q (xs.filterMap f)) : compW xs p Q := by
  refine ⟨hl, ?_⟩
  have go : ∀ (l : List α) (Q : List β → Prop), (∀ x ∈ l, x ∈ xs) → Q (l.filterMap f) → compGo p l Q := by
    intro l
    induction l with
    | nil => intro Q _ q; exact q
    | cons x r ih =>
      intro Q hx q
      refine h x (hx x (List.mem_cons_self ..)) _ (ih _ (fun y hy => hx y (List.mem_cons_of_mem _ hy)) ?_)
      rw [List.filterMap_cons] at q
      cases e : f x with
      | none => rw [e] at q; exact q
      | some y => rw [e] at q; exact q
  exact go xs Q (fun x h => h) q
theorem compW_all {xs : List α} {p : α → W (Option β)} {Q : List β → Prop} (P : β → Prop) (hl : xs.length < 1000000) (h : ∀ x ∈ xs, ∀ Q' : Option β → Prop, (∀ y, (∀ z, y = some z → P z) → Q' y) → p x Q') (q : ∀ l : List β, l.length ≤ xs.length → (∀ y ∈ l, P y) → Q l) : compW xs p Q := by
  refine ⟨hl, ?_⟩
  have go : ∀ (l : List α) (Q : List β → Prop), (∀ x ∈ l, x ∈ xs) → (∀ m : List β, m.length ≤ l.length → (∀ y ∈ m, P y) → Q m) → compGo p l Q := by
    intro l
    induction l with
    | nil => intro Q _ q; exact q [] (Nat.le_refl _) fun y hy => (List.not_mem_nil hy).elim
    | cons x r ih =>
      intro Q hx q
      refine h x (hx x (List.mem_cons_self ..)) _ fun o ho => ih _ (fun z hz => hx z (List.mem_cons_of_mem _ hz)) fun m hm hp => ?_
      cases o with
      | none => exact q m (by simp; omega) hp
      | some y =>
        refine q (y :: m) (by simp; omega) fun z hz => ?_
        rcases List.mem_cons.mp hz with rfl | hz
        · exact ho _ rfl
        · exact hp z hz
  exact go xs Q (fun x h => h) q
theorem atW_of {l : List α} {i : Int} {Q : α → Prop} (h0 : 0 ≤ i) (h1 : i < l.length) (q : ∀ x, l[i.toNat]? = some x → x ∈ l → Q x) : atW l i Q := by
  have hi : i.toNat < l.length := by omega
  refine ⟨l[i.toNat], ?_, q _ (List.getElem?_eq_getElem hi) (List.getElem_mem hi)⟩
  unfold L2.atI L2.ixN
  rw [if_pos h0, if_pos h1]
  show l[i.toNat]? = _
  rw [List.getElem?_eq_getElem hi]
theorem atW_nat {l : List α} {i : Nat} {x : α} {Q : α → Prop} (h : l[i]? = some x) (q : Q x) : atW l (i : Int) Q := by
  have hi : i < l.length := (List.getElem?_eq_some_iff.mp h).1
  refine ⟨x, ?_, q⟩
  unfold L2.atI L2.ixN
  rw [if_pos (by omega), if_pos (by omega)]
  exact h
theorem atW_last {l : List α} {x : α} {Q : α → Prop} (q : Q x) : atW (l ++ [x]) (-1) Q := by
  refine ⟨x, ?_, q⟩
  unfold L2.atI L2.ixN
  rw [if_neg (by decide), if_pos (by simp; omega)]
  show (l ++ [x])[((-1 : Int) + (l ++ [x]).length).toNat]? = _
  have : ((-1 : Int) + ((l ++ [x]).length : Nat)).toNat = l.length := by simp; omega
  rw [this]; simp
theorem drawW_of {many : Int} {Q : Int → Prop} (h0 : 0 < many) (h1 : many < 1073741824) (q : ∀ r, 0 ≤ r → r < many → Q r) : drawW many Q := ⟨⟨h0, h1⟩, q⟩
theorem pickW_of {l : List α} {Q : α → Prop} (h0 : l ≠ []) (h1 : l.length < 1000000) (q : ∀ x ∈ l, Q x) : pickW l Q := ⟨⟨h0, h1⟩, q⟩
theorem small_of {l : List α} {Q : List α → Prop} (h : l.length < 1000000) (q : Q l) : small l Q := ⟨h, q⟩
end
theorem mem_rangeI {lo : Int} {n : Nat} {x : Int} : x ∈ rangeI lo n ↔ lo ≤ x ∧ x < lo + n := by
  unfold rangeI
  rw [List.mem_map]
  constructor
  · rintro ⟨i, h, rfl⟩
    have := List.mem_range.mp h
    omega
  · rintro ⟨h1, h2⟩
    exact ⟨(x - lo).toNat, List.mem_range.mpr (by omega), by omega⟩
theorem rangeI_len (lo : Int) (n : Nat) : (rangeI lo n).length = n := by unfold rangeI; simp
theorem rangeI_at {lo : Int} {n i : Nat} (h : i < n) : (rangeI lo n)[i]? = some (lo + i) := by
  unfold rangeI
  rw [List.getElem?_map, List.getElem?_range h]; rfl
theorem enumI_len {α : Type} (l : List α) : (enumI l).length = l.length := by unfold enumI; simp
theorem enumI_at {α : Type} (l : List α) (i : Nat) : (enumI l)[i]? = l[i]?.map fun x => ((i : Int), x) := by
  unfold enumI
  rw [List.getElem?_mapIdx]
theorem mem_enumI {α : Type} {l : List α} {p : Int × α} : p ∈ enumI l ↔ ∃ i : Nat, p.1 = i ∧ l[i]? = some p.2 := by
  rw [List.mem_iff_getElem?]
  constructor
  · rintro ⟨i, h⟩
    rw [enumI_at] at h
    cases e : l[i]? with
    | none => rw [e] at h; cases h
    | some x => rw [e] at h; cases h; exact ⟨i, rfl, e⟩
  · rintro ⟨i, h1, h2⟩
    refine ⟨i, ?_⟩
    rw [enumI_at, h2, ← h1]; rfl
end PI
set_option maxHeartbeats 1000000
/-! Own text: how typed texts are worked out: values of any kind that are values of a type. -/
namespace PI
open PySem PySem.Spec L2
open PyProof.Rows hiding St

section
variable {α β γ δ : Type} {ea : α → PyData} {eb : β → PyData} {ec : γ → PyData} {ed : δ → PyData}
@[simp] theorem isT_I_int (i : Int) : isT (eI i) Tn.int = true := rfl
@[simp] theorem isT_I_bl (i : Int) : isT (eI i) Tn.bl = false := rfl
@[simp] theorem isT_I_tup (i : Int) : isT (eI i) Tn.tup = false := rfl
@[simp] theorem isT_I_str (i : Int) : isT (eI i) Tn.str = false := rfl
@[simp] theorem isT_S_str (i : String) : isT (eS i) Tn.str = true := rfl
@[simp] theorem isT_S_int (i : String) : isT (eS i) Tn.int = false := rfl
@[simp] theorem isT_S_tup (i : String) : isT (eS i) Tn.tup = false := rfl
@[simp] theorem isT_T_tup (l : List α) : isT (eT ea l) Tn.tup = true := rfl
@[simp] theorem isT_P1_tup (p : α) : isT (eP1 ea p) Tn.tup = true := rfl
@[simp] theorem isT_P2_tup (p : α × β) : isT (eP2 ea eb p) Tn.tup = true := rfl
@[simp] theorem isT_P3_tup (p : α × β × γ) : isT (eP3 ea eb ec p) Tn.tup = true := rfl
@[simp] theorem isT_P4_tup (p : α × β × γ × δ) : isT (eP4 ea eb ec ed p) Tn.tup = true := rfl
theorem ex_eq {P : α → Prop} {f : α → PyData} {x : PyData} {y : α} (h : ∀ z, x = f z ↔ z = y) : (∃ z, x = f z ∧ P z) = P y := propext ⟨fun ⟨z, e, p⟩ => (h z).mp e ▸ p, fun p => ⟨y, (h y).mpr rfl, p⟩⟩
@[simp] theorem asTup_t (l : List PyData) (Q : List PyData → Prop) : asTup (.tuple l) Q = Q l := ex_eq (f := PyData.tuple) fun z => ⟨fun h => by cases h; rfl, fun h => by rw [h]⟩
@[simp] theorem asTup_T (l : List α) (Q : List PyData → Prop) : asTup (eT ea l) Q = Q (l.map ea) := asTup_t _ Q
@[simp] theorem asTup_P1 (p : α) (Q : List PyData → Prop) : asTup (eP1 ea p) Q = Q [ea p] := asTup_t _ Q
@[simp] theorem asTup_P2 (p : α × β) (Q : List PyData → Prop) : asTup (eP2 ea eb p) Q = Q [ea p.1, eb p.2] := asTup_t _ Q
@[simp] theorem asTup_P3 (p : α × β × γ) (Q : List PyData → Prop) : asTup (eP3 ea eb ec p) Q = Q [ea p.1, eb p.2.1, ec p.2.2] := asTup_t _ Q
@[simp] theorem asTup_P4 (p : α × β × γ × δ) (Q : List PyData → Prop) : asTup (eP4 ea eb ec ed p) Q = Q [ea p.1, eb p.2.1, ec p.2.2.1, ed p.2.2.2] := asTup_t _ Q
@[simp] theorem asInt_I (i : Int) (Q : Int → Prop) : asInt (eI i) Q = Q i := ex_eq (f := PyData.int) fun z => ⟨fun h => by cases h; rfl, fun h => by rw [h]; rfl⟩
@[simp] theorem asTxt_S (s : String) (Q : Str → Prop) : asTxt (eS s) Q = Q (Str.ofString s) := ex_eq (f := PyData.str) fun z => ⟨fun h => by cases h; rfl, fun h => by rw [h]; rfl⟩
theorem asOf_e [DecidableEq α] {n : Nat} (k : EqOk ea n) (x : α) (Q : α → Prop) : asOf ea (ea x) Q = Q x := ex_eq (f := ea) fun z => ⟨fun h => by
  have h1 := k.eq x x
  have h2 := k.eq x z
  rw [← h, h1, decide_eq_true rfl] at h2
  exact (of_decide_eq_true h2.symm).symm, fun h => by rw [h]⟩
@[simp] theorem asOf_TI (x : List Int) (Q : List Int → Prop) : asOf (eT eI) (eT eI x) Q = Q x := asOf_e (eqok_T eqok_I) x Q
@[simp] theorem asOf_steps (x : List (Int × String)) (Q : List (Int × String) → Prop) : asOf (eT (eP2 eI eS)) (eT (eP2 eI eS) x) Q = Q x := asOf_e (eqok_T (eqok_P2 eqok_I eqok_S)) x Q
@[simp] theorem inW_S (s : String) (l : List String) (Q : Bool → Prop) : inW (Str.ofString s) l Q = Q (decide (s ∈ l)) := by
  unfold inW
  have e : wordIn (Str.ofString s) l = decide (s ∈ l) := by
    unfold wordIn
    induction l with
    | nil => rfl
    | cons w r ih =>
      rw [List.any_cons, ih, ← Bool.decide_or]
      exact decide_eq_decide.mpr ⟨fun h => h.elim (fun h => by rw [ofString_inj h]; exact List.mem_cons_self ..) (List.mem_cons_of_mem _), fun h => (List.mem_cons.mp h).imp (fun h => by rw [h]) id⟩
  rw [e]
  exact propext ⟨fun h => h.2, fun h => ⟨strOk_of s, h⟩⟩
@[simp] theorem eqX_S (a b : String) (Q : Bool → Prop) : eqX (eS a) (eS b) Q = Q (decide (a = b)) := by
  unfold eqX
  rw [eqok_S.eq]
  exact propext ⟨fun h => h.2, fun h => ⟨⟨shaped_of eqok_S (by decide) a, shaped_of eqok_S (by decide) b⟩, h⟩⟩
@[simp] theorem optW_some (x : α) (Q : α → Prop) : optW (some x) Q = Q x := propext ⟨fun ⟨y, e, q⟩ => by cases e; exact q, fun q => ⟨x, rfl, q⟩⟩
@[simp] theorem optW_none (Q : α → Prop) : optW none Q = False := propext ⟨fun ⟨y, e, q⟩ => (by cases e), fun q => q.elim⟩
theorem atW_lit {l : List α} {i : Int} {x : α} (h : L2.atI l i = some x) (Q : α → Prop) : atW l i Q = Q x := propext ⟨fun ⟨y, e, q⟩ => by rw [h] at e; cases e; exact q, fun q => ⟨x, h, q⟩⟩
theorem atI_nat {l : List α} {i : Nat} : L2.atI l (i : Int) = l[i]? := by
  unfold L2.atI L2.ixN
  rw [if_pos (by omega)]
  by_cases h : (i : Int) < l.length
  · rw [if_pos h]; rfl
  · rw [if_neg h, List.getElem?_eq_none (by omega)]; rfl
@[simp] theorem atW_0 (x : α) (l : List α) (Q : α → Prop) : atW (x :: l) 0 Q = Q x := atW_lit (atI_nat (i := 0)) Q
@[simp] theorem atW_1 (x y : α) (l : List α) (Q : α → Prop) : atW (x :: y :: l) 1 Q = Q y := atW_lit (atI_nat (i := 1)) Q
@[simp] theorem atW_2 (x y z : α) (l : List α) (Q : α → Prop) : atW (x :: y :: z :: l) 2 Q = Q z := atW_lit (atI_nat (i := 2)) Q
@[simp] theorem atW_3 (x y z w : α) (l : List α) (Q : α → Prop) : atW (x :: y :: z :: w :: l) 3 Q = Q w := atW_lit (atI_nat (i := 3)) Q
theorem atW_get {l : List α} {i : Int} {x : α} (h0 : 0 ≤ i) (h : l[i.toNat]? = some x) (Q : α → Prop) : atW l i Q = Q x := by
  obtain ⟨n, rfl⟩ : ∃ n : Nat, i = n := ⟨i.toNat, by omega⟩
  exact atW_lit (by rw [atI_nat]; exact h) Q
theorem all_map_id (p : α → Bool) (l : List α) : (l.map p).all id = l.all p := by rw [List.all_map]; rfl
theorem any_map_id (p : α → Bool) (l : List α) : (l.map p).any id = l.any p := by rw [List.any_map]; rfl
@[simp] theorem cut_tail (l : List α) : PI.cutD l (some 1) none = l.tail := by
  unfold PI.cutD
  rw [HT.sIx_none, show (1 : Int) = ((1 : Nat) : Int) from rfl, HT.sIx_nat, ← List.drop_one]
  by_cases h : 1 ≤ l.length
  · rw [Nat.min_eq_left h, List.take_of_length_le (by simp)]
  · have : l = [] := List.length_eq_zero_iff.mp (by omega)
    subst this; rfl
theorem cut_take (l : List α) (n : Nat) : PI.cutD l none (some (n : Int)) = l.take n := by
  unfold PI.cutD
  rw [HT.sIx_none, HT.sIx_nat, List.drop_zero, Nat.sub_zero]
  by_cases h : n ≤ l.length
  · rw [Nat.min_eq_left h]
  · rw [Nat.min_eq_right (by omega), List.take_of_length_le (Nat.le_refl _), List.take_of_length_le (by omega)]
theorem cut_drop (l : List α) (n : Nat) : PI.cutD l (some (n : Int)) none = l.drop n := by
  unfold PI.cutD
  rw [HT.sIx_none, HT.sIx_nat]
  by_cases h : n ≤ l.length
  · rw [Nat.min_eq_left h, List.take_of_length_le (by simp)]
  · rw [Nat.min_eq_right (by omega), List.drop_eq_nil_of_le (Nat.le_refl _), List.drop_eq_nil_of_le (by omega)]; simp
end

/-! ### games -/
abbrev ROW := String × Int × List Int × List (Int × Int)
abbrev eROW : ROW → PyData := eP4 eS eI (eT eI) (eT (eP2 eI eI))
abbrev GAME := List ROW
structure GRow0 (n : Nat) (r : ROW) : Prop where
  own : r.1 = "keeper" ∨ r.1 = "foe"
  m0 : 0 ≤ r.2.1
  m1 : r.2.1 ≤ 1000
  mv0 : r.2.2.1 ≠ []
  mvA : r.2.2.1.Pairwise (· < ·)
  mvR : ∀ u ∈ r.2.2.1, 0 ≤ u ∧ u < n
  slA : (r.2.2.2.map (·.1)).Pairwise (· < ·)
  slR : ∀ p ∈ r.2.2.2, 0 ≤ p.1 ∧ p.1 < n ∧ 1 ≤ p.2 ∧ p.2 ≤ 1000
structure GRow (n : Nat) (r : ROW) : Prop extends GRow0 n r where
  foe : r.1 ≠ "keeper" → r.2.2.2 = []
structure GGame (g : GAME) : Prop where
  ne : g ≠ []
  len : g.length ≤ 100
  rows : ∀ r ∈ g, GRow g.length r
theorem asc_len : ∀ {l : List Int} {n : Nat} {lo : Int}, l.Pairwise (· < ·) → (∀ u ∈ l, lo ≤ u ∧ u < n) → 0 ≤ lo → (l.length : Int) ≤ n - lo ∨ l = []
  | [], _, _, _, _, _ => .inr rfl
  | x :: r, n, lo, h, hr, h0 => by
    rw [List.pairwise_cons] at h
    have hx := hr x (List.mem_cons_self ..)
    rcases asc_len (l := r) (n := n) (lo := x + 1) h.2 (fun u hu => ⟨by have := h.1 u hu; omega, (hr u (List.mem_cons_of_mem _ hu)).2⟩) (by omega) with h1 | h1
    · left; rw [List.length_cons]; omega
    · left; subst h1; simp; omega
theorem asc_le {l : List Int} {n : Nat} (h : l.Pairwise (· < ·)) (hr : ∀ u ∈ l, 0 ≤ u ∧ u < n) : l.length ≤ n := by
  rcases asc_len h hr (Int.le_refl 0) with h1 | h1
  · omega
  · subst h1; simp
theorem GRow0.mvL {n : Nat} {r : ROW} (h : GRow0 n r) : r.2.2.1.length ≤ n := asc_le h.mvA h.mvR
theorem GRow0.slL {n : Nat} {r : ROW} (h : GRow0 n r) : r.2.2.2.length ≤ n := by
  have := asc_le h.slA (n := n) fun u hu => by
    obtain ⟨p, hp, rfl⟩ := List.mem_map.mp hu
    exact ⟨(h.slR p hp).1, (h.slR p hp).2.1⟩
  simpa using this
theorem GGame.pos {g : GAME} (h : GGame g) : 0 < g.length := List.length_pos_iff.mpr h.ne
/-- neighbours ascend -/
theorem asc_zip : ∀ {l : List Int}, l.Pairwise (· < ·) → ∀ p ∈ l.zip l.tail, p.1 < p.2
  | [], _, p, hp => by simp at hp
  | [x], _, p, hp => by simp at hp
  | x :: y :: r, h, p, hp => by
    rw [List.pairwise_cons] at h
    have hp : p ∈ (x, y) :: (y :: r).zip r := hp
    rcases List.mem_cons.mp hp with rfl | hp
    · exact h.1 y (List.mem_cons_self ..)
    · exact asc_zip h.2 p hp
theorem asc_ok {l : List Int} (h : l.Pairwise (· < ·)) : ((l.zip l.tail).map fun y : Int × Int => decide (y.1 < y.2)).all id = true := by
  rw [all_map_id, List.all_eq_true]
  exact fun p hp => decide_eq_true (asc_zip h p hp)
end PI
set_option maxHeartbeats 1000000
/-! Own text: plain facts: sets of numbers, sorted pairs, dicts of pairs, orders. -/
namespace PI
open PySem PySem.Spec L2
open PyProof.Rows hiding St

theorem perm_erase {α : Type} : ∀ {l : List α} {i : Nat} (h : i < l.length), (l[i] :: l.eraseIdx i).Perm l
  | x :: r, 0, _ => List.Perm.refl _
  | x :: r, i + 1, h => (List.Perm.swap x _ _).trans ((perm_erase (l := r) (Nat.lt_of_succ_lt_succ h)).cons x)
theorem setL_ne {ns : List Int} (h : ns ≠ []) : setL ns ≠ [] := fun e => by
  obtain ⟨a, r, rfl⟩ := List.exists_cons_of_ne_nil h
  have : a ∈ setL (a :: r) := mem_setL.mpr (List.mem_cons_self ..)
  rw [e] at this
  exact List.not_mem_nil this
theorem sortI_pw {ns : List Int} (h : ns.Nodup) : (ns.mergeSort fun a b => decide (a ≤ b)).Pairwise (· < ·) := by
  have h1 : (ns.mergeSort fun a b => decide (a ≤ b)).Pairwise (fun a b => decide (a ≤ b) = true) := List.pairwise_mergeSort (fun a b c h1 h2 => by simp only [decide_eq_true_eq] at *; omega) (fun a b => by simp only [Bool.or_eq_true, decide_eq_true_eq]; omega) _
  have h2 := (List.mergeSort_perm ns fun a b => decide (a ≤ b)).nodup_iff.mpr h
  refine (h1.and h2).imp fun {a b} ⟨q1, q2⟩ => ?_
  have := of_decide_eq_true q1
  omega
theorem sortI_le (ns : List Int) : (ns.mergeSort fun a b => decide (a ≤ b)).Pairwise (· ≤ ·) :=
  (List.pairwise_mergeSort (le := fun a b : Int => decide (a ≤ b)) (fun a b c h1 h2 => by simp only [decide_eq_true_eq] at *; omega) (fun a b => by simp only [Bool.or_eq_true, decide_eq_true_eq]; omega) ns).imp fun h => of_decide_eq_true h
theorem mem_sortI {ns : List Int} {x : Int} : x ∈ (ns.mergeSort fun a b => decide (a ≤ b)) ↔ x ∈ ns := (List.mergeSort_perm ns _).mem_iff
theorem mem_sortII {ps : List (Int × Int)} {x : Int × Int} : x ∈ ps.mergeSort leII ↔ x ∈ ps := (List.mergeSort_perm ps _).mem_iff
theorem sortII_pw {ps : List (Int × Int)} (h : (ps.map (·.1)).Nodup) : ((ps.mergeSort leII).map (·.1)).Pairwise (· < ·) := by
  have h1 : (ps.mergeSort leII).Pairwise (fun a b => leII a b = true) := List.pairwise_mergeSort (fun a b c h1 h2 => by unfold leII at *; simp only [decide_eq_true_eq] at *; omega) (fun a b => by unfold leII; simp only [Bool.or_eq_true, decide_eq_true_eq]; omega) _
  have h2 : ((ps.mergeSort leII).map (·.1)).Nodup := ((List.mergeSort_perm ps leII).map (·.1)).nodup_iff.mpr h
  rw [List.pairwise_map]
  unfold List.Nodup at h2
  rw [List.pairwise_map] at h2
  refine (h1.and h2).imp fun {a b} ⟨q1, q2⟩ => ?_
  have q1 := of_decide_eq_true q1
  omega
theorem asc_nodup {l : List Int} (h : l.Pairwise (· < ·)) : l.Nodup := h.imp fun {a b} q => by omega
/-- slips as a dict -/
structure Sl (n : Nat) (ps : List (Int × Int)) : Prop where
  nd : (ps.map (·.1)).Nodup
  r : ∀ p ∈ ps, 0 ≤ p.1 ∧ p.1 < n ∧ 1 ≤ p.2 ∧ p.2 ≤ 1000
theorem Sl.nil (n : Nat) : Sl n [] := ⟨List.nodup_nil, fun p hp => (List.not_mem_nil hp).elim⟩
theorem Sl.one {n : Nat} {p : Int × Int} (h : 0 ≤ p.1 ∧ p.1 < n ∧ 1 ≤ p.2 ∧ p.2 ≤ 1000) : Sl n [p] := ⟨by simp, fun q hq => by rw [List.mem_singleton.mp hq]; exact h⟩
theorem dput_keys {κ α : Type} [DecidableEq κ] (l : List (κ × α)) (k : κ) (x : α) : (dput l k x).map (·.1) = if l.any (fun p => decide (p.1 = k)) then l.map (·.1) else l.map (·.1) ++ [k] := by
  unfold dput
  split
  · rw [List.map_map]
    refine List.map_congr_left fun p _ => ?_
    show (if p.1 = k then (p.1, x) else p).1 = p.1
    split <;> rfl
  · rw [List.map_append]; rfl
theorem mem_dput {κ α : Type} [DecidableEq κ] {l : List (κ × α)} {k : κ} {x : α} {p : κ × α} (h : p ∈ dput l k x) : p = (k, x) ∨ p ∈ l := by
  unfold dput at h
  split at h
  · obtain ⟨q, hq, e⟩ := List.mem_map.mp h
    by_cases hk : q.1 = k
    · rw [if_pos hk] at e
      left; rw [← e, hk]
    · rw [if_neg hk] at e
      right; rw [← e]; exact hq
  · rcases List.mem_append.mp h with h | h
    · exact .inr h
    · exact .inl (List.mem_singleton.mp h)
theorem dput_nd {κ α : Type} [DecidableEq κ] {l : List (κ × α)} (h : (l.map (·.1)).Nodup) (k : κ) (x : α) : ((dput l k x).map (·.1)).Nodup := by
  rw [dput_keys]
  split
  · exact h
  · rename_i hk
    rw [List.nodup_append]
    refine ⟨h, by simp, fun a ha b hb => ?_⟩
    rw [List.mem_singleton.mp hb]
    intro e
    apply hk
    obtain ⟨p, hp, rfl⟩ := List.mem_map.mp ha
    exact List.any_eq_true.mpr ⟨p, hp, decide_eq_true e⟩
theorem Sl.put {n : Nat} {ps : List (Int × Int)} (h : Sl n ps) {u w : Int} (h1 : 0 ≤ u ∧ u < n ∧ 1 ≤ w ∧ w ≤ 1000) : Sl n (dput ps u w) := ⟨dput_nd h.nd u w, fun p hp => by
  rcases mem_dput hp with rfl | hp
  · exact h1
  · exact h.r p hp⟩
theorem Sl.len {n : Nat} {ps : List (Int × Int)} (h : Sl n ps) : ps.length ≤ n := by
  have := asc_le (sortII_pw h.nd) (n := n) fun u hu => by
    obtain ⟨p, hp, rfl⟩ := List.mem_map.mp hu
    exact ⟨(h.r p (mem_sortII.mp hp)).1, (h.r p (mem_sortII.mp hp)).2.1⟩
  rw [List.length_map, List.length_mergeSort] at this
  exact this
/-- a row with drawn moves and slips -/
theorem GRow0.mk' {n : Nat} {o : String} {m : Int} {mv : List Int} {ps : List (Int × Int)} (ho : o = "keeper" ∨ o = "foe") (m0 : 0 ≤ m) (m1 : m ≤ 1000) (h0 : mv ≠ []) (hA : mv.Pairwise (· < ·)) (hR : ∀ u ∈ mv, 0 ≤ u ∧ u < n) (hs : Sl n ps) : GRow0 n (o, m, mv, ps.mergeSort leII) :=
  ⟨ho, m0, m1, h0, hA, hR, sortII_pw hs.nd, fun p hp => hs.r p (mem_sortII.mp hp)⟩
/-- an order of so many -/
structure Ord (n : Nat) (o : List Int) : Prop where
  len : o.length = n
  nd : o.Nodup
  r : ∀ x ∈ o, 0 ≤ x ∧ x < n
theorem rangeI_perm_ord {n : Nat} {o : List Int} (h : o.Perm (rangeI 0 n)) : Ord n o := ⟨by rw [h.length_eq, rangeI_len], h.nodup_iff.mpr (by
  unfold rangeI
  rw [List.Nodup, List.pairwise_map]
  exact (List.nodup_range (n := n)).imp fun {a b} h => by omega), fun x hx => by
  have := mem_rangeI.mp (h.mem_iff.mp hx)
  omega⟩
/-- pigeons -/
theorem Ord.all {n : Nat} {o : List Int} (h : Ord n o) {x : Int} (h0 : 0 ≤ x) (h1 : x < n) : x ∈ o := by
  have pw := sortI_pw h.nd
  have hr : ∀ u ∈ (o.mergeSort fun a b => decide (a ≤ b)), 0 ≤ u ∧ u < n := fun u hu => h.r u (mem_sortI.mp hu)
  have hl : (o.mergeSort fun a b => decide (a ≤ b)).length = n := by rw [List.length_mergeSort]; exact h.len
  -- an ascending list of n numbers below n has each at its place
  have key : ∀ (l : List Int) (lo : Int), l.Pairwise (· < ·) → (∀ u ∈ l, lo ≤ u ∧ u < n) → (l.length : Int) = n - lo → ∀ y, lo ≤ y → y < n → y ∈ l := by
    intro l
    induction l with
    | nil => intro lo _ _ e y a b; simp at e; omega
    | cons z r ih =>
      intro lo pw hr e y a b
      rw [List.pairwise_cons] at pw
      have hz := hr z (List.mem_cons_self ..)
      have rest : ∀ u ∈ r, z + 1 ≤ u ∧ u < n := fun u hu => ⟨by have := pw.1 u hu; omega, (hr u (List.mem_cons_of_mem _ hu)).2⟩
      rw [List.length_cons] at e
      have hlo : z = lo := by
        rcases asc_len' r n (z + 1) pw.2 rest with h | h
        · omega
        · subst h; simp at e; omega
      by_cases hy : y = z
      · subst hy; exact List.mem_cons_self ..
      · exact List.mem_cons_of_mem _ (ih (z + 1) pw.2 rest (by omega) y (by omega) b)
  exact mem_sortI.mp (key _ 0 pw hr (by rw [hl]; omega) x h0 h1)
where
  asc_len' : ∀ (l : List Int) (n : Nat) (lo : Int), l.Pairwise (· < ·) → (∀ u ∈ l, lo ≤ u ∧ u < n) → (l.length : Int) ≤ n - lo ∨ l = []
  | [], _, _, _, _ => .inr rfl
  | x :: r, n, lo, h, hr => by
    rw [List.pairwise_cons] at h
    have hx := hr x (List.mem_cons_self ..)
    rcases asc_len' r n (x + 1) h.2 (fun u hu => ⟨by have := h.1 u hu; omega, (hr u (List.mem_cons_of_mem _ hu)).2⟩) with h1 | h1
    · left; rw [List.length_cons]; omega
    · left; subst h1; simp; omega
/-- the name of a place -/
def nmO (o : List Int) (i : Int) : Int := (o[i.toNat]?).getD 0
theorem Ord.at_ {n : Nat} {o : List Int} (h : Ord n o) {i : Int} (h0 : 0 ≤ i) (h1 : i < n) : o[i.toNat]? = some (nmO o i) ∧ nmO o i ∈ o := by
  have hi : i.toNat < o.length := by rw [h.len]; omega
  unfold nmO
  rw [List.getElem?_eq_getElem hi]
  exact ⟨rfl, List.getElem_mem hi⟩
theorem Ord.inj {n : Nat} {o : List Int} (h : Ord n o) {i j : Int} (h0 : 0 ≤ i ∧ i < n) (h1 : 0 ≤ j ∧ j < n) (e : nmO o i = nmO o j) : i = j := by
  have hi : i.toNat < o.length := by rw [h.len]; omega
  have hj : j.toNat < o.length := by rw [h.len]; omega
  unfold nmO at e
  rw [List.getElem?_eq_getElem hi, List.getElem?_eq_getElem hj] at e
  have e : o[i.toNat] = o[j.toNat] := e
  have pw := List.pairwise_iff_getElem.mp h.nd
  rcases Nat.lt_trichotomy i.toNat j.toNat with q | q | q
  · exact absurd e (pw _ _ hi hj q)
  · omega
  · exact absurd e.symm (pw _ _ hj hi q)
theorem Ord.rng {n : Nat} {o : List Int} (h : Ord n o) {i : Int} (h0 : 0 ≤ i) (h1 : i < n) : 0 ≤ nmO o i ∧ nmO o i < n := h.r _ (h.at_ h0 h1).2
theorem Ord.nodup_map {n : Nat} {o : List Int} (h : Ord n o) {l : List Int} (hl : l.Nodup) (hr : ∀ u ∈ l, 0 ≤ u ∧ u < n) : (l.map (nmO o)).Nodup := by
  rw [List.Nodup, List.pairwise_map]
  have : l.Pairwise fun a b => a ∈ l ∧ b ∈ l ∧ a ≠ b := by
    have h2 : ∀ {a b : Int}, [a, b].Sublist l → a ≠ b := List.pairwise_iff_forall_sublist.mp hl
    refine List.pairwise_iff_forall_sublist.mpr fun {a b} hs => ⟨hs.subset (by simp), hs.subset (by simp), h2 hs⟩
  exact this.imp fun {a b} ⟨ha, hb, hn⟩ e => hn (h.inj (hr a ha) (hr b hb) e)
theorem Ord.row {n : Nat} {o : List Int} (h : Ord n o) {r : ROW} (hr : GRow n r) : GRow n (r.1, r.2.1, (r.2.2.1.map (nmO o)).mergeSort (fun a b => decide (a ≤ b)), (r.2.2.2.map fun p => (nmO o p.1, p.2)).mergeSort leII) := by
  have nd2 : ((r.2.2.2.map fun p => (nmO o p.1, p.2)).map (·.1)).Nodup := by
    rw [List.map_map]
    have : ((r.2.2.2.map (·.1)).map (nmO o)).Nodup := h.nodup_map (asc_nodup hr.slA) fun u hu => by
      obtain ⟨p, hp, rfl⟩ := List.mem_map.mp hu
      exact ⟨(hr.slR p hp).1, (hr.slR p hp).2.1⟩
    rw [List.map_map] at this
    exact this
  refine ⟨⟨hr.own, hr.m0, hr.m1, fun e => ?_, sortI_pw (h.nodup_map (asc_nodup hr.mvA) hr.mvR), fun u hu => ?_, sortII_pw nd2, fun p hp => ?_⟩, fun hk => ?_⟩
  · have : (r.2.2.1.map (nmO o)) = [] := by
      have e2 := congrArg List.length e
      simp only [List.length_mergeSort] at e2
      exact List.length_eq_zero_iff.mp (by simpa using e2)
    exact hr.mv0 (List.map_eq_nil_iff.mp this)
  · obtain ⟨v, hv, rfl⟩ := List.mem_map.mp (mem_sortI.mp hu)
    exact h.rng (hr.mvR v hv).1 (hr.mvR v hv).2
  · obtain ⟨q, hq, rfl⟩ := List.mem_map.mp (mem_sortII.mp hp)
    have := hr.slR q hq
    have := h.rng this.1 this.2.1
    have := hr.slR q hq
    exact ⟨by omega, by omega, this.2.2⟩
  · show (r.2.2.2.map _).mergeSort leII = []
    rw [hr.foe hk]; simp
end PI
set_option maxHeartbeats 1000000
/-! Own text: plain plays: steps, walks, weights. -/
namespace PI
open PySem PySem.Spec L2
open PyProof.Rows hiding St

abbrev STEPS := List (Int × String)
abbrev eSTEPS : STEPS → PyData := eT (eP2 eI eS)
def rowA (g : GAME) (v : Int) : ROW := (g[v.toNat]?).getD ("", 0, [], [])
theorem GGame.at_ {g : GAME} (h : GGame g) {v : Int} (h0 : 0 ≤ v) (h1 : v < g.length) : g[v.toNat]? = some (rowA g v) ∧ GRow g.length (rowA g v) := by
  have hi : v.toNat < g.length := by omega
  unfold rowA
  rw [List.getElem?_eq_getElem hi]
  exact ⟨rfl, h.rows _ (List.getElem_mem hi)⟩
theorem atW_row {g : GAME} (h : GGame g) {v : Int} (h0 : 0 ≤ v) (h1 : v < g.length) (Q : ROW → Prop) : atW g v Q = Q (rowA g v) := atW_get h0 (h.at_ h0 h1).1 Q
def edge (g : GAME) (v : Int) (how : String) (u : Int) : Prop := (0 ≤ v ∧ v < g.length) ∧ ((how = "move" ∧ u ∈ (rowA g v).2.2.1) ∨ (how = "slip" ∧ u ∈ (rowA g v).2.2.2.map (·.1)))
def hd (s : STEPS) (e : Int) : Int := match s with
  | [] => e
  | p :: _ => p.1
def Walk (g : GAME) : STEPS → Int → Prop
  | [], e => 0 ≤ e ∧ e < g.length
  | p :: r, e => edge g p.1 p.2 (hd r e) ∧ Walk g r e
/-- the weight of a slip -/
def slw (g : GAME) (v u : Int) : Int := (dget (rowA g v).2.2.2 u).getD 0
def wt1 (g : GAME) (v : Int) (how : String) (u : Int) : Int := if how = "slip" then slw g v u else 0
def wts (g : GAME) : STEPS → Int → Int
  | [], _ => 0
  | p :: r, e => wt1 g p.1 p.2 (hd r e) + wts g r e
/-- steps with where they lead -/
def tgt : STEPS → Int → List ((Int × String) × Int)
  | [], _ => []
  | p :: r, e => (p, hd r e) :: tgt r e
theorem zip_tgt : ∀ (s : STEPS) (e : Int), s.zip (s.tail.map (·.1) ++ [e]) = tgt s e
  | [], e => rfl
  | [p], e => rfl
  | p :: q :: r, e => by
    have := zip_tgt (q :: r) e
    show (p, q.1) :: (q :: r).zip (r.map (·.1) ++ [e]) = (p, q.1) :: tgt (q :: r) e
    exact congrArg _ this
theorem edge_to {g : GAME} (h : GGame g) {v u : Int} {how : String} (e : edge g v how u) : 0 ≤ u ∧ u < g.length := by
  obtain ⟨⟨h0, h1⟩, e⟩ := e
  have r := (h.at_ h0 h1).2
  rcases e with ⟨_, e⟩ | ⟨_, e⟩
  · exact r.mvR u e
  · obtain ⟨p, hp, rfl⟩ := List.mem_map.mp e
    exact ⟨(r.slR p hp).1, (r.slR p hp).2.1⟩
theorem Walk.hd {g : GAME} : ∀ {s : STEPS} {e : Int}, Walk g s e → 0 ≤ PI.hd s e ∧ PI.hd s e < g.length
  | [], e, h => h
  | p :: r, e, h => h.1.1
theorem Walk.end_ {g : GAME} : ∀ {s : STEPS} {e : Int}, Walk g s e → 0 ≤ e ∧ e < g.length
  | [], e, h => h
  | p :: r, e, h => Walk.end_ h.2
theorem Walk.rng {g : GAME} : ∀ {s : STEPS} {e : Int}, Walk g s e → ∀ p ∈ s, 0 ≤ p.1 ∧ p.1 < g.length ∧ (p.2 = "move" ∨ p.2 = "slip")
  | [], e, h, p, hp => (List.not_mem_nil hp).elim
  | q :: r, e, h, p, hp => by
    rcases List.mem_cons.mp hp with rfl | hp
    · exact ⟨h.1.1.1, h.1.1.2, h.1.2.imp (·.1) (·.1)⟩
    · exact Walk.rng h.2 p hp
theorem Walk.tgt {g : GAME} : ∀ {s : STEPS} {e : Int}, Walk g s e → ∀ q ∈ PI.tgt s e, edge g q.1.1 q.1.2 q.2
  | [], e, h, q, hq => (List.not_mem_nil hq).elim
  | p :: r, e, h, q, hq => by
    rcases List.mem_cons.mp hq with rfl | hq
    · exact h.1
    · exact Walk.tgt h.2 q hq
theorem hd_app (s t : STEPS) (e : Int) : hd (s ++ t) e = hd s (hd t e) := by cases s <;> rfl
theorem Walk.app {g : GAME} : ∀ {s t : STEPS} {e : Int}, Walk g (s ++ t) e ↔ Walk g s (PI.hd t e) ∧ Walk g t e
  | [], t, e => ⟨fun h => ⟨h.hd, h⟩, fun h => h.2⟩
  | p :: r, t, e => by
    show edge g p.1 p.2 (PI.hd (r ++ t) e) ∧ Walk g (r ++ t) e ↔ (edge g p.1 p.2 (PI.hd r (PI.hd t e)) ∧ Walk g r (PI.hd t e)) ∧ Walk g t e
    rw [hd_app, Walk.app (s := r)]
    exact ⟨fun ⟨a, b, c⟩ => ⟨⟨a, b⟩, c⟩, fun ⟨⟨a, b⟩, c⟩ => ⟨a, b, c⟩⟩
theorem wts_app (g : GAME) : ∀ (s t : STEPS) (e : Int), wts g (s ++ t) e = wts g s (hd t e) + wts g t e
  | [], t, e => by show wts g t e = 0 + wts g t e; omega
  | p :: r, t, e => by
    show wt1 g p.1 p.2 (hd (r ++ t) e) + wts g (r ++ t) e = (wt1 g p.1 p.2 (hd r (hd t e)) + wts g r (hd t e)) + wts g t e
    rw [hd_app, wts_app g r]; omega
/-! ### dicts made of slips -/
theorem dput_new {κ α : Type} [DecidableEq κ] {l : List (κ × α)} {k : κ} {x : α} (h : k ∉ l.map (·.1)) : dput l k x = l ++ [(k, x)] := by
  unfold dput
  rw [if_neg]
  intro q
  obtain ⟨p, hp, e⟩ := List.any_eq_true.mp q
  exact h (List.mem_map.mpr ⟨p, hp, of_decide_eq_true e⟩)
theorem dmk_nd {κ α : Type} [DecidableEq κ] {l : List (κ × α)} (h : (l.map (·.1)).Nodup) : dmk l = l := by
  have go : ∀ (r acc : List (κ × α)), ((acc ++ r).map (·.1)).Nodup → r.foldl (fun acc p => dput acc p.1 p.2) acc = acc ++ r := by
    intro r
    induction r with
    | nil => intro acc _; simp
    | cons p r ih =>
      intro acc h
      have hn : p.1 ∉ acc.map (·.1) := by
        rw [List.map_append, List.nodup_append] at h
        exact fun q => h.2.2 _ q _ (by simp) rfl
      rw [List.foldl_cons, dput_new hn]
      have e : acc ++ [p] ++ r = acc ++ p :: r := by simp
      have := ih (acc ++ [p]) (by rw [e]; exact h)
      rw [show acc ++ [(p.1, p.2)] = acc ++ [p] from rfl, this, e]
  exact go l [] h
theorem dget_mem {κ α : Type} [DecidableEq κ] : ∀ {l : List (κ × α)}, (l.map (·.1)).Nodup → ∀ {k : κ} {x : α}, (k, x) ∈ l → dget l k = some x
  | [], _, k, x, h => (List.not_mem_nil h).elim
  | p :: r, nd, k, x, h => by
    rw [List.map_cons, List.nodup_cons] at nd
    unfold dget
    rw [List.find?_cons]
    rcases List.mem_cons.mp h with h | h
    · subst h
      rw [decide_eq_true rfl]; rfl
    · have : p.1 ≠ k := fun e => nd.1 (e ▸ List.mem_map.mpr ⟨(k, x), h, rfl⟩)
      rw [decide_eq_false this]
      exact dget_mem nd.2 h
theorem dget_isSome {κ α : Type} [DecidableEq κ] (k : κ) : ∀ (l : List (κ × α)), (dget l k).isSome = decide (k ∈ l.map (·.1))
  | [] => by simp [dget]
  | p :: r => by
    have ih := dget_isSome k r
    unfold dget at *
    rw [List.find?_cons]
    by_cases h : p.1 = k
    · rw [decide_eq_true h]; simp [h]
    · rw [decide_eq_false h]
      simp only [List.map_cons, List.mem_cons]
      rw [ih]
      exact decide_eq_decide.mpr ⟨.inr, fun q => q.resolve_left fun e => h e.symm⟩
theorem GRow0.dmk {n : Nat} {r : ROW} (h : GRow0 n r) : PI.dmk r.2.2.2 = r.2.2.2 := dmk_nd (asc_nodup h.slA)
theorem slw_get {g : GAME} (h : GGame g) {v u : Int} (e : edge g v "slip" u) : dget (rowA g v).2.2.2 u = some (slw g v u) ∧ 1 ≤ slw g v u ∧ slw g v u ≤ 1000 := by
  obtain ⟨⟨h0, h1⟩, e⟩ := e
  have r := (h.at_ h0 h1).2
  rcases e with ⟨e, _⟩ | ⟨_, e⟩
  · exact absurd e (by decide)
  · obtain ⟨p, hp, rfl⟩ := List.mem_map.mp e
    have := dget_mem (asc_nodup r.slA) (k := p.1) (x := p.2) hp
    unfold slw
    rw [this]
    exact ⟨rfl, (r.slR p hp).2.2⟩
theorem wts_bd {g : GAME} (h : GGame g) : ∀ {s : STEPS} {e : Int}, Walk g s e → 0 ≤ wts g s e ∧ wts g s e ≤ 1000 * s.length
  | [], e, _ => ⟨Int.le_refl _, Int.le_refl _⟩
  | p :: r, e, hw => by
    have ih := wts_bd h hw.2
    have : 0 ≤ wt1 g p.1 p.2 (hd r e) ∧ wt1 g p.1 p.2 (hd r e) ≤ 1000 := by
      unfold wt1
      split
      · rename_i hk
        have := hw.1
        rw [hk] at this
        have := slw_get h this
        omega
      · omega
    show 0 ≤ wt1 g p.1 p.2 (hd r e) + wts g r e ∧ _ ≤ _
    rw [List.length_cons]
    show _ ∧ wt1 g p.1 p.2 (hd r e) + wts g r e ≤ _
    omega
/-- what the program sums up -/
theorem sum_tgt (g : GAME) : ∀ (s : STEPS) (e : Int), (((tgt s e).filter fun y => decide (y.1.2 = "slip")).map fun y => slw g y.1.1 y.2).sum = wts g s e
  | [], e => rfl
  | p :: r, e => by
    have ih := sum_tgt g r e
    show (((p, hd r e) :: tgt r e).filter _ |>.map _).sum = wt1 g p.1 p.2 (hd r e) + wts g r e
    rw [List.filter_cons]
    unfold wt1
    by_cases h : p.2 = "slip"
    · rw [if_pos (decide_eq_true h), if_pos h, List.map_cons, List.sum_cons, ih]
    · rw [if_neg (by simp [h]), if_neg h, ih]; omega
theorem tgt_len (s : STEPS) (e : Int) : (tgt s e).length = s.length := by
  induction s with
  | nil => rfl
  | cons p r ih => show (tgt r e).length + 1 = _; rw [ih]; rfl
/-- lassos -/
structure Las (g : GAME) (s t : STEPS) : Prop where
  ne : t ≠ []
  w : Walk g (s ++ t) (hd t 0)
theorem Las.w1 {g : GAME} {s t : STEPS} (h : Las g s t) : Walk g s (hd t 0) := by
  have := (Walk.app.mp h.w).1
  obtain ⟨p, r, rfl⟩ := List.exists_cons_of_ne_nil h.ne
  exact this
theorem Las.w2 {g : GAME} {s t : STEPS} (h : Las g s t) : Walk g t (hd t 0) := (Walk.app.mp h.w).2
theorem Las.hh {g : GAME} {s t : STEPS} (h : Las g s t) (e : Int) : hd t e = hd t 0 := by
  obtain ⟨p, r, rfl⟩ := List.exists_cons_of_ne_nil h.ne
  rfl
end PI
set_option maxHeartbeats 1000000
/-! Own text: what repr may be asked to show. -/
namespace PI
open PySem PySem.Spec L2
open PyProof.Rows hiding St

/-- sound, shown by so many signs, so deep -/
structure Gz (w dp : Nat) (x : PyData) : Prop where
  ok : okS x = true
  w : wt x ≤ w
  dp : x.depth ≤ dp
theorem Gz.le {w w2 dp dp2 : Nat} {x : PyData} (h : Gz w dp x) (h1 : w ≤ w2) (h2 : dp ≤ dp2) : Gz w2 dp2 x := ⟨h.ok, Nat.le_trans h.w h1, Nat.le_trans h.dp h2⟩
theorem Gz.fine {w dp : Nat} {x : PyData} (h : Gz w dp x) (h1 : w ≤ 16777216) (h2 : dp ≤ 64) : Fine x := ⟨h.ok, Nat.le_trans h.dp h2, Nat.le_trans h.w h1⟩
theorem gz_I {i : Int} (h : i.natAbs < 1000000000000) : Gz 1922 0 (eI i) := ⟨by
  show decide _ = true
  exact decide_eq_true (log_small (Nat.lt_trans h (by decide))), Nat.le_refl _, Nat.le_refl _⟩
theorem gz_B (b : Bool) : Gz 5 0 (eB b) := ⟨rfl, Nat.le_refl _, Nat.le_refl _⟩
theorem gz_S {s : String} {n : Nat} (h : (Str.ofString s).length ≤ n) : Gz (10 * n + 2) 0 (eS s) := ⟨strOk_of s, by show 10 * _ + 2 ≤ _; omega, Nat.le_refl _⟩
theorem gz_N {x : Nm} (hi : ∀ i, x = .i i → i.natAbs < 1000000000000) (hs : ∀ s, x = .s s → (Str.ofString s).length ≤ 100) : Gz 1922 0 (eN x) := by
  cases x with
  | i i => exact gz_I (hi i rfl)
  | s s => exact (gz_S (hs s rfl)).le (by decide) (Nat.le_refl _)
section
variable {α β γ δ : Type} {ea : α → PyData} {eb : β → PyData} {ec : γ → PyData} {ed : δ → PyData}
theorem gz_all {w dp : Nat} : ∀ {l : List PyData}, (∀ x ∈ l, Gz w dp x) → okAll l = true ∧ wtAll l ≤ (w + 2) * l.length ∧ PyData.depthAll l ≤ dp
  | [], _ => ⟨rfl, Nat.zero_le _, Nat.zero_le _⟩
  | x :: r, h => by
    obtain ⟨a, b, c⟩ := gz_all (l := r) fun y hy => h y (List.mem_cons_of_mem _ hy)
    have hx := h x (List.mem_cons_self ..)
    have := hx.w
    refine ⟨by show (okS x && okAll r) = true; rw [hx.ok, a]; rfl, ?_, Nat.max_le.mpr ⟨hx.dp, c⟩⟩
    show wt x + 2 + wtAll r ≤ _
    rw [List.length_cons, Nat.mul_succ]; omega
theorem gz_tuple {w dp : Nat} {l : List PyData} (h : ∀ x ∈ l, Gz w dp x) : Gz ((w + 2) * l.length + 3) (dp + 1) (.tuple l) := by
  obtain ⟨a, b, c⟩ := gz_all h
  exact ⟨a, by show wtAll l + 3 ≤ _; omega, Nat.succ_le_succ c⟩
theorem gz_list {w dp : Nat} {l : List PyData} (h : ∀ x ∈ l, Gz w dp x) : Gz ((w + 2) * l.length + 3) (dp + 1) (.list l) := by
  obtain ⟨a, b, c⟩ := gz_all h
  exact ⟨a, by show wtAll l + 3 ≤ _; omega, Nat.succ_le_succ c⟩
theorem gz_T {w dp n : Nat} {l : List α} (h : ∀ x ∈ l, Gz w dp (ea x)) (hn : l.length ≤ n) : Gz ((w + 2) * n + 3) (dp + 1) (eT ea l) :=
  (gz_tuple (l := l.map ea) fun x hx => by obtain ⟨y, hy, rfl⟩ := List.mem_map.mp hx; exact h y hy).le (by rw [List.length_map]; exact Nat.add_le_add_right (Nat.mul_le_mul_left _ hn) 3) (Nat.le_refl _)
theorem gz_L {w dp n : Nat} {l : List α} (h : ∀ x ∈ l, Gz w dp (ea x)) (hn : l.length ≤ n) : Gz ((w + 2) * n + 3) (dp + 1) (eL ea l) :=
  (gz_list (l := l.map ea) fun x hx => by obtain ⟨y, hy, rfl⟩ := List.mem_map.mp hx; exact h y hy).le (by rw [List.length_map]; exact Nat.add_le_add_right (Nat.mul_le_mul_left _ hn) 3) (Nat.le_refl _)
theorem gz_P2 {w dp : Nat} {p : α × β} (h1 : Gz w dp (ea p.1)) (h2 : Gz w dp (eb p.2)) : Gz ((w + 2) * 2 + 3) (dp + 1) (eP2 ea eb p) := gz_tuple (l := [ea p.1, eb p.2]) (by simp [h1, h2])
theorem gz_P3 {w dp : Nat} {p : α × β × γ} (h1 : Gz w dp (ea p.1)) (h2 : Gz w dp (eb p.2.1)) (h3 : Gz w dp (ec p.2.2)) : Gz ((w + 2) * 3 + 3) (dp + 1) (eP3 ea eb ec p) := gz_tuple (l := [ea p.1, eb p.2.1, ec p.2.2]) (by simp [h1, h2, h3])
theorem gz_P4 {w dp : Nat} {p : α × β × γ × δ} (h1 : Gz w dp (ea p.1)) (h2 : Gz w dp (eb p.2.1)) (h3 : Gz w dp (ec p.2.2.1)) (h4 : Gz w dp (ed p.2.2.2)) : Gz ((w + 2) * 4 + 3) (dp + 1) (eP4 ea eb ec ed p) := gz_tuple (l := [ea p.1, eb p.2.1, ec p.2.2.1, ed p.2.2.2]) (by simp [h1, h2, h3, h4])
theorem reprW_of {x : α} {Q : Str → Prop} {w dp : Nat} (h : Gz w dp (ea x)) (h1 : w ≤ 16777216) (h2 : dp ≤ 64) (q : Q (ea x).shown) : reprW ea x Q := ⟨h.fine h1 h2, q⟩
end
end PI
set_option maxHeartbeats 400000
/-! ### the text by places -/
namespace K13
open PySem PySem.Spec L2 PI
open PyProof.Rows hiding St
def top (i : Nat) : Stmt := PySem.Challenge.pw_howmanyslips_k13_whole_paths_put_togethe.main.body.getD i (.Pass ⟨0, 0, 0, 0⟩)
def DEP : Nat := 60
def G (L : Nat) : GS where
  L := L
  bx := fun p => decide (p = ⟨118, 11, 118, 72⟩) || decide (p = ⟨118, 20, 118, 43⟩) || decide (p = ⟨133, 19, 133, 36⟩) || decide (p = ⟨133, 38, 133, 40⟩) || decide (p = ⟨138, 12, 138, 22⟩) || decide (p = ⟨143, 11, 143, 13⟩) || decide (p = ⟨146, 16, 146, 78⟩) || decide (p = ⟨150, 11, 150, 75⟩) || decide (p = ⟨153, 19, 153, 21⟩) || decide (p = ⟨157, 16, 157, 18⟩) || decide (p = ⟨163, 11, 163, 13⟩) || decide (p = ⟨175, 23, 175, 25⟩) || decide (p = ⟨190, 12, 190, 14⟩)
  gk := fun x => if x = "KEEPER" then some (.p (.str "keeper")) else if x = "FOE" then some (.p (.str "foe")) else if x = "MOVE" then some (.p (.str "move")) else if x = "SLIP" then some (.p (.str "slip")) else if x = "ENDLESS" then some (.p (.str "endless")) else none
  bl := fun x => (["sorted", "sum", "zip", "enumerate", "set", "len", "int", "str", "max", "list", "tuple", "isinstance", "repr", "all", "range", "bool", "dict"] : List Str).contains x
abbrev s__law_deck : Stmt := top 44
def ft__law_deck : FT := ⟨["script"], ["script", "mixed", "cell"], defScope s__law_deck, defBody s__law_deck⟩
abbrev s__law_draw : Stmt := top 45
def ft__law_draw : FT := ⟨["deck", "many"], ["deck", "many", "cell", "mark"], defScope s__law_draw, defBody s__law_draw⟩
abbrev s__law_pick : Stmt := top 46
def ft__law_pick : FT := ⟨["deck", "some"], ["deck", "some"], defScope s__law_pick, defBody s__law_pick⟩
abbrev s__law_ladder : Stmt := top 49
def ft__law_ladder : FT := ⟨["deck", "n"], ["deck", "n", "rows", "v", "turn", "back", "slips", "row"], defScope s__law_ladder, defBody s__law_ladder⟩
abbrev s__law_ring : Stmt := top 51
def ft__law_ring : FT := ⟨["deck", "n"], ["deck", "n", "rows", "v", "owner", "across", "moves", "slips"], defScope s__law_ring, defBody s__law_ring⟩
abbrev s__law_any_rows : Stmt := top 50
def ft__law_any_rows : FT := ⟨["deck", "n"], ["deck", "n", "rows", "marks", "v", "owner", "turn", "moves", "slips"], defScope s__law_any_rows, defBody s__law_any_rows⟩
abbrev s__law_order : Stmt := top 47
def ft__law_order : FT := ⟨["deck", "many"], ["deck", "many", "left", "found"], defScope s__law_order, defBody s__law_order⟩
abbrev s__law_called : Stmt := top 48
def ft__law_called : FT := ⟨["game", "names"], ["game", "names", "found", "v", "owner", "mark", "moves", "slips", "u", "w"], defScope s__law_called, defBody s__law_called⟩
abbrev s__law_game : Stmt := top 52
def ft__law_game : FT := ⟨["deck", "sizes"], ["deck", "sizes", "n", "way", "rows", "row", "names", "left", "found"], defScope s__law_game, defBody s__law_game⟩
abbrev s__law_steps_from : Stmt := top 54
def ft__law_steps_from : FT := ⟨["game", "v"], ["game", "v", "u", "w"], defScope s__law_steps_from, defBody s__law_steps_from⟩
abbrev s__law_walk : Stmt := top 55
def ft__law_walk : FT := ⟨["deck", "game", "here", "many"], ["deck", "game", "here", "many", "steps", "turn", "how", "u"], defScope s__law_walk, defBody s__law_walk⟩
abbrev s__law_weight : Stmt := top 53
def ft__law_weight : FT := ⟨["game", "steps", "here"], ["game", "steps", "here", "found", "at", "v", "how", "u"], defScope s__law_weight, defBody s__law_weight⟩
abbrev s_is_tuple : Stmt := top 11
def ft_is_tuple : FT := ⟨["thing", "length"], ["thing", "length"], defScope s_is_tuple, defBody s_is_tuple⟩
abbrev s_is_word : Stmt := top 12
def ft_is_word : FT := ⟨["thing", "words"], ["thing", "words"], defScope s_is_word, defBody s_is_word⟩
abbrev s_is_integer : Stmt := top 8
def ft_is_integer : FT := ⟨["thing"], ["thing"], defScope s_is_integer, defBody s_is_integer⟩
abbrev s_is_from : Stmt := top 9
def ft_is_from : FT := ⟨["thing", "least"], ["thing", "least"], defScope s_is_from, defBody s_is_from⟩
abbrev s_is_between : Stmt := top 10
def ft_is_between : FT := ⟨["thing", "least", "most"], ["thing", "least", "most"], defScope s_is_between, defBody s_is_between⟩
abbrev s_do_ascend : Stmt := top 13
def ft_do_ascend : FT := ⟨["items"], ["items", "one", "other"], defScope s_do_ascend, defBody s_do_ascend⟩
abbrev s_are_moves : Stmt := top 14
def ft_are_moves : FT := ⟨["thing", "many"], ["thing", "many", "u"], defScope s_are_moves, defBody s_are_moves⟩
abbrev s_is_slip : Stmt := top 15
def ft_is_slip : FT := ⟨["thing", "many"], ["thing", "many"], defScope s_is_slip, defBody s_is_slip⟩
abbrev s_are_slips : Stmt := top 16
def ft_are_slips : FT := ⟨["thing", "many"], ["thing", "many", "slip"], defScope s_are_slips, defBody s_are_slips⟩
abbrev s_is_place_row : Stmt := top 17
def ft_is_place_row : FT := ⟨["thing", "many"], ["thing", "many"], defScope s_is_place_row, defBody s_is_place_row⟩
abbrev s_is_game_value : Stmt := top 18
def ft_is_game_value : FT := ⟨["thing"], ["thing", "row"], defScope s_is_game_value, defBody s_is_game_value⟩
abbrev s_need_game : Stmt := top 19
def ft_need_game : FT := ⟨["game"], ["game"], defScope s_need_game, defBody s_need_game⟩
abbrev s_is_place_of : Stmt := top 20
def ft_is_place_of : FT := ⟨["game", "thing"], ["game", "thing"], defScope s_is_place_of, defBody s_is_place_of⟩
abbrev s_is_step : Stmt := top 28
def ft_is_step : FT := ⟨["game", "thing"], ["game", "thing"], defScope s_is_step, defBody s_is_step⟩
abbrev s_are_steps : Stmt := top 29
def ft_are_steps : FT := ⟨["game", "thing"], ["game", "thing", "step"], defScope s_are_steps, defBody s_are_steps⟩
abbrev s_moves_of : Stmt := top 21
def ft_moves_of : FT := ⟨["game", "place"], ["game", "place"], defScope s_moves_of, defBody s_moves_of⟩
abbrev s_slips_of : Stmt := top 22
def ft_slips_of : FT := ⟨["game", "place"], ["game", "place"], defScope s_slips_of, defBody s_slips_of⟩
abbrev s_weight_of_slip : Stmt := top 23
def ft_weight_of_slip : FT := ⟨["game", "place", "other"], ["game", "place", "other"], defScope s_weight_of_slip, defBody s_weight_of_slip⟩
abbrev s_leads : Stmt := top 30
def ft_leads : FT := ⟨["game", "step", "place"], ["game", "step", "place"], defScope s_leads, defBody s_leads⟩
abbrev s_do_lead : Stmt := top 31
def ft_do_lead : FT := ⟨["game", "steps", "here"], ["game", "steps", "here", "step", "targets", "place"], defScope s_do_lead, defBody s_do_lead⟩
abbrev s_is_path_value : Stmt := top 33
def ft_is_path_value : FT := ⟨["game", "thing"], ["game", "thing"], defScope s_is_path_value, defBody s_is_path_value⟩
abbrev s_need_path : Stmt := top 35
def ft_need_path : FT := ⟨["game", "path"], ["game", "path"], defScope s_need_path, defBody s_need_path⟩
abbrev s_steps_weight : Stmt := top 36
def ft_steps_weight : FT := ⟨["game", "steps", "here"], ["game", "steps", "here", "step", "targets", "place", "slips", "other"], defScope s_steps_weight, defBody s_steps_weight⟩
abbrev s_path_weight : Stmt := top 42
def ft_path_weight : FT := ⟨["game", "path"], ["game", "path"], defScope s_path_weight, defBody s_path_weight⟩
abbrev s_is_path : Stmt := top 40
def ft_is_path : FT := ⟨["game", "thing"], ["game", "thing"], defScope s_is_path, defBody s_is_path⟩
abbrev s__law_is_joined : Stmt := top 57
def ft__law_is_joined : FT := ⟨["game", "one", "other"], ["game", "one", "other", "due", "both", "told"], defScope s__law_is_joined, defBody s__law_is_joined⟩
abbrev s__law_lasso : Stmt := top 56
def ft__law_lasso : FT := ⟨["deck", "game"], ["deck", "game", "steps", "here", "turn", "at", "step", "spots", "more"], defScope s__law_lasso, defBody s__law_lasso⟩
abbrev s_is_lasso_value : Stmt := top 32
def ft_is_lasso_value : FT := ⟨["game", "thing"], ["game", "thing"], defScope s_is_lasso_value, defBody s_is_lasso_value⟩
abbrev s_need_lasso : Stmt := top 34
def ft_need_lasso : FT := ⟨["game", "lasso"], ["game", "lasso"], defScope s_need_lasso, defBody s_need_lasso⟩
abbrev s_weight_of_lasso : Stmt := top 37
def ft_weight_of_lasso : FT := ⟨["game", "lasso"], ["game", "lasso", "stem", "loop", "step"], defScope s_weight_of_lasso, defBody s_weight_of_lasso⟩
abbrev s_lasso_weight : Stmt := top 41
def ft_lasso_weight : FT := ⟨["game", "lasso"], ["game", "lasso"], defScope s_lasso_weight, defBody s_lasso_weight⟩
abbrev s_is_lasso : Stmt := top 39
def ft_is_lasso : FT := ⟨["game", "thing"], ["game", "thing"], defScope s_is_lasso, defBody s_is_lasso⟩
abbrev s_law : Stmt := top 58
def ft_law : FT := ⟨["script"], ["script", "deck", "turn", "game", "go", "one", "other", "at", "spot", "lasso", "first", "weight", "stem", "loop", "v", "how", "is_bare", "k", "many", "told"], defScope s_law, defBody s_law⟩
def T (x : Str) : Option FT := if x = "_law_deck" then some ft__law_deck else if x = "_law_draw" then some ft__law_draw else if x = "_law_pick" then some ft__law_pick else if x = "_law_ladder" then some ft__law_ladder else if x = "_law_ring" then some ft__law_ring else if x = "_law_any_rows" then some ft__law_any_rows else if x = "_law_order" then some ft__law_order else if x = "_law_called" then some ft__law_called else if x = "_law_game" then some ft__law_game else if x = "_law_steps_from" then some ft__law_steps_from else if x = "_law_walk" then some ft__law_walk else if x = "_law_weight" then some ft__law_weight else if x = "is_tuple" then some ft_is_tuple else if x = "is_word" then some ft_is_word else if x = "is_integer" then some ft_is_integer else if x = "is_from" then some ft_is_from else if x = "is_between" then some ft_is_between else if x = "do_ascend" then some ft_do_ascend else if x = "are_moves" then some ft_are_moves else if x = "is_slip" then some ft_is_slip else if x = "are_slips" then some ft_are_slips else if x = "is_place_row" then some ft_is_place_row else if x = "is_game_value" then some ft_is_game_value else if x = "need_game" then some ft_need_game else if x = "is_place_of" then some ft_is_place_of else if x = "is_step" then some ft_is_step else if x = "are_steps" then some ft_are_steps else if x = "moves_of" then some ft_moves_of else if x = "slips_of" then some ft_slips_of else if x = "weight_of_slip" then some ft_weight_of_slip else if x = "leads" then some ft_leads else if x = "do_lead" then some ft_do_lead else if x = "is_path_value" then some ft_is_path_value else if x = "need_path" then some ft_need_path else if x = "steps_weight" then some ft_steps_weight else if x = "path_weight" then some ft_path_weight else if x = "is_path" then some ft_is_path else if x = "_law_is_joined" then some ft__law_is_joined else if x = "_law_lasso" then some ft__law_lasso else if x = "is_lasso_value" then some ft_is_lasso_value else if x = "need_lasso" then some ft_need_lasso else if x = "weight_of_lasso" then some ft_weight_of_lasso else if x = "lasso_weight" then some ft_lasso_weight else if x = "is_lasso" then some ft_is_lasso else if x = "law" then some ft_law else none
/-! ### each def as a term -/
def b__law_deck_0 (L k : Nat) : MS := sSeq (sAsg (mBin false .Mod (mBlt bInt (mCons (mBin false .Add (mBin false .Add (mBin false .Mult (mV 1) (mC (.p (.int 40014)))) (mBin false .Mod (mBlt bInt (mCons (mV 2) (mNil))) (mC (.p (.int 2147483399))))) (mC (.p (.int 67)))) (mNil))) (mC (.p (.int 2147483563)))) (gNm 1)) (sNil)
theorem e__law_deck (L k : Nat) : fL (G L) T DEP (k + 1) ft__law_deck = bodyF ["script", "mixed", "cell"] ["script"] (sSeq (sAsg (mC (.p (.int 15371130))) (gNm 1)) (sSeq (sFor L (mIter (mSl false (mV 0) (mONone) (mOSome (mC (.p (.int 63)))))) (gNm 2) (b__law_deck_0 L k)) (sSeq (sRet (mDic true (mpCons (mC (.p (.str "left"))) (mRev true (mBlt (bList false) (mCons (mSl false (mV 0) (mONone) (mOSome (mC (.p (.int 63))))) (mNil)))) (mpCons (mC (.p (.str "mixed"))) (mV 1) (mpCons (mC (.p (.str "draws"))) (mC (.p (.int 0))) (mpNil)))))) (sNil)))) := by kernel_rfl
theorem e__law_draw (L k : Nat) : fL (G L) T DEP (k + 1) ft__law_draw = bodyF ["deck", "many", "cell", "mark"] ["deck", "many"] (sSeq (sAsg (mBin false .Add (mIx (mV 0) (mC (.p (.str "draws")))) (mC (.p (.int 1)))) (gSb (mV 0) (mC (.p (.str "draws"))))) (sSeq (sIf (mCmp .NotEq (mIx (mV 0) (mC (.p (.str "left")))) (mLst false (mNil))) (sSeq (sAsg (mMet "pop" (mIx (mV 0) (mC (.p (.str "left")))) (mNil)) (gNm 2)) (sSeq (sIf (mCmp .GtE (mV 2) (mBin false .Pow (mC (.p (.int 10))) (mC (.p (.int 18))))) (sSeq (sEx (mMet "append" (mIx (mV 0) (mC (.p (.str "left")))) (mCons (mBin false .FloorDiv (mV 2) (mBlt bMx (mCons (mC (.p (.int 2))) (mCons (mV 1) (mNil))))) (mNil)))) (sSeq (sRet (mBin false .Mod (mBlt bInt (mCons (mV 2) (mNil))) (mV 1))) (sNil))) (sNil)) (sSeq (sAsg (mBin false .Mod (mBlt bInt (mCons (mBin false .Add (mBin false .Add (mBin false .Mult (mIx (mV 0) (mC (.p (.str "mixed")))) (mC (.p (.int 39373)))) (mBin false .Mod (mBlt bInt (mCons (mV 2) (mNil))) (mC (.p (.int 2147483587))))) (mC (.p (.int 23)))) (mNil))) (mC (.p (.int 2147483629)))) (gSb (mV 0) (mC (.p (.str "mixed"))))) (sNil)))) (sNil)) (sSeq (sAsg (mBin false .Mod (mBlt bInt (mCons (mBin false .Add (mIx (mV 0) (mC (.p (.str "mixed")))) (mBin false .Mult (mC (.p (.int 52173))) (mIx (mV 0) (mC (.p (.str "draws")))))) (mNil))) (mC (.p (.int 2147483647)))) (gNm 3)) (sSeq (sAsg (mBin false .Mod (mBlt bInt (mCons (mBin false .Add (mBin false .Add (mBin false .Mult (mV 3) (mV 3)) (mBin false .Mult (mC (.p (.int 48271))) (mIx (mV 0) (mC (.p (.str "draws")))))) (mC (.p (.int 29)))) (mNil))) (mC (.p (.int 2147483563)))) (gNm 3)) (sSeq (sRet (mBin false .Mod (mBlt bInt (mCons (mBin false .FloorDiv (mBin false .Mod (mBlt bInt (mCons (mBin false .Add (mBin false .Mult (mV 3) (mC (.p (.int 16807)))) (mC (.p (.int 61)))) (mNil))) (mC (.p (.int 2147483587)))) (mC (.p (.int 64)))) (mNil))) (mV 1))) (sNil)))))) := by kernel_rfl
theorem e__law_pick (L k : Nat) : fL (G L) T DEP (k + 1) ft__law_pick = bodyF ["deck", "some"] ["deck", "some"] (sSeq (sRet (mIx (mV 1) (mCall (fL (G L) T DEP k ft__law_draw) [0, 1] (mCons (mV 0) (mCons (mBlt bLen (mCons (mV 1) (mNil))) (mNil))) (mNil)))) (sNil)) := by kernel_rfl
def b__law_ladder_0 (L k : Nat) : M := mCall (fL (G L) T DEP k ft__law_draw) [0, 1] (mCons (mV 0) (mCons (mBin false .Add (mV 3) (mC (.p (.int 1)))) (mNil))) (mNil)
def b__law_ladder_1 (L k : Nat) : MS := sSeq (sAsg (mBlt bTuple (mCons (mSset false (mBin false .Add (mLst false (mCons (mV 3) (mNil))) (mLc L false (mRng1 (mCall (fL (G L) T DEP k ft__law_draw) [0, 1] (mCons (mV 0) (mCons (mC (.p (.int 3))) (mNil))) (mNil))) [4] (gNm 4) (mYes) (b__law_ladder_0 L k)))) (mNil))) (gNm 5)) (sSeq (sAsg (mDic true (mpCons (mBin false .Add (mV 3) (mC (.p (.int 1)))) (mCall (fL (G L) T DEP k ft__law_pick) [0, 1] (mCons (mV 0) (mCons (mLst false (mCons (mC (.p (.int 1))) (mCons (mC (.p (.int 2))) (mCons (mC (.p (.int 1))) (mCons (mC (.p (.int 3))) (mCons (mBin false .Add (mC (.p (.int 1))) (mCall (fL (G L) T DEP k ft__law_draw) [0, 1] (mCons (mV 0) (mCons (mC (.p (.int 9))) (mNil))) (mNil))) (mNil))))))) (mNil))) (mNil)) (mpNil))) (gNm 6)) (sSeq (sIf (mCmp .Eq (mCall (fL (G L) T DEP k ft__law_draw) [0, 1] (mCons (mV 0) (mCons (mC (.p (.int 3))) (mNil))) (mNil)) (mC (.p (.int 0)))) (sSeq (sAsg (mBin false .Add (mC (.p (.int 1))) (mCall (fL (G L) T DEP k ft__law_draw) [0, 1] (mCons (mV 0) (mCons (mC (.p (.int 4))) (mNil))) (mNil))) (gSb (mV 6) (mCall (fL (G L) T DEP k ft__law_draw) [0, 1] (mCons (mV 0) (mCons (mV 1) (mNil))) (mNil)))) (sNil)) (sNil)) (sSeq (sEx (mMet "append" (mV 2) (mCons (mTup (mCons (mCall (fL (G L) T DEP k ft__law_pick) [0, 1] (mCons (mV 0) (mCons (mLst false (mCons (mC (.p (.str "keeper"))) (mCons (mC (.p (.str "keeper"))) (mCons (mC (.p (.str "keeper"))) (mCons (mC (.p (.str "foe"))) (mNil)))))) (mNil))) (mNil)) (mCons (mCall (fL (G L) T DEP k ft__law_pick) [0, 1] (mCons (mV 0) (mCons (mLst false (mCons (mC (.p (.int 0))) (mCons (mC (.p (.int 2))) (mCons (mC (.p (.int 4))) (mCons (mC (.p (.int 0))) (mCons (mC (.p (.int 2))) (mCons (mC (.p (.int 1))) (mNil)))))))) (mNil))) (mNil)) (mCons (mV 5) (mCons (mBlt bTuple (mCons (mSit false (mV 6)) (mNil))) (mNil)))))) (mNil)))) (sNil))))
def b__law_ladder_2 (L k : Nat) : M := mIf (mCmp .Eq (mIx (mV 7) (mC (.p (.int 0)))) (mC (.p (.str "keeper")))) (mV 7) (mBin false .Add (mSl false (mV 7) (mONone) (mOSome (mC (.p (.int 3))))) (mTup (mCons (mTup (mNil)) (mNil))))
theorem e__law_ladder (L k : Nat) : fL (G L) T DEP (k + 1) ft__law_ladder = bodyF ["deck", "n", "rows", "v", "turn", "back", "slips", "row"] ["deck", "n"] (sSeq (sAsg (mLst true (mNil)) (gNm 2)) (sSeq (sFor L (mRng1 (mBin false .Sub (mV 1) (mC (.p (.int 1))))) (gNm 3) (b__law_ladder_1 L k)) (sSeq (sAsg (mLc L true (mIter (mV 2)) [7] (gNm 7) (mYes) (b__law_ladder_2 L k)) (gNm 2)) (sSeq (sRet (mBin false .Add (mV 2) (mLst false (mCons (mTup (mCons (mCall (fL (G L) T DEP k ft__law_pick) [0, 1] (mCons (mV 0) (mCons (mLst false (mCons (mC (.p (.str "foe"))) (mCons (mC (.p (.str "keeper"))) (mNil)))) (mNil))) (mNil)) (mCons (mCall (fL (G L) T DEP k ft__law_pick) [0, 1] (mCons (mV 0) (mCons (mLst false (mCons (mC (.p (.int 1))) (mCons (mC (.p (.int 3))) (mCons (mC (.p (.int 1))) (mNil))))) (mNil))) (mNil)) (mCons (mTup (mCons (mBin false .Sub (mV 1) (mC (.p (.int 1)))) (mNil))) (mCons (mTup (mNil)) (mNil)))))) (mNil))))) (sNil))))) := by kernel_rfl
def b__law_ring_0 (L k : Nat) : MS := sSeq (sPar (mCons (mCall (fL (G L) T DEP k ft__law_pick) [0, 1] (mCons (mV 0) (mCons (mLst false (mCons (mC (.p (.str "keeper"))) (mCons (mC (.p (.str "keeper"))) (mCons (mC (.p (.str "foe"))) (mNil))))) (mNil))) (mNil)) (mCons (mCall (fL (G L) T DEP k ft__law_draw) [0, 1] (mCons (mV 0) (mCons (mV 1) (mNil))) (mNil)) (mNil))) (gP2 4 5)) (sSeq (sAsg (mBlt bTuple (mCons (mSset false (mBin false .Add (mLst false (mCons (mBin false .Mod (mBlt bInt (mCons (mBin false .Add (mV 3) (mC (.p (.int 1)))) (mNil))) (mV 1)) (mNil))) (mBin false .Mult (mLst false (mCons (mV 5) (mNil))) (mCall (fL (G L) T DEP k ft__law_draw) [0, 1] (mCons (mV 0) (mCons (mC (.p (.int 2))) (mNil))) (mNil))))) (mNil))) (gNm 6)) (sSeq (sAsg (mIf (mAnd (mCmp .Eq (mV 4) (mC (.p (.str "keeper")))) (mCmp .Eq (mCall (fL (G L) T DEP k ft__law_draw) [0, 1] (mCons (mV 0) (mCons (mC (.p (.int 2))) (mNil))) (mNil)) (mC (.p (.int 0))))) (mTup (mCons (mTup (mCons (mCall (fL (G L) T DEP k ft__law_draw) [0, 1] (mCons (mV 0) (mCons (mV 1) (mNil))) (mNil)) (mCons (mBin false .Add (mC (.p (.int 1))) (mCall (fL (G L) T DEP k ft__law_draw) [0, 1] (mCons (mV 0) (mCons (mC (.p (.int 3))) (mNil))) (mNil))) (mNil)))) (mNil))) (mTup (mNil))) (gNm 7)) (sSeq (sEx (mMet "append" (mV 2) (mCons (mTup (mCons (mV 4) (mCons (mCall (fL (G L) T DEP k ft__law_draw) [0, 1] (mCons (mV 0) (mCons (mC (.p (.int 4))) (mNil))) (mNil)) (mCons (mV 6) (mCons (mV 7) (mNil)))))) (mNil)))) (sNil))))
theorem e__law_ring (L k : Nat) : fL (G L) T DEP (k + 1) ft__law_ring = bodyF ["deck", "n", "rows", "v", "owner", "across", "moves", "slips"] ["deck", "n"] (sSeq (sAsg (mLst true (mNil)) (gNm 2)) (sSeq (sFor L (mRng1 (mV 1)) (gNm 3) (b__law_ring_0 L k)) (sSeq (sRet (mV 2)) (sNil)))) := by kernel_rfl
def b__law_any_rows_0 (L k : Nat) : M := mCall (fL (G L) T DEP k ft__law_draw) [0, 1] (mCons (mV 0) (mCons (mV 1) (mNil))) (mNil)
def b__law_any_rows_1 (L k : Nat) : MS := sSeq (sAsg (mCall (fL (G L) T DEP k ft__law_pick) [0, 1] (mCons (mV 0) (mCons (mLst false (mCons (mC (.p (.int 1))) (mCons (mC (.p (.int 1))) (mCons (mC (.p (.int 2))) (mCons (mC (.p (.int 3))) (mCons (mBin false .Add (mC (.p (.int 1))) (mCall (fL (G L) T DEP k ft__law_draw) [0, 1] (mCons (mV 0) (mCons (mC (.p (.int 9))) (mNil))) (mNil))) (mNil))))))) (mNil))) (mNil)) (gSb (mV 8) (mCall (fL (G L) T DEP k ft__law_pick) [0, 1] (mCons (mV 0) (mCons (mLst false (mCons (mCall (fL (G L) T DEP k ft__law_draw) [0, 1] (mCons (mV 0) (mCons (mV 1) (mNil))) (mNil)) (mCons (mCall (fL (G L) T DEP k ft__law_draw) [0, 1] (mCons (mV 0) (mCons (mV 1) (mNil))) (mNil)) (mCons (mV 4) (mCons (mIx (mV 7) (mC (.p (.int 0)))) (mNil)))))) (mNil))) (mNil)))) (sNil)
def b__law_any_rows_2 (L k : Nat) : MS := sSeq (sAsg (mCall (fL (G L) T DEP k ft__law_pick) [0, 1] (mCons (mV 0) (mCons (mLst false (mCons (mC (.p (.str "keeper"))) (mCons (mC (.p (.str "keeper"))) (mCons (mC (.p (.str "foe"))) (mNil))))) (mNil))) (mNil)) (gNm 5)) (sSeq (sAsg (mBlt bTuple (mCons (mSset false (mLc L false (mRng1 (mBin false .Add (mC (.p (.int 1))) (mCall (fL (G L) T DEP k ft__law_draw) [0, 1] (mCons (mV 0) (mCons (mC (.p (.int 3))) (mNil))) (mNil)))) [6] (gNm 6) (mYes) (b__law_any_rows_0 L k))) (mNil))) (gNm 7)) (sSeq (sAsg (mDic true (mpNil)) (gNm 8)) (sSeq (sFor L (mRng1 (mIf (mAnd (mCmp .Eq (mV 5) (mC (.p (.str "keeper")))) (mCmp .Eq (mCall (fL (G L) T DEP k ft__law_draw) [0, 1] (mCons (mV 0) (mCons (mC (.p (.int 2))) (mNil))) (mNil)) (mC (.p (.int 0))))) (mBin false .Add (mC (.p (.int 1))) (mCall (fL (G L) T DEP k ft__law_draw) [0, 1] (mCons (mV 0) (mCons (mC (.p (.int 2))) (mNil))) (mNil))) (mC (.p (.int 0))))) (gNm 6) (b__law_any_rows_1 L k)) (sSeq (sEx (mMet "append" (mV 2) (mCons (mTup (mCons (mV 5) (mCons (mCall (fL (G L) T DEP k ft__law_pick) [0, 1] (mCons (mV 0) (mCons (mV 3) (mNil))) (mNil)) (mCons (mV 7) (mCons (mBlt bTuple (mCons (mSit false (mV 8)) (mNil))) (mNil)))))) (mNil)))) (sNil)))))
theorem e__law_any_rows (L k : Nat) : fL (G L) T DEP (k + 1) ft__law_any_rows = bodyF ["deck", "n", "rows", "marks", "v", "owner", "turn", "moves", "slips"] ["deck", "n"] (sSeq (sPar (mCons (mLst true (mNil)) (mCons (mLst false (mCons (mCall (fL (G L) T DEP k ft__law_draw) [0, 1] (mCons (mV 0) (mCons (mC (.p (.int 5))) (mNil))) (mNil)) (mCons (mCall (fL (G L) T DEP k ft__law_draw) [0, 1] (mCons (mV 0) (mCons (mC (.p (.int 5))) (mNil))) (mNil)) (mCons (mCall (fL (G L) T DEP k ft__law_draw) [0, 1] (mCons (mV 0) (mCons (mC (.p (.int 2))) (mNil))) (mNil)) (mNil))))) (mNil))) (gP2 2 3)) (sSeq (sFor L (mRng1 (mV 1)) (gNm 4) (b__law_any_rows_2 L k)) (sSeq (sRet (mV 2)) (sNil)))) := by kernel_rfl
def b__law_order_0 (L k : Nat) : M := mCmp .NotEq (mV 2) (mLst false (mNil))
def b__law_order_1 (L k : Nat) : MS := sSeq (sEx (mMet "append" (mV 3) (mCons (mMet "pop" (mV 2) (mCons (mCall (fL (G L) T DEP k ft__law_draw) [0, 1] (mCons (mV 0) (mCons (mBlt bLen (mCons (mV 2) (mNil))) (mNil))) (mNil)) (mNil))) (mNil)))) (sNil)
theorem e__law_order (L k : Nat) : fL (G L) T DEP (k + 1) ft__law_order = bodyF ["deck", "many", "left", "found"] ["deck", "many"] (sSeq (sPar (mCons (mLrg1 true (mV 1)) (mCons (mLst true (mNil)) (mNil))) (gP2 2 3)) (sSeq (whLoop (b__law_order_0 L k) (b__law_order_1 L k) L) (sSeq (sRet (mV 3)) (sNil)))) := by kernel_rfl
def b__law_called_0 (L k : Nat) : M := mIx (mV 1) (mV 8)
def b__law_called_1 (L k : Nat) : M := mTup (mCons (mIx (mV 1) (mV 8)) (mCons (mV 9) (mNil)))
def b__law_called_2 (L k : Nat) : MS := sSeq (sAsg (mTup (mCons (mV 4) (mCons (mV 5) (mCons (mBlt bTuple (mCons (mBlt (bSorted false) (mCons (mLc L false (mIter (mV 6)) [8] (gNm 8) (mYes) (b__law_called_0 L k)) (mNil))) (mNil))) (mCons (mBlt bTuple (mCons (mBlt (bSorted false) (mCons (mLc L false (mIter (mV 7)) [8, 9] (gTp 2 (gsCons (gNm 8) (gsCons (gNm 9) (gsNil)))) (mYes) (b__law_called_1 L k)) (mNil))) (mNil))) (mNil)))))) (gSb (mV 2) (mIx (mV 1) (mV 3)))) (sNil)
theorem e__law_called (L k : Nat) : fL (G L) T DEP (k + 1) ft__law_called = bodyF ["game", "names", "found", "v", "owner", "mark", "moves", "slips", "u", "w"] ["game", "names"] (sSeq (sAsg (mBlt (bList true) (mCons (mV 0) (mNil))) (gNm 2)) (sSeq (sFor L (mEn (mV 0)) (gTp 2 (gsCons (gNm 3) (gsCons (gTp 4 (gsCons (gNm 4) (gsCons (gNm 5) (gsCons (gNm 6) (gsCons (gNm 7) (gsNil)))))) (gsNil)))) (b__law_called_2 L k)) (sSeq (sRet (mBlt bTuple (mCons (mV 2) (mNil)))) (sNil)))) := by kernel_rfl
def b__law_game_0 (L k : Nat) : M := mBin false .Add (mSl false (mV 5) (mONone) (mOSome (mC (.p (.int 3))))) (mTup (mCons (mTup (mNil)) (mNil)))
def b__law_game_1 (L k : Nat) : MS := sSeq (sEx (mMet "append" (mV 8) (mCons (mBin false .Add (mSl false (mV 5) (mONone) (mOSome (mC (.p (.int 3))))) (mTup (mCons (mSl false (mIx (mV 5) (mC (.p (.int 3)))) (mONone) (mOSome (mV 7))) (mNil)))) (mNil)))) (sSeq (sAsg (mBin false .Sub (mV 7) (mBlt bLen (mCons (mIx (mIx (mV 8) (mNeg (mC (.p (.int 1))))) (mC (.p (.int 3)))) (mNil)))) (gNm 7)) (sNil))
theorem e__law_game (L k : Nat) : fL (G L) T DEP (k + 1) ft__law_game = bodyF ["deck", "sizes", "n", "way", "rows", "row", "names", "left", "found"] ["deck", "sizes"] (sSeq (sPar (mCons (mCall (fL (G L) T DEP k ft__law_pick) [0, 1] (mCons (mV 0) (mCons (mV 1) (mNil))) (mNil)) (mCons (mCall (fL (G L) T DEP k ft__law_draw) [0, 1] (mCons (mV 0) (mCons (mC (.p (.int 6))) (mNil))) (mNil)) (mNil))) (gP2 2 3)) (sSeq (sAsg (mIf (mCmp .Lt (mV 3) (mC (.p (.int 3)))) (mCall (fL (G L) T DEP k ft__law_ladder) [0, 1] (mCons (mV 0) (mCons (mV 2) (mNil))) (mNil)) (mIf (mCmp .Eq (mV 3) (mC (.p (.int 3)))) (mCall (fL (G L) T DEP k ft__law_ring) [0, 1] (mCons (mV 0) (mCons (mV 2) (mNil))) (mNil)) (mCall (fL (G L) T DEP k ft__law_any_rows) [0, 1] (mCons (mV 0) (mCons (mV 2) (mNil))) (mNil)))) (gNm 4)) (sSeq (sAsg (mIf (mCmp .Eq (mCall (fL (G L) T DEP k ft__law_draw) [0, 1] (mCons (mV 0) (mCons (mC (.p (.int 10))) (mNil))) (mNil)) (mC (.p (.int 0)))) (mLc L false (mIter (mV 4)) [5] (gNm 5) (mYes) (b__law_game_0 L k)) (mV 4)) (gNm 4)) (sSeq (sAsg (mIf (mCmp .Eq (mCall (fL (G L) T DEP k ft__law_draw) [0, 1] (mCons (mV 0) (mCons (mC (.p (.int 2))) (mNil))) (mNil)) (mC (.p (.int 0)))) (mCall (fL (G L) T DEP k ft__law_order) [0, 1] (mCons (mV 0) (mCons (mV 2) (mNil))) (mNil)) (mLrg1 false (mV 2))) (gNm 6)) (sSeq (sPar (mCons (mC (.p (.int 10))) (mCons (mLst true (mNil)) (mNil))) (gP2 7 8)) (sSeq (sFor L (mIter (mV 4)) (gNm 5) (b__law_game_1 L k)) (sSeq (sRet (mCall (fL (G L) T DEP k ft__law_called) [0, 1] (mCons (mBlt bTuple (mCons (mV 8) (mNil))) (mCons (mV 6) (mNil))) (mNil))) (sNil)))))))) := by kernel_rfl
def b__law_steps_from_0 (L k : Nat) : M := mTup (mCons (mC (.p (.str "move"))) (mCons (mV 2) (mNil)))
def b__law_steps_from_1 (L k : Nat) : M := mTup (mCons (mC (.p (.str "slip"))) (mCons (mV 2) (mNil)))
theorem e__law_steps_from (L k : Nat) : fL (G L) T DEP (k + 1) ft__law_steps_from = bodyF ["game", "v", "u", "w"] ["game", "v"] (sSeq (sRet (mBin false .Add (mLc L false (mIter (mIx (mIx (mV 0) (mV 1)) (mC (.p (.int 2))))) [2] (gNm 2) (mYes) (b__law_steps_from_0 L k)) (mLc L false (mIter (mIx (mIx (mV 0) (mV 1)) (mC (.p (.int 3))))) [2, 3] (gTp 2 (gsCons (gNm 2) (gsCons (gNm 3) (gsNil)))) (mYes) (b__law_steps_from_1 L k)))) (sNil)) := by kernel_rfl
def b__law_walk_0 (L k : Nat) : MS := sSeq (sAsg (mCall (fL (G L) T DEP k ft__law_pick) [0, 1] (mCons (mV 0) (mCons (mCall (fL (G L) T DEP k ft__law_steps_from) [0, 1] (mCons (mV 1) (mCons (mV 2) (mNil))) (mNil)) (mNil))) (mNil)) (gTp 2 (gsCons (gNm 6) (gsCons (gNm 7) (gsNil))))) (sSeq (sEx (mMet "append" (mV 4) (mCons (mTup (mCons (mV 2) (mCons (mV 6) (mNil)))) (mNil)))) (sSeq (sAsg (mV 7) (gNm 2)) (sNil)))
theorem e__law_walk (L k : Nat) : fL (G L) T DEP (k + 1) ft__law_walk = bodyF ["deck", "game", "here", "many", "steps", "turn", "how", "u"] ["deck", "game", "here", "many"] (sSeq (sAsg (mLst true (mNil)) (gNm 4)) (sSeq (sFor L (mRng1 (mV 3)) (gNm 5) (b__law_walk_0 L k)) (sSeq (sRet (mTup (mCons (mBlt bTuple (mCons (mV 4) (mNil))) (mCons (mV 2) (mNil))))) (sNil)))) := by kernel_rfl
def b__law_weight_0 (L k : Nat) : MS := sSeq (sAsg (mIf (mCmp .Lt (mBin false .Add (mV 4) (mC (.p (.int 1)))) (mBlt bLen (mCons (mV 1) (mNil)))) (mIx (mIx (mV 1) (mBin false .Add (mV 4) (mC (.p (.int 1))))) (mC (.p (.int 0)))) (mV 2)) (gNm 7)) (sSeq (sIf (mCmp .Eq (mV 6) (mC (.p (.str "slip")))) (sSeq (sAsg (mBin false .Add (mV 3) (mIx (mBlt (bDict false) (mCons (mIx (mIx (mV 0) (mV 5)) (mC (.p (.int 3)))) (mNil))) (mV 7))) (gNm 3)) (sNil)) (sNil)) (sNil))
theorem e__law_weight (L k : Nat) : fL (G L) T DEP (k + 1) ft__law_weight = bodyF ["game", "steps", "here", "found", "at", "v", "how", "u"] ["game", "steps", "here"] (sSeq (sAsg (mC (.p (.int 0))) (gNm 3)) (sSeq (sFor L (mEn (mV 1)) (gTp 2 (gsCons (gNm 4) (gsCons (gTp 2 (gsCons (gNm 5) (gsCons (gNm 6) (gsNil)))) (gsNil)))) (b__law_weight_0 L k)) (sSeq (sRet (mV 3)) (sNil)))) := by kernel_rfl
theorem e_is_tuple (L k : Nat) : fL (G L) T DEP (k + 1) ft_is_tuple = bodyF ["thing", "length"] ["thing", "length"] (sSeq (sRet (mAnd (mBlt bIsi (mCons (mV 0) (mCons (mC (.ty .tup)) (mNil)))) (mCmp .Eq (mBlt bLen (mCons (mV 0) (mNil))) (mV 1)))) (sNil)) := by kernel_rfl
theorem e_is_word (L k : Nat) : fL (G L) T DEP (k + 1) ft_is_word = bodyF ["thing", "words"] ["thing", "words"] (sSeq (sRet (mAnd (mBlt bIsi (mCons (mV 0) (mCons (mC (.ty .str)) (mNil)))) (mCmp .In (mV 0) (mV 1)))) (sNil)) := by kernel_rfl
theorem e_is_integer (L k : Nat) : fL (G L) T DEP (k + 1) ft_is_integer = bodyF ["thing"] ["thing"] (sSeq (sRet (mAnd (mBlt bIsi (mCons (mV 0) (mCons (mC (.ty .int)) (mNil)))) (mNot (mBlt bIsi (mCons (mV 0) (mCons (mC (.ty .bl)) (mNil))))))) (sNil)) := by kernel_rfl
theorem e_is_from (L k : Nat) : fL (G L) T DEP (k + 1) ft_is_from = bodyF ["thing", "least"] ["thing", "least"] (sSeq (sRet (mAnd (mCall (fL (G L) T DEP k ft_is_integer) [0] (mCons (mV 0) (mNil)) (mNil)) (mCmp .GtE (mV 0) (mV 1)))) (sNil)) := by kernel_rfl
theorem e_is_between (L k : Nat) : fL (G L) T DEP (k + 1) ft_is_between = bodyF ["thing", "least", "most"] ["thing", "least", "most"] (sSeq (sRet (mAnd (mCall (fL (G L) T DEP k ft_is_integer) [0] (mCons (mV 0) (mNil)) (mNil)) (mChain .LtE .LtE (mV 1) (mV 0) (mV 2)))) (sNil)) := by kernel_rfl
def b_do_ascend_0 (L k : Nat) : M := mCmp .Lt (mV 1) (mV 2)
theorem e_do_ascend (L k : Nat) : fL (G L) T DEP (k + 1) ft_do_ascend = bodyF ["items", "one", "other"] ["items"] (sSeq (sRet (mBlt bAll (mCons (mLc L false (mZp (mV 0) (mSl false (mV 0) (mOSome (mC (.p (.int 1)))) (mONone))) [1, 2] (gTp 2 (gsCons (gNm 1) (gsCons (gNm 2) (gsNil)))) (mYes) (b_do_ascend_0 L k)) (mNil)))) (sNil)) := by kernel_rfl
def b_are_moves_0 (L k : Nat) : M := mCall (fL (G L) T DEP k ft_is_between) [0, 1, 2] (mCons (mV 2) (mCons (mC (.p (.int 0))) (mCons (mBin false .Sub (mV 1) (mC (.p (.int 1)))) (mNil)))) (mNil)
theorem e_are_moves (L k : Nat) : fL (G L) T DEP (k + 1) ft_are_moves = bodyF ["thing", "many", "u"] ["thing", "many"] (sSeq (sIf (mOr (mNot (mBlt bIsi (mCons (mV 0) (mCons (mC (.ty .tup)) (mNil))))) (mOr (mCmp .Eq (mV 0) (mTup (mNil))) (mNot (mBlt bAll (mCons (mLc L false (mIter (mV 0)) [2] (gNm 2) (mYes) (b_are_moves_0 L k)) (mNil)))))) (sSeq (sRet (mC (.p (.bool false)))) (sNil)) (sNil)) (sSeq (sRet (mCall (fL (G L) T DEP k ft_do_ascend) [0] (mCons (mV 0) (mNil)) (mNil))) (sNil))) := by kernel_rfl
theorem e_is_slip (L k : Nat) : fL (G L) T DEP (k + 1) ft_is_slip = bodyF ["thing", "many"] ["thing", "many"] (sSeq (sRet (mAnd (mCall (fL (G L) T DEP k ft_is_tuple) [0, 1] (mCons (mV 0) (mCons (mC (.p (.int 2))) (mNil))) (mNil)) (mAnd (mCall (fL (G L) T DEP k ft_is_between) [0, 1, 2] (mCons (mIx (mV 0) (mC (.p (.int 0)))) (mCons (mC (.p (.int 0))) (mCons (mBin false .Sub (mV 1) (mC (.p (.int 1)))) (mNil)))) (mNil)) (mCall (fL (G L) T DEP k ft_is_from) [0, 1] (mCons (mIx (mV 0) (mC (.p (.int 1)))) (mCons (mC (.p (.int 1))) (mNil))) (mNil))))) (sNil)) := by kernel_rfl
def b_are_slips_0 (L k : Nat) : M := mCall (fL (G L) T DEP k ft_is_slip) [0, 1] (mCons (mV 2) (mCons (mV 1) (mNil))) (mNil)
def b_are_slips_1 (L k : Nat) : M := mIx (mV 2) (mC (.p (.int 0)))
theorem e_are_slips (L k : Nat) : fL (G L) T DEP (k + 1) ft_are_slips = bodyF ["thing", "many", "slip"] ["thing", "many"] (sSeq (sIf (mOr (mNot (mBlt bIsi (mCons (mV 0) (mCons (mC (.ty .tup)) (mNil))))) (mNot (mBlt bAll (mCons (mLc L false (mIter (mV 0)) [2] (gNm 2) (mYes) (b_are_slips_0 L k)) (mNil))))) (sSeq (sRet (mC (.p (.bool false)))) (sNil)) (sNil)) (sSeq (sRet (mCall (fL (G L) T DEP k ft_do_ascend) [0] (mCons (mLc L false (mIter (mV 0)) [2] (gNm 2) (mYes) (b_are_slips_1 L k)) (mNil)) (mNil))) (sNil))) := by kernel_rfl
theorem e_is_place_row (L k : Nat) : fL (G L) T DEP (k + 1) ft_is_place_row = bodyF ["thing", "many"] ["thing", "many"] (sSeq (sIf (mOr (mNot (mCall (fL (G L) T DEP k ft_is_tuple) [0, 1] (mCons (mV 0) (mCons (mC (.p (.int 4))) (mNil))) (mNil))) (mOr (mNot (mCall (fL (G L) T DEP k ft_is_word) [0, 1] (mCons (mIx (mV 0) (mC (.p (.int 0)))) (mCons (mTup (mCons (mC (.p (.str "keeper"))) (mCons (mC (.p (.str "foe"))) (mNil)))) (mNil))) (mNil))) (mNot (mCall (fL (G L) T DEP k ft_is_from) [0, 1] (mCons (mIx (mV 0) (mC (.p (.int 1)))) (mCons (mC (.p (.int 0))) (mNil))) (mNil))))) (sSeq (sRet (mC (.p (.bool false)))) (sNil)) (sNil)) (sSeq (sIf (mOr (mNot (mCall (fL (G L) T DEP k ft_are_moves) [0, 1] (mCons (mIx (mV 0) (mC (.p (.int 2)))) (mCons (mV 1) (mNil))) (mNil))) (mNot (mCall (fL (G L) T DEP k ft_are_slips) [0, 1] (mCons (mIx (mV 0) (mC (.p (.int 3)))) (mCons (mV 1) (mNil))) (mNil)))) (sSeq (sRet (mC (.p (.bool false)))) (sNil)) (sNil)) (sSeq (sRet (mOr (mCmp .Eq (mIx (mV 0) (mC (.p (.int 0)))) (mC (.p (.str "keeper")))) (mCmp .Eq (mIx (mV 0) (mC (.p (.int 3)))) (mTup (mNil))))) (sNil)))) := by kernel_rfl
def b_is_game_value_0 (L k : Nat) : M := mCall (fL (G L) T DEP k ft_is_place_row) [0, 1] (mCons (mV 1) (mCons (mBlt bLen (mCons (mV 0) (mNil))) (mNil))) (mNil)
theorem e_is_game_value (L k : Nat) : fL (G L) T DEP (k + 1) ft_is_game_value = bodyF ["thing", "row"] ["thing"] (sSeq (sRet (mAnd (mBlt bIsi (mCons (mV 0) (mCons (mC (.ty .tup)) (mNil)))) (mAnd (mCmp .NotEq (mV 0) (mTup (mNil))) (mBlt bAll (mCons (mLc L false (mIter (mV 0)) [1] (gNm 1) (mYes) (b_is_game_value_0 L k)) (mNil)))))) (sNil)) := by kernel_rfl
theorem e_need_game (L k : Nat) : fL (G L) T DEP (k + 1) ft_need_game = bodyF ["game"] ["game"] (sSeq (sIf (mNot (mCall (fL (G L) T DEP k ft_is_game_value) [0] (mCons (mV 0) (mNil)) (mNil))) (sSeq (sNo) (sNil)) (sNil)) (sNil)) := by kernel_rfl
theorem e_is_place_of (L k : Nat) : fL (G L) T DEP (k + 1) ft_is_place_of = bodyF ["game", "thing"] ["game", "thing"] (sSeq (sRet (mCall (fL (G L) T DEP k ft_is_between) [0, 1, 2] (mCons (mV 1) (mCons (mC (.p (.int 0))) (mCons (mBin false .Sub (mBlt bLen (mCons (mV 0) (mNil))) (mC (.p (.int 1)))) (mNil)))) (mNil))) (sNil)) := by kernel_rfl
theorem e_is_step (L k : Nat) : fL (G L) T DEP (k + 1) ft_is_step = bodyF ["game", "thing"] ["game", "thing"] (sSeq (sRet (mAnd (mCall (fL (G L) T DEP k ft_is_tuple) [0, 1] (mCons (mV 1) (mCons (mC (.p (.int 2))) (mNil))) (mNil)) (mAnd (mCall (fL (G L) T DEP k ft_is_place_of) [0, 1] (mCons (mV 0) (mCons (mIx (mV 1) (mC (.p (.int 0)))) (mNil))) (mNil)) (mCall (fL (G L) T DEP k ft_is_word) [0, 1] (mCons (mIx (mV 1) (mC (.p (.int 1)))) (mCons (mTup (mCons (mC (.p (.str "move"))) (mCons (mC (.p (.str "slip"))) (mNil)))) (mNil))) (mNil))))) (sNil)) := by kernel_rfl
def b_are_steps_0 (L k : Nat) : M := mCall (fL (G L) T DEP k ft_is_step) [0, 1] (mCons (mV 0) (mCons (mV 2) (mNil))) (mNil)
theorem e_are_steps (L k : Nat) : fL (G L) T DEP (k + 1) ft_are_steps = bodyF ["game", "thing", "step"] ["game", "thing"] (sSeq (sRet (mAnd (mBlt bIsi (mCons (mV 1) (mCons (mC (.ty .tup)) (mNil)))) (mBlt bAll (mCons (mLc L false (mIter (mV 1)) [2] (gNm 2) (mYes) (b_are_steps_0 L k)) (mNil))))) (sNil)) := by kernel_rfl
theorem e_moves_of (L k : Nat) : fL (G L) T DEP (k + 1) ft_moves_of = bodyF ["game", "place"] ["game", "place"] (sSeq (sRet (mIx (mIx (mV 0) (mV 1)) (mC (.p (.int 2))))) (sNil)) := by kernel_rfl
theorem e_slips_of (L k : Nat) : fL (G L) T DEP (k + 1) ft_slips_of = bodyF ["game", "place"] ["game", "place"] (sSeq (sRet (mIx (mIx (mV 0) (mV 1)) (mC (.p (.int 3))))) (sNil)) := by kernel_rfl
theorem e_weight_of_slip (L k : Nat) : fL (G L) T DEP (k + 1) ft_weight_of_slip = bodyF ["game", "place", "other"] ["game", "place", "other"] (sSeq (sRet (mMet "get" (mBlt (bDict false) (mCons (mCall (fL (G L) T DEP k ft_slips_of) [0, 1] (mCons (mV 0) (mCons (mV 1) (mNil))) (mNil)) (mNil))) (mCons (mV 2) (mNil)))) (sNil)) := by kernel_rfl
theorem e_leads (L k : Nat) : fL (G L) T DEP (k + 1) ft_leads = bodyF ["game", "step", "place"] ["game", "step", "place"] (sSeq (sIf (mCmp .Eq (mIx (mV 1) (mC (.p (.int 1)))) (mC (.p (.str "move")))) (sSeq (sRet (mCmp .In (mV 2) (mCall (fL (G L) T DEP k ft_moves_of) [0, 1] (mCons (mV 0) (mCons (mIx (mV 1) (mC (.p (.int 0)))) (mNil))) (mNil)))) (sNil)) (sNil)) (sSeq (sRet (mCmp .IsNot (mCall (fL (G L) T DEP k ft_weight_of_slip) [0, 1, 2] (mCons (mV 0) (mCons (mIx (mV 1) (mC (.p (.int 0)))) (mCons (mV 2) (mNil)))) (mNil)) (mC (.p .none)))) (sNil))) := by kernel_rfl
def b_do_lead_0 (L k : Nat) : M := mIx (mV 3) (mC (.p (.int 0)))
def b_do_lead_1 (L k : Nat) : M := mCall (fL (G L) T DEP k ft_leads) [0, 1, 2] (mCons (mV 0) (mCons (mV 3) (mCons (mV 5) (mNil)))) (mNil)
theorem e_do_lead (L k : Nat) : fL (G L) T DEP (k + 1) ft_do_lead = bodyF ["game", "steps", "here", "step", "targets", "place"] ["game", "steps", "here"] (sSeq (sAsg (mBin false .Add (mLc L false (mIter (mSl false (mV 1) (mOSome (mC (.p (.int 1)))) (mONone))) [3] (gNm 3) (mYes) (b_do_lead_0 L k)) (mLst false (mCons (mV 2) (mNil)))) (gNm 4)) (sSeq (sRet (mBlt bAll (mCons (mLc L false (mZp (mV 1) (mV 4)) [3, 5] (gTp 2 (gsCons (gNm 3) (gsCons (gNm 5) (gsNil)))) (mYes) (b_do_lead_1 L k)) (mNil)))) (sNil))) := by kernel_rfl
theorem e_is_path_value (L k : Nat) : fL (G L) T DEP (k + 1) ft_is_path_value = bodyF ["game", "thing"] ["game", "thing"] (sSeq (sIf (mOr (mNot (mCall (fL (G L) T DEP k ft_is_tuple) [0, 1] (mCons (mV 1) (mCons (mC (.p (.int 2))) (mNil))) (mNil))) (mOr (mNot (mCall (fL (G L) T DEP k ft_are_steps) [0, 1] (mCons (mV 0) (mCons (mIx (mV 1) (mC (.p (.int 0)))) (mNil))) (mNil))) (mNot (mCall (fL (G L) T DEP k ft_is_place_of) [0, 1] (mCons (mV 0) (mCons (mIx (mV 1) (mC (.p (.int 1)))) (mNil))) (mNil))))) (sSeq (sRet (mC (.p (.bool false)))) (sNil)) (sNil)) (sSeq (sRet (mCall (fL (G L) T DEP k ft_do_lead) [0, 1, 2] (mCons (mV 0) (mCons (mIx (mV 1) (mC (.p (.int 0)))) (mCons (mIx (mV 1) (mC (.p (.int 1)))) (mNil)))) (mNil))) (sNil))) := by kernel_rfl
theorem e_need_path (L k : Nat) : fL (G L) T DEP (k + 1) ft_need_path = bodyF ["game", "path"] ["game", "path"] (sSeq (sIf (mNot (mCall (fL (G L) T DEP k ft_is_path_value) [0, 1] (mCons (mV 0) (mCons (mV 1) (mNil))) (mNil))) (sSeq (sNo) (sNil)) (sNil)) (sNil)) := by kernel_rfl
def b_steps_weight_0 (L k : Nat) : M := mIx (mV 3) (mC (.p (.int 0)))
def b_steps_weight_1 (L k : Nat) : M := mCmp .Eq (mIx (mV 3) (mC (.p (.int 1)))) (mC (.p (.str "slip")))
def b_steps_weight_2 (L k : Nat) : M := mTup (mCons (mIx (mV 3) (mC (.p (.int 0)))) (mCons (mV 5) (mNil)))
def b_steps_weight_3 (L k : Nat) : M := mCall (fL (G L) T DEP k ft_weight_of_slip) [0, 1, 2] (mCons (mV 0) (mCons (mV 5) (mCons (mV 7) (mNil)))) (mNil)
theorem e_steps_weight (L k : Nat) : fL (G L) T DEP (k + 1) ft_steps_weight = bodyF ["game", "steps", "here", "step", "targets", "place", "slips", "other"] ["game", "steps", "here"] (sSeq (sAsg (mBin false .Add (mLc L false (mIter (mSl false (mV 1) (mOSome (mC (.p (.int 1)))) (mONone))) [3] (gNm 3) (mYes) (b_steps_weight_0 L k)) (mLst false (mCons (mV 2) (mNil)))) (gNm 4)) (sSeq (sAsg (mLc L false (mZp (mV 1) (mV 4)) [3, 5] (gTp 2 (gsCons (gNm 3) (gsCons (gNm 5) (gsNil)))) (b_steps_weight_1 L k) (b_steps_weight_2 L k)) (gNm 6)) (sSeq (sRet (mBlt bSum (mCons (mLc L false (mIter (mV 6)) [5, 7] (gTp 2 (gsCons (gNm 5) (gsCons (gNm 7) (gsNil)))) (mYes) (b_steps_weight_3 L k)) (mNil)))) (sNil)))) := by kernel_rfl
theorem e_path_weight (L k : Nat) : fL (G L) T DEP (k + 1) ft_path_weight = bodyF ["game", "path"] ["game", "path"] (sSeq (sEx (mCall (fL (G L) T DEP k ft_need_game) [0] (mCons (mV 0) (mNil)) (mNil))) (sSeq (sEx (mCall (fL (G L) T DEP k ft_need_path) [0, 1] (mCons (mV 0) (mCons (mV 1) (mNil))) (mNil))) (sSeq (sRet (mCall (fL (G L) T DEP k ft_steps_weight) [0, 1, 2] (mCons (mV 0) (mCons (mIx (mV 1) (mC (.p (.int 0)))) (mCons (mIx (mV 1) (mC (.p (.int 1)))) (mNil)))) (mNil))) (sNil)))) := by kernel_rfl
theorem e_is_path (L k : Nat) : fL (G L) T DEP (k + 1) ft_is_path = bodyF ["game", "thing"] ["game", "thing"] (sSeq (sEx (mCall (fL (G L) T DEP k ft_need_game) [0] (mCons (mV 0) (mNil)) (mNil))) (sSeq (sRet (mCall (fL (G L) T DEP k ft_is_path_value) [0, 1] (mCons (mV 0) (mCons (mV 1) (mNil))) (mNil))) (sNil))) := by kernel_rfl
theorem e__law_is_joined (L k : Nat) : fL (G L) T DEP (k + 1) ft__law_is_joined = bodyF ["game", "one", "other", "due", "both", "told"] ["game", "one", "other"] (sSeq (sAsg (mLst false (mCons (mCall (fL (G L) T DEP k ft__law_weight) [0, 1, 2] (mCons (mV 0) (mCons (mIx (mV 1) (mC (.p (.int 0)))) (mCons (mIx (mV 1) (mC (.p (.int 1)))) (mNil)))) (mNil)) (mCons (mCall (fL (G L) T DEP k ft__law_weight) [0, 1, 2] (mCons (mV 0) (mCons (mIx (mV 2) (mC (.p (.int 0)))) (mCons (mIx (mV 2) (mC (.p (.int 1)))) (mNil)))) (mNil)) (mNil)))) (gNm 3)) (sSeq (sAsg (mTup (mCons (mBin false .Add (mIx (mV 1) (mC (.p (.int 0)))) (mIx (mV 2) (mC (.p (.int 0))))) (mCons (mIx (mV 2) (mC (.p (.int 1)))) (mNil)))) (gNm 4)) (sSeq (sAsg (mLst false (mCons (mCall (fL (G L) T DEP k ft_path_weight) [0, 1] (mCons (mV 0) (mCons (mV 1) (mNil))) (mNil)) (mCons (mCall (fL (G L) T DEP k ft_path_weight) [1, 0] (mNil) (mCons (mV 2) (mCons (mV 0) (mNil)))) (mCons (mCall (fL (G L) T DEP k ft_path_weight) [0, 1] (mCons (mV 0) (mCons (mV 4) (mNil))) (mNil)) (mCons (mCall (fL (G L) T DEP k ft_is_path) [0, 1] (mCons (mV 0) (mCons (mV 4) (mNil))) (mNil)) (mNil)))))) (gNm 5)) (sSeq (sRet (mCmp .Eq (mBlt bRepr (mCons (mV 5) (mNil))) (mBlt bRepr (mCons (mBin false .Add (mV 3) (mLst false (mCons (mBin false .Add (mIx (mV 3) (mC (.p (.int 0)))) (mIx (mV 3) (mC (.p (.int 1))))) (mCons (mC (.p (.bool true))) (mNil))))) (mNil))))) (sNil))))) := by kernel_rfl
def b__law_lasso_0 (L k : Nat) : M := mCmp .Eq (mIx (mV 6) (mC (.p (.int 0)))) (mV 3)
def b__law_lasso_1 (L k : Nat) : M := mV 5
def b__law_lasso_2 (L k : Nat) : MS := sSeq (sAsg (mLc L false (mEn (mV 2)) [5, 6] (gTp 2 (gsCons (gNm 5) (gsCons (gNm 6) (gsNil)))) (b__law_lasso_0 L k) (b__law_lasso_1 L k)) (gNm 7)) (sSeq (sIf (mAnd (mCmp .NotEq (mV 7) (mLst false (mNil))) (mOr (mCmp .Gt (mV 4) (mC (.p (.int 7)))) (mCmp .Eq (mCall (fL (G L) T DEP k ft__law_draw) [0, 1] (mCons (mV 0) (mCons (mC (.p (.int 2))) (mNil))) (mNil)) (mC (.p (.int 0)))))) (sSeq (sBrk) (sNil)) (sNil)) (sSeq (sAsg (mCall (fL (G L) T DEP k ft__law_walk) [0, 1, 2, 3] (mCons (mV 0) (mCons (mV 1) (mCons (mV 3) (mCons (mC (.p (.int 1))) (mNil))))) (mNil)) (gTp 2 (gsCons (gNm 8) (gsCons (gNm 3) (gsNil))))) (sSeq (sAsg (mBin false .Add (mV 2) (mV 8)) (gNm 2)) (sNil))))
def b__law_lasso_3 (L k : Nat) : M := mCmp .Eq (mIx (mV 6) (mC (.p (.int 0)))) (mV 3)
def b__law_lasso_4 (L k : Nat) : M := mV 5
def b__law_lasso_5 (L k : Nat) : MS := sSeq (sAsg (mCall (fL (G L) T DEP k ft__law_walk) [0, 1, 2, 3] (mCons (mV 0) (mCons (mV 1) (mCons (mV 3) (mCons (mC (.p (.int 1))) (mNil))))) (mNil)) (gTp 2 (gsCons (gNm 8) (gsCons (gNm 3) (gsNil))))) (sSeq (sAsg (mBin false .Add (mV 2) (mV 8)) (gNm 2)) (sSeq (sAsg (mLc L false (mEn (mV 2)) [5, 6] (gTp 2 (gsCons (gNm 5) (gsCons (gNm 6) (gsNil)))) (b__law_lasso_3 L k) (b__law_lasso_4 L k)) (gNm 7)) (sSeq (sIf (mCmp .NotEq (mV 7) (mLst false (mNil))) (sSeq (sBrk) (sNil)) (sNil)) (sNil))))
theorem e__law_lasso (L k : Nat) : fL (G L) T DEP (k + 1) ft__law_lasso = bodyF ["deck", "game", "steps", "here", "turn", "at", "step", "spots", "more"] ["deck", "game"] (sSeq (sAsg (mCall (fL (G L) T DEP k ft__law_walk) [0, 1, 2, 3] (mCons (mV 0) (mCons (mV 1) (mCons (mCall (fL (G L) T DEP k ft__law_draw) [0, 1] (mCons (mV 0) (mCons (mBlt bLen (mCons (mV 1) (mNil))) (mNil))) (mNil)) (mCons (mBin false .Add (mBlt bLen (mCons (mV 1) (mNil))) (mCall (fL (G L) T DEP k ft__law_draw) [0, 1] (mCons (mV 0) (mCons (mC (.p (.int 6))) (mNil))) (mNil))) (mNil))))) (mNil)) (gTp 2 (gsCons (gNm 2) (gsCons (gNm 3) (gsNil))))) (sSeq (sFor L (mRng1 (mC (.p (.int 9)))) (gNm 4) (b__law_lasso_2 L k)) (sSeq (sFor L (mRng1 (mIf (mCmp .Eq (mV 7) (mLst false (mNil))) (mBlt bLen (mCons (mV 1) (mNil))) (mC (.p (.int 0))))) (gNm 4) (b__law_lasso_5 L k)) (sSeq (sAsg (mCall (fL (G L) T DEP k ft__law_pick) [0, 1] (mCons (mV 0) (mCons (mV 7) (mNil))) (mNil)) (gNm 5)) (sSeq (sRet (mTup (mCons (mSl false (mV 2) (mONone) (mOSome (mV 5))) (mCons (mSl false (mV 2) (mOSome (mV 5)) (mONone)) (mNil))))) (sNil)))))) := by kernel_rfl
theorem e_is_lasso_value (L k : Nat) : fL (G L) T DEP (k + 1) ft_is_lasso_value = bodyF ["game", "thing"] ["game", "thing"] (sSeq (sIf (mOr (mNot (mCall (fL (G L) T DEP k ft_is_tuple) [0, 1] (mCons (mV 1) (mCons (mC (.p (.int 2))) (mNil))) (mNil))) (mOr (mNot (mCall (fL (G L) T DEP k ft_are_steps) [0, 1] (mCons (mV 0) (mCons (mIx (mV 1) (mC (.p (.int 0)))) (mNil))) (mNil))) (mOr (mNot (mCall (fL (G L) T DEP k ft_are_steps) [0, 1] (mCons (mV 0) (mCons (mIx (mV 1) (mC (.p (.int 1)))) (mNil))) (mNil))) (mCmp .Eq (mIx (mV 1) (mC (.p (.int 1)))) (mTup (mNil)))))) (sSeq (sRet (mC (.p (.bool false)))) (sNil)) (sNil)) (sSeq (sRet (mCall (fL (G L) T DEP k ft_do_lead) [0, 1, 2] (mCons (mV 0) (mCons (mBin false .Add (mIx (mV 1) (mC (.p (.int 0)))) (mIx (mV 1) (mC (.p (.int 1))))) (mCons (mIx (mIx (mIx (mV 1) (mC (.p (.int 1)))) (mC (.p (.int 0)))) (mC (.p (.int 0)))) (mNil)))) (mNil))) (sNil))) := by kernel_rfl
theorem e_need_lasso (L k : Nat) : fL (G L) T DEP (k + 1) ft_need_lasso = bodyF ["game", "lasso"] ["game", "lasso"] (sSeq (sIf (mNot (mCall (fL (G L) T DEP k ft_is_lasso_value) [0, 1] (mCons (mV 0) (mCons (mV 1) (mNil))) (mNil))) (sSeq (sNo) (sNil)) (sNil)) (sNil)) := by kernel_rfl
def b_weight_of_lasso_0 (L k : Nat) : M := mIx (mV 4) (mC (.p (.int 1)))
theorem e_weight_of_lasso (L k : Nat) : fL (G L) T DEP (k + 1) ft_weight_of_lasso = bodyF ["game", "lasso", "stem", "loop", "step"] ["game", "lasso"] (sSeq (sAsg (mV 1) (gTp 2 (gsCons (gNm 2) (gsCons (gNm 3) (gsNil))))) (sSeq (sIf (mCmp .In (mC (.p (.str "slip"))) (mLc L false (mIter (mV 3)) [4] (gNm 4) (mYes) (b_weight_of_lasso_0 L k))) (sSeq (sRet (mC (.p (.str "endless")))) (sNil)) (sNil)) (sSeq (sRet (mCall (fL (G L) T DEP k ft_steps_weight) [0, 1, 2] (mCons (mV 0) (mCons (mV 2) (mCons (mIx (mIx (mV 3) (mC (.p (.int 0)))) (mC (.p (.int 0)))) (mNil)))) (mNil))) (sNil)))) := by kernel_rfl
theorem e_lasso_weight (L k : Nat) : fL (G L) T DEP (k + 1) ft_lasso_weight = bodyF ["game", "lasso"] ["game", "lasso"] (sSeq (sEx (mCall (fL (G L) T DEP k ft_need_game) [0] (mCons (mV 0) (mNil)) (mNil))) (sSeq (sEx (mCall (fL (G L) T DEP k ft_need_lasso) [0, 1] (mCons (mV 0) (mCons (mV 1) (mNil))) (mNil))) (sSeq (sRet (mCall (fL (G L) T DEP k ft_weight_of_lasso) [0, 1] (mCons (mV 0) (mCons (mV 1) (mNil))) (mNil))) (sNil)))) := by kernel_rfl
theorem e_is_lasso (L k : Nat) : fL (G L) T DEP (k + 1) ft_is_lasso = bodyF ["game", "thing"] ["game", "thing"] (sSeq (sEx (mCall (fL (G L) T DEP k ft_need_game) [0] (mCons (mV 0) (mNil)) (mNil))) (sSeq (sRet (mCall (fL (G L) T DEP k ft_is_lasso_value) [0, 1] (mCons (mV 0) (mCons (mV 1) (mNil))) (mNil))) (sNil))) := by kernel_rfl
def b_law_0 (L k : Nat) : M := mCmp .Eq (mV 15) (mC (.p (.str "slip")))
def b_law_1 (L k : Nat) : M := mC (.p (.int 1))
def b_law_2 (L k : Nat) : M := mCmp .LtE (mBin false .Add (mBlt bLen (mCons (mIx (mV 9) (mC (.p (.int 0)))) (mNil))) (mBin false .Mult (mV 17) (mBlt bLen (mCons (mIx (mV 9) (mC (.p (.int 1)))) (mNil))))) (mC (.p (.int 60)))
def b_law_3 (L k : Nat) : M := mV 17
def b_law_4 (L k : Nat) : M := mCall (fL (G L) T DEP k ft_path_weight) [0, 1] (mCons (mV 3) (mCons (mTup (mCons (mBin false .Add (mIx (mV 9) (mC (.p (.int 0)))) (mBin false .Mult (mIx (mV 9) (mC (.p (.int 1)))) (mV 17))) (mCons (mV 10) (mNil)))) (mNil))) (mNil)
def b_law_5 (L k : Nat) : M := mBin false .Add (mV 12) (mBin false .Mult (mV 17) (mV 13))
def b_law_6 (L k : Nat) : MS := sSeq (sAsg (mCall (fL (G L) T DEP k ft__law_walk) [0, 1, 2, 3] (mCons (mV 1) (mCons (mV 3) (mCons (mCall (fL (G L) T DEP k ft__law_draw) [0, 1] (mCons (mV 1) (mCons (mBlt bLen (mCons (mV 3) (mNil))) (mNil))) (mNil)) (mCons (mCall (fL (G L) T DEP k ft__law_draw) [0, 1] (mCons (mV 1) (mCons (mC (.p (.int 21))) (mNil))) (mNil)) (mNil))))) (mNil)) (gNm 5)) (sSeq (sAsg (mCall (fL (G L) T DEP k ft__law_walk) [0, 1, 2, 3] (mCons (mV 1) (mCons (mV 3) (mCons (mIx (mV 5) (mC (.p (.int 1)))) (mCons (mCall (fL (G L) T DEP k ft__law_draw) [0, 1] (mCons (mV 1) (mCons (mC (.p (.int 21))) (mNil))) (mNil)) (mNil))))) (mNil)) (gNm 6)) (sSeq (sIf (mNot (mCall (fL (G L) T DEP k ft__law_is_joined) [0, 1, 2] (mCons (mV 3) (mCons (mV 5) (mCons (mV 6) (mNil)))) (mNil))) (sSeq (sRet (mC (.p (.bool false)))) (sNil)) (sNil)) (sSeq (sAsg (mCall (fL (G L) T DEP k ft__law_draw) [0, 1] (mCons (mV 1) (mCons (mBin false .Add (mBlt bLen (mCons (mIx (mV 5) (mC (.p (.int 0)))) (mNil))) (mC (.p (.int 1)))) (mNil))) (mNil)) (gNm 7)) (sSeq (sAsg (mIf (mCmp .Lt (mV 7) (mBlt bLen (mCons (mIx (mV 5) (mC (.p (.int 0)))) (mNil)))) (mIx (mIx (mIx (mV 5) (mC (.p (.int 0)))) (mV 7)) (mC (.p (.int 0)))) (mIx (mV 5) (mC (.p (.int 1))))) (gNm 8)) (sSeq (sIf (mNot (mCall (fL (G L) T DEP k ft__law_is_joined) [0, 1, 2] (mCons (mV 3) (mCons (mTup (mCons (mSl false (mIx (mV 5) (mC (.p (.int 0)))) (mONone) (mOSome (mV 7))) (mCons (mV 8) (mNil)))) (mCons (mTup (mCons (mSl false (mIx (mV 5) (mC (.p (.int 0)))) (mOSome (mV 7)) (mONone)) (mCons (mIx (mV 5) (mC (.p (.int 1)))) (mNil)))) (mNil)))) (mNil))) (sSeq (sRet (mC (.p (.bool false)))) (sNil)) (sNil)) (sSeq (sAsg (mCall (fL (G L) T DEP k ft__law_lasso) [0, 1] (mCons (mV 1) (mCons (mV 3) (mNil))) (mNil)) (gNm 9)) (sSeq (sAsg (mTup (mCons (mIx (mIx (mIx (mV 9) (mC (.p (.int 1)))) (mC (.p (.int 0)))) (mC (.p (.int 0)))) (mCons (mIf (mCmp .Gt (mV 4) (mC (.p (.int 0)))) (mCall (fL (G L) T DEP k ft_lasso_weight) [0, 1] (mCons (mV 3) (mCons (mV 9) (mNil))) (mNil)) (mCall (fL (G L) T DEP k ft_lasso_weight) [1, 0] (mNil) (mCons (mV 9) (mCons (mV 3) (mNil))))) (mNil)))) (gTp 2 (gsCons (gNm 10) (gsCons (gNm 11) (gsNil))))) (sSeq (sAsg (mTup (mCons (mCall (fL (G L) T DEP k ft__law_weight) [0, 1, 2] (mCons (mV 3) (mCons (mIx (mV 9) (mC (.p (.int 0)))) (mCons (mV 10) (mNil)))) (mNil)) (mCons (mCall (fL (G L) T DEP k ft__law_weight) [0, 1, 2] (mCons (mV 3) (mCons (mIx (mV 9) (mC (.p (.int 1)))) (mCons (mV 10) (mNil)))) (mNil)) (mNil)))) (gTp 2 (gsCons (gNm 12) (gsCons (gNm 13) (gsNil))))) (sSeq (sAsg (mCmp .Eq (mLc L false (mIter (mIx (mV 9) (mC (.p (.int 1))))) [14, 15] (gTp 2 (gsCons (gNm 14) (gsCons (gNm 15) (gsNil)))) (b_law_0 L k) (b_law_1 L k)) (mLst false (mNil))) (gNm 16)) (sSeq (sIf (mOr (mCmp .NotEq (mBlt bRepr (mCons (mV 11) (mNil))) (mBlt bRepr (mCons (mIf (mV 16) (mV 12) (mC (.p (.str "endless")))) (mNil)))) (mCmp .IsNot (mCall (fL (G L) T DEP k ft_is_lasso) [0, 1] (mCons (mV 3) (mCons (mV 9) (mNil))) (mNil)) (mC (.p (.bool true))))) (sSeq (sRet (mC (.p (.bool false)))) (sNil)) (sNil)) (sSeq (sAsg (mLc L false (mRng1 (mC (.p (.int 4)))) [17] (gNm 17) (b_law_2 L k) (b_law_3 L k)) (gNm 18)) (sSeq (sAsg (mLc L false (mIter (mV 18)) [17] (gNm 17) (mYes) (b_law_4 L k)) (gNm 19)) (sSeq (sIf (mCmp .NotEq (mBlt bRepr (mCons (mV 19) (mNil))) (mBlt bRepr (mCons (mLc L false (mIter (mV 18)) [17] (gNm 17) (mYes) (b_law_5 L k)) (mNil)))) (sSeq (sRet (mC (.p (.bool false)))) (sNil)) (sNil)) (sNil))))))))))))))
def b_law_7 (L k : Nat) : MS := sSeq (sAsg (mCall (fL (G L) T DEP k ft__law_game) [0, 1] (mCons (mV 1) (mCons (mLst false (mCons (mC (.p (.int 3))) (mCons (mC (.p (.int 2))) (mCons (mC (.p (.int 4))) (mCons (mC (.p (.int 1))) (mCons (mC (.p (.int 5))) (mCons (mC (.p (.int 3))) (mCons (mC (.p (.int 6))) (mCons (mC (.p (.int 7))) (mNil)))))))))) (mNil))) (mNil)) (gNm 3)) (sSeq (sFor L (mRng1 (mC (.p (.int 3)))) (gNm 4) (b_law_6 L k)) (sSeq (sAsg (mCall (fL (G L) T DEP k ft__law_draw) [0, 1] (mCons (mV 1) (mCons (mBlt bLen (mCons (mV 3) (mNil))) (mNil))) (mNil)) (gNm 14)) (sSeq (sIf (mCmp .NotEq (mBlt bRepr (mCons (mTup (mCons (mCall (fL (G L) T DEP k ft_path_weight) [0, 1] (mCons (mV 3) (mCons (mTup (mCons (mTup (mNil)) (mCons (mV 14) (mNil)))) (mNil))) (mNil)) (mCons (mCall (fL (G L) T DEP k ft_is_path) [0, 1] (mCons (mV 3) (mCons (mTup (mCons (mTup (mNil)) (mCons (mV 14) (mNil)))) (mNil))) (mNil)) (mCons (mCall (fL (G L) T DEP k ft_path_weight) [1, 0] (mNil) (mCons (mTup (mCons (mTup (mCons (mTup (mCons (mV 14) (mCons (mC (.p (.str "move"))) (mNil)))) (mNil))) (mCons (mIx (mIx (mIx (mV 3) (mV 14)) (mC (.p (.int 2)))) (mC (.p (.int 0)))) (mNil)))) (mCons (mV 3) (mNil)))) (mNil))))) (mNil))) (mBlt bRepr (mCons (mTup (mCons (mC (.p (.int 0))) (mCons (mC (.p (.bool true))) (mCons (mC (.p (.int 0))) (mNil))))) (mNil)))) (sSeq (sRet (mC (.p (.bool false)))) (sNil)) (sNil)) (sNil))))
theorem e_law (L k : Nat) : fL (G L) T DEP (k + 1) ft_law = bodyF ["script", "deck", "turn", "game", "go", "one", "other", "at", "spot", "lasso", "first", "weight", "stem", "loop", "v", "how", "is_bare", "k", "many", "told"] ["script"] (sSeq (sAsg (mCall (fL (G L) T DEP k ft__law_deck) [0] (mCons (mV 0) (mNil)) (mNil)) (gNm 1)) (sSeq (sFor L (mRng1 (mC (.p (.int 3)))) (gNm 2) (b_law_7 L k)) (sSeq (sRet (mC (.p (.bool true)))) (sNil)))) := by kernel_rfl
/-! ### what the top has written -/
theorem sc__law_deck : FnScope ft__law_deck.N ft__law_deck.ps ft__law_deck.sc := ⟨rfl, rfl, rfl, by decide +kernel, rfl, by decide +kernel, by decide +kernel⟩
theorem sc__law_draw : FnScope ft__law_draw.N ft__law_draw.ps ft__law_draw.sc := ⟨rfl, rfl, rfl, by decide +kernel, rfl, by decide +kernel, by decide +kernel⟩
theorem sc__law_pick : FnScope ft__law_pick.N ft__law_pick.ps ft__law_pick.sc := ⟨rfl, rfl, rfl, by decide +kernel, rfl, by decide +kernel, by decide +kernel⟩
theorem sc__law_ladder : FnScope ft__law_ladder.N ft__law_ladder.ps ft__law_ladder.sc := ⟨rfl, rfl, rfl, by decide +kernel, rfl, by decide +kernel, by decide +kernel⟩
theorem sc__law_ring : FnScope ft__law_ring.N ft__law_ring.ps ft__law_ring.sc := ⟨rfl, rfl, rfl, by decide +kernel, rfl, by decide +kernel, by decide +kernel⟩
theorem sc__law_any_rows : FnScope ft__law_any_rows.N ft__law_any_rows.ps ft__law_any_rows.sc := ⟨rfl, rfl, rfl, by decide +kernel, rfl, by decide +kernel, by decide +kernel⟩
theorem sc__law_order : FnScope ft__law_order.N ft__law_order.ps ft__law_order.sc := ⟨rfl, rfl, rfl, by decide +kernel, rfl, by decide +kernel, by decide +kernel⟩
theorem sc__law_called : FnScope ft__law_called.N ft__law_called.ps ft__law_called.sc := ⟨rfl, rfl, rfl, by decide +kernel, rfl, by decide +kernel, by decide +kernel⟩
theorem sc__law_game : FnScope ft__law_game.N ft__law_game.ps ft__law_game.sc := ⟨rfl, rfl, rfl, by decide +kernel, rfl, by decide +kernel, by decide +kernel⟩
theorem sc__law_steps_from : FnScope ft__law_steps_from.N ft__law_steps_from.ps ft__law_steps_from.sc := ⟨rfl, rfl, rfl, by decide +kernel, rfl, by decide +kernel, by decide +kernel⟩
theorem sc__law_walk : FnScope ft__law_walk.N ft__law_walk.ps ft__law_walk.sc := ⟨rfl, rfl, rfl, by decide +kernel, rfl, by decide +kernel, by decide +kernel⟩
theorem sc__law_weight : FnScope ft__law_weight.N ft__law_weight.ps ft__law_weight.sc := ⟨rfl, rfl, rfl, by decide +kernel, rfl, by decide +kernel, by decide +kernel⟩
theorem sc_is_tuple : FnScope ft_is_tuple.N ft_is_tuple.ps ft_is_tuple.sc := ⟨rfl, rfl, rfl, by decide +kernel, rfl, by decide +kernel, by decide +kernel⟩
theorem sc_is_word : FnScope ft_is_word.N ft_is_word.ps ft_is_word.sc := ⟨rfl, rfl, rfl, by decide +kernel, rfl, by decide +kernel, by decide +kernel⟩
theorem sc_is_integer : FnScope ft_is_integer.N ft_is_integer.ps ft_is_integer.sc := ⟨rfl, rfl, rfl, by decide +kernel, rfl, by decide +kernel, by decide +kernel⟩
theorem sc_is_from : FnScope ft_is_from.N ft_is_from.ps ft_is_from.sc := ⟨rfl, rfl, rfl, by decide +kernel, rfl, by decide +kernel, by decide +kernel⟩
theorem sc_is_between : FnScope ft_is_between.N ft_is_between.ps ft_is_between.sc := ⟨rfl, rfl, rfl, by decide +kernel, rfl, by decide +kernel, by decide +kernel⟩
theorem sc_do_ascend : FnScope ft_do_ascend.N ft_do_ascend.ps ft_do_ascend.sc := ⟨rfl, rfl, rfl, by decide +kernel, rfl, by decide +kernel, by decide +kernel⟩
theorem sc_are_moves : FnScope ft_are_moves.N ft_are_moves.ps ft_are_moves.sc := ⟨rfl, rfl, rfl, by decide +kernel, rfl, by decide +kernel, by decide +kernel⟩
theorem sc_is_slip : FnScope ft_is_slip.N ft_is_slip.ps ft_is_slip.sc := ⟨rfl, rfl, rfl, by decide +kernel, rfl, by decide +kernel, by decide +kernel⟩
theorem sc_are_slips : FnScope ft_are_slips.N ft_are_slips.ps ft_are_slips.sc := ⟨rfl, rfl, rfl, by decide +kernel, rfl, by decide +kernel, by decide +kernel⟩
theorem sc_is_place_row : FnScope ft_is_place_row.N ft_is_place_row.ps ft_is_place_row.sc := ⟨rfl, rfl, rfl, by decide +kernel, rfl, by decide +kernel, by decide +kernel⟩
theorem sc_is_game_value : FnScope ft_is_game_value.N ft_is_game_value.ps ft_is_game_value.sc := ⟨rfl, rfl, rfl, by decide +kernel, rfl, by decide +kernel, by decide +kernel⟩
theorem sc_need_game : FnScope ft_need_game.N ft_need_game.ps ft_need_game.sc := ⟨rfl, rfl, rfl, by decide +kernel, rfl, by decide +kernel, by decide +kernel⟩
theorem sc_is_place_of : FnScope ft_is_place_of.N ft_is_place_of.ps ft_is_place_of.sc := ⟨rfl, rfl, rfl, by decide +kernel, rfl, by decide +kernel, by decide +kernel⟩
theorem sc_is_step : FnScope ft_is_step.N ft_is_step.ps ft_is_step.sc := ⟨rfl, rfl, rfl, by decide +kernel, rfl, by decide +kernel, by decide +kernel⟩
theorem sc_are_steps : FnScope ft_are_steps.N ft_are_steps.ps ft_are_steps.sc := ⟨rfl, rfl, rfl, by decide +kernel, rfl, by decide +kernel, by decide +kernel⟩
theorem sc_moves_of : FnScope ft_moves_of.N ft_moves_of.ps ft_moves_of.sc := ⟨rfl, rfl, rfl, by decide +kernel, rfl, by decide +kernel, by decide +kernel⟩
theorem sc_slips_of : FnScope ft_slips_of.N ft_slips_of.ps ft_slips_of.sc := ⟨rfl, rfl, rfl, by decide +kernel, rfl, by decide +kernel, by decide +kernel⟩
theorem sc_weight_of_slip : FnScope ft_weight_of_slip.N ft_weight_of_slip.ps ft_weight_of_slip.sc := ⟨rfl, rfl, rfl, by decide +kernel, rfl, by decide +kernel, by decide +kernel⟩
theorem sc_leads : FnScope ft_leads.N ft_leads.ps ft_leads.sc := ⟨rfl, rfl, rfl, by decide +kernel, rfl, by decide +kernel, by decide +kernel⟩
theorem sc_do_lead : FnScope ft_do_lead.N ft_do_lead.ps ft_do_lead.sc := ⟨rfl, rfl, rfl, by decide +kernel, rfl, by decide +kernel, by decide +kernel⟩
theorem sc_is_path_value : FnScope ft_is_path_value.N ft_is_path_value.ps ft_is_path_value.sc := ⟨rfl, rfl, rfl, by decide +kernel, rfl, by decide +kernel, by decide +kernel⟩
theorem sc_need_path : FnScope ft_need_path.N ft_need_path.ps ft_need_path.sc := ⟨rfl, rfl, rfl, by decide +kernel, rfl, by decide +kernel, by decide +kernel⟩
theorem sc_steps_weight : FnScope ft_steps_weight.N ft_steps_weight.ps ft_steps_weight.sc := ⟨rfl, rfl, rfl, by decide +kernel, rfl, by decide +kernel, by decide +kernel⟩
theorem sc_path_weight : FnScope ft_path_weight.N ft_path_weight.ps ft_path_weight.sc := ⟨rfl, rfl, rfl, by decide +kernel, rfl, by decide +kernel, by decide +kernel⟩
theorem sc_is_path : FnScope ft_is_path.N ft_is_path.ps ft_is_path.sc := ⟨rfl, rfl, rfl, by decide +kernel, rfl, by decide +kernel, by decide +kernel⟩
theorem sc__law_is_joined : FnScope ft__law_is_joined.N ft__law_is_joined.ps ft__law_is_joined.sc := ⟨rfl, rfl, rfl, by decide +kernel, rfl, by decide +kernel, by decide +kernel⟩
theorem sc__law_lasso : FnScope ft__law_lasso.N ft__law_lasso.ps ft__law_lasso.sc := ⟨rfl, rfl, rfl, by decide +kernel, rfl, by decide +kernel, by decide +kernel⟩
theorem sc_is_lasso_value : FnScope ft_is_lasso_value.N ft_is_lasso_value.ps ft_is_lasso_value.sc := ⟨rfl, rfl, rfl, by decide +kernel, rfl, by decide +kernel, by decide +kernel⟩
theorem sc_need_lasso : FnScope ft_need_lasso.N ft_need_lasso.ps ft_need_lasso.sc := ⟨rfl, rfl, rfl, by decide +kernel, rfl, by decide +kernel, by decide +kernel⟩
theorem sc_weight_of_lasso : FnScope ft_weight_of_lasso.N ft_weight_of_lasso.ps ft_weight_of_lasso.sc := ⟨rfl, rfl, rfl, by decide +kernel, rfl, by decide +kernel, by decide +kernel⟩
theorem sc_lasso_weight : FnScope ft_lasso_weight.N ft_lasso_weight.ps ft_lasso_weight.sc := ⟨rfl, rfl, rfl, by decide +kernel, rfl, by decide +kernel, by decide +kernel⟩
theorem sc_is_lasso : FnScope ft_is_lasso.N ft_is_lasso.ps ft_is_lasso.sc := ⟨rfl, rfl, rfl, by decide +kernel, rfl, by decide +kernel, by decide +kernel⟩
theorem sc_law : FnScope ft_law.N ft_law.ps ft_law.sc := ⟨rfl, rfl, rfl, by decide +kernel, rfl, by decide +kernel, by decide +kernel⟩
theorem txt {L : Nat} {K : PySem.W.Frag} {mg : Mg} {h : Heap} (X : K.In h) (Gn : h.Ns mainGlobals mg) {t0 : Tok} (g0 : PySem.W.nsIn K mainGlobals "KEEPER" = some (some (.str "keeper" t0))) {t1 : Tok} (g1 : PySem.W.nsIn K mainGlobals "FOE" = some (some (.str "foe" t1))) {t2 : Tok} (g2 : PySem.W.nsIn K mainGlobals "MOVE" = some (some (.str "move" t2))) {t3 : Tok} (g3 : PySem.W.nsIn K mainGlobals "SLIP" = some (some (.str "slip" t3))) {t4 : Tok} (g4 : PySem.W.nsIn K mainGlobals "ENDLESS" = some (some (.str "endless" t4))) (b0 : PySem.W.nsIn K mainGlobals "sorted" = some none) (b1 : PySem.W.nsIn K mainGlobals "sum" = some none) (b2 : PySem.W.nsIn K mainGlobals "zip" = some none) (b3 : PySem.W.nsIn K mainGlobals "enumerate" = some none) (b4 : PySem.W.nsIn K mainGlobals "set" = some none) (b5 : PySem.W.nsIn K mainGlobals "len" = some none) (b6 : PySem.W.nsIn K mainGlobals "int" = some none) (b7 : PySem.W.nsIn K mainGlobals "str" = some none) (b8 : PySem.W.nsIn K mainGlobals "max" = some none) (b9 : PySem.W.nsIn K mainGlobals "list" = some none) (b10 : PySem.W.nsIn K mainGlobals "tuple" = some none) (b11 : PySem.W.nsIn K mainGlobals "isinstance" = some none) (b12 : PySem.W.nsIn K mainGlobals "repr" = some none) (b13 : PySem.W.nsIn K mainGlobals "all" = some none) (b14 : PySem.W.nsIn K mainGlobals "range" = some none) (b15 : PySem.W.nsIn K mainGlobals "bool" = some none) (b16 : PySem.W.nsIn K mainGlobals "dict" = some none) : Txt (G L) K mg := by
  refine ⟨fun x d e => ?_, fun x e => ?_⟩
  · replace e : (if x = "KEEPER" then some (.p (.str "keeper")) else if x = "FOE" then some (.p (.str "foe")) else if x = "MOVE" then some (.p (.str "move")) else if x = "SLIP" then some (.p (.str "slip")) else if x = "ENDLESS" then some (.p (.str "endless")) else none : Option D) = some d := e
    by_cases h0 : x = "KEEPER"
    · rw [if_pos h0] at e; cases e; rw [h0]; exact ⟨_, .str "keeper", PySem.W.mg_of X Gn g0, ⟨_, rfl⟩, fun B H => .str _⟩
    rw [if_neg h0] at e
    by_cases h1 : x = "FOE"
    · rw [if_pos h1] at e; cases e; rw [h1]; exact ⟨_, .str "foe", PySem.W.mg_of X Gn g1, ⟨_, rfl⟩, fun B H => .str _⟩
    rw [if_neg h1] at e
    by_cases h2 : x = "MOVE"
    · rw [if_pos h2] at e; cases e; rw [h2]; exact ⟨_, .str "move", PySem.W.mg_of X Gn g2, ⟨_, rfl⟩, fun B H => .str _⟩
    rw [if_neg h2] at e
    by_cases h3 : x = "SLIP"
    · rw [if_pos h3] at e; cases e; rw [h3]; exact ⟨_, .str "slip", PySem.W.mg_of X Gn g3, ⟨_, rfl⟩, fun B H => .str _⟩
    rw [if_neg h3] at e
    by_cases h4 : x = "ENDLESS"
    · rw [if_pos h4] at e; cases e; rw [h4]; exact ⟨_, .str "endless", PySem.W.mg_of X Gn g4, ⟨_, rfl⟩, fun B H => .str _⟩
    rw [if_neg h4] at e
    cases e
  · have e : x ∈ (["sorted", "sum", "zip", "enumerate", "set", "len", "int", "str", "max", "list", "tuple", "isinstance", "repr", "all", "range", "bool", "dict"] : List Str) := by simpa using (show (["sorted", "sum", "zip", "enumerate", "set", "len", "int", "str", "max", "list", "tuple", "isinstance", "repr", "all", "range", "bool", "dict"] : List Str).contains x = true from e)
    rcases List.mem_cons.mp e with rfl | e
    · exact PySem.W.mg_none_of X Gn b0
    rcases List.mem_cons.mp e with rfl | e
    · exact PySem.W.mg_none_of X Gn b1
    rcases List.mem_cons.mp e with rfl | e
    · exact PySem.W.mg_none_of X Gn b2
    rcases List.mem_cons.mp e with rfl | e
    · exact PySem.W.mg_none_of X Gn b3
    rcases List.mem_cons.mp e with rfl | e
    · exact PySem.W.mg_none_of X Gn b4
    rcases List.mem_cons.mp e with rfl | e
    · exact PySem.W.mg_none_of X Gn b5
    rcases List.mem_cons.mp e with rfl | e
    · exact PySem.W.mg_none_of X Gn b6
    rcases List.mem_cons.mp e with rfl | e
    · exact PySem.W.mg_none_of X Gn b7
    rcases List.mem_cons.mp e with rfl | e
    · exact PySem.W.mg_none_of X Gn b8
    rcases List.mem_cons.mp e with rfl | e
    · exact PySem.W.mg_none_of X Gn b9
    rcases List.mem_cons.mp e with rfl | e
    · exact PySem.W.mg_none_of X Gn b10
    rcases List.mem_cons.mp e with rfl | e
    · exact PySem.W.mg_none_of X Gn b11
    rcases List.mem_cons.mp e with rfl | e
    · exact PySem.W.mg_none_of X Gn b12
    rcases List.mem_cons.mp e with rfl | e
    · exact PySem.W.mg_none_of X Gn b13
    rcases List.mem_cons.mp e with rfl | e
    · exact PySem.W.mg_none_of X Gn b14
    rcases List.mem_cons.mp e with rfl | e
    · exact PySem.W.mg_none_of X Gn b15
    rcases List.mem_cons.mp e with rfl | e
    · exact PySem.W.mg_none_of X Gn b16
    exact (List.not_mem_nil e).elim
theorem T_all {K : PySem.W.Frag} {mg : Mg} (d0 : DefAt K mg "_law_deck" ft__law_deck) (d1 : DefAt K mg "_law_draw" ft__law_draw) (d2 : DefAt K mg "_law_pick" ft__law_pick) (d3 : DefAt K mg "_law_ladder" ft__law_ladder) (d4 : DefAt K mg "_law_ring" ft__law_ring) (d5 : DefAt K mg "_law_any_rows" ft__law_any_rows) (d6 : DefAt K mg "_law_order" ft__law_order) (d7 : DefAt K mg "_law_called" ft__law_called) (d8 : DefAt K mg "_law_game" ft__law_game) (d9 : DefAt K mg "_law_steps_from" ft__law_steps_from) (d10 : DefAt K mg "_law_walk" ft__law_walk) (d11 : DefAt K mg "_law_weight" ft__law_weight) (d12 : DefAt K mg "is_tuple" ft_is_tuple) (d13 : DefAt K mg "is_word" ft_is_word) (d14 : DefAt K mg "is_integer" ft_is_integer) (d15 : DefAt K mg "is_from" ft_is_from) (d16 : DefAt K mg "is_between" ft_is_between) (d17 : DefAt K mg "do_ascend" ft_do_ascend) (d18 : DefAt K mg "are_moves" ft_are_moves) (d19 : DefAt K mg "is_slip" ft_is_slip) (d20 : DefAt K mg "are_slips" ft_are_slips) (d21 : DefAt K mg "is_place_row" ft_is_place_row) (d22 : DefAt K mg "is_game_value" ft_is_game_value) (d23 : DefAt K mg "need_game" ft_need_game) (d24 : DefAt K mg "is_place_of" ft_is_place_of) (d25 : DefAt K mg "is_step" ft_is_step) (d26 : DefAt K mg "are_steps" ft_are_steps) (d27 : DefAt K mg "moves_of" ft_moves_of) (d28 : DefAt K mg "slips_of" ft_slips_of) (d29 : DefAt K mg "weight_of_slip" ft_weight_of_slip) (d30 : DefAt K mg "leads" ft_leads) (d31 : DefAt K mg "do_lead" ft_do_lead) (d32 : DefAt K mg "is_path_value" ft_is_path_value) (d33 : DefAt K mg "need_path" ft_need_path) (d34 : DefAt K mg "steps_weight" ft_steps_weight) (d35 : DefAt K mg "path_weight" ft_path_weight) (d36 : DefAt K mg "is_path" ft_is_path) (d37 : DefAt K mg "_law_is_joined" ft__law_is_joined) (d38 : DefAt K mg "_law_lasso" ft__law_lasso) (d39 : DefAt K mg "is_lasso_value" ft_is_lasso_value) (d40 : DefAt K mg "need_lasso" ft_need_lasso) (d41 : DefAt K mg "weight_of_lasso" ft_weight_of_lasso) (d42 : DefAt K mg "lasso_weight" ft_lasso_weight) (d43 : DefAt K mg "is_lasso" ft_is_lasso) (d44 : DefAt K mg "law" ft_law) : ∀ x t, T x = some t → DefAt K mg x t := by
  intro x t e
  unfold T at e
  by_cases h0 : x = "_law_deck"
  · rw [if_pos h0] at e; cases e; rw [h0]; exact d0
  rw [if_neg h0] at e
  by_cases h1 : x = "_law_draw"
  · rw [if_pos h1] at e; cases e; rw [h1]; exact d1
  rw [if_neg h1] at e
  by_cases h2 : x = "_law_pick"
  · rw [if_pos h2] at e; cases e; rw [h2]; exact d2
  rw [if_neg h2] at e
  by_cases h3 : x = "_law_ladder"
  · rw [if_pos h3] at e; cases e; rw [h3]; exact d3
  rw [if_neg h3] at e
  by_cases h4 : x = "_law_ring"
  · rw [if_pos h4] at e; cases e; rw [h4]; exact d4
  rw [if_neg h4] at e
  by_cases h5 : x = "_law_any_rows"
  · rw [if_pos h5] at e; cases e; rw [h5]; exact d5
  rw [if_neg h5] at e
  by_cases h6 : x = "_law_order"
  · rw [if_pos h6] at e; cases e; rw [h6]; exact d6
  rw [if_neg h6] at e
  by_cases h7 : x = "_law_called"
  · rw [if_pos h7] at e; cases e; rw [h7]; exact d7
  rw [if_neg h7] at e
  by_cases h8 : x = "_law_game"
  · rw [if_pos h8] at e; cases e; rw [h8]; exact d8
  rw [if_neg h8] at e
  by_cases h9 : x = "_law_steps_from"
  · rw [if_pos h9] at e; cases e; rw [h9]; exact d9
  rw [if_neg h9] at e
  by_cases h10 : x = "_law_walk"
  · rw [if_pos h10] at e; cases e; rw [h10]; exact d10
  rw [if_neg h10] at e
  by_cases h11 : x = "_law_weight"
  · rw [if_pos h11] at e; cases e; rw [h11]; exact d11
  rw [if_neg h11] at e
  by_cases h12 : x = "is_tuple"
  · rw [if_pos h12] at e; cases e; rw [h12]; exact d12
  rw [if_neg h12] at e
  by_cases h13 : x = "is_word"
  · rw [if_pos h13] at e; cases e; rw [h13]; exact d13
  rw [if_neg h13] at e
  by_cases h14 : x = "is_integer"
  · rw [if_pos h14] at e; cases e; rw [h14]; exact d14
  rw [if_neg h14] at e
  by_cases h15 : x = "is_from"
  · rw [if_pos h15] at e; cases e; rw [h15]; exact d15
  rw [if_neg h15] at e
  by_cases h16 : x = "is_between"
  · rw [if_pos h16] at e; cases e; rw [h16]; exact d16
  rw [if_neg h16] at e
  by_cases h17 : x = "do_ascend"
  · rw [if_pos h17] at e; cases e; rw [h17]; exact d17
  rw [if_neg h17] at e
  by_cases h18 : x = "are_moves"
  · rw [if_pos h18] at e; cases e; rw [h18]; exact d18
  rw [if_neg h18] at e
  by_cases h19 : x = "is_slip"
  · rw [if_pos h19] at e; cases e; rw [h19]; exact d19
  rw [if_neg h19] at e
  by_cases h20 : x = "are_slips"
  · rw [if_pos h20] at e; cases e; rw [h20]; exact d20
  rw [if_neg h20] at e
  by_cases h21 : x = "is_place_row"
  · rw [if_pos h21] at e; cases e; rw [h21]; exact d21
  rw [if_neg h21] at e
  by_cases h22 : x = "is_game_value"
  · rw [if_pos h22] at e; cases e; rw [h22]; exact d22
  rw [if_neg h22] at e
  by_cases h23 : x = "need_game"
  · rw [if_pos h23] at e; cases e; rw [h23]; exact d23
  rw [if_neg h23] at e
  by_cases h24 : x = "is_place_of"
  · rw [if_pos h24] at e; cases e; rw [h24]; exact d24
  rw [if_neg h24] at e
  by_cases h25 : x = "is_step"
  · rw [if_pos h25] at e; cases e; rw [h25]; exact d25
  rw [if_neg h25] at e
  by_cases h26 : x = "are_steps"
  · rw [if_pos h26] at e; cases e; rw [h26]; exact d26
  rw [if_neg h26] at e
  by_cases h27 : x = "moves_of"
  · rw [if_pos h27] at e; cases e; rw [h27]; exact d27
  rw [if_neg h27] at e
  by_cases h28 : x = "slips_of"
  · rw [if_pos h28] at e; cases e; rw [h28]; exact d28
  rw [if_neg h28] at e
  by_cases h29 : x = "weight_of_slip"
  · rw [if_pos h29] at e; cases e; rw [h29]; exact d29
  rw [if_neg h29] at e
  by_cases h30 : x = "leads"
  · rw [if_pos h30] at e; cases e; rw [h30]; exact d30
  rw [if_neg h30] at e
  by_cases h31 : x = "do_lead"
  · rw [if_pos h31] at e; cases e; rw [h31]; exact d31
  rw [if_neg h31] at e
  by_cases h32 : x = "is_path_value"
  · rw [if_pos h32] at e; cases e; rw [h32]; exact d32
  rw [if_neg h32] at e
  by_cases h33 : x = "need_path"
  · rw [if_pos h33] at e; cases e; rw [h33]; exact d33
  rw [if_neg h33] at e
  by_cases h34 : x = "steps_weight"
  · rw [if_pos h34] at e; cases e; rw [h34]; exact d34
  rw [if_neg h34] at e
  by_cases h35 : x = "path_weight"
  · rw [if_pos h35] at e; cases e; rw [h35]; exact d35
  rw [if_neg h35] at e
  by_cases h36 : x = "is_path"
  · rw [if_pos h36] at e; cases e; rw [h36]; exact d36
  rw [if_neg h36] at e
  by_cases h37 : x = "_law_is_joined"
  · rw [if_pos h37] at e; cases e; rw [h37]; exact d37
  rw [if_neg h37] at e
  by_cases h38 : x = "_law_lasso"
  · rw [if_pos h38] at e; cases e; rw [h38]; exact d38
  rw [if_neg h38] at e
  by_cases h39 : x = "is_lasso_value"
  · rw [if_pos h39] at e; cases e; rw [h39]; exact d39
  rw [if_neg h39] at e
  by_cases h40 : x = "need_lasso"
  · rw [if_pos h40] at e; cases e; rw [h40]; exact d40
  rw [if_neg h40] at e
  by_cases h41 : x = "weight_of_lasso"
  · rw [if_pos h41] at e; cases e; rw [h41]; exact d41
  rw [if_neg h41] at e
  by_cases h42 : x = "lasso_weight"
  · rw [if_pos h42] at e; cases e; rw [h42]; exact d42
  rw [if_neg h42] at e
  by_cases h43 : x = "is_lasso"
  · rw [if_pos h43] at e; cases e; rw [h43]; exact d43
  rw [if_neg h43] at e
  by_cases h44 : x = "law"
  · rw [if_pos h44] at e; cases e; rw [h44]; exact d44
  rw [if_neg h44] at e
  cases e
end K13
set_option maxHeartbeats 400000
namespace K13
open PySem PySem.Spec L2 PI
open PyProof.Rows hiding St
section
variable {L : Nat}
abbrev LEV : Nat := 20
theorem deck (L k : Nat) (hL : 1000000 ≤ L) (ns : List Int) (hn : ns.length ≤ 63) : ∃ (xs : List Int) (mx : Int), fL (G L) T DEP (k + 1) ft__law_deck [] [.p (.list (ns.map .int))] = some (.ref 1, DS xs mx 0 []) ∧ xs.length ≤ 63 := by
  have cut1 : cutD (ns.map fun i => D.p (.int i)) none (some 63) = ns.map fun i => D.p (.int i) := cut_all (by rw [List.length_map]; exact hn)
  obtain ⟨ev', S', h1, m, c, rfl, rfl⟩ := forL_inv (xs := ns.map fun i => D.p (.int i)) (g := gNm 2) (body := b__law_deck_0 L k)
    (fun _ ev S => ∃ (m : Int) (c : Option D), ev = [some (.p (.list (ns.map .int))), some (.p (.int m)), c] ∧ S = []) (fun i d ev S hd ⟨m, c, e1, e2⟩ => by
      subst e1 e2
      obtain ⟨j, hj, rfl⟩ : ∃ j : Int, ns[i]? = some j ∧ d = .p (.int j) := by
        rw [List.getElem?_map] at hd
        cases e : ns[i]? with
        | none => rw [e] at hd; cases hd
        | some j => rw [e] at hd; cases hd; exact ⟨j, rfl, rfl⟩
      simp [b__law_deck_0]) L 0 [some (.p (.list (ns.map .int))), some (.p (.int 15371130)), none] [] (by rw [List.length_map]; show ns.length - 0 < L; omega) (Nat.zero_le _) ⟨_, _, rfl, rfl⟩
  rw [e__law_deck, bodyF_e (h := rfl)]
  have hz : ns.length ≤ sizeLine := Nat.le_trans hn (by decide)
  have e : mergeD [] [(Sum.inr (Str.ofString "left"), D.ref 0), (Sum.inr (Str.ofString "mixed"), D.p (.int m)), (Sum.inr (Str.ofString "draws"), D.p (.int 0))] = [(Sum.inr (Str.ofString "left"), D.ref 0), (Sum.inr (Str.ofString "mixed"), D.p (.int m)), (Sum.inr (Str.ofString "draws"), D.p (.int 0))] := rfl
  have h3 : 3 ≤ sizeLine := by decide
  simp [startD, slI, cut1, mkL, allP_ints, hz, h1, Function.comp_def, e, mkD, h3]
  refine ⟨ns.reverse, ⟨m, ?_⟩, by rw [List.length_reverse]; exact hn⟩
  unfold DS
  rw [List.map_reverse]
instance : Deck := ⟨fun S => ∃ tl, Dk tl S, fun S ⟨tl, xs, mx, dr, e, _⟩ => by rw [e]; unfold DS; simp, fun S S' e0 e1 ⟨tl, xs, mx, dr, e, h⟩ => by
  subst e
  match S', e0, e1 with
  | a :: b :: tl', e0, e1 =>
    have e0 : some (Cell.lst (xs.map fun i => D.p (.int i))) = some a := e0
    have e1 : some (Cell.dct [(.inr "left", .ref 0), (.inr "mixed", .p (.int mx)), (.inr "draws", .p (.int dr))]) = some b := e1
    cases e0
    cases e1
    exact ⟨tl', xs, mx, dr, rfl, h⟩⟩
theorem draw (L k : Nat) (xs : List Int) (hx : xs.length ≤ 63) (mx dr many : Int) (tl : Store) (h0 : 0 < many) (h1 : many < 1073741824) : ∃ (r : Int) (xs' : List Int) (mx' dr' : Int), fL (G L) T DEP (k + 1) ft__law_draw (DS xs mx dr tl) [.ref 1, .p (.int many)] = some (.p (.int r), DS xs' mx' dr' tl) ∧ (0 ≤ r ∧ r < many) ∧ xs'.length ≤ 63 := by
  have em (x : Int) : 0 ≤ x % many ∧ x % many < many := ⟨Int.emod_nonneg _ (by omega), Int.emod_lt_of_pos _ h0⟩
  rcases List.eq_nil_or_concat xs with rfl | ⟨ys, c, rfl⟩
  · have e : ∃ r, fL (G L) T DEP (k + 1) ft__law_draw (DS [] mx dr tl) [.ref 1, .p (.int many)] = some (.p (.int r), DS [] mx (dr + 1) tl) ∧ (0 ≤ r ∧ r < many) := by
      rw [e__law_draw, bodyF_e (h := rfl)]
      simp [startD, mkL, allP, h0, em]
    obtain ⟨r, e1, e2⟩ := e
    exact ⟨r, [], mx, dr + 1, e1, e2, hx⟩
  · rw [List.concat_eq_append, List.length_append, List.length_singleton] at hx
    rw [List.concat_eq_append]
    by_cases hc : 1000000000000000000 ≤ c
    · have hd : (if many > 2 then many else 2) < 1073741824 ∧ 0 < (if many > 2 then many else 2) := by split <;> omega
      refine ⟨c % many, ys ++ [c / (if many > 2 then many else 2)], mx, dr + 1, ?_, em c, by rw [List.length_append, List.length_singleton]; exact hx⟩
      rw [e__law_draw, bodyF_e (h := rfl)]
      simp [startD, mkL, allP, h0, em, hc, hd, ds_app ys mx (dr + 1) (c / (if many > 2 then many else 2)) tl (by omega)]
    · have e : ∃ r, fL (G L) T DEP (k + 1) ft__law_draw (DS (ys ++ [c]) mx dr tl) [.ref 1, .p (.int many)] = some (.p (.int r), DS ys ((mx * 39373 + c % 2147483587 + 23) % 2147483629) (dr + 1) tl) ∧ (0 ≤ r ∧ r < many) := by
        rw [e__law_draw, bodyF_e (h := rfl)]
        simp [startD, mkL, allP, h0, em, hc]
      obtain ⟨r, e1, e2⟩ := e
      exact ⟨r, ys, _, dr + 1, e1, e2, by omega⟩
@[irreducible] def F__law_draw (many : Int) : W Int := drawW many
theorem j__law_draw (hL : 1000000 ≤ L) (k : Nat) (many : Int) : CJ (fL (G L) T DEP (k + 1) ft__law_draw) [.d (.ref 1), .p (eI many)] (F__law_draw many) eI := fun S ds F Q ha hF hD q => by
  match ds, ha with
  | [d1, d2], ⟨a1, a2, _⟩ =>
    have a1 : d1 = .ref 1 := a1
    have a2 : d2 = .p (eI many) := a2
    subst a1; subst a2
    obtain ⟨tl, xs, mx, dr, rfl, hx⟩ := hD
    delta F__law_draw at q
    obtain ⟨⟨h0, h1⟩, q⟩ := q
    obtain ⟨r, xs', mx', dr', e1, ⟨r0, r1⟩, h3⟩ := draw L k xs hx mx dr many tl h0 h1
    refine ⟨_, e1, ⟨?_, fun n c h2 _ e => ?_⟩, ⟨tl, xs', mx', dr', rfl, h3⟩, r, q r r0 r1, .inl rfl, (fun n w => by cases w), trivial⟩
    · unfold DS; simp
    · match n, h2, e with
      | n + 2, _, e => exact e
@[irreducible] def F__law_pick_L {α : Type} (l : List α) : W α := pickW l
@[irreducible] def F__law_pick_T {α : Type} (l : List α) : W α := pickW l
theorem j__law_pick_L (hL : 1000000 ≤ L) (k : Nat) {α : Type} {e : α → PyData} (some_ : List α) : CJ (fL (G L) T DEP (k + 2) ft__law_pick) [.d (.ref 1), .v (eL e some_)] (F__law_pick_L some_) e := by
  rw [show k + 2 = k + 1 + 1 from rfl, e__law_pick]
  refine CJ.of [.d (.ref 1), .v (eL e some_)] rfl rfl rfl (SG.ret (ES.ixL (ES.var 1 rfl) (ES.nbp (ES.call (EA.d (ES.vard 0 rfl) (EA.p (ES.nbp (ES.lenL (ES.var 1 rfl)) (fun _ => rfl)) (EA.nil (o := false)))) (EA.nil (o := false)) (fun _ _ => rfl) (fun _ _ => j__law_draw hL _ _)) (fun _ => rfl)))) (fun Q h => ?_)
  unfold F__law_pick_L at h
  obtain ⟨⟨h0, h1⟩, h2⟩ := id h
  have := List.length_pos_iff.mpr h0
  delta F__law_draw
  refine ⟨⟨?_, ?_⟩, fun r r0 r1 => pickW_at h r0 r1⟩
  · show (0 : Int) < (some_.length : Int); omega
  · show (some_.length : Int) < 1073741824; omega
theorem j__law_pick_T (hL : 1000000 ≤ L) (k : Nat) {α : Type} {e : α → PyData} (some_ : List α) : CJ (fL (G L) T DEP (k + 2) ft__law_pick) [.d (.ref 1), .p (eT e some_)] (F__law_pick_T some_) e := by
  rw [show k + 2 = k + 1 + 1 from rfl, e__law_pick]
  refine CJ.of [.d (.ref 1), .p (eT e some_)] rfl rfl rfl (SG.ret (ES.ixT (ES.varp 1 rfl) (ES.nbp (ES.call (EA.d (ES.vard 0 rfl) (EA.p (ES.nbp (ES.lenT (ES.varp 1 rfl)) (fun _ => rfl)) (EA.nil (o := false)))) (EA.nil (o := false)) (fun _ _ => rfl) (fun _ _ => j__law_draw hL _ _)) (fun _ => rfl)))) (fun Q h => ?_)
  unfold F__law_pick_T at h
  obtain ⟨⟨h0, h1⟩, h2⟩ := id h
  have := List.length_pos_iff.mpr h0
  delta F__law_draw
  refine ⟨⟨?_, ?_⟩, fun r r0 r1 => pickW_at h r0 r1⟩
  · show (0 : Int) < (some_.length : Int); omega
  · show (some_.length : Int) < 1073741824; omega
@[irreducible] def F_is_tuple (thing : PyData) (length : Int) (Q : Bool → Prop) : Prop :=
 joinW (α := Bool) (fun Q => if (isT thing Tn.tup) = true then (asTup thing fun t2 => Q (decide ((t2.length : Int) = length))) else Q false) fun t1 => Q t1
theorem j_is_tuple (hL : 1000000 ≤ L) (k : Nat) (thing : PyData) (length : Int) : CJ (fL (G L) T DEP (k + 1) ft_is_tuple) [.v (eX thing), .p (eI length)] (F_is_tuple thing length) (eB) := by
  rw [show k + 1 = k + 0 + 1 from rfl, e_is_tuple]
  exact CJ.ofx [.v (eX thing), .p (eI length)] rfl rfl rfl
   (XSG.ret (XES.and_ (XES.isi_ Tn.tup (XES.var 0 rfl)) (XES.eq eqok_I (by decide) (XES.lenT (XES.asTup_ (XES.var 0 rfl))) (XES.varp 1 rfl))))
   (fun Q h => by delta F_is_tuple at h; exact h)

@[irreducible] def F_is_word (thing : PyData) (words : List String) (Q : Bool → Prop) : Prop :=
 joinW (α := Bool) (fun Q => if (isT thing Tn.str) = true then (asTxt thing fun t3 => inW t3 words fun t2 => Q t2) else Q false) fun t1 => Q t1
theorem j_is_word (hL : 1000000 ≤ L) (k : Nat) (thing : PyData) (words : List String) : CJ (fL (G L) T DEP (k + 1) ft_is_word) [.v (eX thing), .p (eT eS words)] (F_is_word thing words) (eB) := by
  rw [show k + 1 = k + 0 + 1 from rfl, e_is_word]
  exact CJ.ofx [.v (eX thing), .p (eT eS words)] rfl rfl rfl
   (XSG.ret (XES.and_ (XES.isi_ Tn.str (XES.var 0 rfl)) (XES.inW_ (XES.asTxt_ (XES.var 0 rfl)) (XES.varp 1 rfl))))
   (fun Q h => by delta F_is_word at h; exact h)

@[irreducible] def F_is_integer (thing : PyData) (Q : Bool → Prop) : Prop :=
 Q ((isT thing Tn.int) && (!(isT thing Tn.bl)))
theorem j_is_integer (hL : 1000000 ≤ L) (k : Nat) (thing : PyData) : CJ (fL (G L) T DEP (k + 1) ft_is_integer) [.v (eX thing)] (F_is_integer thing) (eB) := by
  rw [show k + 1 = k + 0 + 1 from rfl, e_is_integer]
  exact CJ.ofx [.v (eX thing)] rfl rfl rfl
   (XSG.ret (XES.w (XES.andp (XES.pv (isT thing Tn.int) (XES.isi_ Tn.int (XES.var 0 rfl)) rfl) (XES.pv (!(isT thing Tn.bl)) (XES.not_ (XES.isi_ Tn.bl (XES.var 0 rfl))) rfl))))
   (fun Q h => by delta F_is_integer at h; exact h)

@[irreducible] def F_is_from (thing : PyData) (least : Int) (Q : Bool → Prop) : Prop :=
 joinW (α := Bool) (fun Q => F_is_integer thing fun t3 => if t3 = true then (asInt thing fun t2 => Q (decide (least ≤ t2))) else Q false) fun t1 => Q t1
theorem j_is_from (hL : 1000000 ≤ L) (k : Nat) (thing : PyData) (least : Int) : CJ (fL (G L) T DEP (k + 2) ft_is_from) [.v (eX thing), .p (eI least)] (F_is_from thing least) (eB) := by
  rw [show k + 2 = k + 1 + 1 from rfl, e_is_from]
  exact CJ.ofx [.v (eX thing), .p (eI least)] rfl rfl rfl
   (XSG.ret (XES.and_ (XES.nbp (XES.call (XEA.v (XES.var 0 rfl) (XEA.nil (o := false)) trivial) (XEA.nil (o := false)) (fun _ _ => rfl) (fun _ _ => j_is_integer hL _ _)) (fun _ => rfl)) (XES.ge (XES.asInt_ (XES.var 0 rfl)) (XES.varp 1 rfl))))
   (fun Q h => by delta F_is_from at h; exact h)

@[irreducible] def F_is_between (thing : PyData) (least : Int) (most : Int) (Q : Bool → Prop) : Prop :=
 joinW (α := Bool) (fun Q => F_is_integer thing fun t3 => if t3 = true then (asInt thing fun t2 => Q (decide (least ≤ t2) && decide (t2 ≤ most))) else Q false) fun t1 => Q t1
theorem j_is_between (hL : 1000000 ≤ L) (k : Nat) (thing : PyData) (least : Int) (most : Int) : CJ (fL (G L) T DEP (k + 2) ft_is_between) [.v (eX thing), .p (eI least), .p (eI most)] (F_is_between thing least most) (eB) := by
  rw [show k + 2 = k + 1 + 1 from rfl, e_is_between]
  exact CJ.ofx [.v (eX thing), .p (eI least), .p (eI most)] rfl rfl rfl
   (XSG.ret (XES.and_ (XES.nbp (XES.call (XEA.v (XES.var 0 rfl) (XEA.nil (o := false)) trivial) (XEA.nil (o := false)) (fun _ _ => rfl) (fun _ _ => j_is_integer hL _ _)) (fun _ => rfl)) (XES.chain (f := fun x y => decide (x ≤ y)) (f' := fun x y => decide (x ≤ y)) (XES.varp 1 rfl) (XES.asInt_ (XES.var 0 rfl)) (XES.pv most (XES.varp 2 rfl) rfl) (fun _ _ _ => rfl) (fun _ _ _ => rfl))))
   (fun Q h => by delta F_is_between at h; exact h)

@[irreducible] def F_do_ascend (items : List Int) (Q : Bool → Prop) : Prop :=
 letW (List.zip items (PI.cutD items (some (1 : Int)) none)) fun t1 => t1.length < 1000000 ∧ Q ((t1.map fun (y1 : Int × Int) => decide (y1.1 < y1.2)).all id)
theorem j_do_ascend (hL : 1000000 ≤ L) (k : Nat) (items : List Int) : CJ (fL (G L) T DEP (k + 1) ft_do_ascend) [.p (eT eI items)] (F_do_ascend items) (eB) := by
  rw [show k + 1 = k + 0 + 1 from rfl, e_do_ascend]
  exact CJ.ofx [.p (eT eI items), .u, .u] rfl rfl rfl
   (XSG.ret (XES.allL (XES.ofL (XES.lcNP (bx := false) hL (XIJ.zpTT (fun _ _ => rfl) (XES.varp 0 rfl) (XES.slT (XES.varp 0 rfl) (XOJ.some (XES.con (ea := eI) 1)) XOJ.none)) (fun _ => (XGJ.tp (XGsJ.nm 1 (XGsJ.nm 2 XGsJ.nil)) rfl)) (fun (y1 : Int × Int) => (XES.pv (decide (y1.1 < y1.2)) (XES.lt (XES.varp 1 rfl) (XES.varp 2 rfl)) rfl))))))
   (fun Q h => by delta F_do_ascend at h; exact h)

@[irreducible] def F_are_moves (thing : PyData) (many : Int) (Q : Bool → Prop) : Prop :=
 joinW (α := Bool) (fun Q => if (!(isT thing Tn.tup)) = true then Q true else (joinW (α := Bool) (fun Q => asTup thing fun t8 => if (t8.isEmpty) = true then Q true else (asTup thing fun t6 => compN t6 (fun (y1 : PyData) Q => F_is_between y1 (0 : Int) (many - (1 : Int)) fun t7 => Q t7) fun t5 => Q (!(t5.all id)))) fun t4 => Q t4)) fun t3 => if t3 = true then (Q false) else
 asOf (eT eI) thing fun t2 => F_do_ascend t2 fun t1 => Q t1
theorem j_are_moves (hL : 1000000 ≤ L) (k : Nat) (thing : PyData) (many : Int) : CJ (fL (G L) T DEP (k + 3) ft_are_moves) [.v (eX thing), .p (eI many)] (F_are_moves thing many) (eB) := by
  rw [show k + 3 = k + 2 + 1 from rfl, e_are_moves]
  exact CJ.ofx [.v (eX thing), .p (eI many), .u] rfl rfl rfl
   (XSG.ifR (XES.or_ (XES.not_ (XES.isi_ Tn.tup (XES.var 0 rfl))) (XES.or_ (XES.eqtil (XES.asTup_ (XES.var 0 rfl))) (XES.not_ (XES.allL (XES.ofL (XES.lcN (bx := false) hL (XIJ.ofT (XES.asTup_ (XES.var 0 rfl))) (fun _ => (XGJ.nm 2)) (fun (y1 : PyData) => (XES.nbp (XES.call (XEA.v (XES.varp 2 rfl) (XEA.p (XES.con (ea := eI) 0) (XEA.p (XES.sub (XES.varp 1 rfl) (XES.con (ea := eI) 1)) (XEA.nil (o := false)))) trivial) (XEA.nil (o := false)) (fun _ _ => rfl) (fun _ _ => j_is_between hL _ _ _ _)) (fun _ => rfl)))))))))
    (XSG.ret (XES.con (ea := eB) false))
    (XSG.pass
    (XSG.ret (XES.nbp (XES.call (XEA.p (XES.asOf_ (ea := eT eI) (fun _ => rfl) (XES.var 0 rfl)) (XEA.nil (o := false))) (XEA.nil (o := false)) (fun _ _ => rfl) (fun _ _ => j_do_ascend hL _ _)) (fun _ => rfl)))))
   (fun Q h => by delta F_are_moves at h; exact h)

@[irreducible] def F_is_slip (thing : PyData) (many : Int) (Q : Bool → Prop) : Prop :=
 joinW (α := Bool) (fun Q => F_is_tuple thing (2 : Int) fun t9 => if t9 = true then (joinW (α := Bool) (fun Q => asTup thing fun t8 => atW t8 (0 : Int) fun t7 => F_is_between t7 (0 : Int) (many - (1 : Int)) fun t6 => if t6 = true then (asTup thing fun t5 => atW t5 (1 : Int) fun t4 => F_is_from t4 (1 : Int) fun t3 => Q t3) else Q false) fun t2 => Q t2) else Q false) fun t1 => Q t1
theorem j_is_slip (hL : 1000000 ≤ L) (k : Nat) (thing : PyData) (many : Int) : CJ (fL (G L) T DEP (k + 3) ft_is_slip) [.v (eX thing), .p (eI many)] (F_is_slip thing many) (eB) := by
  rw [show k + 3 = k + 2 + 1 from rfl, e_is_slip]
  exact CJ.ofx [.v (eX thing), .p (eI many)] rfl rfl rfl
   (XSG.ret (XES.and_ (XES.nbp (XES.call (XEA.v (XES.var 0 rfl) (XEA.p (XES.con (ea := eI) 2) (XEA.nil (o := false))) trivial) (XEA.nil (o := false)) (fun _ _ => rfl) (fun _ _ => j_is_tuple hL _ _ _)) (fun _ => rfl)) (XES.and_ (XES.nbp (XES.call (XEA.v (XES.ixT (XES.asTup_ (XES.var 0 rfl)) (XES.con (ea := eI) 0)) (XEA.p (XES.con (ea := eI) 0) (XEA.p (XES.sub (XES.varp 1 rfl) (XES.con (ea := eI) 1)) (XEA.nil (o := false)))) trivial) (XEA.nil (o := false)) (fun _ _ => rfl) (fun _ _ => j_is_between hL _ _ _ _)) (fun _ => rfl)) (XES.nbp (XES.call (XEA.v (XES.ixT (XES.asTup_ (XES.var 0 rfl)) (XES.con (ea := eI) 1)) (XEA.p (XES.con (ea := eI) 1) (XEA.nil (o := false))) trivial) (XEA.nil (o := false)) (fun _ _ => rfl) (fun _ _ => j_is_from hL _ _ _)) (fun _ => rfl)))))
   (fun Q h => by delta F_is_slip at h; exact h)

@[irreducible] def F_do_ascend_2 (items : List Int) (Q : Bool → Prop) : Prop :=
 small (PI.cutD items (some (1 : Int)) none) fun t2 => letW (List.zip items t2) fun t1 => t1.length < 1000000 ∧ Q ((t1.map fun (y1 : Int × Int) => decide (y1.1 < y1.2)).all id)
theorem j_do_ascend_2 (hL : 1000000 ≤ L) (k : Nat) (items : List Int) : CJ (fL (G L) T DEP (k + 1) ft_do_ascend) [.v (eL eI items)] (F_do_ascend_2 items) (eB) := by
  rw [show k + 1 = k + 0 + 1 from rfl, e_do_ascend]
  exact CJ.ofx [.v (eL eI items), .u, .u] rfl rfl rfl
   (XSG.ret (XES.allL (XES.ofL (XES.lcNP (bx := false) hL (XIJ.zpLL (fun _ _ => rfl) (XES.var 0 rfl) (XES.toF (XES.ofL (XES.slLs (bx := false) (XES.var 0 rfl) (XOJ.some (XES.con (ea := eI) 1)) XOJ.none)))) (fun _ => (XGJ.tp (XGsJ.nm 1 (XGsJ.nm 2 XGsJ.nil)) rfl)) (fun (y1 : Int × Int) => (XES.pv (decide (y1.1 < y1.2)) (XES.lt (XES.varp 1 rfl) (XES.varp 2 rfl)) rfl))))))
   (fun Q h => by delta F_do_ascend_2 at h; exact h)

@[irreducible] def F_are_slips (thing : PyData) (many : Int) (Q : Bool → Prop) : Prop :=
 joinW (α := Bool) (fun Q => if (!(isT thing Tn.tup)) = true then Q true else (asTup thing fun t9 => compN t9 (fun (y1 : PyData) Q => F_is_slip y1 many fun t10 => Q t10) fun t8 => Q (!(t8.all id)))) fun t7 => if t7 = true then (Q false) else
 asTup thing fun t3 => compN t3 (fun (y1 : PyData) Q => asTup y1 fun t6 => atW t6 (0 : Int) fun t5 => asInt t5 fun t4 => Q t4) fun t2 => F_do_ascend_2 t2 fun t1 => Q t1
theorem j_are_slips (hL : 1000000 ≤ L) (k : Nat) (thing : PyData) (many : Int) : CJ (fL (G L) T DEP (k + 4) ft_are_slips) [.v (eX thing), .p (eI many)] (F_are_slips thing many) (eB) := by
  rw [show k + 4 = k + 3 + 1 from rfl, e_are_slips]
  exact CJ.ofx [.v (eX thing), .p (eI many), .u] rfl rfl rfl
   (XSG.ifR (XES.or_ (XES.not_ (XES.isi_ Tn.tup (XES.var 0 rfl))) (XES.not_ (XES.allL (XES.ofL (XES.lcN (bx := false) hL (XIJ.ofT (XES.asTup_ (XES.var 0 rfl))) (fun _ => (XGJ.nm 2)) (fun (y1 : PyData) => (XES.nbp (XES.call (XEA.v (XES.varp 2 rfl) (XEA.p (XES.varp 1 rfl) (XEA.nil (o := false))) trivial) (XEA.nil (o := false)) (fun _ _ => rfl) (fun _ _ => j_is_slip hL _ _ _)) (fun _ => rfl))))))))
    (XSG.ret (XES.con (ea := eB) false))
    (XSG.pass
    (XSG.ret (XES.nbp (XES.call (XEA.v (XES.ofL (XES.lcN (bx := false) hL (XIJ.ofT (XES.asTup_ (XES.var 0 rfl))) (fun _ => (XGJ.nm 2)) (fun (y1 : PyData) => (XES.asInt_ (XES.ixT (XES.asTup_ (XES.varp 2 rfl)) (XES.con (ea := eI) 0)))))) (XEA.nil (o := false)) trivial) (XEA.nil (o := false)) (fun _ _ => rfl) (fun _ _ => j_do_ascend_2 hL _ _)) (fun _ => rfl)))))
   (fun Q h => by delta F_are_slips at h; exact h)

@[irreducible] def F_is_place_row (thing : PyData) (many : Int) (Q : Bool → Prop) : Prop :=
 joinW (α := Bool) (fun Q => F_is_tuple thing (4 : Int) fun t23 => if (!t23) = true then Q true else (joinW (α := Bool) (fun Q => asTup thing fun t22 => atW t22 (0 : Int) fun t21 => F_is_word t21 ["keeper", "foe"] fun t20 => if (!t20) = true then Q true else (asTup thing fun t19 => atW t19 (1 : Int) fun t18 => F_is_from t18 (0 : Int) fun t17 => Q (!t17))) fun t16 => Q t16)) fun t15 => if t15 = true then (Q false) else
 joinW (α := Bool) (fun Q => asTup thing fun t14 => atW t14 (2 : Int) fun t13 => F_are_moves t13 many fun t12 => if (!t12) = true then Q true else (asTup thing fun t11 => atW t11 (3 : Int) fun t10 => F_are_slips t10 many fun t9 => Q (!t9))) fun t8 => if t8 = true then (Q false) else
 joinW (α := Bool) (fun Q => asTup thing fun t7 => atW t7 (0 : Int) fun t6 => eqX t6 (eS "keeper") fun t5 => if t5 = true then Q true else (asTup thing fun t4 => atW t4 (3 : Int) fun t3 => asTup t3 fun t2 => Q (t2.isEmpty))) fun t1 => Q t1
theorem j_is_place_row (hL : 1000000 ≤ L) (k : Nat) (thing : PyData) (many : Int) : CJ (fL (G L) T DEP (k + 5) ft_is_place_row) [.v (eX thing), .p (eI many)] (F_is_place_row thing many) (eB) := by
  rw [show k + 5 = k + 4 + 1 from rfl, e_is_place_row]
  exact CJ.ofx [.v (eX thing), .p (eI many)] rfl rfl rfl
   (XSG.ifR (XES.or_ (XES.not_ (XES.nbp (XES.call (XEA.v (XES.var 0 rfl) (XEA.p (XES.con (ea := eI) 4) (XEA.nil (o := false))) trivial) (XEA.nil (o := false)) (fun _ _ => rfl) (fun _ _ => j_is_tuple hL _ _ _)) (fun _ => rfl))) (XES.or_ (XES.not_ (XES.nbp (XES.call (XEA.v (XES.ixT (XES.asTup_ (XES.var 0 rfl)) (XES.con (ea := eI) 0)) (XEA.p (XES.tupP (XEV.pc (XES.pv "keeper" (XES.con (ea := eS) "keeper") rfl) (XEV.pc (XES.pv "foe" (XES.con (ea := eS) "foe") rfl) (XEV.pn (ea := eS)))) (by simp)) (XEA.nil (o := false))) trivial) (XEA.nil (o := false)) (fun _ _ => rfl) (fun _ _ => j_is_word hL _ _ _)) (fun _ => rfl))) (XES.not_ (XES.nbp (XES.call (XEA.v (XES.ixT (XES.asTup_ (XES.var 0 rfl)) (XES.con (ea := eI) 1)) (XEA.p (XES.con (ea := eI) 0) (XEA.nil (o := false))) trivial) (XEA.nil (o := false)) (fun _ _ => rfl) (fun _ _ => j_is_from hL _ _ _)) (fun _ => rfl)))))
    (XSG.ret (XES.con (ea := eB) false))
    (XSG.pass
    (XSG.ifR (XES.or_ (XES.not_ (XES.nbp (XES.call (XEA.v (XES.ixT (XES.asTup_ (XES.var 0 rfl)) (XES.con (ea := eI) 2)) (XEA.p (XES.varp 1 rfl) (XEA.nil (o := false))) trivial) (XEA.nil (o := false)) (fun _ _ => rfl) (fun _ _ => j_are_moves hL _ _ _)) (fun _ => rfl))) (XES.not_ (XES.nbp (XES.call (XEA.v (XES.ixT (XES.asTup_ (XES.var 0 rfl)) (XES.con (ea := eI) 3)) (XEA.p (XES.varp 1 rfl) (XEA.nil (o := false))) trivial) (XEA.nil (o := false)) (fun _ _ => rfl) (fun _ _ => j_are_slips hL _ _ _)) (fun _ => rfl))))
    (XSG.ret (XES.con (ea := eB) false))
    (XSG.pass
    (XSG.ret (XES.or_ (XES.eqX_ (XES.ixT (XES.asTup_ (XES.var 0 rfl)) (XES.con (ea := eI) 0)) (XES.as (eb := eX) (XES.con (ea := eS) "keeper") eS (fun _ => rfl))) (XES.eqtil (XES.asTup_ (XES.ixT (XES.asTup_ (XES.var 0 rfl)) (XES.con (ea := eI) 3))))))))))
   (fun Q h => by delta F_is_place_row at h; exact h)

@[irreducible] def F_is_game_value (thing : PyData) (Q : Bool → Prop) : Prop :=
 joinW (α := Bool) (fun Q => if (isT thing Tn.tup) = true then (joinW (α := Bool) (fun Q => asTup thing fun t7 => if (!(t7.isEmpty)) = true then (asTup thing fun t4 => compN t4 (fun (y1 : PyData) Q => asTup thing fun t6 => F_is_place_row y1 (t6.length : Int) fun t5 => Q t5) fun t3 => Q (t3.all id)) else Q false) fun t2 => Q t2) else Q false) fun t1 => Q t1
theorem j_is_game_value (hL : 1000000 ≤ L) (k : Nat) (thing : PyData) : CJ (fL (G L) T DEP (k + 6) ft_is_game_value) [.v (eX thing)] (F_is_game_value thing) (eB) := by
  rw [show k + 6 = k + 5 + 1 from rfl, e_is_game_value]
  exact CJ.ofx [.v (eX thing), .u] rfl rfl rfl
   (XSG.ret (XES.and_ (XES.isi_ Tn.tup (XES.var 0 rfl)) (XES.and_ (XES.netil (XES.asTup_ (XES.var 0 rfl))) (XES.allL (XES.ofL (XES.lcN (bx := false) hL (XIJ.ofT (XES.asTup_ (XES.var 0 rfl))) (fun _ => (XGJ.nm 1)) (fun (y1 : PyData) => (XES.nbp (XES.call (XEA.v (XES.varp 1 rfl) (XEA.p (XES.lenT (XES.asTup_ (XES.var 0 rfl))) (XEA.nil (o := false))) trivial) (XEA.nil (o := false)) (fun _ _ => rfl) (fun _ _ => j_is_place_row hL _ _ _)) (fun _ => rfl)))))))))
   (fun Q h => by delta F_is_game_value at h; exact h)

@[irreducible] def F_need_game (game : PyData) (Q : Unit → Prop) : Prop :=
 F_is_game_value game fun t1 => if (!t1) = true then (False) else
 Q ()
theorem j_need_game (hL : 1000000 ≤ L) (k : Nat) (game : PyData) : CJ (fL (G L) T DEP (k + 7) ft_need_game) [.v (eX game)] (F_need_game game) (eU) := by
  rw [show k + 7 = k + 6 + 1 from rfl, e_need_game]
  exact CJ.ofUx [.v (eX game)] rfl rfl rfl
   (XSG.ifR (XES.not_ (XES.nbp (XES.call (XEA.v (XES.var 0 rfl) (XEA.nil (o := false)) trivial) (XEA.nil (o := false)) (fun _ _ => rfl) (fun _ _ => j_is_game_value hL _ _)) (fun _ => rfl))) XSG.no
    (XSG.pass
    (XSG.nil (s := ()) (Sub.w Sub.n))))
   (fun Q h => by delta F_need_game at h; exact h)

@[irreducible] def F__law_ladder (n : Int) (Q : List (String × Int × (List Int) × (List (Int × Int))) → Prop) : Prop :=
 letW ([] : List (String × Int × (List Int) × (List (Int × Int)))) fun rows =>
 rng1W (n - (1 : Int)) fun t25 => forN t25 (rows) (fun (x1 : Int) (s1 : (List (String × Int × (List Int) × (List (Int × Int))))) n1 =>
 F__law_draw (3 : Int) fun t18 => rng1W t18 fun t17 => compN t17 (fun (y1 : Int) Q => F__law_draw (x1 + (1 : Int)) fun t19 => Q t19) fun t16 => small ([x1] ++ t16) fun t15 => ssetW t15 fun t14 => small t14 fun t13 => letW t13 fun back =>
 F__law_draw (9 : Int) fun t12 => small [(1 : Int), (2 : Int), (1 : Int), (3 : Int), ((1 : Int) + t12)] fun t11 => F__law_pick_L t11 fun t10 => letW [((x1 + (1 : Int)), t10)] fun slips =>
 joinW (α := (List (Int × Int))) (fun Ks2 => F__law_draw (3 : Int) fun t9 => if decide (t9 = (0 : Int)) = true then (F__law_draw (4 : Int) fun t3 => F__law_draw n fun t4 => slips.length < 1000000 ∧ letW (dput slips t4 ((1 : Int) + t3)) fun slips =>
 Ks2 (slips)) else (Ks2 (slips))) fun s2 =>
 F__law_pick_L ["keeper", "keeper", "keeper", "foe"] fun t5 => F__law_pick_L [(0 : Int), (2 : Int), (4 : Int), (0 : Int), (2 : Int), (1 : Int)] fun t6 => small (s2.mergeSort leII) fun t8 => small t8 fun t7 => push s1 (t5, t6, back, t7) fun rows =>
 n1 (rows)) fun s1 =>
 s1.length < 1000000 ∧ letW (s1.map fun (y1 : String × Int × (List Int) × (List (Int × Int))) => (if decide (y1.1 = "keeper") = true then y1 else ((y1.1, y1.2.1, y1.2.2.1).1, (y1.1, y1.2.1, y1.2.2.1).2.1, (y1.1, y1.2.1, y1.2.2.1).2.2, ([] : List (Int × Int))))) fun rows =>
 F__law_pick_L ["foe", "keeper"] fun t22 => F__law_pick_L [(1 : Int), (3 : Int), (1 : Int)] fun t23 => small [(t22, t23, [(n - (1 : Int))], ([] : List (Int × Int)))] fun t21 => small (rows ++ t21) fun t20 => Q t20
theorem j__law_ladder (hL : 1000000 ≤ L) (k : Nat) (n : Int) : CJ (fL (G L) T DEP (k + 3) ft__law_ladder) [.d (.ref 1), .p (eI n)] (F__law_ladder n) (eL (eP4 eS eI (eT eI) (eT (eP2 eI eI)))) := by
  rw [show k + 3 = k + 2 + 1 from rfl, e__law_ladder]
  exact CJ.ofx [.d (.ref 1), .p (eI n), .u, .u, .u, .u, .u, .u] rfl rfl rfl
   (XSG.asg (XES.ofBL (XES.lnil (ea := eP4 eS eI (eT eI) (eT (eP2 eI eI))))) (fun (rows : List (String × Int × (List Int) × (List (Int × Int)))) =>
    (XSG.nrm [.d (.ref 1), .p (eI n), .b (eL (eP4 eS eI (eT eI) (eT (eP2 eI eI))) rows), .u, .u, .u, .u, .u] rfl
    (XSG.forN (Γh := fun (s1 : (List (String × Int × (List Int) × (List (Int × Int))))) => [.d (.ref 1), .p (eI n), .b (eL (eP4 eS eI (eT eI) (eT (eP2 eI eI))) s1), .u, .u, .u, .u, .u]) (s0 := (rows)) hL (XIJ.rng1 (XES.sub (XES.varp 1 rfl) (XES.con (ea := eI) 1))) (Sub.k (Sub.k (Sub.k (Sub.k (Sub.k (Sub.k (Sub.k (Sub.k Sub.n)))))))) (fun (x1 : Int) (s1 : (List (String × Int × (List Int) × (List (Int × Int))))) => (XGJ.nm 3)) (fun (x1 : Int) (s1 : (List (String × Int × (List Int) × (List (Int × Int))))) =>
    (XSG.nrm [.d (.ref 1), .p (eI n), .b (eL (eP4 eS eI (eT eI) (eT (eP2 eI eI))) s1), .p (eI x1), .u, .u, .u, .u] rfl
    (XSG.asgp (XES.tupleL (XES.ofL (XES.sset (bx := false) (XES.ofL (XES.catL (bx := false) (XES.ofL (XES.lstP (XEV.pc (XES.pv x1 (XES.varp 3 rfl) rfl) (XEV.pn (ea := eI))) (by simp))) (XES.ofL (XES.lcN (bx := false) hL (XIJ.rng1 (XES.nbp (XES.call (XEA.d (XES.vard 0 rfl) (XEA.p (XES.con (ea := eI) 3) (XEA.nil (o := false)))) (XEA.nil (o := false)) (fun _ _ => rfl) (fun _ _ => j__law_draw hL _ _)) (fun _ => rfl))) (fun _ => (XGJ.nm 4)) (fun (y1 : Int) => (XES.nbp (XES.call (XEA.d (XES.vard 0 rfl) (XEA.p (XES.add (XES.varp 3 rfl) (XES.con (ea := eI) 1)) (XEA.nil (o := false)))) (XEA.nil (o := false)) (fun _ _ => rfl) (fun _ _ => j__law_draw hL _ _)) (fun _ => rfl)))))))))) (fun (back : List Int) =>
    (XSG.nrm [.d (.ref 1), .p (eI n), .b (eL (eP4 eS eI (eT eI) (eT (eP2 eI eI))) s1), .p (eI x1), .u, .p (eT eI back), .u, .u] rfl
    (XSG.asg (XES.ofBD (XES.d1 keyok_I kP_I (XES.add (XES.varp 3 rfl) (XES.con (ea := eI) 1)) (XES.nbp (XES.call (XEA.d (XES.vard 0 rfl) (XEA.v (XES.ofL (XES.lstV (XEV.cons (XES.con (ea := eI) 1) (XEV.cons (XES.con (ea := eI) 2) (XEV.cons (XES.con (ea := eI) 1) (XEV.cons (XES.con (ea := eI) 3) (XEV.cons (XES.add (XES.con (ea := eI) 1) (XES.nbp (XES.call (XEA.d (XES.vard 0 rfl) (XEA.p (XES.con (ea := eI) 9) (XEA.nil (o := false)))) (XEA.nil (o := false)) (fun _ _ => rfl) (fun _ _ => j__law_draw hL _ _)) (fun _ => rfl))) (XEV.nil (ea := eI))))))))) (XEA.nil (o := false)) trivial)) (XEA.nil (o := false)) (fun _ _ => rfl) (fun _ _ => j__law_pick_L hL _ _)) (fun _ => rfl)))) (fun (slips : List (Int × Int)) =>
    (XSG.nrm [.d (.ref 1), .p (eI n), .b (eL (eP4 eS eI (eT eI) (eT (eP2 eI eI))) s1), .p (eI x1), .u, .p (eT eI back), .b (eD eI eI slips), .u] rfl
    (XSG.seq (Γm := fun (s2 : (List (Int × Int))) => [.d (.ref 1), .p (eI n), .b (eL (eP4 eS eI (eT eI) (eT (eP2 eI eI))) s1), .p (eI x1), .u, .p (eT eI back), .b (eD eI eI s2), .u])
    (XSG.if_ (XES.eq eqok_I (by decide) (XES.nbp (XES.call (XEA.d (XES.vard 0 rfl) (XEA.p (XES.con (ea := eI) 3) (XEA.nil (o := false)))) (XEA.nil (o := false)) (fun _ _ => rfl) (fun _ _ => j__law_draw hL _ _)) (fun _ => rfl)) (XES.con (ea := eI) 0))
    (XSG.setD keyok_I rfl (XES.add (XES.con (ea := eI) 1) (XES.nbp (XES.call (XEA.d (XES.vard 0 rfl) (XEA.p (XES.con (ea := eI) 4) (XEA.nil (o := false)))) (XEA.nil (o := false)) (fun _ _ => rfl) (fun _ _ => j__law_draw hL _ _)) (fun _ => rfl))) (XES.nbp (XES.call (XEA.d (XES.vard 0 rfl) (XEA.p (XES.varp 1 rfl) (XEA.nil (o := false)))) (XEA.nil (o := false)) (fun _ _ => rfl) (fun _ _ => j__law_draw hL _ _)) (fun _ => rfl)) (fun (slips : List (Int × Int)) =>
    (XSG.nil (s := (slips)) (Sub.k (Sub.k (Sub.k (Sub.k (Sub.k (Sub.k (Sub.k (Sub.k Sub.n)))))))))))
    (XSG.nil (s := (slips)) (Sub.k (Sub.k (Sub.k (Sub.k (Sub.k (Sub.k (Sub.k (Sub.k Sub.n)))))))))) (fun (s2 : (List (Int × Int))) =>
    (XSG.app rfl (XES.t4 (XES.nbp (XES.call (XEA.d (XES.vard 0 rfl) (XEA.v (XES.ofL (XES.lstP (XEV.pc (XES.pv "keeper" (XES.con (ea := eS) "keeper") rfl) (XEV.pc (XES.pv "keeper" (XES.con (ea := eS) "keeper") rfl) (XEV.pc (XES.pv "keeper" (XES.con (ea := eS) "keeper") rfl) (XEV.pc (XES.pv "foe" (XES.con (ea := eS) "foe") rfl) (XEV.pn (ea := eS)))))) (by simp))) (XEA.nil (o := false)) trivial)) (XEA.nil (o := false)) (fun _ _ => rfl) (fun _ _ => j__law_pick_L hL _ _)) (fun _ => rfl)) (XES.nbp (XES.call (XEA.d (XES.vard 0 rfl) (XEA.v (XES.ofL (XES.lstP (XEV.pc (XES.pv (0 : Int) (XES.con (ea := eI) 0) rfl) (XEV.pc (XES.pv (2 : Int) (XES.con (ea := eI) 2) rfl) (XEV.pc (XES.pv (4 : Int) (XES.con (ea := eI) 4) rfl) (XEV.pc (XES.pv (0 : Int) (XES.con (ea := eI) 0) rfl) (XEV.pc (XES.pv (2 : Int) (XES.con (ea := eI) 2) rfl) (XEV.pc (XES.pv (1 : Int) (XES.con (ea := eI) 1) rfl) (XEV.pn (ea := eI)))))))) (by simp))) (XEA.nil (o := false)) trivial)) (XEA.nil (o := false)) (fun _ _ => rfl) (fun _ _ => j__law_pick_L hL _ _)) (fun _ => rfl)) (XES.varp 5 rfl) (XES.tupleL (XES.ofL (XES.sit (bx := false) keyok_I kP_I sortok_II (XES.varb 6 rfl))))) (fun (rows : List (String × Int × (List Int) × (List (Int × Int)))) =>
    (XSG.nrm [.d (.ref 1), .p (eI n), .b (eL (eP4 eS eI (eT eI) (eT (eP2 eI eI))) rows), .p (eI x1), .u, .p (eT eI back), .b (eD eI eI s2), .u] rfl
    (XSG.nil (s := (rows)) (Sub.k (Sub.k (Sub.k (Sub.w (Sub.k (Sub.w (Sub.w (Sub.k Sub.n)))))))))))))))))))))) (fun (s1 : (List (String × Int × (List Int) × (List (Int × Int))))) =>
    (XSG.asg (XES.ofBL (XES.lcNP (bx := true) hL (XIJ.ofL (XES.varb 2 rfl)) (fun _ => (XGJ.nm 7)) (fun (y1 : String × Int × (List Int) × (List (Int × Int))) => (XES.pv (if decide (y1.1 = "keeper") = true then y1 else ((y1.1, y1.2.1, y1.2.2.1).1, (y1.1, y1.2.1, y1.2.2.1).2.1, (y1.1, y1.2.1, y1.2.2.1).2.2, ([] : List (Int × Int)))) (XES.w (XES.ifp (XES.pv (decide (y1.1 = "keeper")) (XES.eq eqok_S (by decide) (XES.ixc (ea := eP4 eS eI (eT eI) (eT (eP2 eI eI))) (eb := eS) (fun x : String × Int × (List Int) × (List (Int × Int)) => x.1) (fun _ => ⟨_, rfl, rfl⟩) (XES.varp 7 rfl)) (XES.con (ea := eS) "keeper")) rfl) (XES.pv y1 (XES.varp 7 rfl) rfl) (XES.pv ((y1.1, y1.2.1, y1.2.2.1).1, (y1.1, y1.2.1, y1.2.2.1).2.1, (y1.1, y1.2.1, y1.2.2.1).2.2, ([] : List (Int × Int))) (XES.catc (ea := eP3 eS eI (eT eI)) (eb := eP1 (eT (eP2 eI eI))) (ed := eP4 eS eI (eT eI) (eT (eP2 eI eI))) (f := fun (x : String × Int × (List Int)) (y : (List (Int × Int))) => ((x.1, x.2.1, x.2.2, y) : String × Int × (List Int) × (List (Int × Int)))) (fun _ _ => ⟨_, _, rfl, rfl, rfl, by simp⟩) (XES.slc (ea := eP4 eS eI (eT eI) (eT (eP2 eI eI))) (l := none) (h := some 3) (eb := eP3 eS eI (eT eI)) (fun x : String × Int × (List Int) × (List (Int × Int)) => ((x.1, x.2.1, x.2.2.1) : String × Int × (List Int))) (fun _ => ⟨_, rfl, rfl⟩) (XES.varp 7 rfl) XOJ.noneP (XOJ.someP (XES.pv (3 : Int) (XES.con (ea := eI) 3) rfl))) (XES.t1 (XES.tnil (ea := eP2 eI eI)))) rfl))) rfl)))) (fun (rows : List (String × Int × (List Int) × (List (Int × Int)))) =>
    (XSG.nrm [.d (.ref 1), .p (eI n), .b (eL (eP4 eS eI (eT eI) (eT (eP2 eI eI))) rows), .u, .u, .u, .u, .u] rfl
    (XSG.ret (XES.ofL (XES.catL (bx := false) (XES.varb 2 rfl) (XES.ofL (XES.lstV (XEV.cons (XES.t4 (XES.nbp (XES.call (XEA.d (XES.vard 0 rfl) (XEA.v (XES.ofL (XES.lstP (XEV.pc (XES.pv "foe" (XES.con (ea := eS) "foe") rfl) (XEV.pc (XES.pv "keeper" (XES.con (ea := eS) "keeper") rfl) (XEV.pn (ea := eS)))) (by simp))) (XEA.nil (o := false)) trivial)) (XEA.nil (o := false)) (fun _ _ => rfl) (fun _ _ => j__law_pick_L hL _ _)) (fun _ => rfl)) (XES.nbp (XES.call (XEA.d (XES.vard 0 rfl) (XEA.v (XES.ofL (XES.lstP (XEV.pc (XES.pv (1 : Int) (XES.con (ea := eI) 1) rfl) (XEV.pc (XES.pv (3 : Int) (XES.con (ea := eI) 3) rfl) (XEV.pc (XES.pv (1 : Int) (XES.con (ea := eI) 1) rfl) (XEV.pn (ea := eI))))) (by simp))) (XEA.nil (o := false)) trivial)) (XEA.nil (o := false)) (fun _ _ => rfl) (fun _ _ => j__law_pick_L hL _ _)) (fun _ => rfl)) (XES.tupP (XEV.pc (XES.pv (n - (1 : Int)) (XES.sub (XES.varp 1 rfl) (XES.con (ea := eI) 1)) rfl) (XEV.pn (ea := eI))) (by simp)) (XES.tnil (ea := eP2 eI eI))) (XEV.nil (ea := eP4 eS eI (eT eI) (eT (eP2 eI eI))))))))))))))))))
   (fun Q h => by delta F__law_ladder at h; exact h)

@[irreducible] def F__law_ring (n : Int) (Q : List (String × Int × (List Int) × (List (Int × Int))) → Prop) : Prop :=
 letW ([] : List (String × Int × (List Int) × (List (Int × Int)))) fun rows =>
 rng1W n fun t17 => forN t17 (rows) (fun (x1 : Int) (s1 : (List (String × Int × (List Int) × (List (Int × Int))))) n1 =>
 F__law_pick_L ["keeper", "keeper", "foe"] fun t15 => F__law_draw n fun t16 => letW t15 fun owner =>
 letW t16 fun across =>
 modW (x1 + (1 : Int)) n fun t12 => small [t12] fun t11 => F__law_draw (2 : Int) fun t14 => mulL [across] t14 fun t13 => small (t11 ++ t13) fun t10 => ssetW t10 fun t9 => small t9 fun t8 => letW t8 fun moves =>
 joinW (α := List (Int × Int)) (fun Q => joinW (α := Bool) (fun Q => if decide (owner = "keeper") = true then (F__law_draw (2 : Int) fun t4 => Q (decide (t4 = (0 : Int)))) else Q false) fun t3 => if t3 = true then (F__law_draw n fun t6 => F__law_draw (3 : Int) fun t7 => small [(t6, ((1 : Int) + t7))] fun t5 => Q t5) else (Q ([] : List (Int × Int)))) fun t2 => letW t2 fun slips =>
 F__law_draw (4 : Int) fun t1 => push s1 (owner, t1, moves, slips) fun rows =>
 n1 (rows)) fun s1 =>
 Q s1
theorem j__law_ring (hL : 1000000 ≤ L) (k : Nat) (n : Int) : CJ (fL (G L) T DEP (k + 3) ft__law_ring) [.d (.ref 1), .p (eI n)] (F__law_ring n) (eL (eP4 eS eI (eT eI) (eT (eP2 eI eI)))) := by
  rw [show k + 3 = k + 2 + 1 from rfl, e__law_ring]
  exact CJ.ofx [.d (.ref 1), .p (eI n), .u, .u, .u, .u, .u, .u] rfl rfl rfl
   (XSG.asg (XES.ofBL (XES.lnil (ea := eP4 eS eI (eT eI) (eT (eP2 eI eI))))) (fun (rows : List (String × Int × (List Int) × (List (Int × Int)))) =>
    (XSG.nrm [.d (.ref 1), .p (eI n), .b (eL (eP4 eS eI (eT eI) (eT (eP2 eI eI))) rows), .u, .u, .u, .u, .u] rfl
    (XSG.forN (Γh := fun (s1 : (List (String × Int × (List Int) × (List (Int × Int))))) => [.d (.ref 1), .p (eI n), .b (eL (eP4 eS eI (eT eI) (eT (eP2 eI eI))) s1), .u, .u, .u, .u, .u]) (s0 := (rows)) hL (XIJ.rng1 (XES.varp 1 rfl)) (Sub.k (Sub.k (Sub.k (Sub.k (Sub.k (Sub.k (Sub.k (Sub.k Sub.n)))))))) (fun (x1 : Int) (s1 : (List (String × Int × (List Int) × (List (Int × Int))))) => (XGJ.nm 3)) (fun (x1 : Int) (s1 : (List (String × Int × (List Int) × (List (Int × Int))))) =>
    (XSG.nrm [.d (.ref 1), .p (eI n), .b (eL (eP4 eS eI (eT eI) (eT (eP2 eI eI))) s1), .p (eI x1), .u, .u, .u, .u] rfl
    (XSG.par2 (XES.mdPF (XES.nbp (XES.call (XEA.d (XES.vard 0 rfl) (XEA.v (XES.ofL (XES.lstP (XEV.pc (XES.pv "keeper" (XES.con (ea := eS) "keeper") rfl) (XEV.pc (XES.pv "keeper" (XES.con (ea := eS) "keeper") rfl) (XEV.pc (XES.pv "foe" (XES.con (ea := eS) "foe") rfl) (XEV.pn (ea := eS))))) (by simp))) (XEA.nil (o := false)) trivial)) (XEA.nil (o := false)) (fun _ _ => rfl) (fun _ _ => j__law_pick_L hL _ _)) (fun _ => rfl))) (XES.mdPF (XES.nbp (XES.call (XEA.d (XES.vard 0 rfl) (XEA.p (XES.varp 1 rfl) (XEA.nil (o := false)))) (XEA.nil (o := false)) (fun _ _ => rfl) (fun _ _ => j__law_draw hL _ _)) (fun _ => rfl))) (fun (owner : String) (across : Int) =>
    (XSG.nrm [.d (.ref 1), .p (eI n), .b (eL (eP4 eS eI (eT eI) (eT (eP2 eI eI))) s1), .p (eI x1), .p (eS owner), .p (eI across), .u, .u] rfl
    (XSG.asgp (XES.tupleL (XES.ofL (XES.sset (bx := false) (XES.ofL (XES.catL (bx := false) (XES.ofL (XES.lstV (XEV.cons (XES.mod (XES.int_ (XES.add (XES.varp 3 rfl) (XES.con (ea := eI) 1))) (XES.varp 1 rfl)) (XEV.nil (ea := eI))))) (XES.ofL (XES.mulL (bx := false) (XES.ofL (XES.lstP (XEV.pc (XES.pv across (XES.varp 5 rfl) rfl) (XEV.pn (ea := eI))) (by simp))) (XES.nbp (XES.call (XEA.d (XES.vard 0 rfl) (XEA.p (XES.con (ea := eI) 2) (XEA.nil (o := false)))) (XEA.nil (o := false)) (fun _ _ => rfl) (fun _ _ => j__law_draw hL _ _)) (fun _ => rfl))))))))) (fun (moves : List Int) =>
    (XSG.nrm [.d (.ref 1), .p (eI n), .b (eL (eP4 eS eI (eT eI) (eT (eP2 eI eI))) s1), .p (eI x1), .p (eS owner), .p (eI across), .p (eT eI moves), .u] rfl
    (XSG.asgp (XES.if_ (XES.and_ (XES.eq eqok_S (by decide) (XES.varp 4 rfl) (XES.con (ea := eS) "keeper")) (XES.eq eqok_I (by decide) (XES.nbp (XES.call (XEA.d (XES.vard 0 rfl) (XEA.p (XES.con (ea := eI) 2) (XEA.nil (o := false)))) (XEA.nil (o := false)) (fun _ _ => rfl) (fun _ _ => j__law_draw hL _ _)) (fun _ => rfl)) (XES.con (ea := eI) 0))) (XES.tupV (XEV.cons (XES.t2 (XES.nbp (XES.call (XEA.d (XES.vard 0 rfl) (XEA.p (XES.varp 1 rfl) (XEA.nil (o := false)))) (XEA.nil (o := false)) (fun _ _ => rfl) (fun _ _ => j__law_draw hL _ _)) (fun _ => rfl)) (XES.add (XES.con (ea := eI) 1) (XES.nbp (XES.call (XEA.d (XES.vard 0 rfl) (XEA.p (XES.con (ea := eI) 3) (XEA.nil (o := false)))) (XEA.nil (o := false)) (fun _ _ => rfl) (fun _ _ => j__law_draw hL _ _)) (fun _ => rfl)))) (XEV.nil (ea := eP2 eI eI)))) (XES.tnil (ea := eP2 eI eI))) (fun (slips : List (Int × Int)) =>
    (XSG.nrm [.d (.ref 1), .p (eI n), .b (eL (eP4 eS eI (eT eI) (eT (eP2 eI eI))) s1), .p (eI x1), .p (eS owner), .p (eI across), .p (eT eI moves), .p (eT (eP2 eI eI) slips)] rfl
    (XSG.app rfl (XES.t4 (XES.varp 4 rfl) (XES.nbp (XES.call (XEA.d (XES.vard 0 rfl) (XEA.p (XES.con (ea := eI) 4) (XEA.nil (o := false)))) (XEA.nil (o := false)) (fun _ _ => rfl) (fun _ _ => j__law_draw hL _ _)) (fun _ => rfl)) (XES.varp 6 rfl) (XES.varp 7 rfl)) (fun (rows : List (String × Int × (List Int) × (List (Int × Int)))) =>
    (XSG.nrm [.d (.ref 1), .p (eI n), .b (eL (eP4 eS eI (eT eI) (eT (eP2 eI eI))) rows), .p (eI x1), .p (eS owner), .p (eI across), .p (eT eI moves), .p (eT (eP2 eI eI) slips)] rfl
    (XSG.nil (s := (rows)) (Sub.k (Sub.k (Sub.k (Sub.w (Sub.w (Sub.w (Sub.w (Sub.w Sub.n))))))))))))))))))))))) (fun (s1 : (List (String × Int × (List Int) × (List (Int × Int))))) =>
    (XSG.ret (XES.varb 2 rfl)))))))
   (fun Q h => by delta F__law_ring at h; exact h)

@[irreducible] def F__law_any_rows (n : Int) (Q : List (String × Int × (List Int) × (List (Int × Int))) → Prop) : Prop :=
 letW ([] : List (String × Int × (List Int) × (List (Int × Int)))) fun t25 => F__law_draw (5 : Int) fun t27 => F__law_draw (5 : Int) fun t28 => F__law_draw (2 : Int) fun t29 => small [t27, t28, t29] fun t26 => letW t25 fun rows =>
 letW t26 fun marks =>
 rng1W n fun t24 => forN t24 (rows) (fun (x1 : Int) (s1 : (List (String × Int × (List Int) × (List (Int × Int))))) n1 =>
 F__law_pick_L ["keeper", "keeper", "foe"] fun t23 => letW t23 fun owner =>
 F__law_draw (3 : Int) fun t21 => rng1W ((1 : Int) + t21) fun t20 => compN t20 (fun (y1 : Int) Q => F__law_draw n fun t22 => Q t22) fun t19 => ssetW t19 fun t18 => small t18 fun t17 => letW t17 fun moves =>
 letW [] fun slips =>
 joinW (α := Int) (fun Q => joinW (α := Bool) (fun Q => if decide (owner = "keeper") = true then (F__law_draw (2 : Int) fun t15 => Q (decide (t15 = (0 : Int)))) else Q false) fun t14 => if t14 = true then (F__law_draw (2 : Int) fun t16 => Q ((1 : Int) + t16)) else (Q (0 : Int))) fun t13 => rng1W t13 fun t12 => forN t12 (slips) (fun (x2 : Int) (s2 : (List (Int × Int))) n2 =>
 F__law_draw (9 : Int) fun t3 => small [(1 : Int), (1 : Int), (2 : Int), (3 : Int), ((1 : Int) + t3)] fun t2 => F__law_pick_L t2 fun t1 => F__law_draw n fun t6 => F__law_draw n fun t7 => atW moves (0 : Int) fun t8 => small [t6, t7, x1, t8] fun t5 => F__law_pick_L t5 fun t4 => s2.length < 1000000 ∧ letW (dput s2 t4 t1) fun slips =>
 n2 (slips)) fun s2 =>
 F__law_pick_L marks fun t9 => small (s2.mergeSort leII) fun t11 => small t11 fun t10 => push s1 (owner, t9, moves, t10) fun rows =>
 n1 (rows)) fun s1 =>
 Q s1
theorem j__law_any_rows (hL : 1000000 ≤ L) (k : Nat) (n : Int) : CJ (fL (G L) T DEP (k + 3) ft__law_any_rows) [.d (.ref 1), .p (eI n)] (F__law_any_rows n) (eL (eP4 eS eI (eT eI) (eT (eP2 eI eI)))) := by
  rw [show k + 3 = k + 2 + 1 from rfl, e__law_any_rows]
  exact CJ.ofx [.d (.ref 1), .p (eI n), .u, .u, .u, .u, .u, .u, .u] rfl rfl rfl
   (XSG.par2 (XES.ofBL (XES.lnil (ea := eP4 eS eI (eT eI) (eT (eP2 eI eI))))) (XES.mdPF (XES.ofL (XES.lstV (XEV.cons (XES.nbp (XES.call (XEA.d (XES.vard 0 rfl) (XEA.p (XES.con (ea := eI) 5) (XEA.nil (o := false)))) (XEA.nil (o := false)) (fun _ _ => rfl) (fun _ _ => j__law_draw hL _ _)) (fun _ => rfl)) (XEV.cons (XES.nbp (XES.call (XEA.d (XES.vard 0 rfl) (XEA.p (XES.con (ea := eI) 5) (XEA.nil (o := false)))) (XEA.nil (o := false)) (fun _ _ => rfl) (fun _ _ => j__law_draw hL _ _)) (fun _ => rfl)) (XEV.cons (XES.nbp (XES.call (XEA.d (XES.vard 0 rfl) (XEA.p (XES.con (ea := eI) 2) (XEA.nil (o := false)))) (XEA.nil (o := false)) (fun _ _ => rfl) (fun _ _ => j__law_draw hL _ _)) (fun _ => rfl)) (XEV.nil (ea := eI)))))))) (fun (rows : List (String × Int × (List Int) × (List (Int × Int)))) (marks : List Int) =>
    (XSG.nrm [.d (.ref 1), .p (eI n), .b (eL (eP4 eS eI (eT eI) (eT (eP2 eI eI))) rows), .p (eL eI marks), .u, .u, .u, .u, .u] rfl
    (XSG.forN (Γh := fun (s1 : (List (String × Int × (List Int) × (List (Int × Int))))) => [.d (.ref 1), .p (eI n), .b (eL (eP4 eS eI (eT eI) (eT (eP2 eI eI))) s1), .p (eL eI marks), .u, .u, .u, .u, .u]) (s0 := (rows)) hL (XIJ.rng1 (XES.varp 1 rfl)) (Sub.k (Sub.k (Sub.k (Sub.k (Sub.k (Sub.k (Sub.k (Sub.k (Sub.k Sub.n))))))))) (fun (x1 : Int) (s1 : (List (String × Int × (List Int) × (List (Int × Int))))) => (XGJ.nm 4)) (fun (x1 : Int) (s1 : (List (String × Int × (List Int) × (List (Int × Int))))) =>
    (XSG.nrm [.d (.ref 1), .p (eI n), .b (eL (eP4 eS eI (eT eI) (eT (eP2 eI eI))) s1), .p (eL eI marks), .p (eI x1), .u, .u, .u, .u] rfl
    (XSG.asgp (XES.nbp (XES.call (XEA.d (XES.vard 0 rfl) (XEA.v (XES.ofL (XES.lstP (XEV.pc (XES.pv "keeper" (XES.con (ea := eS) "keeper") rfl) (XEV.pc (XES.pv "keeper" (XES.con (ea := eS) "keeper") rfl) (XEV.pc (XES.pv "foe" (XES.con (ea := eS) "foe") rfl) (XEV.pn (ea := eS))))) (by simp))) (XEA.nil (o := false)) trivial)) (XEA.nil (o := false)) (fun _ _ => rfl) (fun _ _ => j__law_pick_L hL _ _)) (fun _ => rfl)) (fun (owner : String) =>
    (XSG.nrm [.d (.ref 1), .p (eI n), .b (eL (eP4 eS eI (eT eI) (eT (eP2 eI eI))) s1), .p (eL eI marks), .p (eI x1), .p (eS owner), .u, .u, .u] rfl
    (XSG.asgp (XES.tupleL (XES.ofL (XES.sset (bx := false) (XES.ofL (XES.lcN (bx := false) hL (XIJ.rng1 (XES.add (XES.con (ea := eI) 1) (XES.nbp (XES.call (XEA.d (XES.vard 0 rfl) (XEA.p (XES.con (ea := eI) 3) (XEA.nil (o := false)))) (XEA.nil (o := false)) (fun _ _ => rfl) (fun _ _ => j__law_draw hL _ _)) (fun _ => rfl)))) (fun _ => (XGJ.nm 6)) (fun (y1 : Int) => (XES.nbp (XES.call (XEA.d (XES.vard 0 rfl) (XEA.p (XES.varp 1 rfl) (XEA.nil (o := false)))) (XEA.nil (o := false)) (fun _ _ => rfl) (fun _ _ => j__law_draw hL _ _)) (fun _ => rfl)))))))) (fun (moves : List Int) =>
    (XSG.nrm [.d (.ref 1), .p (eI n), .b (eL (eP4 eS eI (eT eI) (eT (eP2 eI eI))) s1), .p (eL eI marks), .p (eI x1), .p (eS owner), .u, .p (eT eI moves), .u] rfl
    (XSG.asg (XES.ofBD (XES.dnil keyok_I kP_I (ea := eI))) (fun (slips : List (Int × Int)) =>
    (XSG.nrm [.d (.ref 1), .p (eI n), .b (eL (eP4 eS eI (eT eI) (eT (eP2 eI eI))) s1), .p (eL eI marks), .p (eI x1), .p (eS owner), .u, .p (eT eI moves), .b (eD eI eI slips)] rfl
    (XSG.forN (Γh := fun (s2 : (List (Int × Int))) => [.d (.ref 1), .p (eI n), .b (eL (eP4 eS eI (eT eI) (eT (eP2 eI eI))) s1), .p (eL eI marks), .p (eI x1), .p (eS owner), .u, .p (eT eI moves), .b (eD eI eI s2)]) (s0 := (slips)) hL (XIJ.rng1 (XES.if_ (XES.and_ (XES.eq eqok_S (by decide) (XES.varp 5 rfl) (XES.con (ea := eS) "keeper")) (XES.eq eqok_I (by decide) (XES.nbp (XES.call (XEA.d (XES.vard 0 rfl) (XEA.p (XES.con (ea := eI) 2) (XEA.nil (o := false)))) (XEA.nil (o := false)) (fun _ _ => rfl) (fun _ _ => j__law_draw hL _ _)) (fun _ => rfl)) (XES.con (ea := eI) 0))) (XES.add (XES.con (ea := eI) 1) (XES.nbp (XES.call (XEA.d (XES.vard 0 rfl) (XEA.p (XES.con (ea := eI) 2) (XEA.nil (o := false)))) (XEA.nil (o := false)) (fun _ _ => rfl) (fun _ _ => j__law_draw hL _ _)) (fun _ => rfl))) (XES.con (ea := eI) 0))) (Sub.k (Sub.k (Sub.k (Sub.k (Sub.k (Sub.k (Sub.k (Sub.k (Sub.k Sub.n))))))))) (fun (x2 : Int) (s2 : (List (Int × Int))) => (XGJ.nm 6)) (fun (x2 : Int) (s2 : (List (Int × Int))) =>
    (XSG.nrm [.d (.ref 1), .p (eI n), .b (eL (eP4 eS eI (eT eI) (eT (eP2 eI eI))) s1), .p (eL eI marks), .p (eI x1), .p (eS owner), .p (eI x2), .p (eT eI moves), .b (eD eI eI s2)] rfl
    (XSG.setD keyok_I rfl (XES.nbp (XES.call (XEA.d (XES.vard 0 rfl) (XEA.v (XES.ofL (XES.lstV (XEV.cons (XES.con (ea := eI) 1) (XEV.cons (XES.con (ea := eI) 1) (XEV.cons (XES.con (ea := eI) 2) (XEV.cons (XES.con (ea := eI) 3) (XEV.cons (XES.add (XES.con (ea := eI) 1) (XES.nbp (XES.call (XEA.d (XES.vard 0 rfl) (XEA.p (XES.con (ea := eI) 9) (XEA.nil (o := false)))) (XEA.nil (o := false)) (fun _ _ => rfl) (fun _ _ => j__law_draw hL _ _)) (fun _ => rfl))) (XEV.nil (ea := eI))))))))) (XEA.nil (o := false)) trivial)) (XEA.nil (o := false)) (fun _ _ => rfl) (fun _ _ => j__law_pick_L hL _ _)) (fun _ => rfl)) (XES.nbp (XES.call (XEA.d (XES.vard 0 rfl) (XEA.v (XES.ofL (XES.lstV (XEV.cons (XES.nbp (XES.call (XEA.d (XES.vard 0 rfl) (XEA.p (XES.varp 1 rfl) (XEA.nil (o := false)))) (XEA.nil (o := false)) (fun _ _ => rfl) (fun _ _ => j__law_draw hL _ _)) (fun _ => rfl)) (XEV.cons (XES.nbp (XES.call (XEA.d (XES.vard 0 rfl) (XEA.p (XES.varp 1 rfl) (XEA.nil (o := false)))) (XEA.nil (o := false)) (fun _ _ => rfl) (fun _ _ => j__law_draw hL _ _)) (fun _ => rfl)) (XEV.cons (XES.varp 4 rfl) (XEV.cons (XES.ixT (XES.varp 7 rfl) (XES.con (ea := eI) 0)) (XEV.nil (ea := eI)))))))) (XEA.nil (o := false)) trivial)) (XEA.nil (o := false)) (fun _ _ => rfl) (fun _ _ => j__law_pick_L hL _ _)) (fun _ => rfl)) (fun (slips : List (Int × Int)) =>
    (XSG.nil (s := (slips)) (Sub.k (Sub.k (Sub.k (Sub.k (Sub.k (Sub.k (Sub.w (Sub.k (Sub.k Sub.n)))))))))))))) (fun (s2 : (List (Int × Int))) =>
    (XSG.app rfl (XES.t4 (XES.varp 5 rfl) (XES.nbp (XES.call (XEA.d (XES.vard 0 rfl) (XEA.v (XES.varp 3 rfl) (XEA.nil (o := false)) trivial)) (XEA.nil (o := false)) (fun _ _ => rfl) (fun _ _ => j__law_pick_L hL _ _)) (fun _ => rfl)) (XES.varp 7 rfl) (XES.tupleL (XES.ofL (XES.sit (bx := false) keyok_I kP_I sortok_II (XES.varb 8 rfl))))) (fun (rows : List (String × Int × (List Int) × (List (Int × Int)))) =>
    (XSG.nrm [.d (.ref 1), .p (eI n), .b (eL (eP4 eS eI (eT eI) (eT (eP2 eI eI))) rows), .p (eL eI marks), .p (eI x1), .p (eS owner), .u, .p (eT eI moves), .b (eD eI eI s2)] rfl
    (XSG.nil (s := (rows)) (Sub.k (Sub.k (Sub.k (Sub.k (Sub.w (Sub.w (Sub.k (Sub.w (Sub.w Sub.n)))))))))))))))))))))))))) (fun (s1 : (List (String × Int × (List Int) × (List (Int × Int))))) =>
    (XSG.ret (XES.varb 2 rfl)))))))
   (fun Q h => by delta F__law_any_rows at h; exact h)

@[irreducible] def F__law_order (many : Int) (Q : List Int → Prop) : Prop :=
 lrgW many fun t3 => letW ([] : List Int) fun t4 => letW t3 fun left =>
 letW t4 fun found =>
 whW (left, found) (fun (s1 : (List Int) × (List Int)) Q => Q (!(s1.1.isEmpty))) (fun (s1 : (List Int) × (List Int)) n1 b1 r1 =>
 F__law_draw (s1.1.length : Int) fun t2 => popW s1.1 t2 fun t1 left => push s1.2 t1 fun found =>
 n1 (left, found)) (fun s1 =>
 Q s1.2) Q
theorem j__law_order (hL : 1000000 ≤ L) (k : Nat) (many : Int) : CJ (fL (G L) T DEP (k + 2) ft__law_order) [.d (.ref 1), .p (eI many)] (F__law_order many) (eL eI) := by
  rw [show k + 2 = k + 1 + 1 from rfl, e__law_order]
  exact CJ.ofx [.d (.ref 1), .p (eI many), .u, .u] rfl rfl rfl
   (XSG.par2 (XES.ofBL (XES.lrg1 (bx := true) (XES.varp 1 rfl))) (XES.ofBL (XES.lnil (ea := eI))) (fun (left : List Int) (found : List Int) =>
    (XSG.wh (Γh := fun (s1 : (List Int) × (List Int)) => [.d (.ref 1), .p (eI many), .b (eL eI s1.1), .b (eL eI s1.2)]) (s0 := (left, found)) hL (Sub.k (Sub.k (Sub.k (Sub.k Sub.n)))) (fun (s1 : (List Int) × (List Int)) => (XES.nenil (XES.varb 2 rfl))) (fun (s1 : (List Int) × (List Int)) =>
    (XSG.appPop (by decide) rfl rfl (XES.nbp (XES.call (XEA.d (XES.vard 0 rfl) (XEA.p (XES.lenL (XES.varb 2 rfl)) (XEA.nil (o := false)))) (XEA.nil (o := false)) (fun _ _ => rfl) (fun _ _ => j__law_draw hL _ _)) (fun _ => rfl)) (fun (found : List Int) (left : List Int) =>
    (XSG.nil (s := (left, found)) (Sub.k (Sub.k (Sub.k (Sub.k Sub.n)))))))) (fun (s1 : (List Int) × (List Int)) =>
    (XSG.ret (XES.varb 3 rfl))))))
   (fun Q h => by delta F__law_order at h; exact h)

@[irreducible] def F__law_called (game : List (String × Int × (List Int) × (List (Int × Int)))) (names : List Int) (Q : List (String × Int × (List Int) × (List (Int × Int))) → Prop) : Prop :=
 small game fun t11 => letW t11 fun found =>
 forN (enumI game) (found) (fun (x1 : Int × (String × Int × (List Int) × (List (Int × Int)))) (s1 : (List (String × Int × (List Int) × (List (Int × Int))))) n1 =>
 compN x1.2.2.2.1 (fun (y1 : Int) Q => atW names y1 fun t4 => Q t4) fun t3 => small (t3.mergeSort (fun a b => decide (a ≤ b))) fun t2 => small t2 fun t1 => compN x1.2.2.2.2 (fun (y1 : Int × Int) Q => atW names y1.1 fun t8 => Q (t8, y1.2)) fun t7 => small (t7.mergeSort leII) fun t6 => small t6 fun t5 => atW names x1.1 fun t9 => lset s1 t9 (x1.2.1, x1.2.2.1, t1, t5) fun found =>
 n1 (found)) fun s1 =>
 small s1 fun t10 => Q t10
theorem j__law_called (hL : 1000000 ≤ L) (k : Nat) (game : List (String × Int × (List Int) × (List (Int × Int)))) (names : List Int) : CJ (fL (G L) T DEP (k + 1) ft__law_called) [.p (eT (eP4 eS eI (eT eI) (eT (eP2 eI eI))) game), .v (eL eI names)] (F__law_called game names) (eT (eP4 eS eI (eT eI) (eT (eP2 eI eI)))) := by
  rw [show k + 1 = k + 0 + 1 from rfl, e__law_called]
  exact CJ.ofx [.p (eT (eP4 eS eI (eT eI) (eT (eP2 eI eI))) game), .v (eL eI names), .u, .u, .u, .u, .u, .u, .u, .u] rfl rfl rfl
   (XSG.asg (XES.ofBL (XES.listT (bx := true) (XES.varp 0 rfl))) (fun (found : List (String × Int × (List Int) × (List (Int × Int)))) =>
    (XSG.nrm [.p (eT (eP4 eS eI (eT eI) (eT (eP2 eI eI))) game), .v (eL eI names), .b (eL (eP4 eS eI (eT eI) (eT (eP2 eI eI))) found), .u, .u, .u, .u, .u, .u, .u] rfl
    (XSG.forN (Γh := fun (s1 : (List (String × Int × (List Int) × (List (Int × Int))))) => [.p (eT (eP4 eS eI (eT eI) (eT (eP2 eI eI))) game), .v (eL eI names), .b (eL (eP4 eS eI (eT eI) (eT (eP2 eI eI))) s1), .u, .u, .u, .u, .u, .u, .u]) (s0 := (found)) hL (XIJ.enT (XES.varp 0 rfl)) (Sub.k (Sub.k (Sub.k (Sub.k (Sub.k (Sub.k (Sub.k (Sub.k (Sub.k (Sub.k Sub.n)))))))))) (fun (x1 : Int × (String × Int × (List Int) × (List (Int × Int)))) (s1 : (List (String × Int × (List Int) × (List (Int × Int))))) => (XGJ.tp (XGsJ.nm 3 (XGsJ.cons (XGJ.tp (XGsJ.nm 4 (XGsJ.nm 5 (XGsJ.nm 6 (XGsJ.nm 7 XGsJ.nil)))) rfl) XGsJ.nil)) rfl)) (fun (x1 : Int × (String × Int × (List Int) × (List (Int × Int)))) (s1 : (List (String × Int × (List Int) × (List (Int × Int))))) =>
    (XSG.nrm [.p (eT (eP4 eS eI (eT eI) (eT (eP2 eI eI))) game), .v (eL eI names), .b (eL (eP4 eS eI (eT eI) (eT (eP2 eI eI))) s1), .p (eI x1.1), .p (eS x1.2.1), .p (eI x1.2.2.1), .p (eT eI x1.2.2.2.1), .p (eT (eP2 eI eI) x1.2.2.2.2), .u, .u] rfl
    (XSG.setL rfl (XES.t4 (XES.varp 4 rfl) (XES.varp 5 rfl) (XES.tupleL (XES.ofL (XES.sortL (bx := false) sortok_I (XES.ofL (XES.lcN (bx := false) hL (XIJ.ofT (XES.varp 6 rfl)) (fun _ => (XGJ.nm 8)) (fun (y1 : Int) => (XES.ixL (XES.var 1 rfl) (XES.varp 8 rfl)))))))) (XES.tupleL (XES.ofL (XES.sortL (bx := false) sortok_II (XES.ofL (XES.lcN (bx := false) hL (XIJ.ofT (XES.varp 7 rfl)) (fun _ => (XGJ.tp (XGsJ.nm 8 (XGsJ.nm 9 XGsJ.nil)) rfl)) (fun (y1 : Int × Int) => (XES.t2 (XES.ixL (XES.var 1 rfl) (XES.varp 8 rfl)) (XES.varp 9 rfl))))))))) (XES.ixL (XES.var 1 rfl) (XES.varp 3 rfl)) (fun (found : List (String × Int × (List Int) × (List (Int × Int)))) =>
    (XSG.nil (s := (found)) (Sub.k (Sub.k (Sub.k (Sub.w (Sub.w (Sub.w (Sub.w (Sub.w (Sub.k (Sub.k Sub.n))))))))))))))) (fun (s1 : (List (String × Int × (List Int) × (List (Int × Int))))) =>
    (XSG.ret (XES.tupleL (XES.varb 2 rfl))))))))
   (fun Q h => by delta F__law_called at h; exact h)

@[irreducible] def F__law_game (sizes : List Int) (Q : List (String × Int × (List Int) × (List (Int × Int))) → Prop) : Prop :=
 F__law_pick_L sizes fun t17 => F__law_draw (6 : Int) fun t18 => letW t17 fun n =>
 letW t18 fun way =>
 joinW (α := List (String × Int × (List Int) × (List (Int × Int)))) (fun Q => if decide (way < (3 : Int)) = true then (F__law_ladder n fun t13 => Q t13) else (joinW (α := List (String × Int × (List Int) × (List (Int × Int)))) (fun Q => if decide (way = (3 : Int)) = true then (F__law_ring n fun t15 => Q t15) else (F__law_any_rows n fun t16 => Q t16)) fun t14 => Q t14)) fun t12 => letW t12 fun rows =>
 joinW (α := List (String × Int × (List Int) × (List (Int × Int)))) (fun Q => F__law_draw (10 : Int) fun t10 => if decide (t10 = (0 : Int)) = true then (rows.length < 1000000 ∧ Q (rows.map fun (y1 : String × Int × (List Int) × (List (Int × Int))) => ((y1.1, y1.2.1, y1.2.2.1).1, (y1.1, y1.2.1, y1.2.2.1).2.1, (y1.1, y1.2.1, y1.2.2.1).2.2, ([] : List (Int × Int))))) else (Q rows)) fun t9 => letW t9 fun rows =>
 joinW (α := List Int) (fun Q => F__law_draw (2 : Int) fun t6 => if decide (t6 = (0 : Int)) = true then (F__law_order n fun t7 => Q t7) else (lrgW n fun t8 => Q t8)) fun t5 => letW t5 fun names =>
 letW ([] : List (String × Int × (List Int) × (List (Int × Int)))) fun t4 => letW (10 : Int) fun left =>
 letW t4 fun found =>
 forN rows (left, found) (fun (x1 : String × Int × (List Int) × (List (Int × Int))) (s1 : Int × (List (String × Int × (List Int) × (List (Int × Int))))) n1 =>
 push s1.2 ((x1.1, x1.2.1, x1.2.2.1).1, (x1.1, x1.2.1, x1.2.2.1).2.1, (x1.1, x1.2.1, x1.2.2.1).2.2, (PI.cutD x1.2.2.2 none (some s1.1))) fun found =>
 atW found (-(1 : Int)) fun t1 => letW (s1.1 - (t1.2.2.2.length : Int)) fun left =>
 n1 (left, found)) fun s1 =>
 small s1.2 fun t3 => F__law_called t3 names fun t2 => Q t2
theorem j__law_game (hL : 1000000 ≤ L) (k : Nat) (sizes : List Int) : CJ (fL (G L) T DEP (k + 4) ft__law_game) [.d (.ref 1), .v (eL eI sizes)] (F__law_game sizes) (eT (eP4 eS eI (eT eI) (eT (eP2 eI eI)))) := by
  rw [show k + 4 = k + 3 + 1 from rfl, e__law_game]
  exact CJ.ofx [.d (.ref 1), .v (eL eI sizes), .u, .u, .u, .u, .u, .u, .u] rfl rfl rfl
   (XSG.par2 (XES.mdPF (XES.nbp (XES.call (XEA.d (XES.vard 0 rfl) (XEA.v (XES.var 1 rfl) (XEA.nil (o := false)) trivial)) (XEA.nil (o := false)) (fun _ _ => rfl) (fun _ _ => j__law_pick_L hL _ _)) (fun _ => rfl))) (XES.mdPF (XES.nbp (XES.call (XEA.d (XES.vard 0 rfl) (XEA.p (XES.con (ea := eI) 6) (XEA.nil (o := false)))) (XEA.nil (o := false)) (fun _ _ => rfl) (fun _ _ => j__law_draw hL _ _)) (fun _ => rfl))) (fun (n : Int) (way : Int) =>
    (XSG.nrm [.d (.ref 1), .v (eL eI sizes), .p (eI n), .p (eI way), .u, .u, .u, .u, .u] rfl
    (XSG.asg (XES.if_ (XES.lt (XES.varp 3 rfl) (XES.con (ea := eI) 3)) (XES.call (XEA.d (XES.vard 0 rfl) (XEA.p (XES.varp 2 rfl) (XEA.nil (o := false)))) (XEA.nil (o := false)) (fun _ _ => rfl) (fun _ _ => j__law_ladder hL _ _)) (XES.if_ (XES.eq eqok_I (by decide) (XES.varp 3 rfl) (XES.con (ea := eI) 3)) (XES.call (XEA.d (XES.vard 0 rfl) (XEA.p (XES.varp 2 rfl) (XEA.nil (o := false)))) (XEA.nil (o := false)) (fun _ _ => rfl) (fun _ _ => j__law_ring hL _ _)) (XES.call (XEA.d (XES.vard 0 rfl) (XEA.p (XES.varp 2 rfl) (XEA.nil (o := false)))) (XEA.nil (o := false)) (fun _ _ => rfl) (fun _ _ => j__law_any_rows hL _ _)))) (fun (rows : List (String × Int × (List Int) × (List (Int × Int)))) =>
    (XSG.nrm [.d (.ref 1), .v (eL eI sizes), .p (eI n), .p (eI way), .v (eL (eP4 eS eI (eT eI) (eT (eP2 eI eI))) rows), .u, .u, .u, .u] rfl
    (XSG.asg (XES.if_ (XES.eq eqok_I (by decide) (XES.nbp (XES.call (XEA.d (XES.vard 0 rfl) (XEA.p (XES.con (ea := eI) 10) (XEA.nil (o := false)))) (XEA.nil (o := false)) (fun _ _ => rfl) (fun _ _ => j__law_draw hL _ _)) (fun _ => rfl)) (XES.con (ea := eI) 0)) (XES.toF (XES.ofL (XES.lcNP (bx := false) hL (XIJ.ofL (XES.var 4 rfl)) (fun _ => (XGJ.nm 5)) (fun (y1 : String × Int × (List Int) × (List (Int × Int))) => (XES.pv ((y1.1, y1.2.1, y1.2.2.1).1, (y1.1, y1.2.1, y1.2.2.1).2.1, (y1.1, y1.2.1, y1.2.2.1).2.2, ([] : List (Int × Int))) (XES.catc (ea := eP3 eS eI (eT eI)) (eb := eP1 (eT (eP2 eI eI))) (ed := eP4 eS eI (eT eI) (eT (eP2 eI eI))) (f := fun (x : String × Int × (List Int)) (y : (List (Int × Int))) => ((x.1, x.2.1, x.2.2, y) : String × Int × (List Int) × (List (Int × Int)))) (fun _ _ => ⟨_, _, rfl, rfl, rfl, by simp⟩) (XES.slc (ea := eP4 eS eI (eT eI) (eT (eP2 eI eI))) (l := none) (h := some 3) (eb := eP3 eS eI (eT eI)) (fun x : String × Int × (List Int) × (List (Int × Int)) => ((x.1, x.2.1, x.2.2.1) : String × Int × (List Int))) (fun _ => ⟨_, rfl, rfl⟩) (XES.varp 5 rfl) XOJ.noneP (XOJ.someP (XES.pv (3 : Int) (XES.con (ea := eI) 3) rfl))) (XES.t1 (XES.tnil (ea := eP2 eI eI)))) rfl))))) (XES.var 4 rfl)) (fun (rows : List (String × Int × (List Int) × (List (Int × Int)))) =>
    (XSG.nrm [.d (.ref 1), .v (eL eI sizes), .p (eI n), .p (eI way), .v (eL (eP4 eS eI (eT eI) (eT (eP2 eI eI))) rows), .u, .u, .u, .u] rfl
    (XSG.asg (XES.if_ (XES.eq eqok_I (by decide) (XES.nbp (XES.call (XEA.d (XES.vard 0 rfl) (XEA.p (XES.con (ea := eI) 2) (XEA.nil (o := false)))) (XEA.nil (o := false)) (fun _ _ => rfl) (fun _ _ => j__law_draw hL _ _)) (fun _ => rfl)) (XES.con (ea := eI) 0)) (XES.call (XEA.d (XES.vard 0 rfl) (XEA.p (XES.varp 2 rfl) (XEA.nil (o := false)))) (XEA.nil (o := false)) (fun _ _ => rfl) (fun _ _ => j__law_order hL _ _)) (XES.toF (XES.ofL (XES.lrg1 (bx := false) (XES.varp 2 rfl))))) (fun (names : List Int) =>
    (XSG.nrm [.d (.ref 1), .v (eL eI sizes), .p (eI n), .p (eI way), .v (eL (eP4 eS eI (eT eI) (eT (eP2 eI eI))) rows), .u, .v (eL eI names), .u, .u] rfl
    (XSG.par2 (XES.mdPF (XES.con (ea := eI) 10)) (XES.ofBL (XES.lnil (ea := eP4 eS eI (eT eI) (eT (eP2 eI eI))))) (fun (left : Int) (found : List (String × Int × (List Int) × (List (Int × Int)))) =>
    (XSG.nrm [.d (.ref 1), .v (eL eI sizes), .p (eI n), .p (eI way), .v (eL (eP4 eS eI (eT eI) (eT (eP2 eI eI))) rows), .u, .v (eL eI names), .p (eI left), .b (eL (eP4 eS eI (eT eI) (eT (eP2 eI eI))) found)] rfl
    (XSG.forN (Γh := fun (s1 : Int × (List (String × Int × (List Int) × (List (Int × Int))))) => [.d (.ref 1), .v (eL eI sizes), .p (eI n), .p (eI way), .v (eL (eP4 eS eI (eT eI) (eT (eP2 eI eI))) rows), .u, .v (eL eI names), .p (eI s1.1), .b (eL (eP4 eS eI (eT eI) (eT (eP2 eI eI))) s1.2)]) (s0 := (left, found)) hL (XIJ.ofL (XES.var 4 rfl)) (Sub.k (Sub.k (Sub.k (Sub.k (Sub.k (Sub.k (Sub.k (Sub.k (Sub.k Sub.n))))))))) (fun (x1 : String × Int × (List Int) × (List (Int × Int))) (s1 : Int × (List (String × Int × (List Int) × (List (Int × Int))))) => (XGJ.nm 5)) (fun (x1 : String × Int × (List Int) × (List (Int × Int))) (s1 : Int × (List (String × Int × (List Int) × (List (Int × Int))))) =>
    (XSG.nrm [.d (.ref 1), .v (eL eI sizes), .p (eI n), .p (eI way), .v (eL (eP4 eS eI (eT eI) (eT (eP2 eI eI))) rows), .p (eP4 eS eI (eT eI) (eT (eP2 eI eI)) x1), .v (eL eI names), .p (eI s1.1), .b (eL (eP4 eS eI (eT eI) (eT (eP2 eI eI))) s1.2)] rfl
    (XSG.app rfl (XES.catc (ea := eP3 eS eI (eT eI)) (eb := eP1 (eT (eP2 eI eI))) (ed := eP4 eS eI (eT eI) (eT (eP2 eI eI))) (f := fun (x : String × Int × (List Int)) (y : (List (Int × Int))) => ((x.1, x.2.1, x.2.2, y) : String × Int × (List Int) × (List (Int × Int)))) (fun _ _ => ⟨_, _, rfl, rfl, rfl, by simp⟩) (XES.slc (ea := eP4 eS eI (eT eI) (eT (eP2 eI eI))) (l := none) (h := some 3) (eb := eP3 eS eI (eT eI)) (fun x : String × Int × (List Int) × (List (Int × Int)) => ((x.1, x.2.1, x.2.2.1) : String × Int × (List Int))) (fun _ => ⟨_, rfl, rfl⟩) (XES.varp 5 rfl) XOJ.noneP (XOJ.someP (XES.pv (3 : Int) (XES.con (ea := eI) 3) rfl))) (XES.t1 (XES.slT (XES.ixc (ea := eP4 eS eI (eT eI) (eT (eP2 eI eI))) (eb := eT (eP2 eI eI)) (fun x : String × Int × (List Int) × (List (Int × Int)) => x.2.2.2) (fun _ => ⟨_, rfl, rfl⟩) (XES.varp 5 rfl)) XOJ.none (XOJ.some (XES.varp 7 rfl))))) (fun (found : List (String × Int × (List Int) × (List (Int × Int)))) =>
    (XSG.nrm [.d (.ref 1), .v (eL eI sizes), .p (eI n), .p (eI way), .v (eL (eP4 eS eI (eT eI) (eT (eP2 eI eI))) rows), .p (eP4 eS eI (eT eI) (eT (eP2 eI eI)) x1), .v (eL eI names), .p (eI s1.1), .b (eL (eP4 eS eI (eT eI) (eT (eP2 eI eI))) found)] rfl
    (XSG.asgp (XES.sub (XES.varp 7 rfl) (XES.lenT (XES.ixc (ea := eP4 eS eI (eT eI) (eT (eP2 eI eI))) (eb := eT (eP2 eI eI)) (fun x : String × Int × (List Int) × (List (Int × Int)) => x.2.2.2) (fun _ => ⟨_, rfl, rfl⟩) (XES.ixL (XES.varb 8 rfl) (XES.neg (XES.con (ea := eI) 1)))))) (fun (left : Int) =>
    (XSG.nrm [.d (.ref 1), .v (eL eI sizes), .p (eI n), .p (eI way), .v (eL (eP4 eS eI (eT eI) (eT (eP2 eI eI))) rows), .p (eP4 eS eI (eT eI) (eT (eP2 eI eI)) x1), .v (eL eI names), .p (eI left), .b (eL (eP4 eS eI (eT eI) (eT (eP2 eI eI))) found)] rfl
    (XSG.nil (s := (left, found)) (Sub.k (Sub.k (Sub.k (Sub.k (Sub.k (Sub.w (Sub.k (Sub.k (Sub.k Sub.n)))))))))))))))))) (fun (s1 : Int × (List (String × Int × (List Int) × (List (Int × Int))))) =>
    (XSG.ret (XES.nbp (XES.call (XEA.p (XES.tupleL (XES.varb 8 rfl)) (XEA.v (XES.var 6 rfl) (XEA.nil (o := false)) trivial)) (XEA.nil (o := false)) (fun _ _ => rfl) (fun _ _ => j__law_called hL _ _ _)) (fun _ => rfl))))))))))))))))))))
   (fun Q h => by delta F__law_game at h; exact h)

@[irreducible] def F__law_weight (game : List (String × Int × (List Int) × (List (Int × Int)))) (steps : List (Int × String)) (here : Int) (Q : Int → Prop) : Prop :=
 letW (0 : Int) fun found =>
 forN (enumI steps) (found) (fun (x1 : Int × (Int × String)) (s1 : Int) n1 =>
 joinW (α := Int) (fun Q => if decide ((x1.1 + (1 : Int)) < (steps.length : Int)) = true then (atW steps (x1.1 + (1 : Int)) fun t8 => Q t8.1) else (Q here)) fun t7 => letW t7 fun u =>
 joinW (α := Int) (fun Ks2 => if decide (x1.2.2 = "slip") = true then (atW game x1.2.1 fun t6 => t6.2.2.2.length < 1000000 ∧ optW (dget (dmk t6.2.2.2) u) fun t4 => letW (s1 + t4) fun found =>
 Ks2 (found)) else (Ks2 (s1))) fun s2 =>
 n1 (s2)) fun s1 =>
 Q s1
theorem j__law_weight (hL : 1000000 ≤ L) (k : Nat) (game : List (String × Int × (List Int) × (List (Int × Int)))) (steps : List (Int × String)) (here : Int) : CJ (fL (G L) T DEP (k + 1) ft__law_weight) [.p (eT (eP4 eS eI (eT eI) (eT (eP2 eI eI))) game), .p (eT (eP2 eI eS) steps), .p (eI here)] (F__law_weight game steps here) (eI) := by
  rw [show k + 1 = k + 0 + 1 from rfl, e__law_weight]
  exact CJ.ofx [.p (eT (eP4 eS eI (eT eI) (eT (eP2 eI eI))) game), .p (eT (eP2 eI eS) steps), .p (eI here), .u, .u, .u, .u, .u] rfl rfl rfl
   (XSG.asgp (XES.con (ea := eI) 0) (fun (found : Int) =>
    (XSG.nrm [.p (eT (eP4 eS eI (eT eI) (eT (eP2 eI eI))) game), .p (eT (eP2 eI eS) steps), .p (eI here), .p (eI found), .u, .u, .u, .u] rfl
    (XSG.forN (Γh := fun (s1 : Int) => [.p (eT (eP4 eS eI (eT eI) (eT (eP2 eI eI))) game), .p (eT (eP2 eI eS) steps), .p (eI here), .p (eI s1), .u, .u, .u, .u]) (s0 := (found)) hL (XIJ.enT (XES.varp 1 rfl)) (Sub.k (Sub.k (Sub.k (Sub.k (Sub.k (Sub.k (Sub.k (Sub.k Sub.n)))))))) (fun (x1 : Int × (Int × String)) (s1 : Int) => (XGJ.tp (XGsJ.nm 4 (XGsJ.cons (XGJ.tp (XGsJ.nm 5 (XGsJ.nm 6 XGsJ.nil)) rfl) XGsJ.nil)) rfl)) (fun (x1 : Int × (Int × String)) (s1 : Int) =>
    (XSG.nrm [.p (eT (eP4 eS eI (eT eI) (eT (eP2 eI eI))) game), .p (eT (eP2 eI eS) steps), .p (eI here), .p (eI s1), .p (eI x1.1), .p (eI x1.2.1), .p (eS x1.2.2), .u] rfl
    (XSG.asgp (XES.if_ (XES.lt (XES.add (XES.varp 4 rfl) (XES.con (ea := eI) 1)) (XES.lenT (XES.varp 1 rfl))) (XES.ixc (ea := eP2 eI eS) (eb := eI) (fun x : Int × String => x.1) (fun _ => ⟨_, rfl, rfl⟩) (XES.ixT (XES.varp 1 rfl) (XES.add (XES.varp 4 rfl) (XES.con (ea := eI) 1)))) (XES.varp 2 rfl)) (fun (u : Int) =>
    (XSG.nrm [.p (eT (eP4 eS eI (eT eI) (eT (eP2 eI eI))) game), .p (eT (eP2 eI eS) steps), .p (eI here), .p (eI s1), .p (eI x1.1), .p (eI x1.2.1), .p (eS x1.2.2), .p (eI u)] rfl
    (XSG.seq (Γm := fun (s2 : Int) => [.p (eT (eP4 eS eI (eT eI) (eT (eP2 eI eI))) game), .p (eT (eP2 eI eS) steps), .p (eI here), .p (eI s2), .p (eI x1.1), .p (eI x1.2.1), .p (eS x1.2.2), .p (eI u)])
    (XSG.if_ (XES.eq eqok_S (by decide) (XES.varp 6 rfl) (XES.con (ea := eS) "slip"))
    (XSG.asgp (XES.add (XES.varp 3 rfl) (XES.ixD keyok_I (XES.ofP (XES.dictT (bx := false) (XES.ixc (ea := eP4 eS eI (eT eI) (eT (eP2 eI eI))) (eb := eT (eP2 eI eI)) (fun x : String × Int × (List Int) × (List (Int × Int)) => x.2.2.2) (fun _ => ⟨_, rfl, rfl⟩) (XES.ixT (XES.varp 0 rfl) (XES.varp 5 rfl))))) (XES.varp 7 rfl))) (fun (found : Int) =>
    (XSG.nrm [.p (eT (eP4 eS eI (eT eI) (eT (eP2 eI eI))) game), .p (eT (eP2 eI eS) steps), .p (eI here), .p (eI found), .p (eI x1.1), .p (eI x1.2.1), .p (eS x1.2.2), .p (eI u)] rfl
    (XSG.nil (s := (found)) (Sub.k (Sub.k (Sub.k (Sub.k (Sub.k (Sub.k (Sub.k (Sub.k Sub.n))))))))))))
    (XSG.nil (s := (s1)) (Sub.k (Sub.k (Sub.k (Sub.k (Sub.k (Sub.k (Sub.k (Sub.k Sub.n)))))))))) (fun (s2 : Int) =>
    (XSG.nil (s := (s2)) (Sub.k (Sub.k (Sub.k (Sub.k (Sub.w (Sub.w (Sub.w (Sub.w Sub.n)))))))))))))))) (fun (s1 : Int) =>
    (XSG.ret (XES.varp 3 rfl)))))))
   (fun Q h => by delta F__law_weight at h; exact h)

@[irreducible] def F__law_steps_from (game : List (String × Int × (List Int) × (List (Int × Int)))) (v : Int) (Q : List (String × Int) → Prop) : Prop :=
 atW game v fun t3 => t3.2.2.1.length < 1000000 ∧ atW game v fun t5 => t5.2.2.2.length < 1000000 ∧ small ((t3.2.2.1.map fun (y1 : Int) => ("move", y1)) ++ (t5.2.2.2.map fun (y1 : Int × Int) => ("slip", y1.1))) fun t1 => Q t1
theorem j__law_steps_from (hL : 1000000 ≤ L) (k : Nat) (game : List (String × Int × (List Int) × (List (Int × Int)))) (v : Int) : CJ (fL (G L) T DEP (k + 1) ft__law_steps_from) [.p (eT (eP4 eS eI (eT eI) (eT (eP2 eI eI))) game), .p (eI v)] (F__law_steps_from game v) (eL (eP2 eS eI)) := by
  rw [show k + 1 = k + 0 + 1 from rfl, e__law_steps_from]
  exact CJ.ofx [.p (eT (eP4 eS eI (eT eI) (eT (eP2 eI eI))) game), .p (eI v), .u, .u] rfl rfl rfl
   (XSG.ret (XES.ofL (XES.catL (bx := false) (XES.ofL (XES.lcNP (bx := false) hL (XIJ.ofT (XES.ixc (ea := eP4 eS eI (eT eI) (eT (eP2 eI eI))) (eb := eT eI) (fun x : String × Int × (List Int) × (List (Int × Int)) => x.2.2.1) (fun _ => ⟨_, rfl, rfl⟩) (XES.ixT (XES.varp 0 rfl) (XES.varp 1 rfl)))) (fun _ => (XGJ.nm 2)) (fun (y1 : Int) => (XES.pv ("move", y1) (XES.t2 (XES.con (ea := eS) "move") (XES.varp 2 rfl)) rfl)))) (XES.ofL (XES.lcNP (bx := false) hL (XIJ.ofT (XES.ixc (ea := eP4 eS eI (eT eI) (eT (eP2 eI eI))) (eb := eT (eP2 eI eI)) (fun x : String × Int × (List Int) × (List (Int × Int)) => x.2.2.2) (fun _ => ⟨_, rfl, rfl⟩) (XES.ixT (XES.varp 0 rfl) (XES.varp 1 rfl)))) (fun _ => (XGJ.tp (XGsJ.nm 2 (XGsJ.nm 3 XGsJ.nil)) rfl)) (fun (y1 : Int × Int) => (XES.pv ("slip", y1.1) (XES.t2 (XES.con (ea := eS) "slip") (XES.varp 2 rfl)) rfl)))))))
   (fun Q h => by delta F__law_steps_from at h; exact h)

@[irreducible] def F__law_walk (game : List (String × Int × (List Int) × (List (Int × Int)))) (here : Int) (many : Int) (Q : (List (Int × String)) × Int → Prop) : Prop :=
 letW ([] : List (Int × String)) fun steps =>
 rng1W many fun t5 => forN t5 (here, steps) (fun (x1 : Int) (s1 : Int × (List (Int × String))) n1 =>
 F__law_steps_from game s1.1 fun t3 => F__law_pick_L t3 fun t2 => letW t2 fun t1 =>
 push s1.2 (s1.1, t1.1) fun steps =>
 letW t1.2 fun here =>
 n1 (here, steps)) fun s1 =>
 small s1.2 fun t4 => Q (t4, s1.1)
theorem j__law_walk (hL : 1000000 ≤ L) (k : Nat) (game : List (String × Int × (List Int) × (List (Int × Int)))) (here : Int) (many : Int) : CJ (fL (G L) T DEP (k + 3) ft__law_walk) [.d (.ref 1), .p (eT (eP4 eS eI (eT eI) (eT (eP2 eI eI))) game), .p (eI here), .p (eI many)] (F__law_walk game here many) (eP2 (eT (eP2 eI eS)) eI) := by
  rw [show k + 3 = k + 2 + 1 from rfl, e__law_walk]
  exact CJ.ofx [.d (.ref 1), .p (eT (eP4 eS eI (eT eI) (eT (eP2 eI eI))) game), .p (eI here), .p (eI many), .u, .u, .u, .u] rfl rfl rfl
   (XSG.asg (XES.ofBL (XES.lnil (ea := eP2 eI eS))) (fun (steps : List (Int × String)) =>
    (XSG.nrm [.d (.ref 1), .p (eT (eP4 eS eI (eT eI) (eT (eP2 eI eI))) game), .p (eI here), .p (eI many), .b (eL (eP2 eI eS) steps), .u, .u, .u] rfl
    (XSG.forN (Γh := fun (s1 : Int × (List (Int × String))) => [.d (.ref 1), .p (eT (eP4 eS eI (eT eI) (eT (eP2 eI eI))) game), .p (eI s1.1), .p (eI many), .b (eL (eP2 eI eS) s1.2), .u, .u, .u]) (s0 := (here, steps)) hL (XIJ.rng1 (XES.varp 3 rfl)) (Sub.k (Sub.k (Sub.k (Sub.k (Sub.k (Sub.k (Sub.k (Sub.k Sub.n)))))))) (fun (x1 : Int) (s1 : Int × (List (Int × String))) => (XGJ.nm 5)) (fun (x1 : Int) (s1 : Int × (List (Int × String))) =>
    (XSG.nrm [.d (.ref 1), .p (eT (eP4 eS eI (eT eI) (eT (eP2 eI eI))) game), .p (eI s1.1), .p (eI many), .b (eL (eP2 eI eS) s1.2), .p (eI x1), .u, .u] rfl
    (XSG.asgT (XES.nbp (XES.call (XEA.d (XES.vard 0 rfl) (XEA.v (XES.call (XEA.p (XES.varp 1 rfl) (XEA.p (XES.varp 2 rfl) (XEA.nil (o := false)))) (XEA.nil (o := false)) (fun _ _ => rfl) (fun _ _ => j__law_steps_from hL _ _ _)) (XEA.nil (o := false)) trivial)) (XEA.nil (o := false)) (fun _ _ => rfl) (fun _ _ => j__law_pick_L hL _ _)) (fun _ => rfl)) (fun _ => (XGJ.tp (XGsJ.nm 6 (XGsJ.nm 7 XGsJ.nil)) rfl)) (fun (t1 : String × Int) =>
    (XSG.nrm [.d (.ref 1), .p (eT (eP4 eS eI (eT eI) (eT (eP2 eI eI))) game), .p (eI s1.1), .p (eI many), .b (eL (eP2 eI eS) s1.2), .p (eI x1), .p (eS t1.1), .p (eI t1.2)] rfl
    (XSG.app rfl (XES.t2 (XES.varp 2 rfl) (XES.varp 6 rfl)) (fun (steps : List (Int × String)) =>
    (XSG.nrm [.d (.ref 1), .p (eT (eP4 eS eI (eT eI) (eT (eP2 eI eI))) game), .p (eI s1.1), .p (eI many), .b (eL (eP2 eI eS) steps), .p (eI x1), .p (eS t1.1), .p (eI t1.2)] rfl
    (XSG.asgp (XES.varp 7 rfl) (fun (here : Int) =>
    (XSG.nrm [.d (.ref 1), .p (eT (eP4 eS eI (eT eI) (eT (eP2 eI eI))) game), .p (eI here), .p (eI many), .b (eL (eP2 eI eS) steps), .p (eI x1), .p (eS t1.1), .p (eI t1.2)] rfl
    (XSG.nil (s := (here, steps)) (Sub.k (Sub.k (Sub.k (Sub.k (Sub.k (Sub.w (Sub.w (Sub.w Sub.n)))))))))))))))))))) (fun (s1 : Int × (List (Int × String))) =>
    (XSG.ret (XES.t2 (XES.tupleL (XES.varb 4 rfl)) (XES.varp 2 rfl))))))))
   (fun Q h => by delta F__law_walk at h; exact h)

@[irreducible] def F_is_place_of (game : List (String × Int × (List Int) × (List (Int × Int)))) (thing : PyData) (Q : Bool → Prop) : Prop :=
 F_is_between thing (0 : Int) ((game.length : Int) - (1 : Int)) fun t1 => Q t1
theorem j_is_place_of (hL : 1000000 ≤ L) (k : Nat) (game : List (String × Int × (List Int) × (List (Int × Int)))) (thing : PyData) : CJ (fL (G L) T DEP (k + 3) ft_is_place_of) [.p (eT (eP4 eS eI (eT eI) (eT (eP2 eI eI))) game), .v (eX thing)] (F_is_place_of game thing) (eB) := by
  rw [show k + 3 = k + 2 + 1 from rfl, e_is_place_of]
  exact CJ.ofx [.p (eT (eP4 eS eI (eT eI) (eT (eP2 eI eI))) game), .v (eX thing)] rfl rfl rfl
   (XSG.ret (XES.nbp (XES.call (XEA.v (XES.var 1 rfl) (XEA.p (XES.con (ea := eI) 0) (XEA.p (XES.sub (XES.lenT (XES.varp 0 rfl)) (XES.con (ea := eI) 1)) (XEA.nil (o := false)))) trivial) (XEA.nil (o := false)) (fun _ _ => rfl) (fun _ _ => j_is_between hL _ _ _ _)) (fun _ => rfl)))
   (fun Q h => by delta F_is_place_of at h; exact h)

@[irreducible] def F_is_step (game : List (String × Int × (List Int) × (List (Int × Int)))) (thing : PyData) (Q : Bool → Prop) : Prop :=
 joinW (α := Bool) (fun Q => F_is_tuple thing (2 : Int) fun t9 => if t9 = true then (joinW (α := Bool) (fun Q => asTup thing fun t8 => atW t8 (0 : Int) fun t7 => F_is_place_of game t7 fun t6 => if t6 = true then (asTup thing fun t5 => atW t5 (1 : Int) fun t4 => F_is_word t4 ["move", "slip"] fun t3 => Q t3) else Q false) fun t2 => Q t2) else Q false) fun t1 => Q t1
theorem j_is_step (hL : 1000000 ≤ L) (k : Nat) (game : List (String × Int × (List Int) × (List (Int × Int)))) (thing : PyData) : CJ (fL (G L) T DEP (k + 4) ft_is_step) [.p (eT (eP4 eS eI (eT eI) (eT (eP2 eI eI))) game), .v (eX thing)] (F_is_step game thing) (eB) := by
  rw [show k + 4 = k + 3 + 1 from rfl, e_is_step]
  exact CJ.ofx [.p (eT (eP4 eS eI (eT eI) (eT (eP2 eI eI))) game), .v (eX thing)] rfl rfl rfl
   (XSG.ret (XES.and_ (XES.nbp (XES.call (XEA.v (XES.var 1 rfl) (XEA.p (XES.con (ea := eI) 2) (XEA.nil (o := false))) trivial) (XEA.nil (o := false)) (fun _ _ => rfl) (fun _ _ => j_is_tuple hL _ _ _)) (fun _ => rfl)) (XES.and_ (XES.nbp (XES.call (XEA.p (XES.varp 0 rfl) (XEA.v (XES.ixT (XES.asTup_ (XES.var 1 rfl)) (XES.con (ea := eI) 0)) (XEA.nil (o := false)) trivial)) (XEA.nil (o := false)) (fun _ _ => rfl) (fun _ _ => j_is_place_of hL _ _ _)) (fun _ => rfl)) (XES.nbp (XES.call (XEA.v (XES.ixT (XES.asTup_ (XES.var 1 rfl)) (XES.con (ea := eI) 1)) (XEA.p (XES.tupP (XEV.pc (XES.pv "move" (XES.con (ea := eS) "move") rfl) (XEV.pc (XES.pv "slip" (XES.con (ea := eS) "slip") rfl) (XEV.pn (ea := eS)))) (by simp)) (XEA.nil (o := false))) trivial) (XEA.nil (o := false)) (fun _ _ => rfl) (fun _ _ => j_is_word hL _ _ _)) (fun _ => rfl)))))
   (fun Q h => by delta F_is_step at h; exact h)

@[irreducible] def F_are_steps (game : List (String × Int × (List Int) × (List (Int × Int)))) (thing : PyData) (Q : Bool → Prop) : Prop :=
 joinW (α := Bool) (fun Q => if (isT thing Tn.tup) = true then (asTup thing fun t3 => compN t3 (fun (y1 : PyData) Q => F_is_step game y1 fun t4 => Q t4) fun t2 => Q (t2.all id)) else Q false) fun t1 => Q t1
theorem j_are_steps (hL : 1000000 ≤ L) (k : Nat) (game : List (String × Int × (List Int) × (List (Int × Int)))) (thing : PyData) : CJ (fL (G L) T DEP (k + 5) ft_are_steps) [.p (eT (eP4 eS eI (eT eI) (eT (eP2 eI eI))) game), .v (eX thing)] (F_are_steps game thing) (eB) := by
  rw [show k + 5 = k + 4 + 1 from rfl, e_are_steps]
  exact CJ.ofx [.p (eT (eP4 eS eI (eT eI) (eT (eP2 eI eI))) game), .v (eX thing), .u] rfl rfl rfl
   (XSG.ret (XES.and_ (XES.isi_ Tn.tup (XES.var 1 rfl)) (XES.allL (XES.ofL (XES.lcN (bx := false) hL (XIJ.ofT (XES.asTup_ (XES.var 1 rfl))) (fun _ => (XGJ.nm 2)) (fun (y1 : PyData) => (XES.nbp (XES.call (XEA.p (XES.varp 0 rfl) (XEA.v (XES.varp 2 rfl) (XEA.nil (o := false)) trivial)) (XEA.nil (o := false)) (fun _ _ => rfl) (fun _ _ => j_is_step hL _ _ _)) (fun _ => rfl))))))))
   (fun Q h => by delta F_are_steps at h; exact h)

@[irreducible] def F_moves_of (game : List (String × Int × (List Int) × (List (Int × Int)))) (place : Int) (Q : List Int → Prop) : Prop :=
 atW game place fun t1 => Q t1.2.2.1
theorem j_moves_of (hL : 1000000 ≤ L) (k : Nat) (game : List (String × Int × (List Int) × (List (Int × Int)))) (place : Int) : CJ (fL (G L) T DEP (k + 1) ft_moves_of) [.p (eT (eP4 eS eI (eT eI) (eT (eP2 eI eI))) game), .p (eI place)] (F_moves_of game place) (eT eI) := by
  rw [show k + 1 = k + 0 + 1 from rfl, e_moves_of]
  exact CJ.ofx [.p (eT (eP4 eS eI (eT eI) (eT (eP2 eI eI))) game), .p (eI place)] rfl rfl rfl
   (XSG.ret (XES.ixc (ea := eP4 eS eI (eT eI) (eT (eP2 eI eI))) (eb := eT eI) (fun x : String × Int × (List Int) × (List (Int × Int)) => x.2.2.1) (fun _ => ⟨_, rfl, rfl⟩) (XES.ixT (XES.varp 0 rfl) (XES.varp 1 rfl))))
   (fun Q h => by delta F_moves_of at h; exact h)

@[irreducible] def F_slips_of (game : List (String × Int × (List Int) × (List (Int × Int)))) (place : Int) (Q : List (Int × Int) → Prop) : Prop :=
 atW game place fun t1 => Q t1.2.2.2
theorem j_slips_of (hL : 1000000 ≤ L) (k : Nat) (game : List (String × Int × (List Int) × (List (Int × Int)))) (place : Int) : CJ (fL (G L) T DEP (k + 1) ft_slips_of) [.p (eT (eP4 eS eI (eT eI) (eT (eP2 eI eI))) game), .p (eI place)] (F_slips_of game place) (eT (eP2 eI eI)) := by
  rw [show k + 1 = k + 0 + 1 from rfl, e_slips_of]
  exact CJ.ofx [.p (eT (eP4 eS eI (eT eI) (eT (eP2 eI eI))) game), .p (eI place)] rfl rfl rfl
   (XSG.ret (XES.ixc (ea := eP4 eS eI (eT eI) (eT (eP2 eI eI))) (eb := eT (eP2 eI eI)) (fun x : String × Int × (List Int) × (List (Int × Int)) => x.2.2.2) (fun _ => ⟨_, rfl, rfl⟩) (XES.ixT (XES.varp 0 rfl) (XES.varp 1 rfl))))
   (fun Q h => by delta F_slips_of at h; exact h)

@[irreducible] def F_weight_of_slip (game : List (String × Int × (List Int) × (List (Int × Int)))) (place : Int) (other : Int) (Q : Option Int → Prop) : Prop :=
 F_slips_of game place fun t2 => t2.length < 1000000 ∧ Q (dget (dmk t2) other)
theorem j_weight_of_slip (hL : 1000000 ≤ L) (k : Nat) (game : List (String × Int × (List Int) × (List (Int × Int)))) (place : Int) (other : Int) : CJ (fL (G L) T DEP (k + 2) ft_weight_of_slip) [.p (eT (eP4 eS eI (eT eI) (eT (eP2 eI eI))) game), .p (eI place), .p (eI other)] (F_weight_of_slip game place other) (eO eI) := by
  rw [show k + 2 = k + 1 + 1 from rfl, e_weight_of_slip]
  exact CJ.ofx [.p (eT (eP4 eS eI (eT eI) (eT (eP2 eI eI))) game), .p (eI place), .p (eI other)] rfl rfl rfl
   (XSG.ret (XES.get1 keyok_I (XES.ofP (XES.dictT (bx := false) (XES.nbp (XES.call (XEA.p (XES.varp 0 rfl) (XEA.p (XES.varp 1 rfl) (XEA.nil (o := false)))) (XEA.nil (o := false)) (fun _ _ => rfl) (fun _ _ => j_slips_of hL _ _ _)) (fun _ => rfl)))) (XES.varp 2 rfl)))
   (fun Q h => by delta F_weight_of_slip at h; exact h)

@[irreducible] def F_leads (game : List (String × Int × (List Int) × (List (Int × Int)))) (step : Int × String) (place : Int) (Q : Bool → Prop) : Prop :=
 if decide (step.2 = "move") = true then (F_moves_of game step.1 fun t1 => Q (decide (place ∈ t1))) else
 F_weight_of_slip game step.1 place fun t2 => Q (t2.isSome)
theorem j_leads (hL : 1000000 ≤ L) (k : Nat) (game : List (String × Int × (List Int) × (List (Int × Int)))) (step : Int × String) (place : Int) : CJ (fL (G L) T DEP (k + 3) ft_leads) [.p (eT (eP4 eS eI (eT eI) (eT (eP2 eI eI))) game), .p (eP2 eI eS step), .p (eI place)] (F_leads game step place) (eB) := by
  rw [show k + 3 = k + 2 + 1 from rfl, e_leads]
  exact CJ.ofx [.p (eT (eP4 eS eI (eT eI) (eT (eP2 eI eI))) game), .p (eP2 eI eS step), .p (eI place)] rfl rfl rfl
   (XSG.ifR (XES.eq eqok_S (by decide) (XES.ixc (ea := eP2 eI eS) (eb := eS) (fun x : Int × String => x.2) (fun _ => ⟨_, rfl, rfl⟩) (XES.varp 1 rfl)) (XES.con (ea := eS) "move"))
    (XSG.ret (XES.inT eqok_I (by decide) (XES.varp 2 rfl) (XES.nbp (XES.call (XEA.p (XES.varp 0 rfl) (XEA.p (XES.ixc (ea := eP2 eI eS) (eb := eI) (fun x : Int × String => x.1) (fun _ => ⟨_, rfl, rfl⟩) (XES.varp 1 rfl)) (XEA.nil (o := false)))) (XEA.nil (o := false)) (fun _ _ => rfl) (fun _ _ => j_moves_of hL _ _ _)) (fun _ => rfl))))
    (XSG.pass
    (XSG.ret (XES.isnN nn_I (XES.nbp (XES.call (XEA.p (XES.varp 0 rfl) (XEA.p (XES.ixc (ea := eP2 eI eS) (eb := eI) (fun x : Int × String => x.1) (fun _ => ⟨_, rfl, rfl⟩) (XES.varp 1 rfl)) (XEA.p (XES.varp 2 rfl) (XEA.nil (o := false))))) (XEA.nil (o := false)) (fun _ _ => rfl) (fun _ _ => j_weight_of_slip hL _ _ _ _)) (nb_O (fun _ => rfl)))))))
   (fun Q h => by delta F_leads at h; exact h)

@[irreducible] def F_do_lead (game : List (String × Int × (List Int) × (List (Int × Int)))) (steps : List (Int × String)) (here : Int) (Q : Bool → Prop) : Prop :=
 letW (PI.cutD steps (some (1 : Int)) none) fun t4 => t4.length < 1000000 ∧ small ((t4.map fun (y1 : Int × String) => y1.1) ++ [here]) fun t3 => letW t3 fun targets =>
 compN (List.zip steps targets) (fun (y1 : (Int × String) × Int) Q => F_leads game y1.1 y1.2 fun t2 => Q t2) fun t1 => Q (t1.all id)
theorem j_do_lead (hL : 1000000 ≤ L) (k : Nat) (game : List (String × Int × (List Int) × (List (Int × Int)))) (steps : List (Int × String)) (here : Int) : CJ (fL (G L) T DEP (k + 4) ft_do_lead) [.p (eT (eP4 eS eI (eT eI) (eT (eP2 eI eI))) game), .p (eT (eP2 eI eS) steps), .p (eI here)] (F_do_lead game steps here) (eB) := by
  rw [show k + 4 = k + 3 + 1 from rfl, e_do_lead]
  exact CJ.ofx [.p (eT (eP4 eS eI (eT eI) (eT (eP2 eI eI))) game), .p (eT (eP2 eI eS) steps), .p (eI here), .u, .u, .u] rfl rfl rfl
   (XSG.asgp (XES.ofL (XES.catL (bx := false) (XES.ofL (XES.lcNP (bx := false) hL (XIJ.ofT (XES.slT (XES.varp 1 rfl) (XOJ.some (XES.con (ea := eI) 1)) XOJ.none)) (fun _ => (XGJ.nm 3)) (fun (y1 : Int × String) => (XES.pv y1.1 (XES.ixc (ea := eP2 eI eS) (eb := eI) (fun x : Int × String => x.1) (fun _ => ⟨_, rfl, rfl⟩) (XES.varp 3 rfl)) rfl)))) (XES.ofL (XES.lstP (XEV.pc (XES.pv here (XES.varp 2 rfl) rfl) (XEV.pn (ea := eI))) (by simp))))) (fun (targets : List Int) =>
    (XSG.ret (XES.allL (XES.ofL (XES.lcN (bx := false) hL (XIJ.zpTL (fun _ _ => rfl) (XES.varp 1 rfl) (XES.varp 4 rfl)) (fun _ => (XGJ.tp (XGsJ.nm 3 (XGsJ.nm 5 XGsJ.nil)) rfl)) (fun (y1 : (Int × String) × Int) => (XES.nbp (XES.call (XEA.p (XES.varp 0 rfl) (XEA.p (XES.varp 3 rfl) (XEA.p (XES.varp 5 rfl) (XEA.nil (o := false))))) (XEA.nil (o := false)) (fun _ _ => rfl) (fun _ _ => j_leads hL _ _ _ _)) (fun _ => rfl)))))))))
   (fun Q h => by delta F_do_lead at h; exact h)

@[irreducible] def F_is_path_value (game : List (String × Int × (List Int) × (List (Int × Int)))) (thing : PyData) (Q : Bool → Prop) : Prop :=
 joinW (α := Bool) (fun Q => F_is_tuple thing (2 : Int) fun t16 => if (!t16) = true then Q true else (joinW (α := Bool) (fun Q => asTup thing fun t15 => atW t15 (0 : Int) fun t14 => F_are_steps game t14 fun t13 => if (!t13) = true then Q true else (asTup thing fun t12 => atW t12 (1 : Int) fun t11 => F_is_place_of game t11 fun t10 => Q (!t10))) fun t9 => Q t9)) fun t8 => if t8 = true then (Q false) else
 asTup thing fun t4 => atW t4 (0 : Int) fun t3 => asOf (eT (eP2 eI eS)) t3 fun t2 => asTup thing fun t7 => atW t7 (1 : Int) fun t6 => asInt t6 fun t5 => F_do_lead game t2 t5 fun t1 => Q t1
theorem j_is_path_value (hL : 1000000 ≤ L) (k : Nat) (game : List (String × Int × (List Int) × (List (Int × Int)))) (thing : PyData) : CJ (fL (G L) T DEP (k + 6) ft_is_path_value) [.p (eT (eP4 eS eI (eT eI) (eT (eP2 eI eI))) game), .v (eX thing)] (F_is_path_value game thing) (eB) := by
  rw [show k + 6 = k + 5 + 1 from rfl, e_is_path_value]
  exact CJ.ofx [.p (eT (eP4 eS eI (eT eI) (eT (eP2 eI eI))) game), .v (eX thing)] rfl rfl rfl
   (XSG.ifR (XES.or_ (XES.not_ (XES.nbp (XES.call (XEA.v (XES.var 1 rfl) (XEA.p (XES.con (ea := eI) 2) (XEA.nil (o := false))) trivial) (XEA.nil (o := false)) (fun _ _ => rfl) (fun _ _ => j_is_tuple hL _ _ _)) (fun _ => rfl))) (XES.or_ (XES.not_ (XES.nbp (XES.call (XEA.p (XES.varp 0 rfl) (XEA.v (XES.ixT (XES.asTup_ (XES.var 1 rfl)) (XES.con (ea := eI) 0)) (XEA.nil (o := false)) trivial)) (XEA.nil (o := false)) (fun _ _ => rfl) (fun _ _ => j_are_steps hL _ _ _)) (fun _ => rfl))) (XES.not_ (XES.nbp (XES.call (XEA.p (XES.varp 0 rfl) (XEA.v (XES.ixT (XES.asTup_ (XES.var 1 rfl)) (XES.con (ea := eI) 1)) (XEA.nil (o := false)) trivial)) (XEA.nil (o := false)) (fun _ _ => rfl) (fun _ _ => j_is_place_of hL _ _ _)) (fun _ => rfl)))))
    (XSG.ret (XES.con (ea := eB) false))
    (XSG.pass
    (XSG.ret (XES.nbp (XES.call (XEA.p (XES.varp 0 rfl) (XEA.p (XES.asOf_ (ea := eT (eP2 eI eS)) (fun _ => rfl) (XES.ixT (XES.asTup_ (XES.var 1 rfl)) (XES.con (ea := eI) 0))) (XEA.p (XES.asInt_ (XES.ixT (XES.asTup_ (XES.var 1 rfl)) (XES.con (ea := eI) 1))) (XEA.nil (o := false))))) (XEA.nil (o := false)) (fun _ _ => rfl) (fun _ _ => j_do_lead hL _ _ _ _)) (fun _ => rfl)))))
   (fun Q h => by delta F_is_path_value at h; exact h)

@[irreducible] def F_is_path (game : List (String × Int × (List Int) × (List (Int × Int)))) (thing : PyData) (Q : Bool → Prop) : Prop :=
 F_need_game ((eT (eP4 eS eI (eT eI) (eT (eP2 eI eI)))) game) fun t2 => F_is_path_value game thing fun t1 => Q t1
theorem j_is_path (hL : 1000000 ≤ L) (k : Nat) (game : List (String × Int × (List Int) × (List (Int × Int)))) (thing : PyData) : CJ (fL (G L) T DEP (k + 8) ft_is_path) [.p (eT (eP4 eS eI (eT eI) (eT (eP2 eI eI))) game), .v (eX thing)] (F_is_path game thing) (eB) := by
  rw [show k + 8 = k + 7 + 1 from rfl, e_is_path]
  exact CJ.ofx [.p (eT (eP4 eS eI (eT eI) (eT (eP2 eI eI))) game), .v (eX thing)] rfl rfl rfl
   (XSG.ex (XES.nbp (XES.call (XEA.v (XES.as (eb := eX) (XES.varp 0 rfl) (eT (eP4 eS eI (eT eI) (eT (eP2 eI eI)))) (fun _ => rfl)) (XEA.nil (o := false)) trivial) (XEA.nil (o := false)) (fun _ _ => rfl) (fun _ _ => j_need_game hL _ _)) (fun _ => rfl)) (fun _ =>
    (XSG.ret (XES.nbp (XES.call (XEA.p (XES.varp 0 rfl) (XEA.v (XES.var 1 rfl) (XEA.nil (o := false)) trivial)) (XEA.nil (o := false)) (fun _ _ => rfl) (fun _ _ => j_is_path_value hL _ _ _)) (fun _ => rfl)))))
   (fun Q h => by delta F_is_path at h; exact h)

@[irreducible] def F_need_path (game : List (String × Int × (List Int) × (List (Int × Int)))) (path : PyData) (Q : Unit → Prop) : Prop :=
 F_is_path_value game path fun t1 => if (!t1) = true then (False) else
 Q ()
theorem j_need_path (hL : 1000000 ≤ L) (k : Nat) (game : List (String × Int × (List Int) × (List (Int × Int)))) (path : PyData) : CJ (fL (G L) T DEP (k + 7) ft_need_path) [.p (eT (eP4 eS eI (eT eI) (eT (eP2 eI eI))) game), .v (eX path)] (F_need_path game path) (eU) := by
  rw [show k + 7 = k + 6 + 1 from rfl, e_need_path]
  exact CJ.ofUx [.p (eT (eP4 eS eI (eT eI) (eT (eP2 eI eI))) game), .v (eX path)] rfl rfl rfl
   (XSG.ifR (XES.not_ (XES.nbp (XES.call (XEA.p (XES.varp 0 rfl) (XEA.v (XES.var 1 rfl) (XEA.nil (o := false)) trivial)) (XEA.nil (o := false)) (fun _ _ => rfl) (fun _ _ => j_is_path_value hL _ _ _)) (fun _ => rfl))) XSG.no
    (XSG.pass
    (XSG.nil (s := ()) (Sub.w (Sub.w Sub.n)))))
   (fun Q h => by delta F_need_path at h; exact h)

@[irreducible] def F_steps_weight (game : List (String × Int × (List Int) × (List (Int × Int)))) (steps : List (Int × String)) (here : Int) (Q : Int → Prop) : Prop :=
 letW (PI.cutD steps (some (1 : Int)) none) fun t6 => t6.length < 1000000 ∧ small ((t6.map fun (y1 : Int × String) => y1.1) ++ [here]) fun t5 => letW t5 fun targets =>
 letW (List.zip steps targets) fun t4 => t4.length < 1000000 ∧ letW ((t4.filter fun (y1 : (Int × String) × Int) => decide (y1.1.2 = "slip")).map fun (y1 : (Int × String) × Int) => (y1.1.1, y1.2)) fun slips =>
 compN slips (fun (y1 : Int × Int) Q => F_weight_of_slip game y1.1 y1.2 fun t3 => optW t3 fun t2 => Q t2) fun t1 => Q (t1.sum)
theorem j_steps_weight (hL : 1000000 ≤ L) (k : Nat) (game : List (String × Int × (List Int) × (List (Int × Int)))) (steps : List (Int × String)) (here : Int) : CJ (fL (G L) T DEP (k + 3) ft_steps_weight) [.p (eT (eP4 eS eI (eT eI) (eT (eP2 eI eI))) game), .p (eT (eP2 eI eS) steps), .p (eI here)] (F_steps_weight game steps here) (eI) := by
  rw [show k + 3 = k + 2 + 1 from rfl, e_steps_weight]
  exact CJ.ofx [.p (eT (eP4 eS eI (eT eI) (eT (eP2 eI eI))) game), .p (eT (eP2 eI eS) steps), .p (eI here), .u, .u, .u, .u, .u] rfl rfl rfl
   (XSG.asgp (XES.ofL (XES.catL (bx := false) (XES.ofL (XES.lcNP (bx := false) hL (XIJ.ofT (XES.slT (XES.varp 1 rfl) (XOJ.some (XES.con (ea := eI) 1)) XOJ.none)) (fun _ => (XGJ.nm 3)) (fun (y1 : Int × String) => (XES.pv y1.1 (XES.ixc (ea := eP2 eI eS) (eb := eI) (fun x : Int × String => x.1) (fun _ => ⟨_, rfl, rfl⟩) (XES.varp 3 rfl)) rfl)))) (XES.ofL (XES.lstP (XEV.pc (XES.pv here (XES.varp 2 rfl) rfl) (XEV.pn (ea := eI))) (by simp))))) (fun (targets : List Int) =>
    (XSG.nrm [.p (eT (eP4 eS eI (eT eI) (eT (eP2 eI eI))) game), .p (eT (eP2 eI eS) steps), .p (eI here), .u, .p (eL eI targets), .u, .u, .u] rfl
    (XSG.asgp (XES.ofL (XES.lcP (bx := false) hL (XIJ.zpTL (fun _ _ => rfl) (XES.varp 1 rfl) (XES.varp 4 rfl)) (fun _ => (XGJ.tp (XGsJ.nm 3 (XGsJ.nm 5 XGsJ.nil)) rfl)) (fun (y1 : (Int × String) × Int) => (XES.pv (decide (y1.1.2 = "slip")) (XES.eq eqok_S (by decide) (XES.ixc (ea := eP2 eI eS) (eb := eS) (fun x : Int × String => x.2) (fun _ => ⟨_, rfl, rfl⟩) (XES.varp 3 rfl)) (XES.con (ea := eS) "slip")) rfl)) (fun (y1 : (Int × String) × Int) => (XES.pv (y1.1.1, y1.2) (XES.t2 (XES.ixc (ea := eP2 eI eS) (eb := eI) (fun x : Int × String => x.1) (fun _ => ⟨_, rfl, rfl⟩) (XES.varp 3 rfl)) (XES.varp 5 rfl)) rfl)))) (fun (slips : List (Int × Int)) =>
    (XSG.nrm [.p (eT (eP4 eS eI (eT eI) (eT (eP2 eI eI))) game), .p (eT (eP2 eI eS) steps), .p (eI here), .u, .p (eL eI targets), .u, .p (eL (eP2 eI eI) slips), .u] rfl
    (XSG.ret (XES.sumL (XES.ofL (XES.lcN (bx := false) hL (XIJ.ofL (XES.varp 6 rfl)) (fun _ => (XGJ.tp (XGsJ.nm 5 (XGsJ.nm 7 XGsJ.nil)) rfl)) (fun (y1 : Int × Int) => (XES.asSome (fun _ => rfl) (XES.nbp (XES.call (XEA.p (XES.varp 0 rfl) (XEA.p (XES.varp 5 rfl) (XEA.p (XES.varp 7 rfl) (XEA.nil (o := false))))) (XEA.nil (o := false)) (fun _ _ => rfl) (fun _ _ => j_weight_of_slip hL _ _ _ _)) (nb_O (fun _ => rfl)))))))))))))))
   (fun Q h => by delta F_steps_weight at h; exact h)

@[irreducible] def F_path_weight (game : List (String × Int × (List Int) × (List (Int × Int)))) (path : (List (Int × String)) × Int) (Q : Int → Prop) : Prop :=
 F_need_game ((eT (eP4 eS eI (eT eI) (eT (eP2 eI eI)))) game) fun t3 => F_need_path game ((eP2 (eT (eP2 eI eS)) eI) path) fun t2 => F_steps_weight game path.1 path.2 fun t1 => Q t1
theorem j_path_weight (hL : 1000000 ≤ L) (k : Nat) (game : List (String × Int × (List Int) × (List (Int × Int)))) (path : (List (Int × String)) × Int) : CJ (fL (G L) T DEP (k + 8) ft_path_weight) [.p (eT (eP4 eS eI (eT eI) (eT (eP2 eI eI))) game), .p (eP2 (eT (eP2 eI eS)) eI path)] (F_path_weight game path) (eI) := by
  rw [show k + 8 = k + 7 + 1 from rfl, e_path_weight]
  exact CJ.ofx [.p (eT (eP4 eS eI (eT eI) (eT (eP2 eI eI))) game), .p (eP2 (eT (eP2 eI eS)) eI path)] rfl rfl rfl
   (XSG.ex (XES.nbp (XES.call (XEA.v (XES.as (eb := eX) (XES.varp 0 rfl) (eT (eP4 eS eI (eT eI) (eT (eP2 eI eI)))) (fun _ => rfl)) (XEA.nil (o := false)) trivial) (XEA.nil (o := false)) (fun _ _ => rfl) (fun _ _ => j_need_game hL _ _)) (fun _ => rfl)) (fun _ =>
    (XSG.ex (XES.nbp (XES.call (XEA.p (XES.varp 0 rfl) (XEA.v (XES.as (eb := eX) (XES.varp 1 rfl) (eP2 (eT (eP2 eI eS)) eI) (fun _ => rfl)) (XEA.nil (o := false)) trivial)) (XEA.nil (o := false)) (fun _ _ => rfl) (fun _ _ => j_need_path hL _ _ _)) (fun _ => rfl)) (fun _ =>
    (XSG.ret (XES.nbp (XES.call (XEA.p (XES.varp 0 rfl) (XEA.p (XES.ixc (ea := eP2 (eT (eP2 eI eS)) eI) (eb := eT (eP2 eI eS)) (fun x : (List (Int × String)) × Int => x.1) (fun _ => ⟨_, rfl, rfl⟩) (XES.varp 1 rfl)) (XEA.p (XES.ixc (ea := eP2 (eT (eP2 eI eS)) eI) (eb := eI) (fun x : (List (Int × String)) × Int => x.2) (fun _ => ⟨_, rfl, rfl⟩) (XES.varp 1 rfl)) (XEA.nil (o := false))))) (XEA.nil (o := false)) (fun _ _ => rfl) (fun _ _ => j_steps_weight hL _ _ _ _)) (fun _ => rfl)))))))
   (fun Q h => by delta F_path_weight at h; exact h)

@[irreducible] def F_is_lasso_value (game : List (String × Int × (List Int) × (List (Int × Int)))) (thing : PyData) (Q : Bool → Prop) : Prop :=
 joinW (α := Bool) (fun Q => F_is_tuple thing (2 : Int) fun t28 => if (!t28) = true then Q true else (joinW (α := Bool) (fun Q => asTup thing fun t27 => atW t27 (0 : Int) fun t26 => F_are_steps game t26 fun t25 => if (!t25) = true then Q true else (joinW (α := Bool) (fun Q => asTup thing fun t24 => atW t24 (1 : Int) fun t23 => F_are_steps game t23 fun t22 => if (!t22) = true then Q true else (asTup thing fun t21 => atW t21 (1 : Int) fun t20 => asTup t20 fun t19 => Q (t19.isEmpty))) fun t18 => Q t18)) fun t17 => Q t17)) fun t16 => if t16 = true then (Q false) else
 asTup thing fun t5 => atW t5 (0 : Int) fun t4 => asOf (eT (eP2 eI eS)) t4 fun t3 => asTup thing fun t8 => atW t8 (1 : Int) fun t7 => asOf (eT (eP2 eI eS)) t7 fun t6 => small (t3 ++ t6) fun t2 => asTup thing fun t15 => atW t15 (1 : Int) fun t14 => asTup t14 fun t13 => atW t13 (0 : Int) fun t12 => asTup t12 fun t11 => atW t11 (0 : Int) fun t10 => asInt t10 fun t9 => F_do_lead game t2 t9 fun t1 => Q t1
theorem j_is_lasso_value (hL : 1000000 ≤ L) (k : Nat) (game : List (String × Int × (List Int) × (List (Int × Int)))) (thing : PyData) : CJ (fL (G L) T DEP (k + 6) ft_is_lasso_value) [.p (eT (eP4 eS eI (eT eI) (eT (eP2 eI eI))) game), .v (eX thing)] (F_is_lasso_value game thing) (eB) := by
  rw [show k + 6 = k + 5 + 1 from rfl, e_is_lasso_value]
  exact CJ.ofx [.p (eT (eP4 eS eI (eT eI) (eT (eP2 eI eI))) game), .v (eX thing)] rfl rfl rfl
   (XSG.ifR (XES.or_ (XES.not_ (XES.nbp (XES.call (XEA.v (XES.var 1 rfl) (XEA.p (XES.con (ea := eI) 2) (XEA.nil (o := false))) trivial) (XEA.nil (o := false)) (fun _ _ => rfl) (fun _ _ => j_is_tuple hL _ _ _)) (fun _ => rfl))) (XES.or_ (XES.not_ (XES.nbp (XES.call (XEA.p (XES.varp 0 rfl) (XEA.v (XES.ixT (XES.asTup_ (XES.var 1 rfl)) (XES.con (ea := eI) 0)) (XEA.nil (o := false)) trivial)) (XEA.nil (o := false)) (fun _ _ => rfl) (fun _ _ => j_are_steps hL _ _ _)) (fun _ => rfl))) (XES.or_ (XES.not_ (XES.nbp (XES.call (XEA.p (XES.varp 0 rfl) (XEA.v (XES.ixT (XES.asTup_ (XES.var 1 rfl)) (XES.con (ea := eI) 1)) (XEA.nil (o := false)) trivial)) (XEA.nil (o := false)) (fun _ _ => rfl) (fun _ _ => j_are_steps hL _ _ _)) (fun _ => rfl))) (XES.eqtil (XES.asTup_ (XES.ixT (XES.asTup_ (XES.var 1 rfl)) (XES.con (ea := eI) 1)))))))
    (XSG.ret (XES.con (ea := eB) false))
    (XSG.pass
    (XSG.ret (XES.nbp (XES.call (XEA.p (XES.varp 0 rfl) (XEA.p (XES.catT (XES.asOf_ (ea := eT (eP2 eI eS)) (fun _ => rfl) (XES.ixT (XES.asTup_ (XES.var 1 rfl)) (XES.con (ea := eI) 0))) (XES.asOf_ (ea := eT (eP2 eI eS)) (fun _ => rfl) (XES.ixT (XES.asTup_ (XES.var 1 rfl)) (XES.con (ea := eI) 1)))) (XEA.p (XES.asInt_ (XES.ixT (XES.asTup_ (XES.ixT (XES.asTup_ (XES.ixT (XES.asTup_ (XES.var 1 rfl)) (XES.con (ea := eI) 1))) (XES.con (ea := eI) 0))) (XES.con (ea := eI) 0))) (XEA.nil (o := false))))) (XEA.nil (o := false)) (fun _ _ => rfl) (fun _ _ => j_do_lead hL _ _ _ _)) (fun _ => rfl)))))
   (fun Q h => by delta F_is_lasso_value at h; exact h)

@[irreducible] def F_is_lasso (game : List (String × Int × (List Int) × (List (Int × Int)))) (thing : PyData) (Q : Bool → Prop) : Prop :=
 F_need_game ((eT (eP4 eS eI (eT eI) (eT (eP2 eI eI)))) game) fun t2 => F_is_lasso_value game thing fun t1 => Q t1
theorem j_is_lasso (hL : 1000000 ≤ L) (k : Nat) (game : List (String × Int × (List Int) × (List (Int × Int)))) (thing : PyData) : CJ (fL (G L) T DEP (k + 8) ft_is_lasso) [.p (eT (eP4 eS eI (eT eI) (eT (eP2 eI eI))) game), .v (eX thing)] (F_is_lasso game thing) (eB) := by
  rw [show k + 8 = k + 7 + 1 from rfl, e_is_lasso]
  exact CJ.ofx [.p (eT (eP4 eS eI (eT eI) (eT (eP2 eI eI))) game), .v (eX thing)] rfl rfl rfl
   (XSG.ex (XES.nbp (XES.call (XEA.v (XES.as (eb := eX) (XES.varp 0 rfl) (eT (eP4 eS eI (eT eI) (eT (eP2 eI eI)))) (fun _ => rfl)) (XEA.nil (o := false)) trivial) (XEA.nil (o := false)) (fun _ _ => rfl) (fun _ _ => j_need_game hL _ _)) (fun _ => rfl)) (fun _ =>
    (XSG.ret (XES.nbp (XES.call (XEA.p (XES.varp 0 rfl) (XEA.v (XES.var 1 rfl) (XEA.nil (o := false)) trivial)) (XEA.nil (o := false)) (fun _ _ => rfl) (fun _ _ => j_is_lasso_value hL _ _ _)) (fun _ => rfl)))))
   (fun Q h => by delta F_is_lasso at h; exact h)

@[irreducible] def F_need_lasso (game : List (String × Int × (List Int) × (List (Int × Int)))) (lasso : PyData) (Q : Unit → Prop) : Prop :=
 F_is_lasso_value game lasso fun t1 => if (!t1) = true then (False) else
 Q ()
theorem j_need_lasso (hL : 1000000 ≤ L) (k : Nat) (game : List (String × Int × (List Int) × (List (Int × Int)))) (lasso : PyData) : CJ (fL (G L) T DEP (k + 7) ft_need_lasso) [.p (eT (eP4 eS eI (eT eI) (eT (eP2 eI eI))) game), .v (eX lasso)] (F_need_lasso game lasso) (eU) := by
  rw [show k + 7 = k + 6 + 1 from rfl, e_need_lasso]
  exact CJ.ofUx [.p (eT (eP4 eS eI (eT eI) (eT (eP2 eI eI))) game), .v (eX lasso)] rfl rfl rfl
   (XSG.ifR (XES.not_ (XES.nbp (XES.call (XEA.p (XES.varp 0 rfl) (XEA.v (XES.var 1 rfl) (XEA.nil (o := false)) trivial)) (XEA.nil (o := false)) (fun _ _ => rfl) (fun _ _ => j_is_lasso_value hL _ _ _)) (fun _ => rfl))) XSG.no
    (XSG.pass
    (XSG.nil (s := ()) (Sub.w (Sub.w Sub.n)))))
   (fun Q h => by delta F_need_lasso at h; exact h)

@[irreducible] def F_weight_of_lasso (game : List (String × Int × (List Int) × (List (Int × Int)))) (lasso : (List (Int × String)) × (List (Int × String))) (Q : Nm → Prop) : Prop :=
 letW lasso fun t1 =>
 t1.2.length < 1000000 ∧ if decide ("slip" ∈ (t1.2.map fun (y1 : Int × String) => y1.2)) = true then (Q (Nm.s "endless")) else
 atW t1.2 (0 : Int) fun t3 => F_steps_weight game t1.1 t3.1 fun t2 => Q (Nm.i t2)
theorem j_weight_of_lasso (hL : 1000000 ≤ L) (k : Nat) (game : List (String × Int × (List Int) × (List (Int × Int)))) (lasso : (List (Int × String)) × (List (Int × String))) : CJ (fL (G L) T DEP (k + 4) ft_weight_of_lasso) [.p (eT (eP4 eS eI (eT eI) (eT (eP2 eI eI))) game), .p (eP2 (eT (eP2 eI eS)) (eT (eP2 eI eS)) lasso)] (F_weight_of_lasso game lasso) (eN) := by
  rw [show k + 4 = k + 3 + 1 from rfl, e_weight_of_lasso]
  exact CJ.ofx [.p (eT (eP4 eS eI (eT eI) (eT (eP2 eI eI))) game), .p (eP2 (eT (eP2 eI eS)) (eT (eP2 eI eS)) lasso), .u, .u, .u] rfl rfl rfl
   (XSG.asgT (XES.varp 1 rfl) (fun _ => (XGJ.tp (XGsJ.nm 2 (XGsJ.nm 3 XGsJ.nil)) rfl)) (fun (t1 : (List (Int × String)) × (List (Int × String))) =>
    (XSG.nrm [.p (eT (eP4 eS eI (eT eI) (eT (eP2 eI eI))) game), .p (eP2 (eT (eP2 eI eS)) (eT (eP2 eI eS)) lasso), .p (eT (eP2 eI eS) t1.1), .p (eT (eP2 eI eS) t1.2), .u] rfl
    (XSG.ifR (XES.inL eqok_S (by decide) (XES.con (ea := eS) "slip") (XES.ofL (XES.lcNP (bx := false) hL (XIJ.ofT (XES.varp 3 rfl)) (fun _ => (XGJ.nm 4)) (fun (y1 : Int × String) => (XES.pv y1.2 (XES.ixc (ea := eP2 eI eS) (eb := eS) (fun x : Int × String => x.2) (fun _ => ⟨_, rfl, rfl⟩) (XES.varp 4 rfl)) rfl)))))
    (XSG.ret (XES.as (eb := eN) (XES.con (ea := eS) "endless") Nm.s (fun _ => rfl)))
    (XSG.pass
    (XSG.ret (XES.as (eb := eN) (XES.nbp (XES.call (XEA.p (XES.varp 0 rfl) (XEA.p (XES.varp 2 rfl) (XEA.p (XES.ixc (ea := eP2 eI eS) (eb := eI) (fun x : Int × String => x.1) (fun _ => ⟨_, rfl, rfl⟩) (XES.ixT (XES.varp 3 rfl) (XES.con (ea := eI) 0))) (XEA.nil (o := false))))) (XEA.nil (o := false)) (fun _ _ => rfl) (fun _ _ => j_steps_weight hL _ _ _ _)) (fun _ => rfl)) Nm.i (fun _ => rfl))))))))
   (fun Q h => by delta F_weight_of_lasso at h; exact h)

@[irreducible] def F_lasso_weight (game : List (String × Int × (List Int) × (List (Int × Int)))) (lasso : (List (Int × String)) × (List (Int × String))) (Q : Nm → Prop) : Prop :=
 F_need_game ((eT (eP4 eS eI (eT eI) (eT (eP2 eI eI)))) game) fun t3 => F_need_lasso game ((eP2 (eT (eP2 eI eS)) (eT (eP2 eI eS))) lasso) fun t2 => F_weight_of_lasso game lasso fun t1 => Q t1
theorem j_lasso_weight (hL : 1000000 ≤ L) (k : Nat) (game : List (String × Int × (List Int) × (List (Int × Int)))) (lasso : (List (Int × String)) × (List (Int × String))) : CJ (fL (G L) T DEP (k + 8) ft_lasso_weight) [.p (eT (eP4 eS eI (eT eI) (eT (eP2 eI eI))) game), .p (eP2 (eT (eP2 eI eS)) (eT (eP2 eI eS)) lasso)] (F_lasso_weight game lasso) (eN) := by
  rw [show k + 8 = k + 7 + 1 from rfl, e_lasso_weight]
  exact CJ.ofx [.p (eT (eP4 eS eI (eT eI) (eT (eP2 eI eI))) game), .p (eP2 (eT (eP2 eI eS)) (eT (eP2 eI eS)) lasso)] rfl rfl rfl
   (XSG.ex (XES.nbp (XES.call (XEA.v (XES.as (eb := eX) (XES.varp 0 rfl) (eT (eP4 eS eI (eT eI) (eT (eP2 eI eI)))) (fun _ => rfl)) (XEA.nil (o := false)) trivial) (XEA.nil (o := false)) (fun _ _ => rfl) (fun _ _ => j_need_game hL _ _)) (fun _ => rfl)) (fun _ =>
    (XSG.ex (XES.nbp (XES.call (XEA.p (XES.varp 0 rfl) (XEA.v (XES.as (eb := eX) (XES.varp 1 rfl) (eP2 (eT (eP2 eI eS)) (eT (eP2 eI eS))) (fun _ => rfl)) (XEA.nil (o := false)) trivial)) (XEA.nil (o := false)) (fun _ _ => rfl) (fun _ _ => j_need_lasso hL _ _ _)) (fun _ => rfl)) (fun _ =>
    (XSG.ret (XES.nbp (XES.call (XEA.p (XES.varp 0 rfl) (XEA.p (XES.varp 1 rfl) (XEA.nil (o := false)))) (XEA.nil (o := false)) (fun _ _ => rfl) (fun _ _ => j_weight_of_lasso hL _ _ _)) nb_N))))))
   (fun Q h => by delta F_lasso_weight at h; exact h)

@[irreducible] def F__law_lasso (game : List (String × Int × (List Int) × (List (Int × Int)))) (Q : (List (Int × String)) × (List (Int × String)) → Prop) : Prop :=
 F__law_draw (game.length : Int) fun t20 => F__law_draw (6 : Int) fun t21 => F__law_walk game t20 ((game.length : Int) + t21) fun t19 => letW t19 fun t1 =>
 rng1W (9 : Int) fun t18 => forW t18 (t1.1, t1.2, none) (fun (x1 : Int) (s1 : (List (Int × String)) × Int × (Option (List Int))) n1 b1 r1 =>
 letW (enumI s1.1) fun t8 => t8.length < 1000000 ∧ letW ((t8.filter fun (y1 : Int × (Int × String)) => decide (y1.2.1 = s1.2.1)).map fun (y1 : Int × (Int × String)) => y1.1) fun spots =>
 joinW (α := Bool) (fun Q => if (!(spots.isEmpty)) = true then (joinW (α := Bool) (fun Q => if decide ((7 : Int) < x1) = true then Q true else (F__law_draw (2 : Int) fun t7 => Q (decide (t7 = (0 : Int))))) fun t6 => Q t6) else Q false) fun t5 => if t5 = true then (b1 (s1.1, s1.2.1, some spots)) else
 F__law_walk game s1.2.1 (1 : Int) fun t4 => letW t4 fun t2 =>
 small (s1.1 ++ t2.1) fun t3 => letW t3 fun steps =>
 n1 (steps, t2.2, some spots)) (fun s1 =>
 joinW (α := Int) (fun Q => optW s1.2.2 fun t17 => if (t17.isEmpty) = true then (Q (game.length : Int)) else (Q (0 : Int))) fun t16 => rng1W t16 fun t15 => forW t15 (s1.1, s1.2.1, s1.2.2) (fun (x2 : Int) (s2 : (List (Int × String)) × Int × (Option (List Int))) n1 b1 r1 =>
 F__law_walk game s2.2.1 (1 : Int) fun t12 => letW t12 fun t9 =>
 small (s2.1 ++ t9.1) fun t11 => letW t11 fun steps =>
 letW (enumI steps) fun t10 => t10.length < 1000000 ∧ letW ((t10.filter fun (y1 : Int × (Int × String)) => decide (y1.2.1 = t9.2)).map fun (y1 : Int × (Int × String)) => y1.1) fun spots =>
 if (!(spots.isEmpty)) = true then (b1 (steps, t9.2, some spots)) else
 n1 (steps, t9.2, some spots)) (fun s2 =>
 optW s2.2.2 fun t14 => F__law_pick_L t14 fun t13 => letW t13 fun at_ =>
 Q ((PI.cutD s2.1 none (some at_)), (PI.cutD s2.1 (some at_) none))) Q) Q
theorem j__law_lasso (hL : 1000000 ≤ L) (k : Nat) (game : List (String × Int × (List Int) × (List (Int × Int)))) : CJ (fL (G L) T DEP (k + 4) ft__law_lasso) [.d (.ref 1), .p (eT (eP4 eS eI (eT eI) (eT (eP2 eI eI))) game)] (F__law_lasso game) (eP2 (eT (eP2 eI eS)) (eT (eP2 eI eS))) := by
  rw [show k + 4 = k + 3 + 1 from rfl, e__law_lasso]
  exact CJ.ofx [.d (.ref 1), .p (eT (eP4 eS eI (eT eI) (eT (eP2 eI eI))) game), .u, .u, .u, .u, .u, .u, .u] rfl rfl rfl
   (XSG.asgT (XES.nbp (XES.call (XEA.d (XES.vard 0 rfl) (XEA.p (XES.varp 1 rfl) (XEA.p (XES.nbp (XES.call (XEA.d (XES.vard 0 rfl) (XEA.p (XES.lenT (XES.varp 1 rfl)) (XEA.nil (o := false)))) (XEA.nil (o := false)) (fun _ _ => rfl) (fun _ _ => j__law_draw hL _ _)) (fun _ => rfl)) (XEA.p (XES.add (XES.lenT (XES.varp 1 rfl)) (XES.nbp (XES.call (XEA.d (XES.vard 0 rfl) (XEA.p (XES.con (ea := eI) 6) (XEA.nil (o := false)))) (XEA.nil (o := false)) (fun _ _ => rfl) (fun _ _ => j__law_draw hL _ _)) (fun _ => rfl))) (XEA.nil (o := false)))))) (XEA.nil (o := false)) (fun _ _ => rfl) (fun _ _ => j__law_walk hL _ _ _ _)) (fun _ => rfl)) (fun _ => (XGJ.tp (XGsJ.nm 2 (XGsJ.nm 3 XGsJ.nil)) rfl)) (fun (t1 : (List (Int × String)) × Int) =>
    (XSG.nrm [.d (.ref 1), .p (eT (eP4 eS eI (eT eI) (eT (eP2 eI eI))) game), .p (eT (eP2 eI eS) t1.1), .p (eI t1.2), .u, .u, .u, .u, .u] rfl
    (XSG.forW (Γh := fun (s1 : (List (Int × String)) × Int × (Option (List Int))) => [.d (.ref 1), .p (eT (eP4 eS eI (eT eI) (eT (eP2 eI eI))) game), .p (eT (eP2 eI eS) s1.1), .p (eI s1.2.1), .u, .u, .u, mb s1.2.2 fun z => .v (eL eI z), .u]) (s0 := (t1.1, t1.2, none)) hL (XIJ.rng1 (XES.con (ea := eI) 9)) (Sub.k (Sub.k (Sub.k (Sub.k (Sub.k (Sub.k (Sub.k (Sub.w (Sub.k Sub.n))))))))) (fun (x1 : Int) (s1 : (List (Int × String)) × Int × (Option (List Int))) => (XGJ.nm 4)) (fun (x1 : Int) (s1 : (List (Int × String)) × Int × (Option (List Int))) =>
    (XSG.nrm [.d (.ref 1), .p (eT (eP4 eS eI (eT eI) (eT (eP2 eI eI))) game), .p (eT (eP2 eI eS) s1.1), .p (eI s1.2.1), .p (eI x1), .u, .u, mb s1.2.2 fun z => .v (eL eI z), .u] rfl
    (XSG.asgp (XES.ofL (XES.lcP (bx := false) hL (XIJ.enT (XES.varp 2 rfl)) (fun _ => (XGJ.tp (XGsJ.nm 5 (XGsJ.nm 6 XGsJ.nil)) rfl)) (fun (y1 : Int × (Int × String)) => (XES.pv (decide (y1.2.1 = s1.2.1)) (XES.eq eqok_I (by decide) (XES.ixc (ea := eP2 eI eS) (eb := eI) (fun x : Int × String => x.1) (fun _ => ⟨_, rfl, rfl⟩) (XES.varp 6 rfl)) (XES.varp 3 rfl)) rfl)) (fun (y1 : Int × (Int × String)) => (XES.pv y1.1 (XES.varp 5 rfl) rfl)))) (fun (spots : List Int) =>
    (XSG.nrm [.d (.ref 1), .p (eT (eP4 eS eI (eT eI) (eT (eP2 eI eI))) game), .p (eT (eP2 eI eS) s1.1), .p (eI s1.2.1), .p (eI x1), .u, .u, .p (eL eI spots), .u] rfl
    (XSG.ifR (XES.and_ (XES.nenil (XES.varp 7 rfl)) (XES.or_ (XES.gt (XES.varp 4 rfl) (XES.con (ea := eI) 7)) (XES.eq eqok_I (by decide) (XES.nbp (XES.call (XEA.d (XES.vard 0 rfl) (XEA.p (XES.con (ea := eI) 2) (XEA.nil (o := false)))) (XEA.nil (o := false)) (fun _ _ => rfl) (fun _ _ => j__law_draw hL _ _)) (fun _ => rfl)) (XES.con (ea := eI) 0))))
    (XSG.brk (s := (s1.1, s1.2.1, some spots)) (Sub.k (Sub.k (Sub.k (Sub.k (Sub.w (Sub.k (Sub.k (Sub.q (Sub.k Sub.n))))))))))
    (XSG.pass
    (XSG.asgT (XES.nbp (XES.call (XEA.d (XES.vard 0 rfl) (XEA.p (XES.varp 1 rfl) (XEA.p (XES.varp 3 rfl) (XEA.p (XES.con (ea := eI) 1) (XEA.nil (o := false)))))) (XEA.nil (o := false)) (fun _ _ => rfl) (fun _ _ => j__law_walk hL _ _ _ _)) (fun _ => rfl)) (fun _ => (XGJ.tp (XGsJ.nm 8 (XGsJ.nm 3 XGsJ.nil)) rfl)) (fun (t2 : (List (Int × String)) × Int) =>
    (XSG.nrm [.d (.ref 1), .p (eT (eP4 eS eI (eT eI) (eT (eP2 eI eI))) game), .p (eT (eP2 eI eS) s1.1), .p (eI t2.2), .p (eI x1), .u, .u, .p (eL eI spots), .p (eT (eP2 eI eS) t2.1)] rfl
    (XSG.asgp (XES.catT (XES.varp 2 rfl) (XES.varp 8 rfl)) (fun (steps : List (Int × String)) =>
    (XSG.nrm [.d (.ref 1), .p (eT (eP4 eS eI (eT eI) (eT (eP2 eI eI))) game), .p (eT (eP2 eI eS) steps), .p (eI t2.2), .p (eI x1), .u, .u, .p (eL eI spots), .p (eT (eP2 eI eS) t2.1)] rfl
    (XSG.nil (s := (steps, t2.2, some spots)) (Sub.k (Sub.k (Sub.k (Sub.k (Sub.w (Sub.k (Sub.k (Sub.q (Sub.w Sub.n))))))))))))))))))))))) (fun (s1 : (List (Int × String)) × Int × (Option (List Int))) =>
    (XSG.forW (Γh := fun (s2 : (List (Int × String)) × Int × (Option (List Int))) => [.d (.ref 1), .p (eT (eP4 eS eI (eT eI) (eT (eP2 eI eI))) game), .p (eT (eP2 eI eS) s2.1), .p (eI s2.2.1), .u, .u, .u, mb s2.2.2 fun z => .v (eL eI z), .u]) (s0 := (s1.1, s1.2.1, s1.2.2)) hL (XIJ.rng1 (XES.if_ (XES.eqnil (XES.varm 7 rfl)) (XES.lenT (XES.varp 1 rfl)) (XES.con (ea := eI) 0))) (Sub.k (Sub.k (Sub.k (Sub.k (Sub.k (Sub.k (Sub.k (Sub.k (Sub.k Sub.n))))))))) (fun (x2 : Int) (s2 : (List (Int × String)) × Int × (Option (List Int))) => (XGJ.nm 4)) (fun (x2 : Int) (s2 : (List (Int × String)) × Int × (Option (List Int))) =>
    (XSG.nrm [.d (.ref 1), .p (eT (eP4 eS eI (eT eI) (eT (eP2 eI eI))) game), .p (eT (eP2 eI eS) s2.1), .p (eI s2.2.1), .p (eI x2), .u, .u, mb s2.2.2 fun z => .v (eL eI z), .u] rfl
    (XSG.asgT (XES.nbp (XES.call (XEA.d (XES.vard 0 rfl) (XEA.p (XES.varp 1 rfl) (XEA.p (XES.varp 3 rfl) (XEA.p (XES.con (ea := eI) 1) (XEA.nil (o := false)))))) (XEA.nil (o := false)) (fun _ _ => rfl) (fun _ _ => j__law_walk hL _ _ _ _)) (fun _ => rfl)) (fun _ => (XGJ.tp (XGsJ.nm 8 (XGsJ.nm 3 XGsJ.nil)) rfl)) (fun (t9 : (List (Int × String)) × Int) =>
    (XSG.nrm [.d (.ref 1), .p (eT (eP4 eS eI (eT eI) (eT (eP2 eI eI))) game), .p (eT (eP2 eI eS) s2.1), .p (eI t9.2), .p (eI x2), .u, .u, mb s2.2.2 fun z => .v (eL eI z), .p (eT (eP2 eI eS) t9.1)] rfl
    (XSG.asgp (XES.catT (XES.varp 2 rfl) (XES.varp 8 rfl)) (fun (steps : List (Int × String)) =>
    (XSG.nrm [.d (.ref 1), .p (eT (eP4 eS eI (eT eI) (eT (eP2 eI eI))) game), .p (eT (eP2 eI eS) steps), .p (eI t9.2), .p (eI x2), .u, .u, mb s2.2.2 fun z => .v (eL eI z), .p (eT (eP2 eI eS) t9.1)] rfl
    (XSG.asgp (XES.ofL (XES.lcP (bx := false) hL (XIJ.enT (XES.varp 2 rfl)) (fun _ => (XGJ.tp (XGsJ.nm 5 (XGsJ.nm 6 XGsJ.nil)) rfl)) (fun (y1 : Int × (Int × String)) => (XES.pv (decide (y1.2.1 = t9.2)) (XES.eq eqok_I (by decide) (XES.ixc (ea := eP2 eI eS) (eb := eI) (fun x : Int × String => x.1) (fun _ => ⟨_, rfl, rfl⟩) (XES.varp 6 rfl)) (XES.varp 3 rfl)) rfl)) (fun (y1 : Int × (Int × String)) => (XES.pv y1.1 (XES.varp 5 rfl) rfl)))) (fun (spots : List Int) =>
    (XSG.nrm [.d (.ref 1), .p (eT (eP4 eS eI (eT eI) (eT (eP2 eI eI))) game), .p (eT (eP2 eI eS) steps), .p (eI t9.2), .p (eI x2), .u, .u, .p (eL eI spots), .p (eT (eP2 eI eS) t9.1)] rfl
    (XSG.ifR (XES.nenil (XES.varp 7 rfl))
    (XSG.brk (s := (steps, t9.2, some spots)) (Sub.k (Sub.k (Sub.k (Sub.k (Sub.w (Sub.k (Sub.k (Sub.q (Sub.w Sub.n))))))))))
    (XSG.pass
    (XSG.nil (s := (steps, t9.2, some spots)) (Sub.k (Sub.k (Sub.k (Sub.k (Sub.w (Sub.k (Sub.k (Sub.q (Sub.w Sub.n))))))))))))))))))))))) (fun (s2 : (List (Int × String)) × Int × (Option (List Int))) =>
    (XSG.asgp (XES.nbp (XES.call (XEA.d (XES.vard 0 rfl) (XEA.v (XES.varm 7 rfl) (XEA.nil (o := false)) trivial)) (XEA.nil (o := false)) (fun _ _ => rfl) (fun _ _ => j__law_pick_L hL _ _)) (fun _ => rfl)) (fun (at_ : Int) =>
    (XSG.nrm [.d (.ref 1), .p (eT (eP4 eS eI (eT eI) (eT (eP2 eI eI))) game), .p (eT (eP2 eI eS) s2.1), .p (eI s2.2.1), .u, .p (eI at_), .u, mb s2.2.2 fun z => .v (eL eI z), .u] rfl
    (XSG.ret (XES.t2 (XES.slT (XES.varp 2 rfl) XOJ.none (XOJ.some (XES.varp 5 rfl))) (XES.slT (XES.varp 2 rfl) (XOJ.some (XES.varp 5 rfl)) XOJ.none)))))))))))))
   (fun Q h => by delta F__law_lasso at h; exact h)

@[irreducible] def F__law_is_joined (game : List (String × Int × (List Int) × (List (Int × Int)))) (one : (List (Int × String)) × Int) (other : (List (Int × String)) × Int) (Q : Bool → Prop) : Prop :=
 F__law_weight game one.1 one.2 fun t14 => F__law_weight game other.1 other.2 fun t15 => small [t14, t15] fun t13 => letW t13 fun due =>
 small (one.1 ++ other.1) fun t12 => letW (t12, other.2) fun both =>
 F_path_weight game one fun t8 => F_path_weight game other fun t9 => F_path_weight game both fun t10 => F_is_path game ((eP2 (eT (eP2 eI eS)) eI) both) fun t11 => small [(eI t8), (eI t9), (eI t10), (eB t11)] fun t7 => letW t7 fun told =>
 reprW (eL eX) told fun t1 => atW due (0 : Int) fun t5 => atW due (1 : Int) fun t6 => small [(eI (t5 + t6)), (eB true)] fun t4 => small ((List.map eI due) ++ t4) fun t3 => reprW (eL eX) t3 fun t2 => Q (decide (t1 = t2))
theorem j__law_is_joined (hL : 1000000 ≤ L) (k : Nat) (game : List (String × Int × (List Int) × (List (Int × Int)))) (one : (List (Int × String)) × Int) (other : (List (Int × String)) × Int) : CJ (fL (G L) T DEP (k + 9) ft__law_is_joined) [.p (eT (eP4 eS eI (eT eI) (eT (eP2 eI eI))) game), .p (eP2 (eT (eP2 eI eS)) eI one), .p (eP2 (eT (eP2 eI eS)) eI other)] (F__law_is_joined game one other) (eB) := by
  rw [show k + 9 = k + 8 + 1 from rfl, e__law_is_joined]
  exact CJ.ofx [.p (eT (eP4 eS eI (eT eI) (eT (eP2 eI eI))) game), .p (eP2 (eT (eP2 eI eS)) eI one), .p (eP2 (eT (eP2 eI eS)) eI other), .u, .u, .u] rfl rfl rfl
   (XSG.asgp (XES.ofL (XES.lstV (XEV.cons (XES.nbp (XES.call (XEA.p (XES.varp 0 rfl) (XEA.p (XES.ixc (ea := eP2 (eT (eP2 eI eS)) eI) (eb := eT (eP2 eI eS)) (fun x : (List (Int × String)) × Int => x.1) (fun _ => ⟨_, rfl, rfl⟩) (XES.varp 1 rfl)) (XEA.p (XES.ixc (ea := eP2 (eT (eP2 eI eS)) eI) (eb := eI) (fun x : (List (Int × String)) × Int => x.2) (fun _ => ⟨_, rfl, rfl⟩) (XES.varp 1 rfl)) (XEA.nil (o := false))))) (XEA.nil (o := false)) (fun _ _ => rfl) (fun _ _ => j__law_weight hL _ _ _ _)) (fun _ => rfl)) (XEV.cons (XES.nbp (XES.call (XEA.p (XES.varp 0 rfl) (XEA.p (XES.ixc (ea := eP2 (eT (eP2 eI eS)) eI) (eb := eT (eP2 eI eS)) (fun x : (List (Int × String)) × Int => x.1) (fun _ => ⟨_, rfl, rfl⟩) (XES.varp 2 rfl)) (XEA.p (XES.ixc (ea := eP2 (eT (eP2 eI eS)) eI) (eb := eI) (fun x : (List (Int × String)) × Int => x.2) (fun _ => ⟨_, rfl, rfl⟩) (XES.varp 2 rfl)) (XEA.nil (o := false))))) (XEA.nil (o := false)) (fun _ _ => rfl) (fun _ _ => j__law_weight hL _ _ _ _)) (fun _ => rfl)) (XEV.nil (ea := eI)))))) (fun (due : List Int) =>
    (XSG.asgp (XES.t2 (XES.catT (XES.ixc (ea := eP2 (eT (eP2 eI eS)) eI) (eb := eT (eP2 eI eS)) (fun x : (List (Int × String)) × Int => x.1) (fun _ => ⟨_, rfl, rfl⟩) (XES.varp 1 rfl)) (XES.ixc (ea := eP2 (eT (eP2 eI eS)) eI) (eb := eT (eP2 eI eS)) (fun x : (List (Int × String)) × Int => x.1) (fun _ => ⟨_, rfl, rfl⟩) (XES.varp 2 rfl))) (XES.ixc (ea := eP2 (eT (eP2 eI eS)) eI) (eb := eI) (fun x : (List (Int × String)) × Int => x.2) (fun _ => ⟨_, rfl, rfl⟩) (XES.varp 2 rfl))) (fun (both : (List (Int × String)) × Int) =>
    (XSG.asgp (XES.ofL (XES.lstV (XEV.cons (XES.as (eb := eX) (XES.nbp (XES.call (XEA.p (XES.varp 0 rfl) (XEA.p (XES.varp 1 rfl) (XEA.nil (o := false)))) (XEA.nil (o := false)) (fun _ _ => rfl) (fun _ _ => j_path_weight hL _ _ _)) (fun _ => rfl)) eI (fun _ => rfl)) (XEV.cons (XES.as (eb := eX) (XES.nbp (XES.call (XEA.nil (o := false)) (XEA.p (XES.varp 2 rfl) (XEA.p (XES.varp 0 rfl) (XEA.nil (o := false)))) (fun _ _ => rfl) (fun _ _ => j_path_weight hL _ _ _)) (fun _ => rfl)) eI (fun _ => rfl)) (XEV.cons (XES.as (eb := eX) (XES.nbp (XES.call (XEA.p (XES.varp 0 rfl) (XEA.p (XES.varp 4 rfl) (XEA.nil (o := false)))) (XEA.nil (o := false)) (fun _ _ => rfl) (fun _ _ => j_path_weight hL _ _ _)) (fun _ => rfl)) eI (fun _ => rfl)) (XEV.cons (XES.as (eb := eX) (XES.nbp (XES.call (XEA.p (XES.varp 0 rfl) (XEA.v (XES.as (eb := eX) (XES.varp 4 rfl) (eP2 (eT (eP2 eI eS)) eI) (fun _ => rfl)) (XEA.nil (o := false)) trivial)) (XEA.nil (o := false)) (fun _ _ => rfl) (fun _ _ => j_is_path hL _ _ _)) (fun _ => rfl)) eB (fun _ => rfl)) (XEV.nil (ea := eX)))))))) (fun (told : List PyData) =>
    (XSG.ret (XES.eqTx (XES.repr_ (fun _ _ h => by cases h) (XES.varp 5 rfl)) (XES.repr_ (fun _ _ h => by cases h) (XES.ofL (XES.catL (bx := false) (XES.as (eb := eL eX) (XES.varp 3 rfl) (List.map eI) (eL_X eI)) (XES.ofL (XES.lstV (XEV.cons (XES.as (eb := eX) (XES.add (XES.ixL (XES.varp 3 rfl) (XES.con (ea := eI) 0)) (XES.ixL (XES.varp 3 rfl) (XES.con (ea := eI) 1))) eI (fun _ => rfl)) (XEV.cons (XES.as (eb := eX) (XES.con (ea := eB) true) eB (fun _ => rfl)) (XEV.nil (ea := eX)))))))))))))))))
   (fun Q h => by delta F__law_is_joined at h; exact h)

@[irreducible] def F_law (Q : Bool → Prop) : Prop :=
 rng1W (3 : Int) fun t46 => forW t46 () (fun (x1 : Int) (s1 : Unit) n1 b1 r1 =>
 F__law_game [(3 : Int), (2 : Int), (4 : Int), (1 : Int), (5 : Int), (3 : Int), (6 : Int), (7 : Int)] fun t45 => letW t45 fun game =>
 rng1W (3 : Int) fun t44 => forW t44 () (fun (x2 : Int) (s2 : Unit) n2 b2 r2 =>
 F__law_draw (game.length : Int) fun t34 => F__law_draw (21 : Int) fun t35 => F__law_walk game t34 t35 fun t33 => letW t33 fun one =>
 F__law_draw (21 : Int) fun t32 => F__law_walk game one.2 t32 fun t31 => letW t31 fun other =>
 F__law_is_joined game one other fun t30 => if (!t30) = true then (r2 false) else
 F__law_draw ((one.1.length : Int) + (1 : Int)) fun t29 => letW t29 fun at_ =>
 joinW (α := Int) (fun Q => if decide (at_ < (one.1.length : Int)) = true then (atW one.1 at_ fun t28 => Q t28.1) else (Q one.2)) fun t27 => letW t27 fun spot =>
 F__law_is_joined game ((PI.cutD one.1 none (some at_)), spot) ((PI.cutD one.1 (some at_) none), one.2) fun t26 => if (!t26) = true then (r2 false) else
 F__law_lasso game fun t25 => letW t25 fun lasso =>
 atW lasso.2 (0 : Int) fun t21 => joinW (α := Nm) (fun Q => if decide ((0 : Int) < x2) = true then (F_lasso_weight game lasso fun t23 => Q t23) else (F_lasso_weight game lasso fun t24 => Q t24)) fun t22 => letW (t21.1, t22) fun t1 =>
 F__law_weight game lasso.1 t1.1 fun t19 => F__law_weight game lasso.2 t1.1 fun t20 => letW (t19, t20) fun t2 =>
 lasso.2.length < 1000000 ∧ letW (((lasso.2.filter fun (y1 : Int × String) => decide (y1.2 = "slip")).map fun (y1 : Int × String) => (1 : Int)).isEmpty) fun is_bare =>
 joinW (α := Bool) (fun Q => reprW (eN) t1.2 fun t16 => reprW (eN) (if is_bare = true then (Nm.i t2.1) else (Nm.s "endless")) fun t17 => if (!decide (t16 = t17)) = true then Q true else (F_is_lasso game ((eP2 (eT (eP2 eI eS)) (eT (eP2 eI eS))) lasso) fun t15 => Q (!(t15 == true)))) fun t14 => if t14 = true then (r2 false) else
 rng1W (4 : Int) fun t13 => compW t13 (fun (y1 : Int) Q => mulW y1 (lasso.2.length : Int) fun t12 => if decide (((lasso.1.length : Int) + t12) ≤ (60 : Int)) = true then (Q (some y1)) else Q none) fun t11 => letW t11 fun many =>
 compN many (fun (y1 : Int) Q => mulT lasso.2 y1 fun t10 => small (lasso.1 ++ t10) fun t9 => F_path_weight game (t9, t1.1) fun t8 => Q t8) fun t7 => letW t7 fun told =>
 reprW (eL eI) told fun t3 => compN many (fun (y1 : Int) Q => mulW y1 t2.2 fun t6 => Q (t2.1 + t6)) fun t5 => reprW (eL eI) t5 fun t4 => if (!decide (t3 = t4)) = true then (r2 false) else
 n2 ()) (fun s2 =>
 F__law_draw (game.length : Int) fun t43 => letW t43 fun v =>
 F_path_weight game (([] : List (Int × String)), v) fun t37 => F_is_path game ((eP2 (eT eI) eI) (([] : List Int), v)) fun t38 => atW game v fun t41 => atW t41.2.2.1 (0 : Int) fun t40 => F_path_weight game ([(v, "move")], t40) fun t39 => reprW (eP3 eI eB eI) (t37, t38, t39) fun t36 => reprW (eP3 eI eB eI) ((0 : Int), true, (0 : Int)) fun t42 => if (!decide (t36 = t42)) = true then (r1 false) else
 n1 ()) r1) (fun s1 =>
 Q true) Q
theorem j_law (hL : 1000000 ≤ L) (k : Nat) (ns : List Int) (hn : ns.length ≤ 63) (h : F_law (fun b => b = true)) : ∃ S, fL (G L) T DEP (k + 10) ft_law [] [.p (.list (ns.map .int))] = some (.p (.bool true), S) := by
  rw [show k + 10 = k + 9 + 1 from rfl, e_law]
  obtain ⟨xs, mx, e1, hx⟩ := deck L (k + 8) hL ns hn
  exact law_run (S1 := DS xs mx 0 []) (Γ1 := [.u, .d (.ref 1), .u, .u, .u, .u, .u, .u, .u, .u, .u, .u, .u, .u, .u, .u, .u, .u, .u, .u]) (call_1 _ _ _ _ e1) ⟨[], xs, mx, 0, rfl, hx⟩ (by decide) rfl
   (XSG.forW (Γh := fun (s1 : Unit) => [.u, .d (.ref 1), .u, .u, .u, .u, .u, .u, .u, .u, .u, .u, .u, .u, .u, .u, .u, .u, .u, .u]) (s0 := ()) hL (XIJ.rng1 (XES.con (ea := eI) 3)) (Sub.k (Sub.k (Sub.k (Sub.k (Sub.k (Sub.k (Sub.k (Sub.k (Sub.k (Sub.k (Sub.k (Sub.k (Sub.k (Sub.k (Sub.k (Sub.k (Sub.k (Sub.k (Sub.k (Sub.k Sub.n)))))))))))))))))))) (fun (x1 : Int) (s1 : Unit) => (XGJ.nm 2)) (fun (x1 : Int) (s1 : Unit) =>
    (XSG.nrm [.u, .d (.ref 1), .p (eI x1), .u, .u, .u, .u, .u, .u, .u, .u, .u, .u, .u, .u, .u, .u, .u, .u, .u] rfl
    (XSG.asgp (XES.nbp (XES.call (XEA.d (XES.vard 1 rfl) (XEA.v (XES.ofL (XES.lstP (XEV.pc (XES.pv (3 : Int) (XES.con (ea := eI) 3) rfl) (XEV.pc (XES.pv (2 : Int) (XES.con (ea := eI) 2) rfl) (XEV.pc (XES.pv (4 : Int) (XES.con (ea := eI) 4) rfl) (XEV.pc (XES.pv (1 : Int) (XES.con (ea := eI) 1) rfl) (XEV.pc (XES.pv (5 : Int) (XES.con (ea := eI) 5) rfl) (XEV.pc (XES.pv (3 : Int) (XES.con (ea := eI) 3) rfl) (XEV.pc (XES.pv (6 : Int) (XES.con (ea := eI) 6) rfl) (XEV.pc (XES.pv (7 : Int) (XES.con (ea := eI) 7) rfl) (XEV.pn (ea := eI)))))))))) (by simp))) (XEA.nil (o := false)) trivial)) (XEA.nil (o := false)) (fun _ _ => rfl) (fun _ _ => j__law_game hL _ _)) (fun _ => rfl)) (fun (game : List (String × Int × (List Int) × (List (Int × Int)))) =>
    (XSG.nrm [.u, .d (.ref 1), .p (eI x1), .p (eT (eP4 eS eI (eT eI) (eT (eP2 eI eI))) game), .u, .u, .u, .u, .u, .u, .u, .u, .u, .u, .u, .u, .u, .u, .u, .u] rfl
    (XSG.forW (Γh := fun (s2 : Unit) => [.u, .d (.ref 1), .p (eI x1), .p (eT (eP4 eS eI (eT eI) (eT (eP2 eI eI))) game), .u, .u, .u, .u, .u, .u, .u, .u, .u, .u, .u, .u, .u, .u, .u, .u]) (s0 := ()) hL (XIJ.rng1 (XES.con (ea := eI) 3)) (Sub.k (Sub.k (Sub.k (Sub.k (Sub.k (Sub.k (Sub.k (Sub.k (Sub.k (Sub.k (Sub.k (Sub.k (Sub.k (Sub.k (Sub.k (Sub.k (Sub.k (Sub.k (Sub.k (Sub.k Sub.n)))))))))))))))))))) (fun (x2 : Int) (s2 : Unit) => (XGJ.nm 4)) (fun (x2 : Int) (s2 : Unit) =>
    (XSG.nrm [.u, .d (.ref 1), .p (eI x1), .p (eT (eP4 eS eI (eT eI) (eT (eP2 eI eI))) game), .p (eI x2), .u, .u, .u, .u, .u, .u, .u, .u, .u, .u, .u, .u, .u, .u, .u] rfl
    (XSG.asgp (XES.nbp (XES.call (XEA.d (XES.vard 1 rfl) (XEA.p (XES.varp 3 rfl) (XEA.p (XES.nbp (XES.call (XEA.d (XES.vard 1 rfl) (XEA.p (XES.lenT (XES.varp 3 rfl)) (XEA.nil (o := false)))) (XEA.nil (o := false)) (fun _ _ => rfl) (fun _ _ => j__law_draw hL _ _)) (fun _ => rfl)) (XEA.p (XES.nbp (XES.call (XEA.d (XES.vard 1 rfl) (XEA.p (XES.con (ea := eI) 21) (XEA.nil (o := false)))) (XEA.nil (o := false)) (fun _ _ => rfl) (fun _ _ => j__law_draw hL _ _)) (fun _ => rfl)) (XEA.nil (o := false)))))) (XEA.nil (o := false)) (fun _ _ => rfl) (fun _ _ => j__law_walk hL _ _ _ _)) (fun _ => rfl)) (fun (one : (List (Int × String)) × Int) =>
    (XSG.nrm [.u, .d (.ref 1), .p (eI x1), .p (eT (eP4 eS eI (eT eI) (eT (eP2 eI eI))) game), .p (eI x2), .p (eP2 (eT (eP2 eI eS)) eI one), .u, .u, .u, .u, .u, .u, .u, .u, .u, .u, .u, .u, .u, .u] rfl
    (XSG.asgp (XES.nbp (XES.call (XEA.d (XES.vard 1 rfl) (XEA.p (XES.varp 3 rfl) (XEA.p (XES.ixc (ea := eP2 (eT (eP2 eI eS)) eI) (eb := eI) (fun x : (List (Int × String)) × Int => x.2) (fun _ => ⟨_, rfl, rfl⟩) (XES.varp 5 rfl)) (XEA.p (XES.nbp (XES.call (XEA.d (XES.vard 1 rfl) (XEA.p (XES.con (ea := eI) 21) (XEA.nil (o := false)))) (XEA.nil (o := false)) (fun _ _ => rfl) (fun _ _ => j__law_draw hL _ _)) (fun _ => rfl)) (XEA.nil (o := false)))))) (XEA.nil (o := false)) (fun _ _ => rfl) (fun _ _ => j__law_walk hL _ _ _ _)) (fun _ => rfl)) (fun (other : (List (Int × String)) × Int) =>
    (XSG.nrm [.u, .d (.ref 1), .p (eI x1), .p (eT (eP4 eS eI (eT eI) (eT (eP2 eI eI))) game), .p (eI x2), .p (eP2 (eT (eP2 eI eS)) eI one), .p (eP2 (eT (eP2 eI eS)) eI other), .u, .u, .u, .u, .u, .u, .u, .u, .u, .u, .u, .u, .u] rfl
    (XSG.ifR (XES.not_ (XES.nbp (XES.call (XEA.p (XES.varp 3 rfl) (XEA.p (XES.varp 5 rfl) (XEA.p (XES.varp 6 rfl) (XEA.nil (o := false))))) (XEA.nil (o := false)) (fun _ _ => rfl) (fun _ _ => j__law_is_joined hL _ _ _ _)) (fun _ => rfl)))
    (XSG.ret (XES.con (ea := eB) false))
    (XSG.pass
    (XSG.asgp (XES.nbp (XES.call (XEA.d (XES.vard 1 rfl) (XEA.p (XES.add (XES.lenT (XES.ixc (ea := eP2 (eT (eP2 eI eS)) eI) (eb := eT (eP2 eI eS)) (fun x : (List (Int × String)) × Int => x.1) (fun _ => ⟨_, rfl, rfl⟩) (XES.varp 5 rfl))) (XES.con (ea := eI) 1)) (XEA.nil (o := false)))) (XEA.nil (o := false)) (fun _ _ => rfl) (fun _ _ => j__law_draw hL _ _)) (fun _ => rfl)) (fun (at_ : Int) =>
    (XSG.nrm [.u, .d (.ref 1), .p (eI x1), .p (eT (eP4 eS eI (eT eI) (eT (eP2 eI eI))) game), .p (eI x2), .p (eP2 (eT (eP2 eI eS)) eI one), .p (eP2 (eT (eP2 eI eS)) eI other), .p (eI at_), .u, .u, .u, .u, .u, .u, .u, .u, .u, .u, .u, .u] rfl
    (XSG.asgp (XES.if_ (XES.lt (XES.varp 7 rfl) (XES.lenT (XES.ixc (ea := eP2 (eT (eP2 eI eS)) eI) (eb := eT (eP2 eI eS)) (fun x : (List (Int × String)) × Int => x.1) (fun _ => ⟨_, rfl, rfl⟩) (XES.varp 5 rfl)))) (XES.ixc (ea := eP2 eI eS) (eb := eI) (fun x : Int × String => x.1) (fun _ => ⟨_, rfl, rfl⟩) (XES.ixT (XES.ixc (ea := eP2 (eT (eP2 eI eS)) eI) (eb := eT (eP2 eI eS)) (fun x : (List (Int × String)) × Int => x.1) (fun _ => ⟨_, rfl, rfl⟩) (XES.varp 5 rfl)) (XES.varp 7 rfl))) (XES.ixc (ea := eP2 (eT (eP2 eI eS)) eI) (eb := eI) (fun x : (List (Int × String)) × Int => x.2) (fun _ => ⟨_, rfl, rfl⟩) (XES.varp 5 rfl))) (fun (spot : Int) =>
    (XSG.nrm [.u, .d (.ref 1), .p (eI x1), .p (eT (eP4 eS eI (eT eI) (eT (eP2 eI eI))) game), .p (eI x2), .p (eP2 (eT (eP2 eI eS)) eI one), .p (eP2 (eT (eP2 eI eS)) eI other), .p (eI at_), .p (eI spot), .u, .u, .u, .u, .u, .u, .u, .u, .u, .u, .u] rfl
    (XSG.ifR (XES.not_ (XES.nbp (XES.call (XEA.p (XES.varp 3 rfl) (XEA.p (XES.t2 (XES.slT (XES.ixc (ea := eP2 (eT (eP2 eI eS)) eI) (eb := eT (eP2 eI eS)) (fun x : (List (Int × String)) × Int => x.1) (fun _ => ⟨_, rfl, rfl⟩) (XES.varp 5 rfl)) XOJ.none (XOJ.some (XES.varp 7 rfl))) (XES.varp 8 rfl)) (XEA.p (XES.t2 (XES.slT (XES.ixc (ea := eP2 (eT (eP2 eI eS)) eI) (eb := eT (eP2 eI eS)) (fun x : (List (Int × String)) × Int => x.1) (fun _ => ⟨_, rfl, rfl⟩) (XES.varp 5 rfl)) (XOJ.some (XES.varp 7 rfl)) XOJ.none) (XES.ixc (ea := eP2 (eT (eP2 eI eS)) eI) (eb := eI) (fun x : (List (Int × String)) × Int => x.2) (fun _ => ⟨_, rfl, rfl⟩) (XES.varp 5 rfl))) (XEA.nil (o := false))))) (XEA.nil (o := false)) (fun _ _ => rfl) (fun _ _ => j__law_is_joined hL _ _ _ _)) (fun _ => rfl)))
    (XSG.ret (XES.con (ea := eB) false))
    (XSG.pass
    (XSG.asgp (XES.nbp (XES.call (XEA.d (XES.vard 1 rfl) (XEA.p (XES.varp 3 rfl) (XEA.nil (o := false)))) (XEA.nil (o := false)) (fun _ _ => rfl) (fun _ _ => j__law_lasso hL _ _)) (fun _ => rfl)) (fun (lasso : (List (Int × String)) × (List (Int × String))) =>
    (XSG.nrm [.u, .d (.ref 1), .p (eI x1), .p (eT (eP4 eS eI (eT eI) (eT (eP2 eI eI))) game), .p (eI x2), .p (eP2 (eT (eP2 eI eS)) eI one), .p (eP2 (eT (eP2 eI eS)) eI other), .p (eI at_), .p (eI spot), .p (eP2 (eT (eP2 eI eS)) (eT (eP2 eI eS)) lasso), .u, .u, .u, .u, .u, .u, .u, .u, .u, .u] rfl
    (XSG.asgT (XES.t2 (XES.ixc (ea := eP2 eI eS) (eb := eI) (fun x : Int × String => x.1) (fun _ => ⟨_, rfl, rfl⟩) (XES.ixT (XES.ixc (ea := eP2 (eT (eP2 eI eS)) (eT (eP2 eI eS))) (eb := eT (eP2 eI eS)) (fun x : (List (Int × String)) × (List (Int × String)) => x.2) (fun _ => ⟨_, rfl, rfl⟩) (XES.varp 9 rfl)) (XES.con (ea := eI) 0))) (XES.if_ (XES.gt (XES.varp 4 rfl) (XES.con (ea := eI) 0)) (XES.nbp (XES.call (XEA.p (XES.varp 3 rfl) (XEA.p (XES.varp 9 rfl) (XEA.nil (o := false)))) (XEA.nil (o := false)) (fun _ _ => rfl) (fun _ _ => j_lasso_weight hL _ _ _)) nb_N) (XES.nbp (XES.call (XEA.nil (o := false)) (XEA.p (XES.varp 9 rfl) (XEA.p (XES.varp 3 rfl) (XEA.nil (o := false)))) (fun _ _ => rfl) (fun _ _ => j_lasso_weight hL _ _ _)) nb_N))) (fun _ => (XGJ.tp (XGsJ.nm 10 (XGsJ.nm 11 XGsJ.nil)) rfl)) (fun (t1 : Int × Nm) =>
    (XSG.nrm [.u, .d (.ref 1), .p (eI x1), .p (eT (eP4 eS eI (eT eI) (eT (eP2 eI eI))) game), .p (eI x2), .p (eP2 (eT (eP2 eI eS)) eI one), .p (eP2 (eT (eP2 eI eS)) eI other), .p (eI at_), .p (eI spot), .p (eP2 (eT (eP2 eI eS)) (eT (eP2 eI eS)) lasso), .p (eI t1.1), .p (eN t1.2), .u, .u, .u, .u, .u, .u, .u, .u] rfl
    (XSG.asgT (XES.t2 (XES.nbp (XES.call (XEA.p (XES.varp 3 rfl) (XEA.p (XES.ixc (ea := eP2 (eT (eP2 eI eS)) (eT (eP2 eI eS))) (eb := eT (eP2 eI eS)) (fun x : (List (Int × String)) × (List (Int × String)) => x.1) (fun _ => ⟨_, rfl, rfl⟩) (XES.varp 9 rfl)) (XEA.p (XES.varp 10 rfl) (XEA.nil (o := false))))) (XEA.nil (o := false)) (fun _ _ => rfl) (fun _ _ => j__law_weight hL _ _ _ _)) (fun _ => rfl)) (XES.nbp (XES.call (XEA.p (XES.varp 3 rfl) (XEA.p (XES.ixc (ea := eP2 (eT (eP2 eI eS)) (eT (eP2 eI eS))) (eb := eT (eP2 eI eS)) (fun x : (List (Int × String)) × (List (Int × String)) => x.2) (fun _ => ⟨_, rfl, rfl⟩) (XES.varp 9 rfl)) (XEA.p (XES.varp 10 rfl) (XEA.nil (o := false))))) (XEA.nil (o := false)) (fun _ _ => rfl) (fun _ _ => j__law_weight hL _ _ _ _)) (fun _ => rfl))) (fun _ => (XGJ.tp (XGsJ.nm 12 (XGsJ.nm 13 XGsJ.nil)) rfl)) (fun (t2 : Int × Int) =>
    (XSG.nrm [.u, .d (.ref 1), .p (eI x1), .p (eT (eP4 eS eI (eT eI) (eT (eP2 eI eI))) game), .p (eI x2), .p (eP2 (eT (eP2 eI eS)) eI one), .p (eP2 (eT (eP2 eI eS)) eI other), .p (eI at_), .p (eI spot), .p (eP2 (eT (eP2 eI eS)) (eT (eP2 eI eS)) lasso), .p (eI t1.1), .p (eN t1.2), .p (eI t2.1), .p (eI t2.2), .u, .u, .u, .u, .u, .u] rfl
    (XSG.asgp (XES.eqnil (XES.ofL (XES.lcP (bx := false) hL (XIJ.ofT (XES.ixc (ea := eP2 (eT (eP2 eI eS)) (eT (eP2 eI eS))) (eb := eT (eP2 eI eS)) (fun x : (List (Int × String)) × (List (Int × String)) => x.2) (fun _ => ⟨_, rfl, rfl⟩) (XES.varp 9 rfl))) (fun _ => (XGJ.tp (XGsJ.nm 14 (XGsJ.nm 15 XGsJ.nil)) rfl)) (fun (y1 : Int × String) => (XES.pv (decide (y1.2 = "slip")) (XES.eq eqok_S (by decide) (XES.varp 15 rfl) (XES.con (ea := eS) "slip")) rfl)) (fun (y1 : Int × String) => (XES.pv (1 : Int) (XES.con (ea := eI) 1) rfl))))) (fun (is_bare : Bool) =>
    (XSG.nrm [.u, .d (.ref 1), .p (eI x1), .p (eT (eP4 eS eI (eT eI) (eT (eP2 eI eI))) game), .p (eI x2), .p (eP2 (eT (eP2 eI eS)) eI one), .p (eP2 (eT (eP2 eI eS)) eI other), .p (eI at_), .p (eI spot), .p (eP2 (eT (eP2 eI eS)) (eT (eP2 eI eS)) lasso), .p (eI t1.1), .p (eN t1.2), .p (eI t2.1), .p (eI t2.2), .u, .u, .p (eB is_bare), .u, .u, .u] rfl
    (XSG.ifR (XES.or_ (XES.neTx (XES.repr_ nd_N (XES.varp 11 rfl)) (XES.repr_ nd_N (XES.w (XES.ifp (XES.pv is_bare (XES.varp 16 rfl) rfl) (XES.pv (Nm.i t2.1) (XES.as (eb := eN) (XES.varp 12 rfl) Nm.i (fun _ => rfl)) rfl) (XES.pv (Nm.s "endless") (XES.as (eb := eN) (XES.con (ea := eS) "endless") Nm.s (fun _ => rfl)) rfl))))) (XES.isnB (y := true) (XES.nbp (XES.call (XEA.p (XES.varp 3 rfl) (XEA.v (XES.as (eb := eX) (XES.varp 9 rfl) (eP2 (eT (eP2 eI eS)) (eT (eP2 eI eS))) (fun _ => rfl)) (XEA.nil (o := false)) trivial)) (XEA.nil (o := false)) (fun _ _ => rfl) (fun _ _ => j_is_lasso hL _ _ _)) (fun _ => rfl))))
    (XSG.ret (XES.con (ea := eB) false))
    (XSG.pass
    (XSG.asgp (XES.ofL (XES.lc (bx := false) hL (XIJ.rng1 (XES.con (ea := eI) 4)) (fun _ => (XGJ.nm 17)) (fun (y1 : Int) => (XES.le (XES.add (XES.lenT (XES.ixc (ea := eP2 (eT (eP2 eI eS)) (eT (eP2 eI eS))) (eb := eT (eP2 eI eS)) (fun x : (List (Int × String)) × (List (Int × String)) => x.1) (fun _ => ⟨_, rfl, rfl⟩) (XES.varp 9 rfl))) (XES.mul (XES.varp 17 rfl) (XES.lenT (XES.ixc (ea := eP2 (eT (eP2 eI eS)) (eT (eP2 eI eS))) (eb := eT (eP2 eI eS)) (fun x : (List (Int × String)) × (List (Int × String)) => x.2) (fun _ => ⟨_, rfl, rfl⟩) (XES.varp 9 rfl))))) (XES.con (ea := eI) 60))) (fun (y1 : Int) => (XES.varp 17 rfl)))) (fun (many : List Int) =>
    (XSG.nrm [.u, .d (.ref 1), .p (eI x1), .p (eT (eP4 eS eI (eT eI) (eT (eP2 eI eI))) game), .p (eI x2), .p (eP2 (eT (eP2 eI eS)) eI one), .p (eP2 (eT (eP2 eI eS)) eI other), .p (eI at_), .p (eI spot), .p (eP2 (eT (eP2 eI eS)) (eT (eP2 eI eS)) lasso), .p (eI t1.1), .p (eN t1.2), .p (eI t2.1), .p (eI t2.2), .u, .u, .p (eB is_bare), .u, .p (eL eI many), .u] rfl
    (XSG.asgp (XES.ofL (XES.lcN (bx := false) hL (XIJ.ofL (XES.varp 18 rfl)) (fun _ => (XGJ.nm 17)) (fun (y1 : Int) => (XES.nbp (XES.call (XEA.p (XES.varp 3 rfl) (XEA.p (XES.t2 (XES.catT (XES.ixc (ea := eP2 (eT (eP2 eI eS)) (eT (eP2 eI eS))) (eb := eT (eP2 eI eS)) (fun x : (List (Int × String)) × (List (Int × String)) => x.1) (fun _ => ⟨_, rfl, rfl⟩) (XES.varp 9 rfl)) (XES.mulT (XES.ixc (ea := eP2 (eT (eP2 eI eS)) (eT (eP2 eI eS))) (eb := eT (eP2 eI eS)) (fun x : (List (Int × String)) × (List (Int × String)) => x.2) (fun _ => ⟨_, rfl, rfl⟩) (XES.varp 9 rfl)) (XES.varp 17 rfl))) (XES.varp 10 rfl)) (XEA.nil (o := false)))) (XEA.nil (o := false)) (fun _ _ => rfl) (fun _ _ => j_path_weight hL _ _ _)) (fun _ => rfl))))) (fun (told : List Int) =>
    (XSG.nrm [.u, .d (.ref 1), .p (eI x1), .p (eT (eP4 eS eI (eT eI) (eT (eP2 eI eI))) game), .p (eI x2), .p (eP2 (eT (eP2 eI eS)) eI one), .p (eP2 (eT (eP2 eI eS)) eI other), .p (eI at_), .p (eI spot), .p (eP2 (eT (eP2 eI eS)) (eT (eP2 eI eS)) lasso), .p (eI t1.1), .p (eN t1.2), .p (eI t2.1), .p (eI t2.2), .u, .u, .p (eB is_bare), .u, .p (eL eI many), .p (eL eI told)] rfl
    (XSG.ifR (XES.neTx (XES.repr_ (fun _ _ h => by cases h) (XES.varp 19 rfl)) (XES.repr_ (fun _ _ h => by cases h) (XES.ofL (XES.lcN (bx := false) hL (XIJ.ofL (XES.varp 18 rfl)) (fun _ => (XGJ.nm 17)) (fun (y1 : Int) => (XES.add (XES.varp 12 rfl) (XES.mul (XES.varp 17 rfl) (XES.varp 13 rfl))))))))
    (XSG.ret (XES.con (ea := eB) false))
    (XSG.pass
    (XSG.nil (s := ()) (Sub.k (Sub.k (Sub.k (Sub.k (Sub.w (Sub.w (Sub.w (Sub.w (Sub.w (Sub.w (Sub.w (Sub.w (Sub.w (Sub.w (Sub.k (Sub.k (Sub.w (Sub.k (Sub.w (Sub.w Sub.n))))))))))))))))))))))))))))))))))))))))))))))))))))))))))))) (fun (s2 : Unit) =>
    (XSG.asgp (XES.nbp (XES.call (XEA.d (XES.vard 1 rfl) (XEA.p (XES.lenT (XES.varp 3 rfl)) (XEA.nil (o := false)))) (XEA.nil (o := false)) (fun _ _ => rfl) (fun _ _ => j__law_draw hL _ _)) (fun _ => rfl)) (fun (v : Int) =>
    (XSG.nrm [.u, .d (.ref 1), .p (eI x1), .p (eT (eP4 eS eI (eT eI) (eT (eP2 eI eI))) game), .u, .u, .u, .u, .u, .u, .u, .u, .u, .u, .p (eI v), .u, .u, .u, .u, .u] rfl
    (XSG.ifR (XES.neTx (XES.repr_ (fun _ _ h => by cases h) (XES.t3 (XES.nbp (XES.call (XEA.p (XES.varp 3 rfl) (XEA.p (XES.t2 (XES.tnil (ea := eP2 eI eS)) (XES.varp 14 rfl)) (XEA.nil (o := false)))) (XEA.nil (o := false)) (fun _ _ => rfl) (fun _ _ => j_path_weight hL _ _ _)) (fun _ => rfl)) (XES.nbp (XES.call (XEA.p (XES.varp 3 rfl) (XEA.v (XES.as (eb := eX) (XES.t2 (XES.tnil (ea := eI)) (XES.varp 14 rfl)) (eP2 (eT eI) eI) (fun _ => rfl)) (XEA.nil (o := false)) trivial)) (XEA.nil (o := false)) (fun _ _ => rfl) (fun _ _ => j_is_path hL _ _ _)) (fun _ => rfl)) (XES.nbp (XES.call (XEA.nil (o := false)) (XEA.p (XES.t2 (XES.tupP (XEV.pc (XES.pv (v, "move") (XES.t2 (XES.varp 14 rfl) (XES.con (ea := eS) "move")) rfl) (XEV.pn (ea := eP2 eI eS))) (by simp)) (XES.ixT (XES.ixc (ea := eP4 eS eI (eT eI) (eT (eP2 eI eI))) (eb := eT eI) (fun x : String × Int × (List Int) × (List (Int × Int)) => x.2.2.1) (fun _ => ⟨_, rfl, rfl⟩) (XES.ixT (XES.varp 3 rfl) (XES.varp 14 rfl))) (XES.con (ea := eI) 0))) (XEA.p (XES.varp 3 rfl) (XEA.nil (o := false)))) (fun _ _ => rfl) (fun _ _ => j_path_weight hL _ _ _)) (fun _ => rfl)))) (XES.repr_ (fun _ _ h => by cases h) (XES.t3 (XES.con (ea := eI) 0) (XES.con (ea := eB) true) (XES.con (ea := eI) 0))))
    (XSG.ret (XES.con (ea := eB) false))
    (XSG.pass
    (XSG.nil (s := ()) (Sub.k (Sub.k (Sub.w (Sub.w (Sub.k (Sub.k (Sub.k (Sub.k (Sub.k (Sub.k (Sub.k (Sub.k (Sub.k (Sub.k (Sub.w (Sub.k (Sub.k (Sub.k (Sub.k (Sub.k Sub.n))))))))))))))))))))))))))))))))) (fun (s1 : Unit) =>
    (XSG.ret (XES.con (ea := eB) true))))
   (by delta F_law at h; exact h)
theorem law_of (h : F_law (fun b => b = true)) : ∀ ns : List Int, ns.length ≤ 63 → ∃ (f : BF) (S : Store), cfL (G 1000000) T DEP LEV ("law" : Str) = some ([("script" : Str)], f) ∧ f [] [.p (.list (ns.map .int))] = some (.p (.bool true), S) := by
  intro ns hn
  obtain ⟨S, e⟩ := j_law (L := 1000000) (by decide) (LEV - 10) ns hn h
  exact ⟨fL (G 1000000) T DEP LEV ft_law, S, by kernel_rfl, e⟩
end
end K13
set_option maxHeartbeats 1000000
namespace K13
open PySem PySem.Spec L2 PI
open PyProof.Rows hiding St
theorem q_is_integer (i : Int) (Q : Bool → Prop) : F_is_integer (eI i) Q = Q true := by simp [F_is_integer]
theorem q_is_from (i a : Int) (Q : Bool → Prop) : F_is_from (eI i) a Q = Q (decide (a ≤ i)) := by simp [F_is_from, q_is_integer]
theorem q_is_between (i a b : Int) (Q : Bool → Prop) : F_is_between (eI i) a b Q = Q (decide (a ≤ i) && decide (i ≤ b)) := by simp [F_is_between, q_is_integer]
theorem q_is_word (s : String) (l : List String) (Q : Bool → Prop) : F_is_word (eS s) l Q = Q (decide (s ∈ l)) := by simp [F_is_word]
theorem q_is_tuple2 {α β : Type} {ea : α → PyData} {eb : β → PyData} (p : α × β) (Q : Bool → Prop) : F_is_tuple (eP2 ea eb p) 2 Q = Q true := by simp [F_is_tuple]
theorem q_is_tuple4 (r : ROW) (Q : Bool → Prop) : F_is_tuple (eROW r) 4 Q = Q true := by simp [F_is_tuple]
theorem q_do_ascend {l : List Int} (h : l.Pairwise (· < ·)) (hl : l.length < 1000) {Q : Bool → Prop} (q : Q true) : F_do_ascend l Q := by
  simp only [F_do_ascend, letW, cut_tail, asc_ok h]
  exact ⟨by simp; omega, q⟩
theorem q_do_ascend2 {l : List Int} (h : l.Pairwise (· < ·)) (hl : l.length < 1000) {Q : Bool → Prop} (q : Q true) : F_do_ascend_2 l Q := by
  simp only [F_do_ascend_2, letW, cut_tail, small, asc_ok h]
  exact ⟨by simp; omega, by simp; omega, q⟩
theorem q_are_moves {n : Nat} {l : List Int} (h0 : l ≠ []) (hA : l.Pairwise (· < ·)) (hR : ∀ u ∈ l, 0 ≤ u ∧ u < n) (hn : n ≤ 100) {Q : Bool → Prop} (q : Q true) : F_are_moves (eT eI l) n Q := by
  have hl := asc_le hA hR
  obtain ⟨x, r, rfl⟩ := List.exists_cons_of_ne_nil h0
  simp [F_are_moves]
  refine compN_map (fun _ => true) (by simp at hl ⊢; omega) (fun y hy Q' q' => ?_) ?_
  · rw [← List.map_cons] at hy
    obtain ⟨u, hu, rfl⟩ := List.mem_map.mp hy
    have := hR u hu
    rw [q_is_between, decide_eq_true this.1, decide_eq_true (by omega)]
    exact q'
  · simp
    exact q_do_ascend hA (by omega) q
theorem q_is_slip {n : Nat} {p : Int × Int} (h : 0 ≤ p.1 ∧ p.1 < n ∧ 1 ≤ p.2 ∧ p.2 ≤ 1000) {Q : Bool → Prop} (q : Q true) : F_is_slip (eP2 eI eI p) n Q := by
  have h1 : p.1 ≤ (n : Int) - 1 := by omega
  simp [F_is_slip, q_is_tuple2, q_is_between, q_is_from, h.1, h1, h.2.2.1]
  exact q
theorem q_are_slips {n : Nat} {l : List (Int × Int)} (hA : (l.map (·.1)).Pairwise (· < ·)) (hR : ∀ p ∈ l, 0 ≤ p.1 ∧ p.1 < n ∧ 1 ≤ p.2 ∧ p.2 ≤ 1000) (hn : n ≤ 100) {Q : Bool → Prop} (q : Q true) : F_are_slips (eT (eP2 eI eI) l) n Q := by
  have hl : l.length ≤ n := by
    have := asc_le hA (n := n) fun u hu => by
      obtain ⟨p, hp, rfl⟩ := List.mem_map.mp hu
      exact ⟨(hR p hp).1, (hR p hp).2.1⟩
    simpa using this
  simp [F_are_slips]
  refine compN_map (fun _ => true) (by simp; omega) (fun y hy Q' q' => ?_) ?_
  · obtain ⟨p, hp, rfl⟩ := List.mem_map.mp hy
    exact q_is_slip (hR p hp) q'
  · simp
    refine compN_map (xs := l.map (eP2 eI eI)) (fun x => match x with | .tuple [.int i, _] => i | _ => 0) (by simp; omega) (fun y hy Q' q' => ?_) ?_
    · obtain ⟨p, hp, rfl⟩ := List.mem_map.mp hy
      simp
      exact q'
    · rw [List.map_map]
      exact q_do_ascend2 hA (by simp; omega) q
theorem q_is_place_row {n : Nat} {r : ROW} (h : GRow n r) (hn : n ≤ 100) {Q : Bool → Prop} (q : Q true) : F_is_place_row (eROW r) n Q := by
  have ho : (r.1 = "keeper" ∨ r.1 = "foe") = True := eq_true h.own
  unfold F_is_place_row
  rw [joinW, q_is_tuple4]
  simp [q_is_word, q_is_from, ho, h.m0]
  refine q_are_moves h.mv0 h.mvA h.mvR hn ?_
  simp
  refine q_are_slips h.slA h.slR hn ?_
  simp
  by_cases hk : r.1 = "keeper"
  · simp [hk]; exact q
  · simp [hk, h.foe hk]; exact q
theorem q_is_game_value {g : GAME} (h : GGame g) {Q : Bool → Prop} (q : Q true) : F_is_game_value (eT eROW g) Q := by
  have hl := h.len
  have ne : g ≠ [] := h.ne
  unfold F_is_game_value
  simp [ne]
  refine compN_map (fun _ => true) (by simp; omega) (fun y hy Q' q' => ?_) ?_
  · obtain ⟨r, hr, rfl⟩ := List.mem_map.mp hy
    exact q_is_place_row (h.rows r hr) hl q'
  · have e : List.all (List.map (fun _ => true) (g.map eROW)) id = true := by simp
    show Q _
    rw [e]; exact q
theorem q_need_game {g : GAME} (h : GGame g) {Q : Unit → Prop} (q : Q ()) : F_need_game (eT eROW g) Q := by
  unfold F_need_game
  refine q_is_game_value h ?_
  simp
  exact q
theorem q_is_place_of {g : GAME} {i : Int} (h0 : 0 ≤ i) (h1 : i < g.length) {Q : Bool → Prop} (q : Q true) : F_is_place_of g (eI i) Q := by
  unfold F_is_place_of
  rw [q_is_between, decide_eq_true h0, decide_eq_true (by omega)]
  exact q
end K13
set_option maxHeartbeats 1000000
namespace K13
open PySem PySem.Spec L2 PI
open PyProof.Rows hiding St
theorem q_draw {many : Int} {Q : Int → Prop} (h0 : 0 < many) (h1 : many < 1000000) (q : ∀ r, 0 ≤ r → r < many → Q r) : F__law_draw many Q := by unfold F__law_draw; exact drawW_of h0 (by omega) q
theorem q_pick {α : Type} {l : List α} {Q : α → Prop} (h0 : l ≠ []) (h1 : l.length < 1000000) (q : ∀ x ∈ l, Q x) : F__law_pick_L l Q := by unfold F__law_pick_L; exact pickW_of h0 h1 q
theorem q_pickT {α : Type} {l : List α} {Q : α → Prop} (h0 : l ≠ []) (h1 : l.length < 1000000) (q : ∀ x ∈ l, Q x) : F__law_pick_T l Q := by unfold F__law_pick_T; exact pickW_of h0 h1 q
theorem q_order {n : Nat} (hn : n ≤ 100) {Q : List Int → Prop} (q : ∀ o, Ord n o → Q o) : F__law_order n Q := by
  unfold F__law_order lrgW letW
  refine ⟨by omega, by omega, ?_⟩
  refine whW_inv (fun s => (s.2 ++ s.1).Perm (rangeI 0 n)) (fun s => s.1.length) (by simp) (by simp [rangeI_len]; omega) fun s hs Q' hQ => ?_
  obtain ⟨left, found⟩ := s
  have hl : found.length + left.length = n := by
    have := hs.length_eq
    rw [List.length_append, rangeI_len] at this
    exact this
  cases left with
  | nil =>
    simp
    refine q found (rangeI_perm_ord ?_)
    simpa using hs
  | cons x r =>
    simp
    refine q_draw (by omega) (by simp at hl; omega) fun d d0 d1 => ?_
    obtain ⟨d, rfl⟩ : ∃ e : Nat, d = e := ⟨d.toNat, by omega⟩
    have hd : d < (x :: r).length := by simp; omega
    refine ⟨⟨by omega, by omega⟩, d, (x :: r)[d], ?_, List.getElem?_eq_getElem hd, ?_⟩
    · unfold seqIndex?
      simp; omega
    · refine ⟨by simp at hl ⊢; omega, hQ _ ?_ ?_⟩
      · refine List.Perm.trans ?_ hs
        show ((found ++ [(x :: r)[d]]) ++ (x :: r).eraseIdx d).Perm (found ++ x :: r)
        rw [List.append_assoc]
        refine List.Perm.append_left _ ?_
        exact perm_erase hd
      · show ((x :: r).eraseIdx d).length < (x :: r).length
        rw [List.length_eraseIdx_of_lt hd]; simp
theorem q_called {g : GAME} (h : GGame g) {o : List Int} (ho : Ord g.length o) {Q : GAME → Prop} (q : ∀ g', GGame g' → g'.length = g.length → Q g') : F__law_called g o Q := by
  have hl := h.len
  unfold F__law_called letW
  refine small_of (by omega) ?_
  refine loopN_inv (fun (l : List (Int × ROW)) (s : GAME) => s.length = g.length ∧ ∀ j : Nat, j < l.length → ∀ r, s[(nmO o j).toNat]? = some r → GRow g.length r) (by rw [enumI_len]; omega) ⟨rfl, fun j hj => by simp at hj⟩ (fun l x r s e hI Q' hQ => ?_) fun s hs => ?_
  · obtain ⟨s0, s1⟩ := hI
    have hx : x ∈ enumI g := by rw [e]; simp
    obtain ⟨i, x1, x2⟩ := mem_enumI.mp hx
    have hi : i < g.length := (List.getElem?_eq_some_iff.mp x2).1
    have hil : i = l.length := by
      have e2 : (enumI g)[l.length]? = some x := by rw [e]; simp
      rw [enumI_at] at e2
      cases e3 : g[l.length]? with
      | none => rw [e3] at e2; cases e2
      | some y => rw [e3] at e2; cases e2; have x1 : (l.length : Int) = i := x1; omega
    have hr : GRow g.length x.2 := h.rows _ (List.mem_of_getElem? x2)
    have at_ : ∀ u, 0 ≤ u → u < (g.length : Int) → ∀ Q : Int → Prop, atW o u Q = Q (nmO o u) := fun u u0 u1 Q => atW_get u0 (ho.at_ u0 u1).1 Q
    have l1 := hr.mvL
    have l2 := hr.slL
    refine compN_map (nmO o) (by omega) (fun u hu Q2 q2 => by rw [at_ u (hr.mvR u hu).1 (hr.mvR u hu).2]; exact q2) ?_
    refine small_of (by rw [List.length_mergeSort, List.length_map]; omega) ?_
    refine small_of (by rw [List.length_mergeSort, List.length_map]; omega) ?_
    refine compN_map (fun p : Int × Int => (nmO o p.1, p.2)) (by omega) (fun p hp Q2 q2 => by rw [at_ p.1 (hr.slR p hp).1 (hr.slR p hp).2.1]; exact q2) ?_
    refine small_of (by rw [List.length_mergeSort, List.length_map]; omega) ?_
    refine small_of (by rw [List.length_mergeSort, List.length_map]; omega) ?_
    rw [x1, at_ i (by omega) (by omega)]
    have hn := ho.rng (i := i) (by omega) (by omega)
    refine ⟨(nmO o i).toNat, ?_, hQ _ ⟨by rw [List.length_set]; exact s0, fun j hj r' hr' => ?_⟩⟩
    · unfold L2.ixN
      rw [if_pos hn.1, if_pos (by rw [s0]; exact hn.2)]
    · rw [List.length_append, List.length_singleton] at hj
      have hj2 : j < g.length := by omega
      by_cases hji : j = i
      · subst hji
        rw [List.getElem?_set_self (by rw [s0]; omega)] at hr'
        cases hr'
        exact ho.row hr
      · rw [List.getElem?_set_ne] at hr'
        · exact s1 j (by omega) r' hr'
        · intro e4
          have hn2 := ho.rng (i := j) (by omega) (by omega)
          have := ho.inj (i := i) (j := j) ⟨by omega, by omega⟩ ⟨by omega, by omega⟩ (by omega)
          omega
  · obtain ⟨s0, s1⟩ := hs
    rw [enumI_len] at s1
    refine small_of (by omega) (q s ⟨fun e => h.ne (List.length_eq_zero_iff.mp (by rw [← s0, e]; rfl)), by omega, fun r hr => ?_⟩ s0)
    obtain ⟨m, hm, e⟩ := List.getElem_of_mem hr
    have hm2 : (m : Int) ∈ o := ho.all (by omega) (by omega)
    obtain ⟨j, hj, e2⟩ := List.getElem_of_mem hm2
    have hj2 : j < g.length := by rw [← ho.len]; exact hj
    rw [s0]
    refine s1 j hj2 r ?_
    have : nmO o j = m := by
      unfold nmO
      rw [Int.toNat_natCast, List.getElem?_eq_getElem hj]
      exact e2
    rw [this, Int.toNat_natCast, List.getElem?_eq_getElem hm, e]
theorem own3 {x : String} (h : x ∈ ["keeper", "keeper", "foe"]) : x = "keeper" ∨ x = "foe" := by simpa using h
theorem pick_w {t : Int} (h0 : 0 ≤ t) (h1 : t < 9) {x : Int} (h : x ∈ [(1 : Int), 2, 1, 3, 1 + t]) : 1 ≤ x ∧ x ≤ 1000 := by
  simp at h
  rcases h with h | h | h | h <;> omega
theorem q_ladder {n : Nat} (h0 : 0 < n) (hn : n ≤ 100) {Q : GAME → Prop} (q : ∀ g, g.length = n → (∀ r ∈ g, GRow n r) → Q g) : F__law_ladder n Q := by
  unfold F__law_ladder letW
  refine ⟨by omega, ?_⟩
  refine loopN_inv (fun (l : List Int) (s : GAME) => s.length = l.length ∧ ∀ r ∈ s, GRow0 n r) (by rw [rangeI_len]; omega) ⟨rfl, fun r hr => (List.not_mem_nil hr).elim⟩ (fun l x r s e hI Q' hQ => ?_) fun s hs => ?_
  · obtain ⟨s0, s1⟩ := hI
    have hx := mem_rangeI.mp (show x ∈ rangeI 0 (((n : Int) - 1).toNat) by rw [e]; simp)
    have hll : l.length < 100 := by
      have := congrArg List.length e
      rw [rangeI_len] at this
      simp at this
      omega
    refine q_draw (by decide) (by decide) fun t18 a0 a1 => ?_
    refine ⟨by omega, ?_⟩
    refine compN_all (fun y => 0 ≤ y ∧ y < x + 1) (by rw [rangeI_len]; omega) (fun y _ Q2 q2 => q_draw (by omega) (by omega) fun z z0 z1 => q2 z ⟨z0, z1⟩) fun t16 l16 p16 => ?_
    rw [rangeI_len] at l16
    refine small_of (by simp; omega) ⟨by simp; omega, ?_⟩
    have b0 : setL ([x] ++ t16) ≠ [] := setL_ne (by simp)
    have bR : ∀ u ∈ setL ([x] ++ t16), 0 ≤ u ∧ u < n := fun u hu => by
      have := mem_setL.mp hu
      simp at this
      rcases this with rfl | h
      · omega
      · have := p16 u h
        omega
    have bL : (setL ([x] ++ t16)).length ≤ n := asc_le (setL_asc _) bR
    refine small_of (by omega) ?_
    refine q_draw (by decide) (by decide) fun t12 c0 c1 => ?_
    refine small_of (by simp) ?_
    refine q_pick (by simp) (by simp) fun t10 h10 => ?_
    have w10 := pick_w c0 c1 h10
    refine q_draw (by decide) (by decide) fun t9 d0 d1 => ?_
    have key : ∀ ps : List (Int × Int), Sl n ps → F__law_pick_L ["keeper", "keeper", "keeper", "foe"] fun t5 => F__law_pick_L [(0 : Int), (2 : Int), (4 : Int), (0 : Int), (2 : Int), (1 : Int)] fun t6 => small (ps.mergeSort leII) fun t8 => small t8 fun t7 => push s (t5, t6, setL ([x] ++ t16), t7) Q' := fun ps hp => by
      have pl := hp.len
      refine q_pick (by simp) (by simp) fun t5 h5 => ?_
      refine q_pick (by simp) (by simp) fun t6 h6 => ?_
      refine small_of (by rw [List.length_mergeSort]; omega) (small_of (by rw [List.length_mergeSort]; omega) ⟨by omega, hQ _ ⟨by simp [s0], fun r hr => ?_⟩⟩)
      rcases List.mem_append.mp hr with hr | hr
      · exact s1 r hr
      · rw [List.mem_singleton.mp hr]
        have h6 : 0 ≤ t6 ∧ t6 ≤ 1000 := by simp at h6; omega
        exact GRow0.mk' (by simpa using h5) h6.1 h6.2 b0 (setL_asc _) bR hp
    have one : Sl n [(x + 1, t10)] := Sl.one ⟨by show 0 ≤ x + 1; omega, by show x + 1 < n; omega, w10⟩
    by_cases h : t9 = 0
    · simp only [joinW, h, decide_true, if_true]
      refine q_draw (by decide) (by decide) fun t3 e0 e1 => ?_
      refine q_draw (by omega) (by omega) fun t4 f0 f1 => ?_
      exact ⟨by simp, key _ (one.put ⟨f0, f1, by omega, by omega⟩)⟩
    · simp only [joinW, h, decide_false]
      exact key _ one
  · obtain ⟨s0, s1⟩ := hs
    rw [rangeI_len] at s0
    refine ⟨by omega, ?_⟩
    refine q_pick (by simp) (by simp) fun t22 h22 => ?_
    refine q_pick (by simp) (by simp) fun t23 h23 => ?_
    refine small_of (by simp) (small_of (by simp; omega) (q _ (by simp; omega) fun r hr => ?_))
    rcases List.mem_append.mp hr with hr | hr
    · obtain ⟨r', hr', rfl⟩ := List.mem_map.mp hr
      have g := s1 r' hr'
      by_cases hk : r'.1 = "keeper"
      · simp only [hk, decide_true, if_true]
        exact ⟨g, fun h => absurd hk h⟩
      · simp only [hk, decide_false]
        exact ⟨⟨g.own, g.m0, g.m1, g.mv0, g.mvA, g.mvR, .nil, fun p hp => (List.not_mem_nil hp).elim⟩, fun _ => rfl⟩
    · rw [List.mem_singleton.mp hr]
      have h23 : 0 ≤ t23 ∧ t23 ≤ 1000 := by simp at h23; omega
      exact ⟨⟨by simp at h22; exact h22.symm, h23.1, h23.2, by simp, by simp, fun u hu => by simp at hu; omega, .nil, fun p hp => (List.not_mem_nil hp).elim⟩, fun _ => rfl⟩
theorem q_ring {n : Nat} (h0 : 0 < n) (hn : n ≤ 100) {Q : GAME → Prop} (q : ∀ g, g.length = n → (∀ r ∈ g, GRow n r) → Q g) : F__law_ring n Q := by
  unfold F__law_ring letW
  refine ⟨by omega, ?_⟩
  rw [Int.toNat_natCast]
  refine loopN_inv (fun (l : List Int) (s : GAME) => s.length = l.length ∧ ∀ r ∈ s, GRow n r) (by rw [rangeI_len]; omega) ⟨rfl, fun r hr => (List.not_mem_nil hr).elim⟩ (fun l x r s e hI Q' hQ => ?_) fun s hs => ?_
  · obtain ⟨s0, s1⟩ := hI
    have hx := mem_rangeI.mp (show x ∈ rangeI 0 n by rw [e]; simp)
    have hll : l.length < 100 := by
      have := congrArg List.length e
      rw [rangeI_len] at this
      simp at this
      omega
    refine q_pick (by simp) (by simp) fun o ho => q_draw (by omega) (by omega) fun a a0 a1 => ?_
    refine ⟨by omega, ?_⟩
    have em : 0 ≤ (x + 1) % (n : Int) ∧ (x + 1) % (n : Int) < n := ⟨Int.emod_nonneg _ (by omega), Int.emod_lt_of_pos _ (by omega)⟩
    refine small_of (by simp) (q_draw (by decide) (by decide) fun t b0 b1 => ⟨⟨by omega, by omega⟩, ?_⟩)
    have ml : ((List.replicate t.toNat [a]).flatten).length ≤ 2 := by simp; omega
    have mm : ∀ u ∈ (List.replicate t.toNat [a]).flatten, u = a := fun u hu => by
      simp at hu; exact hu.2
    generalize (List.replicate t.toNat [a]).flatten = m at ml mm
    refine small_of (by omega) (small_of (by simp; omega) ⟨by simp; omega, ?_⟩)
    have c0 : setL ([(x + 1) % (n : Int)] ++ m) ≠ [] := setL_ne (by simp)
    have cR : ∀ u ∈ setL ([(x + 1) % (n : Int)] ++ m), 0 ≤ u ∧ u < n := fun u hu => by
      have := mem_setL.mp hu
      simp at this
      rcases this with rfl | h
      · exact em
      · rw [mm u h]; omega
    refine small_of (by have := asc_le (setL_asc _) cR; omega) ?_
    have key : ∀ ps : List (Int × Int), Sl n ps → ps.length ≤ 1 → (o ≠ "keeper" → ps = []) → F__law_draw 4 fun t1 => push s (o, t1, setL ([(x + 1) % (n : Int)] ++ m), ps) Q' := fun ps hp hl hf => by
      refine q_draw (by decide) (by decide) fun t1 d0 d1 => ⟨by omega, hQ _ ⟨by simp [s0], fun r hr => ?_⟩⟩
      rcases List.mem_append.mp hr with hr | hr
      · exact s1 r hr
      · rw [List.mem_singleton.mp hr]
        have e : ps.mergeSort leII = ps := by
          match ps, hl with
          | [], _ => simp
          | [p], _ => simp
        have g := GRow0.mk' (n := n) (own3 ho) d0 (by omega) c0 (setL_asc _) cR hp
        rw [e] at g
        exact ⟨g, hf⟩
    have none_ := key [] (Sl.nil n) (by simp) (fun _ => rfl)
    by_cases hk : o = "keeper"
    · simp only [joinW, hk, decide_true, if_true]
      refine q_draw (by decide) (by decide) fun t4 d0 d1 => ?_
      by_cases h4 : t4 = 0
      · simp only [h4, decide_true, if_true]
        refine q_draw (by omega) (by omega) fun t6 e0 e1 => q_draw (by decide) (by decide) fun t7 f0 f1 => small_of (by simp) ?_
        have := key [(t6, 1 + t7)] (Sl.one ⟨e0, e1, by show 1 ≤ 1 + t7; omega, by show 1 + t7 ≤ 1000; omega⟩) (by simp) (fun h => absurd hk h)
        rw [hk] at this
        exact this
      · simp only [h4, decide_false]
        rw [hk] at none_
        exact none_
    · simp only [joinW, hk, decide_false]
      exact none_
  · exact q s (by rw [hs.1, rangeI_len]) hs.2
theorem q_any_rows {n : Nat} (h0 : 0 < n) (hn : n ≤ 100) {Q : GAME → Prop} (q : ∀ g, g.length = n → (∀ r ∈ g, GRow n r) → Q g) : F__law_any_rows n Q := by
  unfold F__law_any_rows letW
  refine q_draw (by decide) (by decide) fun m1 m10 m11 => q_draw (by decide) (by decide) fun m2 m20 m21 => q_draw (by decide) (by decide) fun m3 m30 m31 => small_of (by simp) ?_
  have hm : ∀ x ∈ [m1, m2, m3], 0 ≤ x ∧ x ≤ 1000 := fun x hx => by simp at hx; omega
  refine ⟨by omega, ?_⟩
  rw [Int.toNat_natCast]
  refine loopN_inv (fun (l : List Int) (s : GAME) => s.length = l.length ∧ ∀ r ∈ s, GRow n r) (by rw [rangeI_len]; omega) ⟨rfl, fun r hr => (List.not_mem_nil hr).elim⟩ (fun l x r s e hI Q' hQ => ?_) fun s hs => ?_
  · obtain ⟨s0, s1⟩ := hI
    have hx := mem_rangeI.mp (show x ∈ rangeI 0 n by rw [e]; simp)
    have hll : l.length < 100 := by
      have := congrArg List.length e
      rw [rangeI_len] at this
      simp at this
      omega
    refine q_pick (by simp) (by simp) fun o ho => q_draw (by decide) (by decide) fun t21 a0 a1 => ?_
    refine ⟨by omega, ?_⟩
    refine compN_all (fun y => 0 ≤ y ∧ y < (n : Int)) (by rw [rangeI_len]; omega) (fun y _ Q2 q2 => q_draw (by omega) (by omega) fun z z0 z1 => q2 z ⟨z0, z1⟩) fun t19 l19 p19 => ?_
    rw [rangeI_len] at l19
    refine ⟨by omega, ?_⟩
    have c0 : setL t19 ≠ [] := setL_ne (fun e => by rw [e] at l19; simp at l19; omega)
    have cR : ∀ u ∈ setL t19, 0 ≤ u ∧ u < n := fun u hu => p19 u (mem_setL.mp hu)
    have cA := setL_asc t19
    generalize setL t19 = mv at c0 cR cA
    have cl := asc_le cA cR
    refine small_of (by omega) ?_
    have key : ∀ t : Int, 0 ≤ t → t ≤ 2 → (o ≠ "keeper" → t = 0) → rng1W t fun t12 => forN t12 ([] : List (Int × Int)) (fun (x2 : Int) (s2 : (List (Int × Int))) n2 =>
        F__law_draw (9 : Int) fun t3 => small [(1 : Int), (1 : Int), (2 : Int), (3 : Int), ((1 : Int) + t3)] fun t2 => F__law_pick_L t2 fun t1 => F__law_draw n fun t6 => F__law_draw n fun t7 => atW mv (0 : Int) fun t8 => small [t6, t7, x, t8] fun t5 => F__law_pick_L t5 fun t4 => s2.length < 1000000 ∧ n2 (dput s2 t4 t1)) fun s2 =>
        F__law_pick_L [m1, m2, m3] fun t9 => small (s2.mergeSort leII) fun t11 => small t11 fun t10 => push s (o, t9, mv, t10) Q' := fun t t0 t1 tk => by
      refine ⟨by omega, ?_⟩
      refine loopN_inv (fun (l : List Int) (ps : List (Int × Int)) => Sl n ps ∧ (l = [] → ps = [])) (by rw [rangeI_len]; omega) ⟨Sl.nil n, fun _ => rfl⟩ (fun l' x' r' ps e' hI' Q2 q2 => ?_) fun ps hs' => ?_
      · have pl := hI'.1.len
        refine q_draw (by decide) (by decide) fun t3 d0 d1 => small_of (by simp) (q_pick (by simp) (by simp) fun w hw => q_draw (by omega) (by omega) fun t6 e0 e1 => q_draw (by omega) (by omega) fun t7 f0 f1 => ?_)
        obtain ⟨u, us, rfl⟩ := List.exists_cons_of_ne_nil c0
        rw [atW_0]
        have hu := cR u (List.mem_cons_self ..)
        refine small_of (by simp) (q_pick (by simp) (by simp) fun v hv => ⟨by omega, q2 _ ⟨hI'.1.put ?_, fun h => by simp at h⟩⟩)
        have hv : 0 ≤ v ∧ v < n := by simp at hv; omega
        have hw : 1 ≤ w ∧ w ≤ 1000 := by simp at hw; omega
        exact ⟨hv.1, hv.2, hw⟩
      · have pl := hs'.1.len
        refine q_pick (by simp) (by simp) fun m hm' => small_of (by rw [List.length_mergeSort]; omega) (small_of (by rw [List.length_mergeSort]; omega) ⟨by omega, hQ _ ⟨by simp [s0], fun r hr => ?_⟩⟩)
        rcases List.mem_append.mp hr with hr | hr
        · exact s1 r hr
        · rw [List.mem_singleton.mp hr]
          have hm := hm m hm'
          refine ⟨GRow0.mk' (own3 ho) hm.1 hm.2 c0 cA cR hs'.1, fun hk => ?_⟩
          have e0 := tk hk
          subst e0
          have : ps = [] := hs'.2 rfl
          subst this
          simp
    by_cases hk : o = "keeper"
    · simp only [joinW, hk, decide_true, if_true]
      refine q_draw (by decide) (by decide) fun t15 d0 d1 => ?_
      by_cases h4 : t15 = 0
      · simp only [h4, decide_true, if_true]
        refine q_draw (by decide) (by decide) fun t16 e0 e1 => ?_
        have := key (1 + t16) (by omega) (by omega) (fun h => absurd hk h)
        rw [hk] at this
        exact this
      · simp only [h4, decide_false]
        have := key 0 (by omega) (by omega) (fun h => absurd hk h)
        rw [hk] at this
        exact this
    · simp only [joinW, hk, decide_false]
      exact key 0 (by omega) (by omega) (fun h => rfl)
  · exact q s (by rw [hs.1, rangeI_len]) hs.2
theorem q_game {sizes : List Int} (h0 : sizes ≠ []) (hl : sizes.length < 100) (hs : ∀ x ∈ sizes, 1 ≤ x ∧ x ≤ 7) {Q : GAME → Prop} (q : ∀ g, GGame g → g.length ≤ 7 → Q g) : F__law_game sizes Q := by
  unfold F__law_game letW
  refine q_pick h0 (by omega) fun n hn => ?_
  have hn := hs n hn
  obtain ⟨n, rfl⟩ : ∃ m : Nat, n = m := ⟨n.toNat, by omega⟩
  refine q_draw (by decide) (by decide) fun way _ _ => ?_
  have k4 : ∀ rows : GAME, rows.length = n → (∀ r ∈ rows, GRow n r) → ∀ o, Ord n o → forN rows ((10 : Int), ([] : GAME)) (fun (x1 : ROW) (s1 : Int × GAME) n1 =>
      push s1.2 ((x1.1, x1.2.1, x1.2.2.1).1, (x1.1, x1.2.1, x1.2.2.1).2.1, (x1.1, x1.2.1, x1.2.2.1).2.2, (PI.cutD x1.2.2.2 none (some s1.1))) fun found => atW found (-(1 : Int)) fun t1 => n1 (s1.1 - (t1.2.2.2.length : Int), found)) fun s1 => small s1.2 fun t3 => F__law_called t3 o fun t2 => Q t2 := fun rows hl hr o ho => by
    refine loopN_inv (fun (l : List ROW) (s : Int × GAME) => 0 ≤ s.1 ∧ s.2.length = l.length ∧ ∀ r ∈ s.2, GRow n r) (by omega) ⟨by decide, rfl, fun r hr => (List.not_mem_nil hr).elim⟩ (fun l x r s e hI Q' hQ => ?_) fun s hs => ?_
    · obtain ⟨s0, s1, s2⟩ := hI
      have hll : l.length < n := by
        have := congrArg List.length e
        simp at this
        omega
      have gx := hr x (by rw [e]; simp)
      obtain ⟨m, hm⟩ : ∃ m : Nat, s.1 = m := ⟨s.1.toNat, by omega⟩
      refine ⟨by omega, atW_last ?_⟩
      rw [hm, cut_take]
      have hsub : (x.2.2.2.take m).Sublist x.2.2.2 := List.take_sublist _ _
      refine hQ _ ⟨by show (0 : Int) ≤ (m : Int) - ((x.2.2.2.take m).length : Nat); rw [List.length_take]; omega, by simp [s1], fun r' hr' => ?_⟩
      rcases List.mem_append.mp hr' with h | h
      · exact s2 r' h
      · rw [List.mem_singleton.mp h]
        exact ⟨⟨gx.own, gx.m0, gx.m1, gx.mv0, gx.mvA, gx.mvR, gx.slA.sublist (hsub.map _), fun p hp => gx.slR p (hsub.subset hp)⟩, fun hk => by show x.2.2.2.take m = []; rw [gx.foe hk]; simp⟩
    · obtain ⟨_, s1, s2⟩ := hs
      have l1 : s.2.length = n := by rw [s1, hl]
      refine small_of (by omega) (q_called ⟨fun e => by rw [e] at l1; simp at l1; omega, by omega, fun r hr => by rw [l1]; exact s2 r hr⟩ (by rw [l1]; exact ho) fun g' hg hg2 => q g' hg (by omega))
  have k3 : ∀ rows : GAME, rows.length = n → (∀ r ∈ rows, GRow n r) → joinW (α := List Int) (fun Q => F__law_draw (2 : Int) fun t6 => if decide (t6 = (0 : Int)) = true then (F__law_order n fun t7 => Q t7) else (lrgW n fun t8 => Q t8)) fun names => forN rows ((10 : Int), ([] : GAME)) (fun (x1 : ROW) (s1 : Int × GAME) n1 =>
      push s1.2 ((x1.1, x1.2.1, x1.2.2.1).1, (x1.1, x1.2.1, x1.2.2.1).2.1, (x1.1, x1.2.1, x1.2.2.1).2.2, (PI.cutD x1.2.2.2 none (some s1.1))) fun found => atW found (-(1 : Int)) fun t1 => n1 (s1.1 - (t1.2.2.2.length : Int), found)) fun s1 => small s1.2 fun t3 => F__law_called t3 names fun t2 => Q t2 := fun rows hl hr => by
    unfold joinW
    refine q_draw (by decide) (by decide) fun t6 _ _ => ?_
    split
    · exact q_order (by omega) fun o ho => k4 rows hl hr o ho
    · exact ⟨by omega, by omega, k4 rows hl hr _ (rangeI_perm_ord (List.Perm.refl _))⟩
  have k2 : ∀ rows : GAME, rows.length = n → (∀ r ∈ rows, GRow n r) → _ := fun rows hl hr => k3 rows hl hr
  have k1 : ∀ rows : GAME, rows.length = n → (∀ r ∈ rows, GRow n r) → joinW (α := List ROW) (fun Q => F__law_draw (10 : Int) fun t10 => if decide (t10 = (0 : Int)) = true then (rows.length < 1000000 ∧ Q (rows.map fun (y1 : ROW) => ((y1.1, y1.2.1, y1.2.2.1).1, (y1.1, y1.2.1, y1.2.2.1).2.1, (y1.1, y1.2.1, y1.2.2.1).2.2, ([] : List (Int × Int))))) else (Q rows)) fun rows => joinW (α := List Int) (fun Q => F__law_draw (2 : Int) fun t6 => if decide (t6 = (0 : Int)) = true then (F__law_order n fun t7 => Q t7) else (lrgW n fun t8 => Q t8)) fun names => forN rows ((10 : Int), ([] : GAME)) (fun (x1 : ROW) (s1 : Int × GAME) n1 =>
      push s1.2 ((x1.1, x1.2.1, x1.2.2.1).1, (x1.1, x1.2.1, x1.2.2.1).2.1, (x1.1, x1.2.1, x1.2.2.1).2.2, (PI.cutD x1.2.2.2 none (some s1.1))) fun found => atW found (-(1 : Int)) fun t1 => n1 (s1.1 - (t1.2.2.2.length : Int), found)) fun s1 => small s1.2 fun t3 => F__law_called t3 names fun t2 => Q t2 := fun rows hl hr => by
    refine q_draw (by decide) (by decide) fun t10 _ _ => ?_
    split
    · refine ⟨by omega, k2 _ (by simp [hl]) fun r h => ?_⟩
      obtain ⟨r', hr', rfl⟩ := List.mem_map.mp h
      have g := hr r' hr'
      exact ⟨⟨g.own, g.m0, g.m1, g.mv0, g.mvA, g.mvR, .nil, fun p hp => (List.not_mem_nil hp).elim⟩, fun _ => rfl⟩
    · exact k2 rows hl hr
  unfold joinW
  dsimp only
  split
  · exact q_ladder (by omega) (by omega) k1
  · split
    · exact q_ring (by omega) (by omega) k1
    · exact q_any_rows (by omega) (by omega) k1
end K13
set_option maxHeartbeats 1000000
namespace K13
open PySem PySem.Spec L2 PI
open PyProof.Rows hiding St
variable {g : GAME}
theorem q_is_step (h : GGame g) {p : Int × String} (h0 : 0 ≤ p.1) (h1 : p.1 < g.length) (hk : p.2 = "move" ∨ p.2 = "slip") {Q : Bool → Prop} (q : Q true) : F_is_step g (eP2 eI eS p) Q := by
  have hk : (p.2 = "move" ∨ p.2 = "slip") = True := eq_true hk
  simp [F_is_step, q_is_tuple2]
  refine q_is_place_of h0 h1 ?_
  simp [q_is_word, hk]
  exact q
theorem q_are_steps (h : GGame g) {s : STEPS} (hs : ∀ p ∈ s, 0 ≤ p.1 ∧ p.1 < g.length ∧ (p.2 = "move" ∨ p.2 = "slip")) (hl : s.length < 100000) {Q : Bool → Prop} (q : Q true) : F_are_steps g (eSTEPS s) Q := by
  simp [F_are_steps]
  refine compN_map (fun _ => true) (by simp; omega) (fun y hy Q' q' => ?_) ?_
  · obtain ⟨p, hp, rfl⟩ := List.mem_map.mp hy
    have := hs p hp
    exact q_is_step h this.1 this.2.1 this.2.2 q'
  · have e : List.all (List.map (fun _ => true) (s.map (eP2 eI eS))) id = true := by simp
    show Q _
    rw [e]; exact q
theorem q_moves_of (h : GGame g) {v : Int} (h0 : 0 ≤ v) (h1 : v < g.length) (Q : List Int → Prop) : F_moves_of g v Q = Q (rowA g v).2.2.1 := by unfold F_moves_of; rw [atW_row h h0 h1]
theorem q_slips_of (h : GGame g) {v : Int} (h0 : 0 ≤ v) (h1 : v < g.length) (Q : List (Int × Int) → Prop) : F_slips_of g v Q = Q (rowA g v).2.2.2 := by unfold F_slips_of; rw [atW_row h h0 h1]
theorem q_weight_of_slip (h : GGame g) {v : Int} (h0 : 0 ≤ v) (h1 : v < g.length) (u : Int) {Q : Option Int → Prop} (q : Q (dget (rowA g v).2.2.2 u)) : F_weight_of_slip g v u Q := by
  unfold F_weight_of_slip
  have r := (h.at_ h0 h1).2
  have := r.slL
  have := h.len
  rw [q_slips_of h h0 h1, r.dmk]
  exact ⟨by omega, q⟩
theorem q_leads (h : GGame g) {p : Int × String} {u : Int} (e : edge g p.1 p.2 u) {Q : Bool → Prop} (q : Q true) : F_leads g p u Q := by
  obtain ⟨⟨h0, h1⟩, e⟩ := e
  unfold F_leads
  by_cases hm : p.2 = "move"
  · rw [if_pos (decide_eq_true hm), q_moves_of h h0 h1]
    rcases e with ⟨_, e⟩ | ⟨e, _⟩
    · rw [decide_eq_true e]; exact q
    · rw [hm] at e; exact absurd e (by decide)
  · rw [if_neg (by simp [hm])]
    refine q_weight_of_slip h h0 h1 u ?_
    rw [dget_isSome]
    rcases e with ⟨e, _⟩ | ⟨_, e⟩
    · exact absurd e hm
    · rw [decide_eq_true e]; exact q
theorem q_do_lead (h : GGame g) {s : STEPS} {e : Int} (hw : Walk g s e) (hl : s.length < 100000) {Q : Bool → Prop} (q : Q true) : F_do_lead g s e Q := by
  simp only [F_do_lead, letW]
  rw [cut_tail]
  refine ⟨by simp; omega, small_of (by simp; omega) ?_⟩
  rw [zip_tgt]
  refine compN_map (fun _ => true) (by rw [tgt_len]; omega) (fun y hy Q' q' => q_leads h (hw.tgt y hy) q') ?_
  have e : List.all (List.map (fun _ => true) (tgt s e)) id = true := by simp
  show Q _
  rw [e]; exact q
theorem q_is_path_value (h : GGame g) {s : STEPS} {e : Int} (hw : Walk g s e) (hl : s.length < 100000) {Q : Bool → Prop} (q : Q true) : F_is_path_value g (eP2 eSTEPS eI (s, e)) Q := by
  have he := hw.end_
  unfold F_is_path_value
  simp [q_is_tuple2]
  refine q_are_steps h hw.rng hl ?_
  simp
  refine q_is_place_of he.1 he.2 ?_
  simp
  exact q_do_lead h hw hl q
theorem q_is_path (h : GGame g) {s : STEPS} {e : Int} (hw : Walk g s e) (hl : s.length < 100000) {Q : Bool → Prop} (q : Q true) : F_is_path g (eP2 eSTEPS eI (s, e)) Q := by
  unfold F_is_path
  exact q_need_game h (q_is_path_value h hw hl q)
theorem q_need_path (h : GGame g) {s : STEPS} {e : Int} (hw : Walk g s e) (hl : s.length < 100000) {Q : Unit → Prop} (q : Q ()) : F_need_path g (eP2 eSTEPS eI (s, e)) Q := by
  unfold F_need_path
  refine q_is_path_value h hw hl ?_
  simp
  exact q
theorem q_steps_weight (h : GGame g) {s : STEPS} {e : Int} (hw : Walk g s e) (hl : s.length < 100000) {Q : Int → Prop} (q : Q (wts g s e)) : F_steps_weight g s e Q := by
  simp only [F_steps_weight, letW]
  rw [cut_tail]
  refine ⟨by simp; omega, small_of (by simp; omega) ?_⟩
  rw [zip_tgt]
  refine ⟨by rw [tgt_len]; omega, ?_⟩
  refine compN_map (fun y : Int × Int => slw g y.1 y.2) ?_ (fun y hy Q' q' => ?_) ?_
  · rw [List.length_map]
    have := List.length_filter_le (fun y : (Int × String) × Int => decide (y.1.2 = "slip")) (tgt s e)
    rw [tgt_len] at this
    omega
  · obtain ⟨z, hz, rfl⟩ := List.mem_map.mp hy
    obtain ⟨hz1, hz2⟩ := List.mem_filter.mp hz
    have ez := hw.tgt z hz1
    refine q_weight_of_slip h ez.1.1 ez.1.2 _ ?_
    have hk := of_decide_eq_true hz2
    rw [hk] at ez
    rw [(slw_get h ez).1, optW_some]
    exact q'
  · rw [List.map_map]
    show Q (List.sum _)
    have := sum_tgt g s e
    rw [show List.map ((fun y : Int × Int => slw g y.1 y.2) ∘ fun y1 : (Int × String) × Int => (y1.1.1, y1.2)) = List.map (fun y : (Int × String) × Int => slw g y.1.1 y.2) from rfl, this]
    exact q
theorem q_path_weight (h : GGame g) {s : STEPS} {e : Int} (hw : Walk g s e) (hl : s.length < 100000) {Q : Int → Prop} (q : Q (wts g s e)) : F_path_weight g (s, e) Q := by
  unfold F_path_weight
  exact q_need_game h (q_need_path h hw hl (q_steps_weight h hw hl q))
end K13
set_option maxHeartbeats 1000000
namespace K13
open PySem PySem.Spec L2 PI
open PyProof.Rows hiding St
variable {g : GAME}
theorem q_is_lasso_value (h : GGame g) {s t : STEPS} (hw : Las g s t) (hl : s.length + t.length < 100000) {Q : Bool → Prop} (q : Q true) : F_is_lasso_value g (eP2 eSTEPS eSTEPS (s, t)) Q := by
  have r1 := hw.w1.rng
  have r2 := hw.w2.rng
  unfold F_is_lasso_value
  have ne := hw.ne
  simp [q_is_tuple2]
  refine q_are_steps h r1 (by omega) ?_
  simp
  refine q_are_steps h r2 (by omega) ?_
  simp [ne]
  refine small_of (by simp; omega) ?_
  obtain ⟨p, r, rfl⟩ := List.exists_cons_of_ne_nil ne
  simp
  exact q_do_lead h hw.w (by rw [List.length_append]; omega) q
theorem q_is_lasso (h : GGame g) {s t : STEPS} (hw : Las g s t) (hl : s.length + t.length < 100000) {Q : Bool → Prop} (q : Q true) : F_is_lasso g (eP2 eSTEPS eSTEPS (s, t)) Q := by
  unfold F_is_lasso
  exact q_need_game h (q_is_lasso_value h hw hl q)
theorem q_need_lasso (h : GGame g) {s t : STEPS} (hw : Las g s t) (hl : s.length + t.length < 100000) {Q : Unit → Prop} (q : Q ()) : F_need_lasso g (eP2 eSTEPS eSTEPS (s, t)) Q := by
  unfold F_need_lasso
  refine q_is_lasso_value h hw hl ?_
  simp
  exact q
theorem q_lasso_weight (h : GGame g) {s t : STEPS} (hw : Las g s t) (hl : s.length + t.length < 100000) {Q : Nm → Prop} (q : Q (if "slip" ∈ t.map (·.2) then Nm.s "endless" else Nm.i (wts g s (hd t 0)))) : F_lasso_weight g (s, t) Q := by
  unfold F_lasso_weight
  refine q_need_game h (q_need_lasso h hw hl ?_)
  unfold F_weight_of_lasso letW
  refine ⟨by show t.length < _; omega, ?_⟩
  by_cases hs : "slip" ∈ t.map (·.2)
  · rw [if_pos hs] at q
    rw [if_pos (decide_eq_true hs)]
    exact q
  · rw [if_neg hs] at q
    rw [if_neg (by rw [decide_eq_true_eq]; exact hs)]
    have w1 := hw.w1
    obtain ⟨p, r, rfl⟩ := List.exists_cons_of_ne_nil hw.ne
    show atW (p :: r) 0 _
    rw [atW_0]
    exact q_steps_weight h w1 (by omega) q
end K13
set_option maxHeartbeats 1000000
namespace K13
open PySem PySem.Spec L2 PI
open PyProof.Rows hiding St
variable {g : GAME}
theorem q_law_weight (h : GGame g) {s : STEPS} {e : Int} (hw : Walk g s e) (hl : s.length < 100000) {Q : Int → Prop} (q : Q (wts g s e)) : F__law_weight g s e Q := by
  unfold F__law_weight letW
  refine loopN_inv (fun (l : List (Int × (Int × String))) (f : Int) => ∃ s1 s2, s = s1 ++ s2 ∧ s1.length = l.length ∧ f + wts g s2 e = wts g s e) (by rw [enumI_len]; omega) ⟨[], s, rfl, rfl, by omega⟩ (fun l x r f e2 hI Q' hQ => ?_) fun f hf => ?_
  · obtain ⟨s1, s2, e3, e4, e5⟩ := hI
    have hx : (enumI s)[l.length]? = some x := by rw [e2]; simp
    rw [enumI_at, e3, ← e4, List.getElem?_append_right (Nat.le_refl _), Nat.sub_self] at hx
    match s2, hx, e3, e5 with
    | [], hx, _, _ => cases hx
    | p :: t, hx, e3, e5 =>
      cases hx
      have hw2 : Walk g (p :: t) e := (Walk.app.mp (e3 ▸ hw)).2
      have hed := hw2.1
      have nx : joinW (α := Int) (fun Q => if decide (((s1.length : Int) + (1 : Int)) < (s.length : Int)) = true then (atW s ((s1.length : Int) + (1 : Int)) fun t8 => Q t8.1) else (Q e)) = fun Q => Q (hd t e) := by
        funext Q
        simp only [joinW]
        cases t with
        | nil =>
          rw [if_neg (by rw [e3]; simp)]; rfl
        | cons p2 t2 =>
          rw [if_pos (by rw [e3]; simp; omega)]
          have : s[((s1.length : Int) + 1).toNat]? = some p2 := by
            rw [e3, List.getElem?_append_right (by omega), show ((s1.length : Int) + 1).toNat - s1.length = 1 by omega]; rfl
          rw [atW_get (by omega) this]; rfl
      show joinW (α := Int) (fun Q => if decide (((s1.length : Int) + (1 : Int)) < (s.length : Int)) = true then (atW s ((s1.length : Int) + (1 : Int)) fun t8 => Q t8.1) else (Q e)) _
      rw [nx]
      have fin : ∀ w : Int, w = wt1 g p.1 p.2 (hd t e) → Q' (f + w) := fun w hww => hQ _ ⟨s1 ++ [p], t, by rw [e3]; simp, by simp [e4], by
        have e5 : f + (wt1 g p.1 p.2 (hd t e) + wts g t e) = wts g s e := e5
        rw [hww]; omega⟩
      by_cases hk : p.2 = "slip"
      · simp only [joinW, hk, decide_true, if_true]
        rw [atW_row h hed.1.1 hed.1.2]
        have r := (h.at_ hed.1.1 hed.1.2).2
        have := r.slL
        have := h.len
        rw [r.dmk]
        rw [hk] at hed
        have sg := slw_get h hed
        refine ⟨by omega, ?_⟩
        rw [sg.1, optW_some]
        exact fin _ (by unfold wt1; rw [if_pos hk])
      · simp only [joinW, hk, decide_false]
        have := fin 0 (by unfold wt1; rw [if_neg hk])
        rw [Int.add_zero] at this
        exact this
  · obtain ⟨s1, s2, e3, e4, e5⟩ := hf
    rw [enumI_len, e3, List.length_append] at e4
    have : s2 = [] := List.length_eq_zero_iff.mp (by omega)
    subst this
    have : f = wts g s e := by
      have e5 : f + 0 = wts g s e := e5
      omega
    rw [this]; exact q
theorem q_steps_from (h : GGame g) {v : Int} (h0 : 0 ≤ v) (h1 : v < g.length) {Q : List (String × Int) → Prop} (q : ∀ l : List (String × Int), l ≠ [] → l.length ≤ 200 → (∀ p ∈ l, edge g v p.1 p.2) → Q l) : F__law_steps_from g v Q := by
  unfold F__law_steps_from
  have r := (h.at_ h0 h1).2
  have l1 := r.mvL
  have l2 := r.slL
  have hl := h.len
  rw [atW_row h h0 h1, atW_row h h0 h1]
  refine ⟨by omega, by omega, small_of (by simp; omega) (q _ (by simp [r.mv0]) (by simp; omega) fun p hp => ?_)⟩
  rcases List.mem_append.mp hp with hp | hp
  · obtain ⟨u, hu, rfl⟩ := List.mem_map.mp hp
    exact ⟨⟨h0, h1⟩, .inl ⟨rfl, hu⟩⟩
  · obtain ⟨u, hu, rfl⟩ := List.mem_map.mp hp
    exact ⟨⟨h0, h1⟩, .inr ⟨rfl, List.mem_map.mpr ⟨u, hu, rfl⟩⟩⟩
theorem q_walk (h : GGame g) {v : Int} (h0 : 0 ≤ v) (h1 : v < g.length) {many : Int} (hm : many < 10000) (hm0 : 0 ≤ many) {Q : STEPS × Int → Prop} (q : ∀ s e, Walk g s e → hd s e = v → s.length = many.toNat → Q (s, e)) : F__law_walk g v many Q := by
  unfold F__law_walk letW
  refine ⟨by omega, ?_⟩
  refine loopN_inv (fun (l : List Int) (s : Int × STEPS) => Walk g s.2 s.1 ∧ hd s.2 s.1 = v ∧ s.2.length = l.length) (by rw [rangeI_len]; omega) ⟨⟨h0, h1⟩, rfl, rfl⟩ (fun l x r s e hI Q' hQ => ?_) fun s hs => ?_
  · obtain ⟨a, b, c⟩ := hI
    have he := a.end_
    have hll : l.length < 10000 := by
      have := congrArg List.length e
      rw [rangeI_len] at this
      simp at this
      omega
    refine q_steps_from h he.1 he.2 fun l2 n2 z2 p2 => q_pick n2 (by omega) fun p hp => ?_
    have ed := p2 p hp
    refine ⟨by omega, hQ _ ⟨?_, ?_, by simp [c]⟩⟩
    · refine Walk.app.mpr ⟨?_, ?_⟩
      · exact a
      · exact ⟨ed, edge_to h ed⟩
    · rw [hd_app]; exact b
  · obtain ⟨a, b, c⟩ := hs
    rw [rangeI_len] at c
    exact small_of (by omega) (q _ _ a b c)
/-- places of steps where a walk has been -/
theorem spots_mem {s : STEPS} {e i : Int} (hi : i ∈ ((enumI s).filter fun y : Int × (Int × String) => decide (y.2.1 = e)).map fun y => y.1) : ∃ k : Nat, i = k ∧ k < s.length ∧ (s[k]?.map fun p => p.1) = some e := by
  obtain ⟨y, hy, rfl⟩ := List.mem_map.mp hi
  obtain ⟨hy1, hy2⟩ := List.mem_filter.mp hy
  obtain ⟨k, e1, e2⟩ := mem_enumI.mp hy1
  refine ⟨k, e1, (List.getElem?_eq_some_iff.mp e2).1, ?_⟩
  rw [e2]
  exact congrArg some (of_decide_eq_true hy2)
theorem Las.of_spot {s : STEPS} {e : Int} (hw : Walk g s e) {k : Nat} (hk : k < s.length) (he : (s[k]?.map fun p => p.1) = some e) : Las g (s.take k) (s.drop k) := by
  have ed : s.drop k = s[k] :: s.drop (k + 1) := List.drop_eq_getElem_cons hk
  have hh : hd (s.drop k) 0 = e := by
    rw [ed]
    rw [List.getElem?_eq_getElem hk] at he
    exact Option.some.inj he
  refine ⟨by rw [ed]; exact List.cons_ne_nil _ _, ?_⟩
  rw [List.take_append_drop, hh]
  exact hw
def spots (s : STEPS) (e : Int) : List Int := ((enumI s).filter fun y : Int × (Int × String) => decide (y.2.1 = e)).map fun y => y.1
theorem spots_len (s : STEPS) (e : Int) : (spots s e).length ≤ s.length := by
  unfold spots
  rw [List.length_map]
  have := List.length_filter_le (fun y : Int × (Int × String) => decide (y.2.1 = e)) (enumI s)
  rw [enumI_len] at this
  exact this
/-- a place on a walk as a spot -/
theorem spots_ne {s : STEPS} {e : Int} (h : e ∈ s.map (·.1)) : spots s e ≠ [] := fun q => by
  obtain ⟨p, hp, rfl⟩ := List.mem_map.mp h
  obtain ⟨k, hk, e2⟩ := List.getElem_of_mem hp
  have : ((k : Int), p) ∈ enumI s := mem_enumI.mpr ⟨k, rfl, by rw [List.getElem?_eq_getElem hk, e2]⟩
  have : (k : Int) ∈ spots s p.1 := List.mem_map.mpr ⟨_, List.mem_filter.mpr ⟨this, decide_eq_true rfl⟩, rfl⟩
  rw [q] at this
  exact List.not_mem_nil this
theorem nodup_len {l : List Int} {n : Nat} (h : l.Nodup) (hr : ∀ u ∈ l, 0 ≤ u ∧ u < n) : l.length ≤ n := by
  have := asc_le (sortI_pw h) (n := n) fun u hu => hr u (mem_sortI.mp hu)
  rwa [List.length_mergeSort] at this
/-- a lasso drawn from spots -/
theorem q_las_end {s : STEPS} {e : Int} (hw : Walk g s e) (hl : s.length < 1000) {sp : List Int} (h0 : sp ≠ []) (hs : sp = spots s e) {Q : STEPS × STEPS → Prop} (q : ∀ a b, Las g a b → a.length + b.length = s.length → Q (a, b)) : F__law_pick_L sp fun t13 => Q (PI.cutD s none (some t13), PI.cutD s (some t13) none) := by
  have l1 := spots_len s e
  refine q_pick h0 (by rw [hs]; omega) fun i hi => ?_
  rw [hs] at hi
  obtain ⟨k, rfl, hk, he⟩ := spots_mem hi
  rw [cut_take, cut_drop]
  exact q _ _ (Las.of_spot hw hk he) (by simp; omega)
theorem q_lasso (h : GGame g) {Q : STEPS × STEPS → Prop} (q : ∀ a b, Las g a b → a.length + b.length ≤ 2 * g.length + 15 → Q (a, b)) : F__law_lasso g Q := by
  have hp := h.pos
  have hgl := h.len
  simp only [F__law_lasso, letW]
  refine q_draw (by omega) (by omega) fun v v0 v1 => q_draw (by decide) (by decide) fun t t0 t1 => ?_
  refine q_walk h v0 v1 (by omega) (by omega) fun s e hw _ hlen => ?_
  have hlen : s.length = g.length + t.toNat := by omega
  have hne : s ≠ [] := fun e => by rw [e] at hlen; simp at hlen; omega
  refine ⟨by decide, ?_⟩
  -- behind the first loop
  have two : ∀ (s : STEPS) (e : Int) (sp : List Int), Walk g s e → s ≠ [] → s.length ≤ g.length + 15 → (sp = [] ∨ sp ≠ [] ∧ sp = spots s e) →
      joinW (α := Int) (fun Q => optW (some sp) fun t17 => if (t17.isEmpty) = true then (Q (g.length : Int)) else (Q (0 : Int))) fun t16 => rng1W t16 fun t15 => forW t15 (s, e, some sp) (fun (x2 : Int) (s2 : STEPS × Int × (Option (List Int))) n1 b1 (r1 : STEPS × STEPS → Prop) =>
        F__law_walk g s2.2.1 (1 : Int) fun t9 => small (s2.1 ++ t9.1) fun steps => (enumI steps).length < 1000000 ∧
          if (!((spots steps t9.2).isEmpty)) = true then (b1 (steps, t9.2, some (spots steps t9.2))) else n1 (steps, t9.2, some (spots steps t9.2))) (fun s2 =>
        optW s2.2.2 fun t14 => F__law_pick_L t14 fun t13 => Q ((PI.cutD s2.1 none (some t13)), (PI.cutD s2.1 (some t13) none))) Q := fun s e sp hw hne hl hsp => by
    simp only [joinW]
    rw [optW_some]
    rcases hsp with rfl | ⟨h1, h2⟩
    · rw [if_pos (show ([] : List Int).isEmpty = true from rfl)]
      refine ⟨by omega, ?_⟩
      rw [Int.toNat_natCast]
      refine loopW_inv (fun (l : List Int) (s2 : STEPS × Int × (Option (List Int))) => Walk g s2.1 s2.2.1 ∧ s2.1 ≠ [] ∧ s2.1.length = s.length + l.length ∧ (l = [] ∨ ∃ fr : List Int, fr.Nodup ∧ (∀ x ∈ fr, x ∈ s2.1.map (·.1)) ∧ fr.length = l.length ∧ s2.2.1 ∉ s2.1.map (·.1))) (by rw [rangeI_len]; omega) ⟨hw, hne, rfl, .inl rfl⟩ (fun l x r s2 e2 hI Q' hQ => ?_) fun s2 hs2 => ?_
      · obtain ⟨a1, a2, a3, a4⟩ := hI
        have hll : l.length < g.length := by
          have := congrArg List.length e2
          rw [rangeI_len] at this
          simp at this
          omega
        have he := a1.end_
        refine q_walk h he.1 he.2 (by decide) (by decide) fun st u hw2 hh hl2 => ?_
        have hl2 : st.length = 1 := hl2
        obtain ⟨p, rfl⟩ : ∃ p, st = [p] := by
          match st, hl2 with
          | [p], _ => exact ⟨p, rfl⟩
        have hp1 : p.1 = s2.2.1 := hh
        refine small_of (by simp; omega) ⟨by rw [enumI_len]; simp; omega, ?_⟩
        have hw3 : Walk g (s2.1 ++ [p]) u := Walk.app.mpr ⟨by show Walk g s2.1 p.1; rw [hp1]; exact a1, hw2⟩
        by_cases hz : spots (s2.1 ++ [p]) u = []
        · show if (!(spots (s2.1 ++ [p]) u).isEmpty) = true then _ else _
          rw [hz]
          refine hQ _ ⟨hw3, by simp, by simp [a3]; omega, .inr ?_⟩
          have hu : u ∉ (s2.1 ++ [p]).map (·.1) := fun q => spots_ne q hz
          rcases a4 with rfl | ⟨fr, f1, f2, f3, f4⟩
          · obtain ⟨p0, s0, e0⟩ := List.exists_cons_of_ne_nil a2
            exact ⟨[p0.1], by simp, fun x hx => by rw [List.mem_singleton.mp hx, e0]; simp, rfl, hu⟩
          · refine ⟨fr ++ [s2.2.1], ?_, fun x hx => ?_, by simp [f3], hu⟩
            · rw [List.nodup_append]
              refine ⟨f1, by simp, fun x hx y hy => ?_⟩
              rw [List.mem_singleton.mp hy]
              exact fun q => f4 (q ▸ f2 x hx)
            · rcases List.mem_append.mp hx with hx | hx
              · have := f2 x hx
                rw [List.map_append]
                exact List.mem_append_left _ this
              · rw [List.mem_singleton.mp hx, ← hp1]
                simp
        · have : (!(spots (s2.1 ++ [p]) u).isEmpty) = true := by
            cases hc : spots (s2.1 ++ [p]) u with
            | nil => exact absurd hc hz
            | cons _ _ => rfl
          show if (!(spots (s2.1 ++ [p]) u).isEmpty) = true then _ else _
          rw [if_pos this]
          show optW (some (spots (s2.1 ++ [p]) u)) _
          rw [optW_some]
          exact q_las_end hw3 (by simp; omega) hz rfl fun a b hab hl3 => q a b hab (by simp at hl3; omega)
      · obtain ⟨a1, a2, a3, a4⟩ := hs2
        rw [rangeI_len] at a3
        rcases a4 with e3 | ⟨fr, f1, f2, f3, f4⟩
        · have := congrArg List.length e3
          rw [rangeI_len] at this
          have : g.length = 0 := this
          omega
        · rw [rangeI_len] at f3
          have nd : (fr ++ [s2.2.1]).Nodup := by
            rw [List.nodup_append]
            refine ⟨f1, by simp, fun x hx y hy => ?_⟩
            rw [List.mem_singleton.mp hy]
            exact fun q => f4 (q ▸ f2 x hx)
          have := nodup_len nd (n := g.length) fun u hu => by
            rcases List.mem_append.mp hu with hu | hu
            · obtain ⟨p, hp, rfl⟩ := List.mem_map.mp (f2 u hu)
              have := a1.rng p hp
              exact ⟨this.1, this.2.1⟩
            · rw [List.mem_singleton.mp hu]
              exact a1.end_
          rw [List.length_append, List.length_singleton] at this
          omega
    · have : sp.isEmpty = false := by
        cases sp with
        | nil => exact absurd rfl h1
        | cons _ _ => rfl
      rw [if_neg (by rw [this]; decide)]
      refine ⟨by decide, by decide, ?_⟩
      show optW (some sp) _
      rw [optW_some]
      exact q_las_end hw (by omega) h1 h2 fun a b hab hl3 => q a b hab (by omega)
  refine loopW_inv (fun (l : List Int) (s1 : STEPS × Int × (Option (List Int))) => Walk g s1.1 s1.2.1 ∧ s1.1 ≠ [] ∧ s1.1.length = s.length + l.length ∧ (l.length = 9 → s1.2.2 = some [])) (by decide) ⟨hw, hne, rfl, fun q => by simp at q⟩ (fun l x r s1 e1 hI Q' hQ => ?_) fun s1 hs1 => ?_
  · obtain ⟨a1, a2, a3, a4⟩ := hI
    have hll : l.length < 9 := by
      have := congrArg List.length e1
      rw [rangeI_len] at this
      simp at this
      omega
    have hx : x = l.length := by
      have e3 : (rangeI 0 (9 : Int).toNat)[l.length]? = some x := by rw [e1]; simp
      rw [rangeI_at (by simpa using hll)] at e3
      have := Option.some.inj e3
      omega
    refine ⟨by rw [enumI_len]; omega, ?_⟩
    have go : (x = 8 → spots s1.1 s1.2.1 = []) → F__law_walk g s1.2.1 (1 : Int) fun t2 => small (s1.1 ++ t2.1) fun steps => Q' (steps, t2.2, some (spots s1.1 s1.2.1)) := fun h8 => by
      have he := a1.end_
      refine q_walk h he.1 he.2 (by decide) (by decide) fun st u hw2 hh hl2 => small_of (by simp; have : st.length = 1 := hl2; omega) (hQ _ ⟨Walk.app.mpr ⟨by rw [hh]; exact a1, hw2⟩, by simp [a2], by have : st.length = 1 := hl2; simp [a3, this]; omega, fun q => ?_⟩)
      rw [List.length_append, List.length_singleton] at q
      exact congrArg some (h8 (by omega))
    have br : spots s1.1 s1.2.1 ≠ [] → _ := fun hz => two s1.1 s1.2.1 (spots s1.1 s1.2.1) a1 a2 (by omega) (.inr ⟨hz, rfl⟩)
    show joinW (α := Bool) (fun Q => if (!((spots s1.1 s1.2.1).isEmpty)) = true then (joinW (α := Bool) (fun Q => if decide ((7 : Int) < x) = true then Q true else (F__law_draw (2 : Int) fun t7 => Q (decide (t7 = (0 : Int))))) fun t6 => Q t6) else Q false) _
    simp only [joinW]
    by_cases hz : spots s1.1 s1.2.1 = []
    · have e0 : (!(spots s1.1 s1.2.1).isEmpty) = false := by rw [hz]; rfl
      rw [if_neg (by rw [e0]; decide)]
      exact go fun _ => hz
    · have : (!(spots s1.1 s1.2.1).isEmpty) = true := by
        cases hc : spots s1.1 s1.2.1 with
        | nil => exact absurd hc hz
        | cons _ _ => rfl
      rw [if_pos this]
      by_cases h7 : (7 : Int) < x
      · rw [if_pos (decide_eq_true h7)]
        exact br hz
      · rw [if_neg (by rw [decide_eq_true_eq]; exact h7)]
        refine q_draw (by decide) (by decide) fun d _ _ => ?_
        by_cases hd0 : d = 0
        · rw [hd0]
          exact br hz
        · rw [decide_eq_false hd0]
          exact go fun h8 => by omega
  · obtain ⟨a1, a2, a3, a4⟩ := hs1
    rw [rangeI_len] at a3 a4
    have e9 := a4 rfl
    have := two s1.1 s1.2.1 [] a1 a2 (by have : (9 : Int).toNat = 9 := rfl; omega) (.inl rfl)
    rw [← e9] at this
    exact this
end K13
set_option maxHeartbeats 1000000
namespace K13
open PySem PySem.Spec L2 PI
open PyProof.Rows hiding St
variable {g : GAME}
theorem q_is_joined (h : GGame g) {s1 s2 : STEPS} {e1 e2 : Int} (w1 : Walk g s1 e1) (w2 : Walk g s2 e2) (hh : hd s2 e2 = e1) (hl : s1.length + s2.length < 10000) {Q : Bool → Prop} (q : Q true) : F__law_is_joined g (s1, e1) (s2, e2) Q := by
  have w12 : Walk g (s1 ++ s2) e2 := Walk.app.mpr ⟨by rw [hh]; exact w1, w2⟩
  have b1 := wts_bd h w1
  have b2 := wts_bd h w2
  have b12 := wts_bd h w12
  have e := wts_app g s1 s2 e2
  rw [hh] at e
  simp only [F__law_is_joined, letW]
  refine q_law_weight h w1 (by omega) (q_law_weight h w2 (by omega) (small_of (by simp) (small_of (by simp; omega) ?_)))
  refine q_path_weight h w1 (by omega) (q_path_weight h w2 (by omega) (q_path_weight h w12 (by simp; omega) (q_is_path h w12 (by simp; omega) (small_of (by simp) ?_))))
  rw [List.length_append] at b12
  have fin : ∀ x ∈ [eI (wts g s1 e1), eI (wts g s2 e2), eI (wts g (s1 ++ s2) e2), eB true], Gz 1922 0 (eX x) := fun x hx => by
    simp at hx
    rcases hx with rfl | rfl | rfl | rfl
    · exact gz_I (by omega)
    · exact gz_I (by omega)
    · exact gz_I (by omega)
    · exact (gz_B true).le (by decide) (Nat.le_refl _)
  refine reprW_of (gz_L fin (Nat.le_refl _)) (by simp) (by decide) ?_
  rw [atW_0, atW_1]
  refine small_of (by simp) (small_of (by simp) ?_)
  rw [← e]
  refine reprW_of (gz_L (l := [eI (wts g s1 e1), eI (wts g s2 e2), eI (wts g (s1 ++ s2) e2), eB true]) fin (Nat.le_refl _)) (by simp) (by decide) ?_
  simp
  exact q
theorem walk_take {s : STEPS} {e : Int} (hw : Walk g s e) (k : Nat) : Walk g (s.take k) (hd (s.drop k) e) ∧ Walk g (s.drop k) e := by
  have : Walk g (s.take k ++ s.drop k) e := by rw [List.take_append_drop]; exact hw
  exact Walk.app.mp this
/-- so many times round -/
theorem walk_round {t : STEPS} {f : Int} (hw : Walk g t f) (hh : ∀ e, hd t e = f) : ∀ n, Walk g (List.replicate n t).flatten f ∧ wts g (List.replicate n t).flatten f = n * wts g t f ∧ hd (List.replicate n t).flatten f = f
  | 0 => ⟨by have := hw.hd; rw [hh] at this; exact this, by simp [wts], rfl⟩
  | n + 1 => by
    obtain ⟨a, b, c⟩ := walk_round hw hh n
    rw [List.replicate_succ, List.flatten_cons]
    refine ⟨Walk.app.mpr ⟨by rw [c]; exact hw, a⟩, ?_, by rw [hd_app, c]; exact hh f⟩
    rw [wts_app, c, b, Int.natCast_succ, Int.add_mul]
    omega
theorem slip_none {t : STEPS} (hs : ¬ "slip" ∈ t.map (·.2)) (e : Int) : wts g t e = 0 := by
  induction t with
  | nil => rfl
  | cons p r ih =>
    simp at hs
    show wt1 g p.1 p.2 (hd r e) + wts g r e = 0
    have hp : p.2 ≠ "slip" := fun q => hs.1 q.symm
    unfold wt1
    rw [if_neg hp, ih (by simpa using hs.2)]; rfl
theorem bare_iff (t : STEPS) : ((t.filter fun y => decide (y.2 = "slip")).map fun _ => (1 : Int)).isEmpty = !decide ("slip" ∈ t.map (·.2)) := by
  induction t with
  | nil => rfl
  | cons p r ih =>
    rw [List.filter_cons]
    by_cases h : p.2 = "slip"
    · rw [if_pos (decide_eq_true h)]
      have : "slip" ∈ (p :: r).map (·.2) := by rw [List.map_cons, h]; exact List.mem_cons_self ..
      rw [decide_eq_true this]; rfl
    · rw [if_neg (by simp [h]), ih]
      have : "slip" ∈ (p :: r).map (·.2) ↔ "slip" ∈ r.map (·.2) := by
        rw [List.map_cons, List.mem_cons]
        exact ⟨fun q => q.resolve_left fun z => h z.symm, .inr⟩
      rw [decide_eq_decide.mpr this]
theorem spot_eq (a : STEPS) (e : Int) {k : Nat} (hk : k ≤ a.length) : (joinW (α := Int) (fun Q => if decide ((k : Int) < (a.length : Int)) = true then (atW a (k : Int) fun t28 => Q t28.1) else (Q e))) = fun Q => Q (hd (a.drop k) e) := by
  funext Q
  simp only [joinW]
  by_cases h : k < a.length
  · rw [if_pos (decide_eq_true (by omega)), atW_get (by omega) (show a[(k : Int).toNat]? = some a[k] from List.getElem?_eq_getElem h), List.drop_eq_getElem_cons h]; rfl
  · rw [if_neg (by rw [decide_eq_true_eq]; omega), List.drop_eq_nil_of_le (by omega)]; rfl
theorem q_part3 (h : GGame g) {s t : STEPS} (hl : Las g s t) (hs : s.length + t.length ≤ 60) {Q : List Int → Prop} (ks : List Int) (hk : ks.length ≤ 4) (hks : ∀ k ∈ ks, 0 ≤ k ∧ k < 4) (q : Q (ks.map fun k => wts g s (hd t 0) + k * wts g t (hd t 0))) :
    compN ks (fun (y1 : Int) Q => mulT t y1 fun t10 => small (s ++ t10) fun t9 => F_path_weight g (t9, hd t 0) fun t8 => Q t8) Q := by
  refine compN_map _ (by omega) (fun k hkm Q' q' => ?_) q
  have hk2 := hks k hkm
  obtain ⟨n, rfl⟩ : ∃ n : Nat, k = n := ⟨k.toNat, by omega⟩
  have rd := walk_round hl.w2 (fun e => hl.hh e) n
  have fl : ((List.replicate n t).flatten).length ≤ 240 := by
    rw [List.length_flatten, List.map_replicate, List.sum_replicate_nat]
    have : n * t.length ≤ 4 * 60 := Nat.mul_le_mul (by omega) (by omega)
    exact this
  refine ⟨⟨hl.ne, by omega, by omega, by omega⟩, small_of (by rw [Int.toNat_natCast, List.length_append]; omega) ?_⟩
  rw [Int.toNat_natCast]
  have hw : Walk g (s ++ (List.replicate n t).flatten) (hd t 0) := Walk.app.mpr ⟨by rw [rd.2.2]; exact hl.w1, rd.1⟩
  refine q_path_weight h hw (by rw [List.length_append]; omega) ?_
  rw [wts_app, rd.2.2, rd.2.1]
  exact q'
theorem q_law : F_law (fun b => b = true) := by
  unfold F_law
  refine ⟨by decide, ?_⟩
  refine loopW_all (fun _ => True) (by decide) trivial (fun x1 hx1 s1 _ Q1 hQ1 => ?_) fun _ _ => rfl
  refine q_game (by decide) (by decide) (by decide) fun g hg hg7 => ?_
  have hp := hg.pos
  refine ⟨by decide, ?_⟩
  refine loopW_all (fun _ => True) (by decide) trivial (fun x2 hx2 s2 _ Q2 hQ2 => ?_) fun _ _ => ?_
  · refine q_draw (by omega) (by omega) fun v v0 v1 => q_draw (by decide) (by decide) fun m m0 m1 => ?_
    refine q_walk hg v0 v1 (by omega) m0 fun a ea wa ha la => ?_
    have ha2 := wa.end_
    refine q_draw (by decide) (by decide) fun m' m0' m1' => ?_
    refine q_walk hg ha2.1 ha2.2 (by omega) m0' fun b eb wb hb lb => ?_
    refine q_is_joined hg wa wb hb (by omega) ?_
    have la2 : a.length ≤ 20 := by omega
    refine q_draw (by show (0 : Int) < (a.length : Int) + 1; omega) (by show (a.length : Int) + 1 < 1000000; omega) fun k k0 k1 => ?_
    have k1 : k < (a.length : Int) + 1 := k1
    obtain ⟨k, rfl⟩ : ∃ k' : Nat, k = k' := ⟨k.toNat, by omega⟩
    obtain ⟨wt1, wt2⟩ := walk_take wa k
    simp only [letW]
    rw [spot_eq a ea (by omega)]
    simp only [cut_take, cut_drop]
    refine q_is_joined hg wt1 wt2 rfl (by simp; omega) ?_
    refine q_lasso hg fun s t hl hlen => ?_
    have hh := hl.hh
    have b1 := wts_bd hg hl.w1
    have b2 := wts_bd hg hl.w2
    have w12 : s.length + t.length < 100000 := by omega
    have at0 : ∀ Q : (Int × String) → Prop, ∃ p, (atW t 0 Q = Q p) ∧ p.1 = hd t 0 := fun Q => by
      obtain ⟨p, r, rfl⟩ := List.exists_cons_of_ne_nil hl.ne
      exact ⟨p, atW_0 _ _ _, rfl⟩
    dsimp only
    obtain ⟨p, e1, e2⟩ := at0 _
    rw [e1]
    have lw : ∀ {Q : Nm → Prop}, Q (if "slip" ∈ t.map (·.2) then Nm.s "endless" else Nm.i (wts g s (hd t 0))) → joinW (α := Nm) (fun Q => if decide (0 < x2) = true then (F_lasso_weight g (s, t) fun t23 => Q t23) else (F_lasso_weight g (s, t) fun t24 => Q t24)) Q := fun q => by
      simp only [joinW]
      split
      · exact q_lasso_weight hg hl w12 q
      · exact q_lasso_weight hg hl w12 q
    refine lw ?_
    rw [e2]
    refine q_law_weight hg hl.w1 (by omega) (q_law_weight hg (by rw [← hh 0]; exact hl.w2) (by omega) ⟨by omega, ?_⟩)
    rw [bare_iff]
    have fz : Gz 1922 0 (eN (if "slip" ∈ t.map (·.2) then Nm.s "endless" else Nm.i (wts g s (hd t 0)))) := by
      split
      · exact gz_N (fun i e => by cases e) (fun s e => by cases e; decide +kernel)
      · exact gz_N (fun i e => by cases e; omega) (fun s e => by cases e)
    have en : (if (!decide ("slip" ∈ t.map (·.2))) = true then Nm.i (wts g s (hd t 0)) else Nm.s "endless") = (if "slip" ∈ t.map (·.2) then Nm.s "endless" else Nm.i (wts g s (hd t 0))) := by
      by_cases hs : "slip" ∈ t.map (·.2)
      · rw [if_pos hs, if_neg (by simp [hs])]
      · rw [if_neg hs, if_pos (by simp [hs])]
    refine reprW_of fz (by decide) (by decide) ?_
    show reprW eN (if (!decide ("slip" ∈ t.map (·.2))) = true then Nm.i (wts g s (hd t 0)) else Nm.s "endless") _
    rw [en]
    refine reprW_of fz (by decide) (by decide) ?_
    rw [decide_eq_true rfl]
    refine q_is_lasso hg hl w12 ?_
    refine ⟨by decide, ?_⟩
    refine compW_fm (fun y : Int => if decide ((s.length : Int) + y * t.length ≤ 60) = true then some y else none) (by decide) (fun y hy Q' q' => ?_) ?_
    · refine ⟨.inr ⟨by omega, by omega⟩, ?_⟩
      by_cases h60 : decide ((s.length : Int) + y * t.length ≤ 60) = true
      · rw [if_pos h60] at q' ⊢; exact q'
      · rw [if_neg h60] at q' ⊢; exact q'
    · generalize hks : List.filterMap (fun y : Int => if decide ((s.length : Int) + y * t.length ≤ 60) = true then some y else none) (rangeI 0 (Int.toNat 4)) = ks
      have kl : ks.length ≤ 4 := by
        rw [← hks]
        exact Nat.le_trans (List.length_filterMap_le _ _) (by decide)
      have km : ∀ k ∈ ks, 0 ≤ k ∧ k < 4 := fun k hk => by
        rw [← hks] at hk
        obtain ⟨y, hy, e⟩ := List.mem_filterMap.mp hk
        have := mem_rangeI.mp hy
        split at e
        · cases e; exact this
        · cases e
      refine q_part3 hg hl (by omega) ks kl km ?_
      have fL : ∀ x ∈ ks.map fun k => wts g s (hd t 0) + k * wts g t (hd t 0), Gz 1922 0 (eI x) := fun x hx => by
        obtain ⟨k, hk, rfl⟩ := List.mem_map.mp hx
        have := km k hk
        refine gz_I ?_
        have : k * wts g t (hd t 0) ≤ 4 * 1000000 := Int.mul_le_mul (by omega) (by omega) b2.1 (by decide)
        have : 0 ≤ k * wts g t (hd t 0) := Int.mul_nonneg (by omega) b2.1
        omega
      refine reprW_of (gz_L (n := 4) fL (by rw [List.length_map]; exact kl)) (by decide) (by decide) ?_
      refine compN_map (fun k => wts g s (hd t 0) + k * wts g t (hd t 0)) (by omega) (fun k hk Q' q' => ?_) ?_
      · have := km k hk
        exact ⟨.inl ⟨by omega, by omega⟩, q'⟩
      · refine reprW_of (gz_L (n := 4) fL (by rw [List.length_map]; exact kl)) (by decide) (by decide) ?_
        rw [decide_eq_true rfl]
        exact hQ2 _ trivial
  · refine q_draw (by omega) (by omega) fun v v0 v1 => ?_
    simp only [letW]
    have wn : Walk g [] v := ⟨v0, v1⟩
    refine q_path_weight hg wn (by decide) ?_
    refine q_is_path hg wn (by decide) ?_
    have r := (hg.at_ v0 v1).2
    rw [atW_row hg v0 v1]
    obtain ⟨u, us, e⟩ := List.exists_cons_of_ne_nil r.mv0
    rw [e, atW_0]
    have hu : u ∈ (rowA g v).2.2.1 := by rw [e]; exact List.mem_cons_self ..
    have w1 : Walk g [(v, "move")] u := ⟨⟨⟨v0, v1⟩, .inl ⟨rfl, hu⟩⟩, r.mvR u hu⟩
    refine q_path_weight hg w1 (by simp) ?_
    have z1 : wts g [] v = 0 := rfl
    have z2 : wts g [(v, "move")] u = 0 := by simp [wts, wt1]
    rw [z1, z2]
    have fz : Gz ((1922 + 2) * 3 + 3) 1 (eP3 eI eB eI (0, true, 0)) := gz_P3 (gz_I (by decide)) ((gz_B true).le (by decide) (Nat.le_refl _)) (gz_I (by decide))
    refine reprW_of fz (by decide) (by decide) (reprW_of fz (by decide) (by decide) ?_)
    rw [decide_eq_true rfl]
    exact hQ1 _ trivial
theorem law_holds : ∀ ns : List Int, ns.length ≤ 63 → ∃ (f : BF) (S : Store), cfL (G 1000000) T DEP LEV ("law" : Str) = some ([("script" : Str)], f) ∧ f [] [.p (.list (ns.map .int))] = some (.p (.bool true), S) := law_of q_law
end K13
open PySem PySem.W PyProof.Rows in
set_option maxRecDepth 100000 in
set_option maxHeartbeats 0 in
theorem PySem.Challenge.cw_howmanyslips_k13_whole_paths_put_togethe_holds : PySem.Challenge.rw_howmanyslips_k13_whole_paths_put_togethe.Holds := by
  w_on; o_law; k_head; (case hw => w_witness2)
  k_fill
  refine PI.end_walk (l := PySem.Challenge.rw_howmanyslips_k13_whole_paths_put_togethe) (n := 63) (k := K13.LEV) (dep := K13.DEP) (x := "script") (G := K13.G 1000000) (T := K13.T) rfl (by decide) rfl ?hq ⟨rfl, by decide, by decide⟩ (fun w h Y => PySem.W.kIn_of Y) ?nol ?tx K13.law_holds
  case hq => first | rfl | decide +kernel
  case nol => intro w; first | rfl | kernel_rfl | decide +kernel
  case tx =>
    intro w mg h X Gn
    refine' ⟨K13.txt X Gn ?zg0 ?zg1 ?zg2 ?zg3 ?zg4 ?zb0 ?zb1 ?zb2 ?zb3 ?zb4 ?zb5 ?zb6 ?zb7 ?zb8 ?zb9 ?zb10 ?zb11 ?zb12 ?zb13 ?zb14 ?zb15 ?zb16, K13.T_all (PI.def_mk (t := K13.ft__law_deck) (name := "_law_deck") (qual := "_law_deck") (params := L2.defArgs K13.s__law_deck) X Gn ?za0 ?zl0 ?zc0 ?zk0 ⟨rfl, rfl, rfl, rfl, rfl⟩ K13.sc__law_deck) (PI.def_mk (t := K13.ft__law_draw) (name := "_law_draw") (qual := "_law_draw") (params := L2.defArgs K13.s__law_draw) X Gn ?za1 ?zl1 ?zc1 ?zk1 ⟨rfl, rfl, rfl, rfl, rfl⟩ K13.sc__law_draw) (PI.def_mk (t := K13.ft__law_pick) (name := "_law_pick") (qual := "_law_pick") (params := L2.defArgs K13.s__law_pick) X Gn ?za2 ?zl2 ?zc2 ?zk2 ⟨rfl, rfl, rfl, rfl, rfl⟩ K13.sc__law_pick) (PI.def_mk (t := K13.ft__law_ladder) (name := "_law_ladder") (qual := "_law_ladder") (params := L2.defArgs K13.s__law_ladder) X Gn ?za3 ?zl3 ?zc3 ?zk3 ⟨rfl, rfl, rfl, rfl, rfl⟩ K13.sc__law_ladder) (PI.def_mk (t := K13.ft__law_ring) (name := "_law_ring") (qual := "_law_ring") (params := L2.defArgs K13.s__law_ring) X Gn ?za4 ?zl4 ?zc4 ?zk4 ⟨rfl, rfl, rfl, rfl, rfl⟩ K13.sc__law_ring) (PI.def_mk (t := K13.ft__law_any_rows) (name := "_law_any_rows") (qual := "_law_any_rows") (params := L2.defArgs K13.s__law_any_rows) X Gn ?za5 ?zl5 ?zc5 ?zk5 ⟨rfl, rfl, rfl, rfl, rfl⟩ K13.sc__law_any_rows) (PI.def_mk (t := K13.ft__law_order) (name := "_law_order") (qual := "_law_order") (params := L2.defArgs K13.s__law_order) X Gn ?za6 ?zl6 ?zc6 ?zk6 ⟨rfl, rfl, rfl, rfl, rfl⟩ K13.sc__law_order) (PI.def_mk (t := K13.ft__law_called) (name := "_law_called") (qual := "_law_called") (params := L2.defArgs K13.s__law_called) X Gn ?za7 ?zl7 ?zc7 ?zk7 ⟨rfl, rfl, rfl, rfl, rfl⟩ K13.sc__law_called) (PI.def_mk (t := K13.ft__law_game) (name := "_law_game") (qual := "_law_game") (params := L2.defArgs K13.s__law_game) X Gn ?za8 ?zl8 ?zc8 ?zk8 ⟨rfl, rfl, rfl, rfl, rfl⟩ K13.sc__law_game) (PI.def_mk (t := K13.ft__law_steps_from) (name := "_law_steps_from") (qual := "_law_steps_from") (params := L2.defArgs K13.s__law_steps_from) X Gn ?za9 ?zl9 ?zc9 ?zk9 ⟨rfl, rfl, rfl, rfl, rfl⟩ K13.sc__law_steps_from) (PI.def_mk (t := K13.ft__law_walk) (name := "_law_walk") (qual := "_law_walk") (params := L2.defArgs K13.s__law_walk) X Gn ?za10 ?zl10 ?zc10 ?zk10 ⟨rfl, rfl, rfl, rfl, rfl⟩ K13.sc__law_walk) (PI.def_mk (t := K13.ft__law_weight) (name := "_law_weight") (qual := "_law_weight") (params := L2.defArgs K13.s__law_weight) X Gn ?za11 ?zl11 ?zc11 ?zk11 ⟨rfl, rfl, rfl, rfl, rfl⟩ K13.sc__law_weight) (PI.def_mk (t := K13.ft_is_tuple) (name := "is_tuple") (qual := "is_tuple") (params := L2.defArgs K13.s_is_tuple) X Gn ?za12 ?zl12 ?zc12 ?zk12 ⟨rfl, rfl, rfl, rfl, rfl⟩ K13.sc_is_tuple) (PI.def_mk (t := K13.ft_is_word) (name := "is_word") (qual := "is_word") (params := L2.defArgs K13.s_is_word) X Gn ?za13 ?zl13 ?zc13 ?zk13 ⟨rfl, rfl, rfl, rfl, rfl⟩ K13.sc_is_word) (PI.def_mk (t := K13.ft_is_integer) (name := "is_integer") (qual := "is_integer") (params := L2.defArgs K13.s_is_integer) X Gn ?za14 ?zl14 ?zc14 ?zk14 ⟨rfl, rfl, rfl, rfl, rfl⟩ K13.sc_is_integer) (PI.def_mk (t := K13.ft_is_from) (name := "is_from") (qual := "is_from") (params := L2.defArgs K13.s_is_from) X Gn ?za15 ?zl15 ?zc15 ?zk15 ⟨rfl, rfl, rfl, rfl, rfl⟩ K13.sc_is_from) (PI.def_mk (t := K13.ft_is_between) (name := "is_between") (qual := "is_between") (params := L2.defArgs K13.s_is_between) X Gn ?za16 ?zl16 ?zc16 ?zk16 ⟨rfl, rfl, rfl, rfl, rfl⟩ K13.sc_is_between) (PI.def_mk (t := K13.ft_do_ascend) (name := "do_ascend") (qual := "do_ascend") (params := L2.defArgs K13.s_do_ascend) X Gn ?za17 ?zl17 ?zc17 ?zk17 ⟨rfl, rfl, rfl, rfl, rfl⟩ K13.sc_do_ascend) (PI.def_mk (t := K13.ft_are_moves) (name := "are_moves") (qual := "are_moves") (params := L2.defArgs K13.s_are_moves) X Gn ?za18 ?zl18 ?zc18 ?zk18 ⟨rfl, rfl, rfl, rfl, rfl⟩ K13.sc_are_moves) (PI.def_mk (t := K13.ft_is_slip) (name := "is_slip") (qual := "is_slip") (params := L2.defArgs K13.s_is_slip) X Gn ?za19 ?zl19 ?zc19 ?zk19 ⟨rfl, rfl, rfl, rfl, rfl⟩ K13.sc_is_slip) (PI.def_mk (t := K13.ft_are_slips) (name := "are_slips") (qual := "are_slips") (params := L2.defArgs K13.s_are_slips) X Gn ?za20 ?zl20 ?zc20 ?zk20 ⟨rfl, rfl, rfl, rfl, rfl⟩ K13.sc_are_slips) (PI.def_mk (t := K13.ft_is_place_row) (name := "is_place_row") (qual := "is_place_row") (params := L2.defArgs K13.s_is_place_row) X Gn ?za21 ?zl21 ?zc21 ?zk21 ⟨rfl, rfl, rfl, rfl, rfl⟩ K13.sc_is_place_row) (PI.def_mk (t := K13.ft_is_game_value) (name := "is_game_value") (qual := "is_game_value") (params := L2.defArgs K13.s_is_game_value) X Gn ?za22 ?zl22 ?zc22 ?zk22 ⟨rfl, rfl, rfl, rfl, rfl⟩ K13.sc_is_game_value) (PI.def_mk (t := K13.ft_need_game) (name := "need_game") (qual := "need_game") (params := L2.defArgs K13.s_need_game) X Gn ?za23 ?zl23 ?zc23 ?zk23 ⟨rfl, rfl, rfl, rfl, rfl⟩ K13.sc_need_game) (PI.def_mk (t := K13.ft_is_place_of) (name := "is_place_of") (qual := "is_place_of") (params := L2.defArgs K13.s_is_place_of) X Gn ?za24 ?zl24 ?zc24 ?zk24 ⟨rfl, rfl, rfl, rfl, rfl⟩ K13.sc_is_place_of) (PI.def_mk (t := K13.ft_is_step) (name := "is_step") (qual := "is_step") (params := L2.defArgs K13.s_is_step) X Gn ?za25 ?zl25 ?zc25 ?zk25 ⟨rfl, rfl, rfl, rfl, rfl⟩ K13.sc_is_step) (PI.def_mk (t := K13.ft_are_steps) (name := "are_steps") (qual := "are_steps") (params := L2.defArgs K13.s_are_steps) X Gn ?za26 ?zl26 ?zc26 ?zk26 ⟨rfl, rfl, rfl, rfl, rfl⟩ K13.sc_are_steps) (PI.def_mk (t := K13.ft_moves_of) (name := "moves_of") (qual := "moves_of") (params := L2.defArgs K13.s_moves_of) X Gn ?za27 ?zl27 ?zc27 ?zk27 ⟨rfl, rfl, rfl, rfl, rfl⟩ K13.sc_moves_of) (PI.def_mk (t := K13.ft_slips_of) (name := "slips_of") (qual := "slips_of") (params := L2.defArgs K13.s_slips_of) X Gn ?za28 ?zl28 ?zc28 ?zk28 ⟨rfl, rfl, rfl, rfl, rfl⟩ K13.sc_slips_of) (PI.def_mk (t := K13.ft_weight_of_slip) (name := "weight_of_slip") (qual := "weight_of_slip") (params := L2.defArgs K13.s_weight_of_slip) X Gn ?za29 ?zl29 ?zc29 ?zk29 ⟨rfl, rfl, rfl, rfl, rfl⟩ K13.sc_weight_of_slip) (PI.def_mk (t := K13.ft_leads) (name := "leads") (qual := "leads") (params := L2.defArgs K13.s_leads) X Gn ?za30 ?zl30 ?zc30 ?zk30 ⟨rfl, rfl, rfl, rfl, rfl⟩ K13.sc_leads) (PI.def_mk (t := K13.ft_do_lead) (name := "do_lead") (qual := "do_lead") (params := L2.defArgs K13.s_do_lead) X Gn ?za31 ?zl31 ?zc31 ?zk31 ⟨rfl, rfl, rfl, rfl, rfl⟩ K13.sc_do_lead) (PI.def_mk (t := K13.ft_is_path_value) (name := "is_path_value") (qual := "is_path_value") (params := L2.defArgs K13.s_is_path_value) X Gn ?za32 ?zl32 ?zc32 ?zk32 ⟨rfl, rfl, rfl, rfl, rfl⟩ K13.sc_is_path_value) (PI.def_mk (t := K13.ft_need_path) (name := "need_path") (qual := "need_path") (params := L2.defArgs K13.s_need_path) X Gn ?za33 ?zl33 ?zc33 ?zk33 ⟨rfl, rfl, rfl, rfl, rfl⟩ K13.sc_need_path) (PI.def_mk (t := K13.ft_steps_weight) (name := "steps_weight") (qual := "steps_weight") (params := L2.defArgs K13.s_steps_weight) X Gn ?za34 ?zl34 ?zc34 ?zk34 ⟨rfl, rfl, rfl, rfl, rfl⟩ K13.sc_steps_weight) (PI.def_mk (t := K13.ft_path_weight) (name := "path_weight") (qual := "path_weight") (params := L2.defArgs K13.s_path_weight) X Gn ?za35 ?zl35 ?zc35 ?zk35 ⟨rfl, rfl, rfl, rfl, rfl⟩ K13.sc_path_weight) (PI.def_mk (t := K13.ft_is_path) (name := "is_path") (qual := "is_path") (params := L2.defArgs K13.s_is_path) X Gn ?za36 ?zl36 ?zc36 ?zk36 ⟨rfl, rfl, rfl, rfl, rfl⟩ K13.sc_is_path) (PI.def_mk (t := K13.ft__law_is_joined) (name := "_law_is_joined") (qual := "_law_is_joined") (params := L2.defArgs K13.s__law_is_joined) X Gn ?za37 ?zl37 ?zc37 ?zk37 ⟨rfl, rfl, rfl, rfl, rfl⟩ K13.sc__law_is_joined) (PI.def_mk (t := K13.ft__law_lasso) (name := "_law_lasso") (qual := "_law_lasso") (params := L2.defArgs K13.s__law_lasso) X Gn ?za38 ?zl38 ?zc38 ?zk38 ⟨rfl, rfl, rfl, rfl, rfl⟩ K13.sc__law_lasso) (PI.def_mk (t := K13.ft_is_lasso_value) (name := "is_lasso_value") (qual := "is_lasso_value") (params := L2.defArgs K13.s_is_lasso_value) X Gn ?za39 ?zl39 ?zc39 ?zk39 ⟨rfl, rfl, rfl, rfl, rfl⟩ K13.sc_is_lasso_value) (PI.def_mk (t := K13.ft_need_lasso) (name := "need_lasso") (qual := "need_lasso") (params := L2.defArgs K13.s_need_lasso) X Gn ?za40 ?zl40 ?zc40 ?zk40 ⟨rfl, rfl, rfl, rfl, rfl⟩ K13.sc_need_lasso) (PI.def_mk (t := K13.ft_weight_of_lasso) (name := "weight_of_lasso") (qual := "weight_of_lasso") (params := L2.defArgs K13.s_weight_of_lasso) X Gn ?za41 ?zl41 ?zc41 ?zk41 ⟨rfl, rfl, rfl, rfl, rfl⟩ K13.sc_weight_of_lasso) (PI.def_mk (t := K13.ft_lasso_weight) (name := "lasso_weight") (qual := "lasso_weight") (params := L2.defArgs K13.s_lasso_weight) X Gn ?za42 ?zl42 ?zc42 ?zk42 ⟨rfl, rfl, rfl, rfl, rfl⟩ K13.sc_lasso_weight) (PI.def_mk (t := K13.ft_is_lasso) (name := "is_lasso") (qual := "is_lasso") (params := L2.defArgs K13.s_is_lasso) X Gn ?za43 ?zl43 ?zc43 ?zk43 ⟨rfl, rfl, rfl, rfl, rfl⟩ K13.sc_is_lasso) (PI.def_mk (t := K13.ft_law) (name := "law") (qual := "law") (params := L2.defArgs K13.s_law) X Gn ?za44 ?zl44 ?zc44 ?zk44 ⟨rfl, rfl, rfl, rfl, rfl⟩ K13.sc_law)⟩
    (case zg0 => k_is)
    (case zg1 => k_is)
    (case zg2 => k_is)
    (case zg3 => k_is)
    (case zg4 => k_is)
    (case zb0 => k_is)
    (case zb1 => k_is)
    (case zb2 => k_is)
    (case zb3 => k_is)
    (case zb4 => k_is)
    (case zb5 => k_is)
    (case zb6 => k_is)
    (case zb7 => k_is)
    (case zb8 => k_is)
    (case zb9 => k_is)
    (case zb10 => k_is)
    (case zb11 => k_is)
    (case zb12 => k_is)
    (case zb13 => k_is)
    (case zb14 => k_is)
    (case zb15 => k_is)
    (case zb16 => k_is)
    (case za0 => k_is)
    (case zl0 => k_is)
    (case zc0 => k_is)
    (case zk0 => k_is)
    (case za1 => k_is)
    (case zl1 => k_is)
    (case zc1 => k_is)
    (case zk1 => k_is)
    (case za2 => k_is)
    (case zl2 => k_is)
    (case zc2 => k_is)
    (case zk2 => k_is)
    (case za3 => k_is)
    (case zl3 => k_is)
    (case zc3 => k_is)
    (case zk3 => k_is)
    (case za4 => k_is)
    (case zl4 => k_is)
    (case zc4 => k_is)
    (case zk4 => k_is)
    (case za5 => k_is)
    (case zl5 => k_is)
    (case zc5 => k_is)
    (case zk5 => k_is)
    (case za6 => k_is)
    (case zl6 => k_is)
    (case zc6 => k_is)
    (case zk6 => k_is)
    (case za7 => k_is)
    (case zl7 => k_is)
    (case zc7 => k_is)
    (case zk7 => k_is)
    (case za8 => k_is)
    (case zl8 => k_is)
    (case zc8 => k_is)
    (case zk8 => k_is)
    (case za9 => k_is)
    (case zl9 => k_is)
    (case zc9 => k_is)
    (case zk9 => k_is)
    (case za10 => k_is)
    (case zl10 => k_is)
    (case zc10 => k_is)
    (case zk10 => k_is)
    (case za11 => k_is)
    (case zl11 => k_is)
    (case zc11 => k_is)
    (case zk11 => k_is)
    (case za12 => k_is)
    (case zl12 => k_is)
    (case zc12 => k_is)
    (case zk12 => k_is)
    (case za13 => k_is)
    (case zl13 => k_is)
    (case zc13 => k_is)
    (case zk13 => k_is)
    (case za14 => k_is)
    (case zl14 => k_is)
    (case zc14 => k_is)
    (case zk14 => k_is)
    (case za15 => k_is)
    (case zl15 => k_is)
    (case zc15 => k_is)
    (case zk15 => k_is)
    (case za16 => k_is)
    (case zl16 => k_is)
    (case zc16 => k_is)
    (case zk16 => k_is)
    (case za17 => k_is)
    (case zl17 => k_is)
    (case zc17 => k_is)
    (case zk17 => k_is)
    (case za18 => k_is)
    (case zl18 => k_is)
    (case zc18 => k_is)
    (case zk18 => k_is)
    (case za19 => k_is)
    (case zl19 => k_is)
    (case zc19 => k_is)
    (case zk19 => k_is)
    (case za20 => k_is)
    (case zl20 => k_is)
    (case zc20 => k_is)
    (case zk20 => k_is)
    (case za21 => k_is)
    (case zl21 => k_is)
    (case zc21 => k_is)
    (case zk21 => k_is)
    (case za22 => k_is)
    (case zl22 => k_is)
    (case zc22 => k_is)
    (case zk22 => k_is)
    (case za23 => k_is)
    (case zl23 => k_is)
    (case zc23 => k_is)
    (case zk23 => k_is)
    (case za24 => k_is)
    (case zl24 => k_is)
    (case zc24 => k_is)
    (case zk24 => k_is)
    (case za25 => k_is)
    (case zl25 => k_is)
    (case zc25 => k_is)
    (case zk25 => k_is)
    (case za26 => k_is)
    (case zl26 => k_is)
    (case zc26 => k_is)
    (case zk26 => k_is)
    (case za27 => k_is)
    (case zl27 => k_is)
    (case zc27 => k_is)
    (case zk27 => k_is)
    (case za28 => k_is)
    (case zl28 => k_is)
    (case zc28 => k_is)
    (case zk28 => k_is)
    (case za29 => k_is)
    (case zl29 => k_is)
    (case zc29 => k_is)
    (case zk29 => k_is)
    (case za30 => k_is)
    (case zl30 => k_is)
    (case zc30 => k_is)
    (case zk30 => k_is)
    (case za31 => k_is)
    (case zl31 => k_is)
    (case zc31 => k_is)
    (case zk31 => k_is)
    (case za32 => k_is)
    (case zl32 => k_is)
    (case zc32 => k_is)
    (case zk32 => k_is)
    (case za33 => k_is)
    (case zl33 => k_is)
    (case zc33 => k_is)
    (case zk33 => k_is)
    (case za34 => k_is)
    (case zl34 => k_is)
    (case zc34 => k_is)
    (case zk34 => k_is)
    (case za35 => k_is)
    (case zl35 => k_is)
    (case zc35 => k_is)
    (case zk35 => k_is)
    (case za36 => k_is)
    (case zl36 => k_is)
    (case zc36 => k_is)
    (case zk36 => k_is)
    (case za37 => k_is)
    (case zl37 => k_is)
    (case zc37 => k_is)
    (case zk37 => k_is)
    (case za38 => k_is)
    (case zl38 => k_is)
    (case zc38 => k_is)
    (case zk38 => k_is)
    (case za39 => k_is)
    (case zl39 => k_is)
    (case zc39 => k_is)
    (case zk39 => k_is)
    (case za40 => k_is)
    (case zl40 => k_is)
    (case zc40 => k_is)
    (case zk40 => k_is)
    (case za41 => k_is)
    (case zl41 => k_is)
    (case zc41 => k_is)
    (case zk41 => k_is)
    (case za42 => k_is)
    (case zl42 => k_is)
    (case zc42 => k_is)
    (case zk42 => k_is)
    (case za43 => k_is)
    (case zl43 => k_is)
    (case zc43 => k_is)
    (case zk43 => k_is)
    (case za44 => k_is)
    (case zl44 => k_is)
    (case zc44 => k_is)
    (case zk44 => k_is)
