import PyProof.Rows.All
import Wide.All
import OpenK.AllK
import Wide.FinOn
import HandS.ForMost
import HandS.ForExc
import HandS.IsInst
import HandS.Wide
import HandS.EndBits
import HandS.TupAny
import HandS.Deep
import HandS.SortInts
import HandS.Style
import HandS.SetIn
import HandS.CallSlots
import HandS.TryMany
import HandS.ExcInit
import KE.SortData
import KE.GoesEnum
import HandS.WordsDict
import HandS.TupLen
import HandS.More
import HandS.DictComp
import HandS.TryOnly
import HandS.HeadWalk
import PySem.Challenge.RW_waysinstep_k42_whole_lots_that_are_enoug
set_option Elab.async false
set_option linter.all false
set_option maxRecDepth 100000
set_option maxHeartbeats 4000000
namespace Dz
open PySem L2

/-! ### data -/
inductive D where
  | non | bl (b : Bool) | int (i : Int) | str (x : Str)
  | tup (xs : List D) | lst (xs : List D)
  | ref (a : Addr) | ty (n : String)
  /-- a tuple that the top has made -/
  | ctp (xs : List D)
inductive MO where
  | lst (xs : List D)
  | dK (kvs : List (Key × D))
  | dT (kvs : List (List Key × D))
  /-- a dict while it is walked -/
  | zK (kvs : List (Key × D))
  | zT (kvs : List (List Key × D))
  | ins (C : Addr) (fs : List (Str × D))
abbrev Hs := Addr → Option MO
def sup (S : Hs) (a : Addr) (o : MO) : Hs := fun b => if b = a then some o else S b
def sdel (S : Hs) (a : Addr) : Hs := fun b => if b = a then none else S b
theorem sup_same {S : Hs} {a : Addr} {o : MO} : sup S a o a = some o := by unfold sup; rw [if_pos rfl]
theorem sup_ne {S : Hs} {a b : Addr} {o : MO} (h : b ≠ a) : sup S a o b = S b := by unfold sup; rw [if_neg h]
theorem sup_sup {S : Hs} {a : Addr} {o u : MO} : sup (sup S a o) a u = sup S a u := by
  funext b; unfold sup; split <;> rfl
theorem sdel_sup {S : Hs} {a : Addr} {o : MO} (h : S a = none) : sdel (sup S a o) a = S := by
  funext b; unfold sdel sup
  by_cases e : b = a
  · subst e; simp [h]
  · simp [e]
theorem sup_comm {S : Hs} {a b : Addr} {o u : MO} (h : a ≠ b) : sup (sup S a o) b u = sup (sup S b u) a o := by
  funext c; unfold sup
  by_cases e : c = b
  · subst e
    have : c ≠ a := fun z => h z.symm
    simp [this]
  · simp [e]
theorem sup_self {S : Hs} {a : Addr} {o : MO} (h : S a = some o) : sup S a o = S := by
  funext b; unfold sup
  by_cases e : b = a
  · subst e; simp [h]
  · simp [e]
theorem sne {S : Hs} {a b : Addr} {o : MO} (h : S a = some o) (h' : S b = none) : a ≠ b := by
  intro e; subst e; rw [h] at h'; cases h'

/-! ### what a value is -/
def StL (K : PySem.W.Frag) (a : Addr) (xs : List V) : Prop := ∃ (o : Obj) (its : Array Value) (n : Nat), K.lookup a = some o ∧ o.cls = .type "list" ∧ o.dict = none ∧ o.data = .seq its n ∧ its.size ≤ sizeLine ∧ Vals xs its.toList
def StT (K : PySem.W.Frag) (a : Addr) (xs : List V) : Prop := ∃ (o : Obj) (its : Array Value) (n : Nat), K.lookup a = some o ∧ o.cls = .type "tuple" ∧ o.data = .seq its n ∧ its.size ≤ sizeLine ∧ Vals xs its.toList

section
variable (K : PySem.W.Frag)
mutual
inductive Dv (S : Hs) (H : Hp) : V → D → Prop
  | non : Dv S H .non .non
  | bl (b : Bool) : Dv S H (.bl b) (.bl b)
  | int (i : Int) : Dv S H (.int i) (.int i)
  | str (x : Str) : Dv S H (.str x) (.str x)
  | ty (n : String) : Dv S H (.ty n) (.ty n)
  | ref (a : Addr) : Dv S H (.ref a) (.ref a)
  | lst {a : Addr} {vs : List V} {ds : List D} : S a = none → Rd H a (.lst vs) → DvA S H vs ds → Dv S H (.ref a) (.lst ds)
  | lstK {a : Addr} {vs : List V} {ds : List D} : StL K a vs → DvA S H vs ds → Dv S H (.ref a) (.lst ds)
  | tup {a : Addr} {vs : List V} {ds : List D} : S a = none → H a = some (.tup vs) → DvA S H vs ds → Dv S H (.ref a) (.tup ds)
  | tupK {a : Addr} {vs : List V} {ds : List D} : StT K a vs → DvA S H vs ds → Dv S H (.ref a) (.ctp ds)
inductive DvA (S : Hs) (H : Hp) : List V → List D → Prop
  | nil : DvA S H [] []
  | cons {v : V} {d : D} {vs : List V} {ds : List D} : Dv S H v d → DvA S H vs ds → DvA S H (v :: vs) (d :: ds)
end
end

section
variable {K : PySem.W.Frag} {S S' S1 S2 S3 : Hs} {H H' H1 H2 H3 : Hp} {a : Addr} {v : V} {d : D} {vs : List V} {ds : List D}
theorem Dv.sql {a : Addr} (h : Dv K S H (.ref a) (.lst ds)) : ∃ vs, SqL K H a vs ∧ DvA K S H vs ds := by
  cases h with
  | lst h1 h2 h3 => exact ⟨_, Or.inl h2, h3⟩
  | lstK h1 h3 => exact ⟨_, Or.inr h1, h3⟩
theorem Dv.sqt {a : Addr} (h : Dv K S H (.ref a) (.tup ds)) : ∃ vs, SqT K H a vs ∧ DvA K S H vs ds := by
  cases h with
  | tup h1 h2 h3 => exact ⟨_, .inl (.inl h2), h3⟩
theorem Dv.of_lst {v : V} (h : Dv K S H v (.lst ds)) : ∃ a vs, v = .ref a ∧ SqL K H a vs ∧ DvA K S H vs ds := by
  cases h with
  | lst h1 h2 h3 => exact ⟨_, _, rfl, Or.inl h2, h3⟩
  | lstK h1 h3 => exact ⟨_, _, rfl, Or.inr h1, h3⟩
theorem Dv.of_tup {v : V} (h : Dv K S H v (.tup ds)) : ∃ a vs, v = .ref a ∧ SqT K H a vs ∧ DvA K S H vs ds := by
  cases h with
  | tup h1 h2 h3 => exact ⟨_, _, rfl, .inl (.inl h2), h3⟩
theorem Dv.made {v : V} (h : Dv K S H v (.tup ds)) : ∃ a vs, v = .ref a ∧ H a = some (.tup vs) ∧ DvA K S H vs ds := by
  cases h with
  | tup h1 h2 h3 => exact ⟨_, _, rfl, h2, h3⟩
theorem Dv.sqc {a : Addr} (h : Dv K S H (.ref a) (.ctp ds)) : ∃ vs, SqT K H a vs ∧ DvA K S H vs ds := by
  cases h with
  | tupK h1 h3 => exact ⟨_, .inr h1, h3⟩
theorem Dv.of_ctp {v : V} (h : Dv K S H v (.ctp ds)) : ∃ a vs, v = .ref a ∧ SqT K H a vs ∧ DvA K S H vs ds := by
  cases h with
  | tupK h1 h3 => exact ⟨_, _, rfl, .inr h1, h3⟩
theorem DvA.len : ∀ {vs : List V} {ds : List D}, DvA K S H vs ds → vs.length = ds.length
  | _, _, .nil => rfl
  | _, _, .cons _ t => congrArg (· + 1) (DvA.len t)
theorem DvA.get : ∀ {vs : List V} {ds : List D} {i : Nat} {d : D}, DvA K S H vs ds → ds[i]? = some d → ∃ v, vs[i]? = some v ∧ Dv K S H v d
  | _, _, _, _, .nil, e => by simp at e
  | _, _, 0, _, .cons r _, e => by simp at e; subst e; exact ⟨_, rfl, r⟩
  | _, _, i + 1, _, .cons _ t, e => by
    obtain ⟨v, h1, h2⟩ := DvA.get (i := i) t (by simpa using e)
    exact ⟨v, by simpa using h1, h2⟩
theorem DvA.get' : ∀ {vs : List V} {ds : List D} {i : Nat} {v : V}, DvA K S H vs ds → vs[i]? = some v → ∃ d, ds[i]? = some d ∧ Dv K S H v d
  | _, _, _, _, .nil, e => by simp at e
  | _, _, 0, _, .cons r _, e => by simp at e; subst e; exact ⟨_, rfl, r⟩
  | _, _, i + 1, _, .cons _ t, e => by
    obtain ⟨v, h1, h2⟩ := DvA.get' (i := i) t (by simpa using e)
    exact ⟨v, by simpa using h1, h2⟩
theorem DvA.append : ∀ {vs ws : List V} {ds es : List D}, DvA K S H vs ds → DvA K S H ws es → DvA K S H (vs ++ ws) (ds ++ es)
  | _, _, _, _, .nil, s => s
  | _, _, _, _, .cons r t, s => .cons r (DvA.append t s)
theorem DvA.take : ∀ (n : Nat) {vs : List V} {ds : List D}, DvA K S H vs ds → DvA K S H (vs.take n) (ds.take n)
  | 0, _, _, _ => by simpa using DvA.nil
  | _ + 1, _, _, .nil => by simpa using DvA.nil
  | n + 1, _, _, .cons r t => by simpa using DvA.cons r (DvA.take n t)
theorem DvA.drop : ∀ (n : Nat) {vs : List V} {ds : List D}, DvA K S H vs ds → DvA K S H (vs.drop n) (ds.drop n)
  | 0, _, _, r => by simpa using r
  | _ + 1, _, _, .nil => by simpa using DvA.nil
  | n + 1, _, _, .cons r t => by simpa using DvA.drop n t
theorem DvA.set {v : V} {d : D} (r : Dv K S H v d) : ∀ (n : Nat) {vs : List V} {ds : List D}, DvA K S H vs ds → DvA K S H (vs.set n v) (ds.set n d)
  | _, _, _, .nil => by simpa using DvA.nil
  | 0, _, _, .cons _ t => by simpa using DvA.cons r t
  | n + 1, _, _, .cons q t => by simpa using DvA.cons q (DvA.set r n t)
theorem DvA.reverse : ∀ {vs : List V} {ds : List D}, DvA K S H vs ds → DvA K S H vs.reverse ds.reverse
  | _, _, .nil => by simpa using DvA.nil
  | _, _, .cons r t => by
    simp only [List.reverse_cons]
    exact (DvA.reverse t).append (.cons r .nil)
theorem DvA.ints : ∀ (ns : List Int), DvA K S H (ns.map V.int) (ns.map D.int)
  | [] => .nil
  | n :: r => .cons (.int n) (DvA.ints r)
theorem DvA.of_ints : ∀ {ns : List Int} {vs : List V}, DvA K S H vs (ns.map D.int) → vs = ns.map V.int
  | [], _, h => by
    cases h
    rfl
  | n :: r, _, h => by
    cases h with
    | cons a b =>
      cases a
      rw [DvA.of_ints b]
      rfl

/-! ### the frame: what is not live stays -/
def Fk (S : Hs) (H : Hp) (S' : Hs) (H' : Hp) : Prop := ∀ a o, H a = some o → S a = none → H' a = some o ∧ S' a = none
structure Fr (S : Hs) (H : Hp) (S' : Hs) (H' : Hp) : Prop where
  keep : Fk S H S' H'
  frz : ∀ a o u, H a = some (.frz o u) → H' a = some (.frz o u)
theorem Fr.refl (S : Hs) (H : Hp) : Fr S H S H := ⟨fun _ _ h s => ⟨h, s⟩, fun _ _ _ h => h⟩
theorem Fr.trans (f : Fr S1 H1 S2 H2) (g : Fr S2 H2 S3 H3) : Fr S1 H1 S3 H3 := ⟨fun a o h s => by
  obtain ⟨h2, s2⟩ := f.keep a o h s
  exact g.keep a o h2 s2, fun a o u h => g.frz a o u (f.frz a o u h)⟩
theorem Fk.rd {u : HO} (f : Fk S H S' H') (s : S a = none) (h : Rd H a u) : Rd H' a u ∧ S' a = none := by
  rcases h with h | ⟨o, h⟩
  · obtain ⟨h2, s2⟩ := f a _ h s
    exact ⟨.inl h2, s2⟩
  · obtain ⟨h2, s2⟩ := f a _ h s
    exact ⟨.inr ⟨o, h2⟩, s2⟩
mutual
theorem Dv.monoK (f : Fk S H S' H') : ∀ {v : V} {d : D}, Dv K S H v d → Dv K S' H' v d
  | _, _, .non => .non
  | _, _, .bl b => .bl b
  | _, _, .int i => .int i
  | _, _, .str x => .str x
  | _, _, .ty n => .ty n
  | _, _, .ref a => .ref a
  | _, _, .lst s h t => by
    obtain ⟨h2, s2⟩ := f.rd s h
    exact .lst s2 h2 (DvA.monoK f t)
  | _, _, .lstK h t => .lstK h (DvA.monoK f t)
  | _, _, .tup s h t => by
    obtain ⟨h2, s2⟩ := f _ _ h s
    exact .tup s2 h2 (DvA.monoK f t)
  | _, _, .tupK h t => .tupK h (DvA.monoK f t)
theorem DvA.monoK (f : Fk S H S' H') : ∀ {vs : List V} {ds : List D}, DvA K S H vs ds → DvA K S' H' vs ds
  | _, _, .nil => .nil
  | _, _, .cons a b => .cons (Dv.monoK f a) (DvA.monoK f b)
end
theorem Dv.mono (f : Fr S H S' H') {v : V} {d : D} (h : Dv K S H v d) : Dv K S' H' v d := Dv.monoK f.keep h
theorem DvA.mono (f : Fr S H S' H') {vs : List V} {ds : List D} (h : DvA K S H vs ds) : DvA K S' H' vs ds := DvA.monoK f.keep h
end

/-! ### the live objects -/
def KvD {κ : Type} (K : PySem.W.Frag) (S : Hs) (H : Hp) : List (κ × D) → List (κ × V) → Prop := Paired fun p q => p.1 = q.1 ∧ Dv K S H q.2 p.2
def MoOk (K : PySem.W.Frag) (S : Hs) (H : Hp) : MO → HO → Prop
  | .lst ds, .lst vs => DvA K S H vs ds
  | .dK kd, .dK kv => KvD K S H kd kv
  | .dT kd, .dT kv => KvD K S H kd kv
  | .zK kd, .frz _ u => match u with
    | .dK kv => KvD K S H kd kv
    | _ => False
  | .zT kd, .frz _ u => match u with
    | .dT kv => KvD K S H kd kv
    | _ => False
  | .ins C fd, .ins C' _ fv => C = C' ∧ KvD K S H fd fv
  | _, _ => False
def Rs (K : PySem.W.Frag) (S : Hs) (H : Hp) : Prop := ∀ a o, S a = some o → ∃ u, H a = some u ∧ MoOk K S H o u
def Rr (K : PySem.W.Frag) (S : Hs) (H : Hp) (σ : St) (ρ : List (Option D)) : Prop := σ.length = ρ.length ∧ ∀ (i : Nat) (d : D), ρ[i]? = some (some d) → ∃ v, σ[i]? = some (some v) ∧ Dv K S H v d
section
variable {K : PySem.W.Frag} {S S' S1 S2 S3 : Hs} {H H' H1 H2 H3 : Hp} {a : Addr} {v : V} {d : D} {vs : List V} {ds : List D} {σ : St} {ρ : List (Option D)}
theorem KvD.monoK {κ : Type} (f : Fk S H S' H') {kd : List (κ × D)} {kv : List (κ × V)} (h : KvD K S H kd kv) : KvD K S' H' kd kv := Paired.mapP h fun _ _ z => ⟨z.1, z.2.monoK f⟩
theorem MoOk.zk {kd : List (Key × D)} {u : HO} (h : MoOk K S H (.zK kd) u) : ∃ od kv, u = .frz od (.dK kv) ∧ KvD K S H kd kv := by
  cases u with
  | frz od u =>
    cases u with
    | dK kv => exact ⟨od, kv, rfl, h⟩
    | _ => exact (show False from h).elim
  | _ => exact (show False from h).elim
theorem MoOk.zt {kd : List (List Key × D)} {u : HO} (h : MoOk K S H (.zT kd) u) : ∃ od kv, u = .frz od (.dT kv) ∧ KvD K S H kd kv := by
  cases u with
  | frz od u =>
    cases u with
    | dT kv => exact ⟨od, kv, rfl, h⟩
    | _ => exact (show False from h).elim
  | _ => exact (show False from h).elim
theorem MoOk.monoK (f : Fk S H S' H') {o : MO} {u : HO} (h : MoOk K S H o u) : MoOk K S' H' o u := by
  cases o with
  | zK kd => obtain ⟨od, kv, rfl, h⟩ := h.zk; exact KvD.monoK f h
  | zT kd => obtain ⟨od, kv, rfl, h⟩ := h.zt; exact KvD.monoK f h
  | _ => cases u <;> first
    | exact (show False from h).elim
    | exact DvA.monoK f (show DvA K S H _ _ from h)
    | exact KvD.monoK f (show KvD K S H _ _ from h)
    | exact ⟨(show _ = _ ∧ _ from h).1, KvD.monoK f (show _ = _ ∧ _ from h).2⟩
theorem KvD.mono {κ : Type} (f : Fr S H S' H') {kd : List (κ × D)} {kv : List (κ × V)} (h : KvD K S H kd kv) : KvD K S' H' kd kv := KvD.monoK f.keep h
theorem MoOk.mono (f : Fr S H S' H') {o : MO} {u : HO} (h : MoOk K S H o u) : MoOk K S' H' o u := MoOk.monoK f.keep h
theorem Rs.free (r : Rs K S H) (h : H a = none) : S a = none := by
  cases e : S a with
  | none => rfl
  | some o =>
    obtain ⟨u, hu, _⟩ := r a o e
    rw [h] at hu
    cases hu
theorem Rr.mono (f : Fr S H S' H') (h : Rr K S H σ ρ) : Rr K S' H' σ ρ := ⟨h.1, fun i d e => by
  obtain ⟨v, e1, e2⟩ := h.2 i d e
  exact ⟨v, e1, e2.mono f⟩⟩
theorem Rr.monoK (h : Rr K S H σ ρ) (f : Fk S H S' H') : Rr K S' H' σ ρ := ⟨h.1, fun i d e => by
  obtain ⟨v, e1, e2⟩ := h.2 i d e
  exact ⟨v, e1, e2.monoK f⟩⟩
theorem Rr.set (h : Rr K S H σ ρ) (i : Nat) (r : Dv K S H v d) : Rr K S H (σ.set i (some v)) (ρ.set i (some d)) := by
  refine ⟨by simp [h.1], fun j e q => ?_⟩
  by_cases hj : i = j
  · subst hj
    by_cases hl : i < ρ.length
    · rw [List.getElem?_set_self hl] at q
      cases q
      exact ⟨v, by rw [List.getElem?_set_self (by rw [h.1]; exact hl)], r⟩
    · rw [List.getElem?_eq_none (by simpa using hl)] at q
      cases q
  · rw [List.getElem?_set_ne hj] at q ⊢
    exact h.2 j e q
theorem Rr.setN (h : Rr K S H σ ρ) (i : Nat) : Rr K S H (σ.set i none) (ρ.set i none) := by
  refine ⟨by simp [h.1], fun j e q => ?_⟩
  by_cases hj : i = j
  · subst hj
    by_cases hl : i < ρ.length
    · rw [List.getElem?_set_self hl] at q
      cases q
    · rw [List.getElem?_eq_none (by simpa using hl)] at q
      cases q
  · rw [List.getElem?_set_ne hj] at q ⊢
    exact h.2 j e q
/-- a new object that nobody changes -/
theorem fr_new {p : Addr} {o : HO} (h : H p = none) : Fr S H S (upd H p o) := ⟨fun a u e s => ⟨by rw [upd_ne (ne_of_none e h)]; exact e, s⟩, fun a u v e => by rw [upd_ne (ne_of_none e h)]; exact e⟩
theorem rs_new {p : Addr} {o : HO} (r : Rs K S H) (h : H p = none) : Rs K S (upd H p o) := fun a u e => by
  obtain ⟨w, e1, e2⟩ := r a u e
  exact ⟨w, by rw [upd_ne (ne_of_none e1 h)]; exact e1, e2.mono (fr_new h)⟩
/-- a new live object -/
theorem fr_live {p : Addr} {o : HO} {m : MO} (h : H p = none) : Fr S H (sup S p m) (upd H p o) := ⟨fun a u e s => by
  have n := ne_of_none e h
  exact ⟨by rw [upd_ne n]; exact e, by rw [sup_ne n]; exact s⟩, fun a u v e => by rw [upd_ne (ne_of_none e h)]; exact e⟩
theorem rs_live {p : Addr} {o : HO} {m : MO} (r : Rs K S H) (h : H p = none) (k : MoOk K (sup S p m) (upd H p o) m o) : Rs K (sup S p m) (upd H p o) := fun a u e => by
  by_cases q : a = p
  · subst q
    rw [sup_same] at e
    cases e
    exact ⟨o, upd_same, k⟩
  · rw [sup_ne q] at e
    obtain ⟨w, e1, e2⟩ := r a u e
    exact ⟨w, by rw [upd_ne q]; exact e1, e2.mono (fr_live h)⟩
/-- a live object changes -/
def MO.z : MO → Bool
  | .zK _ => true | .zT _ => true | _ => false
theorem rs_nofrz {p : Addr} {m0 : MO} (r : Rs K S H) (h : S p = some m0) (z : m0.z = false) : ∀ o u, H p ≠ some (.frz o u) := fun o u e => by
  obtain ⟨w, e1, e2⟩ := r p _ h
  rw [e] at e1
  cases e1
  cases m0 <;> first | exact (show False from e2) | cases z
theorem fr_mut {p : Addr} {o : HO} {m m0 : MO} (r : Rs K S H) (h : S p = some m0) (z : m0.z = false := by rfl) : Fr S H (sup S p m) (upd H p o) := ⟨fun a u e s => by
  have n : a ≠ p := fun z => by rw [z, h] at s; cases s
  exact ⟨by rw [upd_ne n]; exact e, by rw [sup_ne n]; exact s⟩, fun a u v e => by
  have n : a ≠ p := fun q => rs_nofrz r h z u v (by rw [← q]; exact e)
  rw [upd_ne n]; exact e⟩
theorem rs_mut {p : Addr} {o : HO} {m m0 : MO} (r : Rs K S H) (h : S p = some m0) (k : MoOk K (sup S p m) (upd H p o) m o) (z : m0.z = false := by rfl) : Rs K (sup S p m) (upd H p o) := fun a u e => by
  by_cases q : a = p
  · subst q
    rw [sup_same] at e
    cases e
    exact ⟨o, upd_same, k⟩
  · rw [sup_ne q] at e
    obtain ⟨w, e1, e2⟩ := r a u e
    exact ⟨w, by rw [upd_ne q]; exact e1, e2.mono (fr_mut r h z)⟩
/-- a live object is live no more -/
theorem fr_del {p : Addr} : Fr S H (sdel S p) H := ⟨fun a u e s => ⟨e, by unfold sdel; split; rfl; exact s⟩, fun _ _ _ e => e⟩
theorem rs_del {p : Addr} (r : Rs K S H) : Rs K (sdel S p) H := fun a u e => by
  unfold sdel at e
  split at e
  · cases e
  · obtain ⟨w, e1, e2⟩ := r a u e
    exact ⟨w, e1, e2.mono fr_del⟩
theorem sdel_at {p : Addr} : sdel S p p = none := by unfold sdel; rw [if_pos rfl]
/-- .. and read as data -/
theorem dv_frz {p : Addr} (r : Rs K S H) (h : S p = some (.lst ds)) : Dv K (sdel S p) H (.ref p) (.lst ds) := by
  obtain ⟨u, e1, e2⟩ := r p _ h
  cases u with
  | lst vs => exact .lst sdel_at (.inl e1) (DvA.mono fr_del e2)
  | _ => exact (show False from e2).elim
theorem rs_lst {p : Addr} (r : Rs K S H) (h : S p = some (.lst ds)) : ∃ vs, H p = some (.lst vs) ∧ DvA K S H vs ds := by
  obtain ⟨u, e1, e2⟩ := r p _ h
  cases u with
  | lst vs => exact ⟨vs, e1, e2⟩
  | _ => exact (show False from e2).elim
theorem rs_ins {p C : Addr} {fd : List (Str × D)} (r : Rs K S H) (h : S p = some (.ins C fd)) : ∃ dx fv, H p = some (.ins C dx fv) ∧ KvD K S H fd fv := by
  obtain ⟨u, e1, e2⟩ := r p _ h
  cases u with
  | ins C' dx fv =>
    obtain ⟨rfl, e3⟩ : C = C' ∧ _ := e2
    exact ⟨dx, fv, e1, e3⟩
  | _ => exact (show False from e2).elim
end

/-! ### exceptions -/
structure XD where
  C : Addr
  fs : Option (List (Str × D))
def XRel (K : PySem.W.Frag) (S : Hs) (H : Hp) (cls : Value) (dx : Option Addr) (x : XD) : Prop :=
  cls = .ref x.C ∧ match dx, x.fs with
    | none, none => True
    | some p, some fs => ∃ vs, H p = some (.xd vs) ∧ KvD K S H fs vs
    | _, _ => False

/-! ### wishes -/
abbrev QD := D → Hs → Prop
abbrev XQ := XD → Hs → Prop
def EndQ (K : PySem.W.Frag) (S : Hs) (H : Hp) (Q' : QD) (Q : VK) : Prop := ∀ v H' d S', Rs K S' H' → Fr S H S' H' → Dv K S' H' v d → Q' d S' → Q v H'
def EndX (K : PySem.W.Frag) (S : Hs) (H : Hp) (X' : XQ) (E : XK) : Prop := ∀ cls dx H' x S', Rs K S' H' → Fr S H S' H' → XRel K S' H' cls dx x → X' x S' → E cls dx H'
/-- an expression's wish: by the names, the live objects -/
abbrev WE := List (Option D) → Hs → QD → XQ → Prop
abbrev WB := List (Option D) → Hs → (Bool → Hs → Prop) → XQ → Prop
abbrev WA := List (Option D) → Hs → (List D → Hs → Prop) → XQ → Prop
def tDE (K : PySem.W.Frag) (W : WX) (w : WE) : TE := fun σ H Q => ∃ ρ S Q' X', Rs K S H ∧ Rr K S H σ ρ ∧ w ρ S Q' X' ∧ EndQ K S H Q' Q ∧ EndX K S H X' (fun c d H' => W c d σ H')
def tDB (K : PySem.W.Frag) (W : WX) (w : WB) : TT := fun σ H Q => ∃ ρ S Q' X', Rs K S H ∧ Rr K S H σ ρ ∧ w ρ S Q' X' ∧ (∀ b H' S', Rs K S' H' → Fr S H S' H' → Q' b S' → Q b H') ∧ EndX K S H X' (fun c d H' => W c d σ H')
def tDA (K : PySem.W.Frag) (W : WX) (w : WA) : TA := fun σ H Q => ∃ ρ S Q' X', Rs K S H ∧ Rr K S H σ ρ ∧ w ρ S Q' X' ∧ (∀ vs H' ds S', Rs K S' H' → Fr S H S' H' → DvA K S' H' vs ds → Q' ds S' → Q vs H') ∧ EndX K S H X' (fun c d H' => W c d σ H')
structure DE where
  nx : List (Option D) → Hs → Prop
  rt : QD
  bk : List (Option D) → Hs → Prop := fun _ _ => False
  ct : List (Option D) → Hs → Prop := fun _ _ => False
  ex : XD → List (Option D) → Hs → Prop := fun _ _ _ => False
abbrev WT := DE → List (Option D) → Hs → Prop
def tDT (K : PySem.W.Frag) (W : WX) (w : WT) : TS := fun D0 σ H => ∃ ρ S D', Rs K S H ∧ Rr K S H σ ρ ∧ w D' ρ S ∧
  (∀ σ' H' ρ' S', Rs K S' H' → Fr S H S' H' → Rr K S' H' σ' ρ' → D'.nx ρ' S' → D0.nx σ' H') ∧
  (∀ σ' H' ρ' S', Rs K S' H' → Fr S H S' H' → Rr K S' H' σ' ρ' → D'.bk ρ' S' → D0.bk σ' H') ∧
  (∀ σ' H' ρ' S', Rs K S' H' → Fr S H S' H' → Rr K S' H' σ' ρ' → D'.ct ρ' S' → D0.ct σ' H') ∧
  (∀ v H' d S', Rs K S' H' → Fr S H S' H' → Dv K S' H' v d → D'.rt d S' → D0.rt v H') ∧
  (∀ cls dx σ' H' x ρ' S', Rs K S' H' → Fr S H S' H' → Rr K S' H' σ' ρ' → XRel K S' H' cls dx x → D'.ex x ρ' S' → W cls dx σ' H')

theorem _root_.L2.PE.imp {X : Cx} {e : Expr} {t t' : TE} (h : PE X e t) (k : ∀ σ H Q, t' σ H Q → t σ H Q) : PE X e t' := ⟨fun pins s σ H Q I q => h.run pins s σ H Q I (k _ _ _ q)⟩
theorem _root_.L2.PT.imp {X : Cx} {e : Expr} {t t' : TT} (h : PT X e t) (k : ∀ σ H Q, t' σ H Q → t σ H Q) : PT X e t' := ⟨fun pins s σ H Q I q => h.run pins s σ H Q I (k _ _ _ q)⟩
theorem _root_.L2.PA.imp {X : Cx} {e : List Expr} {t t' : TA} (h : PA X e t) (k : ∀ σ H Q, t' σ H Q → t σ H Q) : PA X e t' := ⟨fun pos pins s σ H Q I q => h.run pos pins s σ H Q I (k _ _ _ q)⟩
theorem _root_.L2.PS.imp {X : Cx} {e : Stmt} {t t' : TS} (h : PS X e t) (k : ∀ σ H Q, t' σ H Q → t σ H Q) : PS X e t' := ⟨fun pins s σ H Q I q => h.run pins s σ H Q I (k _ _ _ q)⟩
theorem _root_.L2.PSs.imp {X : Cx} {e : List Stmt} {t t' : TS} (h : PSs X e t) (k : ∀ σ H Q, t' σ H Q → t σ H Q) : PSs X e t' := ⟨fun pins s σ H Q I q => h.run pins s σ H Q I (k _ _ _ q)⟩
end Dz
namespace Dz
open PySem L2

/-! ### data as the library has it -/
mutual
def D.py : D → PyData
  | .non => .none | .bl b => .bool b | .int i => .int i | .str x => .str x
  | .tup xs => .tuple (D.pys xs) | .lst xs => .list (D.pys xs)
  | .ctp xs => .tuple (D.pys xs)
  | .ref _ => .dict [] | .ty _ => .dict []
def D.pys : List D → List PyData
  | [] => [] | x :: r => x.py :: D.pys r
end
mutual
def D.pure : D → Bool
  | .non => true | .bl _ => true | .int _ => true | .str _ => true
  | .tup xs => D.pures xs | .lst xs => D.pures xs
  | .ctp xs => D.pures xs
  | .ref _ => false | .ty _ => false
def D.pures : List D → Bool
  | [] => true | x :: r => x.pure && D.pures r
end
def D.ok (d : D) : Bool := d.pure && SeqAt.shaped d.py
def D.eq (d e : D) : Bool := PyData.eqv d.py e.py
/-- a list, frozen or live -/
def lstOf (S : Hs) : D → Option (List D)
  | .lst xs => some xs
  | .ref a => match S a with | some (.lst xs) => some xs | _ => none
  | _ => none
/-- a list or a tuple -/
def seqOf (S : Hs) : D → Option (List D)
  | .tup xs => some xs
  | .ctp xs => some xs
  | d => lstOf S d
/-! ### dicts, by data -/
def keyD : Key → D
  | .inl i => .int i | .inr x => .str x
def D.key : D → Option Key
  | .int i => some (.inl i) | .str x => some (.inr x) | _ => none
def keysOf : List D → Option (List Key)
  | [] => some []
  | d :: r => match d.key, keysOf r with
    | some k, some ks => some (k :: ks)
    | _, _ => none
section
variable {κ : Type} [DecidableEq κ]
def valD (kvs : List (κ × D)) (k : κ) : Option D := (kvs.find? fun kv => decide (kv.1 = k)).map (·.2)
def putD (kvs : List (κ × D)) (k : κ) (v : D) : List (κ × D) :=
  if (kvs.any fun kv => decide (kv.1 = k)) = true then kvs.map (fun kv => if kv.1 = k then (kv.1, v) else kv) else kvs ++ [(k, v)]
def dropD (kvs : List (κ × D)) (k : κ) : List (κ × D) := kvs.filter fun kv => decide (kv.1 ≠ k)
def mergeD (kvs more : List (κ × D)) : List (κ × D) := more.foldl (fun acc kv => putD acc kv.1 kv.2) kvs
end
/-- what the dict at a holds at the key d -/
def dgetR (S : Hs) (a : Addr) (d : D) (o : Option D) : Prop :=
  (∃ kvs k, (S a = some (.dK kvs) ∨ S a = some (.zK kvs)) ∧ d.key = some k ∧ o = valD kvs k) ∨
  ∃ kvs ds k, (S a = some (.dT kvs) ∨ S a = some (.zT kvs)) ∧ d = .tup ds ∧ keysOf ds = some k ∧ o = valD kvs k
def dputR (S : Hs) (a : Addr) (d v : D) (Q : Hs → Prop) : Prop :=
  (∃ kvs k, S a = some (.dK kvs) ∧ d.key = some k ∧ kvs.length < sizeLine ∧ Q (sup S a (.dK (putD kvs k v)))) ∨
  ∃ kvs ds k, S a = some (.dT kvs) ∧ d = .tup ds ∧ keysOf ds = some k ∧ kvs.length < sizeLine ∧ Q (sup S a (.dT (putD kvs k v)))
section
variable {K : PySem.W.Frag} {S S' : Hs} {H H' : Hp} {v : V} {d : D} {κ : Type} [DecidableEq κ] {kd : List (κ × D)} {kv : List (κ × V)}
theorem key_V {k : Key} (h : Dv K S H v d) (e : d.key = some k) : v = kV k := by
  cases h <;> first | (cases e; rfl) | cases e
theorem keyD_dv (k : Key) : Dv K S H (kV k) (keyD k) := by
  cases k
  · exact .int _
  · exact .str _
theorem keys_V : ∀ {vs : List V} {ds : List D} {ks : List Key}, DvA K S H vs ds → keysOf ds = some ks → vs = ks.map kV
  | _, _, _, .nil, e => by cases e; rfl
  | _, _, _, .cons a b, e => by
    unfold keysOf at e
    split at e
    · rename_i e1 e2
      cases e
      rw [List.map_cons, key_V a e1, keys_V b e2]
    · cases e
theorem kvd_val (h : KvD K S H kd kv) (k : κ) : match valD kd k, valV kv k with
    | some x, some y => Dv K S H y x
    | none, none => True
    | _, _ => False := by
  unfold KvD at h
  induction h with
  | nil => trivial
  | @cons p q ps qs hd tl ih =>
    unfold valD valV at ih ⊢
    rw [List.find?_cons, List.find?_cons]
    rw [← hd.1]
    by_cases e : p.1 = k
    · simp only [e, decide_true]
      exact hd.2
    · simp only [e, decide_false]
      exact ih
theorem kvd_any (h : KvD K S H kd kv) (k : κ) : (kd.any fun x => decide (x.1 = k)) = kv.any fun x => decide (x.1 = k) := by
  unfold KvD at h
  induction h with
  | nil => rfl
  | @cons p q ps qs hd tl ih => rw [List.any_cons, List.any_cons, ih, hd.1]
theorem kvd_append {kd2 : List (κ × D)} {kv2 : List (κ × V)} (h : KvD K S H kd kv) (h2 : KvD K S H kd2 kv2) : KvD K S H (kd ++ kd2) (kv ++ kv2) := by
  unfold KvD at h h2 ⊢
  induction h with
  | nil => exact h2
  | cons hd tl ih => exact .cons hd ih
theorem kvd_map (h : KvD K S H kd kv) (k : κ) {x : D} (hv : Dv K S H v x) : KvD K S H (kd.map fun p => if p.1 = k then (p.1, x) else p) (kv.map fun p => if p.1 = k then (p.1, v) else p) := by
  unfold KvD at h ⊢
  induction h with
  | nil => exact .nil
  | @cons p q ps qs hd tl ih =>
    rw [List.map_cons, List.map_cons]
    refine .cons ?_ ih
    by_cases e : p.1 = k
    · rw [if_pos e, if_pos (hd.1 ▸ e)]
      exact ⟨hd.1, hv⟩
    · rw [if_neg e, if_neg (hd.1 ▸ e)]
      exact hd
theorem kvd_put (h : KvD K S H kd kv) (k : κ) {x : D} (hv : Dv K S H v x) : KvD K S H (putD kd k x) (putK kv k v) := by
  unfold putD putK
  rw [kvd_any h k]
  split
  · exact kvd_map h k hv
  · exact kvd_append h (.cons ⟨rfl, hv⟩ .nil)
theorem kvd_merge {K : PySem.W.Frag} {S : Hs} {H : Hp} {kd : List (Key × D)} {kv : List (Key × V)} (h : KvD K S H kd kv) : ∀ {md : List (Key × D)} {mv : List (Key × V)}, KvD K S H md mv → KvD K S H (mergeD md kd) (mergeK mv kv) := by
  unfold KvD at h
  induction h with
  | nil => intro md mv q; exact q
  | @cons p q ps qs hd tl ih =>
    intro md mv z
    show KvD K S H (mergeD (putD md p.1 p.2) ps) (mergeK (putK mv q.1 q.2) qs)
    rw [← hd.1]
    exact ih (kvd_put z p.1 hd.2)
theorem kvd_drop (h : KvD K S H kd kv) (k : κ) : KvD K S H (dropD kd k) (dropK kv k) := by
  unfold KvD at h ⊢
  unfold dropD dropK
  induction h with
  | nil => exact .nil
  | @cons p q ps qs hd tl ih =>
    rw [List.filter_cons, List.filter_cons, ← hd.1]
    split
    · exact .cons hd ih
    · exact ih
theorem kvd_len (h : KvD K S H kd kv) : kd.length = kv.length := Paired.length h
theorem rs_dk {a : Addr} {kvs : List (Key × D)} (r : Rs K S H) (h : S a = some (.dK kvs)) : ∃ kv, H a = some (.dK kv) ∧ KvD K S H kvs kv := by
  obtain ⟨u, e1, e2⟩ := r a _ h
  cases u with
  | dK kv => exact ⟨kv, e1, e2⟩
  | _ => exact (show False from e2).elim
theorem rs_dt {a : Addr} {kvs : List (List Key × D)} (r : Rs K S H) (h : S a = some (.dT kvs)) : ∃ kv, H a = some (.dT kv) ∧ KvD K S H kvs kv := by
  obtain ⟨u, e1, e2⟩ := r a _ h
  cases u with
  | dT kv => exact ⟨kv, e1, e2⟩
  | _ => exact (show False from e2).elim
theorem rs_zk {a : Addr} {kvs : List (Key × D)} (r : Rs K S H) (h : S a = some (.zK kvs)) : ∃ od kv, H a = some (.frz od (.dK kv)) ∧ KvD K S H kvs kv := by
  obtain ⟨u, e1, e2⟩ := r a _ h
  obtain ⟨od, kv, rfl, e3⟩ := e2.zk
  exact ⟨od, kv, e1, e3⟩
theorem rs_zt {a : Addr} {kvs : List (List Key × D)} (r : Rs K S H) (h : S a = some (.zT kvs)) : ∃ od kv, H a = some (.frz od (.dT kv)) ∧ KvD K S H kvs kv := by
  obtain ⟨u, e1, e2⟩ := r a _ h
  obtain ⟨od, kv, rfl, e3⟩ := e2.zt
  exact ⟨od, kv, e1, e3⟩
theorem rs_kd {a : Addr} {kvs : List (Key × D)} (r : Rs K S H) (h : S a = some (.dK kvs) ∨ S a = some (.zK kvs)) : ∃ kv, Rd H a (.dK kv) ∧ KvD K S H kvs kv := by
  rcases h with h | h
  · obtain ⟨kv, e1, e2⟩ := rs_dk r h
    exact ⟨kv, .inl e1, e2⟩
  · obtain ⟨od, kv, e1, e2⟩ := rs_zk r h
    exact ⟨kv, .inr ⟨od, e1⟩, e2⟩
theorem rs_td {a : Addr} {kvs : List (List Key × D)} (r : Rs K S H) (h : S a = some (.dT kvs) ∨ S a = some (.zT kvs)) : ∃ kv, Rd H a (.dT kv) ∧ KvD K S H kvs kv := by
  rcases h with h | h
  · obtain ⟨kv, e1, e2⟩ := rs_dt r h
    exact ⟨kv, .inl e1, e2⟩
  · obtain ⟨od, kv, e1, e2⟩ := rs_zt r h
    exact ⟨kv, .inr ⟨od, e1⟩, e2⟩
end
section
variable {K : PySem.W.Frag} {S S' : Hs} {H H' : Hp} {v : V} {d : D} {vs : List V} {ds : List D}
mutual
theorem Dv.dp : ∀ {v : V} {d : D}, Dv K S H v d → d.pure = true → Dp K H v d.py
  | _, _, .non, _ => .non
  | _, _, .bl b, _ => .bl b
  | _, _, .int i, _ => .int i
  | _, _, .str x, _ => .str x
  | _, _, .ty n, h => by cases h
  | _, _, .ref a, h => by cases h
  | _, _, .lst s h t, p => .lst (.inl h) (DvA.dp t p)
  | _, _, .lstK h t, p => .lst (.inr h) (DvA.dp t p)
  | _, _, .tup s h t, p => .tup (.inl (.inl h)) (DvA.dp t p)
  | _, _, .tupK h t, p => .tup (.inr h) (DvA.dp t p)
theorem DvA.dp : ∀ {vs : List V} {ds : List D}, DvA K S H vs ds → D.pures ds = true → DpAll K H vs (D.pys ds)
  | _, _, .nil, _ => .nil
  | _, _, .cons a b, h => by
    unfold D.pures at h
    rw [Bool.and_eq_true] at h
    exact .cons (Dv.dp a h.1) (DvA.dp b h.2)
end
theorem lstOf_ok (r : Rs K S H) (h : Dv K S H v d) (e : lstOf S d = some ds) : ∃ a vs, v = .ref a ∧ SqL K H a vs ∧ DvA K S H vs ds := by
  cases d with
  | lst xs =>
    cases e
    exact h.of_lst
  | ref a =>
    cases h
    unfold lstOf at e
    simp only at e
    split at e
    · rename_i q
      cases e
      obtain ⟨vs, e1, e2⟩ := rs_lst r q
      exact ⟨a, vs, rfl, .of e1, e2⟩
    · cases e
  | _ => cases e
theorem seqOf_ok (r : Rs K S H) (h : Dv K S H v d) (e : seqOf S d = some ds) : ∃ a vs, v = .ref a ∧ (SqL K H a vs ∨ SqT K H a vs) ∧ DvA K S H vs ds := by
  cases d with
  | tup xs =>
    cases e
    obtain ⟨a, vs, e1, e2, e3⟩ := h.of_tup
    exact ⟨a, vs, e1, .inr e2, e3⟩
  | ctp xs =>
    cases e
    obtain ⟨a, vs, e1, e2, e3⟩ := h.of_ctp
    exact ⟨a, vs, e1, .inr e2, e3⟩
  | lst xs =>
    obtain ⟨a, vs, e1, e2, e3⟩ := lstOf_ok r h (show lstOf S (.lst xs) = some ds from e)
    exact ⟨a, vs, e1, .inl e2, e3⟩
  | ref a =>
    obtain ⟨a, vs, e1, e2, e3⟩ := lstOf_ok r h (show lstOf S (.ref a) = some ds from e)
    exact ⟨a, vs, e1, .inl e2, e3⟩
  | _ => cases e
end
/-- a new list: nobody changes it, or it is live -/
def NewL (xs : List D) (S : Hs) (Q : QD) : Prop := Q (.lst xs) S ∨ ∀ p, S p = none → Q (.ref p) (sup S p (.lst xs))
section
variable {K : PySem.W.Frag} {S S' : Hs} {H H' : Hp} {v : V} {d : D} {vs : List V} {ds : List D} {Q' : QD} {Q : VK}
theorem newL_ok (r : Rs K S H) (a : DvA K S H vs ds) (q : NewL ds S Q') (e : EndQ K S H Q' Q) : ∀ p, H p = none → Q (.ref p) (upd H p (.lst vs)) := fun p hp => by
  rcases q with q | q
  · exact e _ _ _ _ (rs_new r hp) (fr_new hp) (.lst (r.free hp) (.inl upd_same) (a.mono (fr_new hp))) q
  · exact e _ _ _ _ (rs_live (m := .lst ds) (o := .lst vs) r hp (show DvA K _ _ vs ds from a.mono (fr_live hp))) (fr_live hp) (.ref p) (q p (r.free hp))
theorem newT_ok (r : Rs K S H) (a : DvA K S H vs ds) (q : Q' (.tup ds) S) (e : EndQ K S H Q' Q) : ∀ p, H p = none → Q (.ref p) (upd H p (.tup vs)) := fun p hp =>
  e _ _ _ _ (rs_new r hp) (fr_new hp) (.tup (r.free hp) upd_same (a.mono (fr_new hp))) q
/-- a value without an address -/
theorem end_now (r : Rs K S H) (x : Dv K S H v d) (q : Q' d S) (e : EndQ K S H Q' Q) : Q v H := e _ _ _ _ r (Fr.refl S H) x q
end

section
variable {K : PySem.W.Frag} {S S' : Hs} {H H' : Hp} {y v : V} {d e : D} {a : Addr} {o : Option D}
def OD (K : PySem.W.Frag) (S : Hs) (H : Hp) : Option D → Option V → Prop
  | some x, some y => Dv K S H y x
  | none, none => True
  | _, _ => False
theorem od_val {κ : Type} [DecidableEq κ] {kd : List (κ × D)} {kv : List (κ × V)} (h : KvD K S H kd kv) (k : κ) : OD K S H (valD kd k) (valV kv k) := by
  have := kvd_val h k
  unfold OD
  cases e1 : valD kd k <;> cases e2 : valV kv k <;> rw [e1, e2] at this <;> exact this
theorem OD.same {p : Option V} (h : OD K S H o p) : p.isSome = o.isSome := by
  cases o <;> cases p <;> first | rfl | exact h.elim
theorem OD.mono (f : Fr S H S' H') {p : Option V} (h : OD K S H o p) : OD K S' H' o p := by
  cases o <;> cases p <;> first | exact h | exact Dv.mono f h
theorem dget_ok (r : Rs K S H) (hy : Dv K S H y d) (h : dgetR S a d o) : ∃ p, DGet H a y p ∧ OD K S H o p := by
  rcases h with ⟨kvs, k, h, ek, rfl⟩ | ⟨kvs, ds, k, h, rfl, ek, rfl⟩
  · obtain ⟨kv, e1, e2⟩ := rs_kd r h
    exact ⟨_, .inl ⟨kv, k, e1, key_V hy ek, rfl⟩, od_val e2 k⟩
  · obtain ⟨kv, e1, e2⟩ := rs_td r h
    obtain ⟨b, vs, rfl, e3, e4⟩ := hy.made
    rw [keys_V e4 ek] at e3
    exact ⟨_, .inr ⟨kv, k, b, e1, rfl, e3, rfl⟩, od_val e2 k⟩
theorem dput_ok {Q : Hs → Prop} (r : Rs K S H) (hy : Dv K S H y d) (hv : Dv K S H v e) (h : dputR S a d e Q) : ∃ H' S', DPut H a y v H' ∧ Rs K S' H' ∧ Fr S H S' H' ∧ Q S' := by
  rcases h with ⟨kvs, k, h, ek, hl, q⟩ | ⟨kvs, ds, k, h, rfl, ek, hl, q⟩
  · obtain ⟨kv, e1, e2⟩ := rs_dk r h
    refine ⟨_, _, .inl ⟨kv, k, e1, key_V hy ek, by rw [← kvd_len e2]; exact hl, rfl⟩, ?_, fr_mut r h, q⟩
    exact rs_mut r h (show KvD K _ _ _ _ from KvD.mono (fr_mut r h) (kvd_put e2 k hv))
  · obtain ⟨kv, e1, e2⟩ := rs_dt r h
    obtain ⟨b, vs, rfl, e3, e4⟩ := hy.made
    rw [keys_V e4 ek] at e3
    refine ⟨_, _, .inr ⟨kv, k, b, e1, rfl, e3, by rw [← kvd_len e2]; exact hl, rfl⟩, ?_, fr_mut r h, q⟩
    exact rs_mut r h (show KvD K _ _ _ _ from KvD.mono (fr_mut r h) (kvd_put e2 k hv))
end
/-! ### an operation on values: by data -/
abbrev OW := List D → Hs → QD → Prop
def rO (K : PySem.W.Frag) (f : OW) : List V → Hp → VK → Prop := fun vs H Q => ∃ ds S Q', Rs K S H ∧ DvA K S H vs ds ∧ f ds S Q' ∧ EndQ K S H Q' Q

/-! two-place operators -/
def addW : D → D → Hs → QD → Prop
  | .int i, .int j, S, Q => Q (.int (i + j)) S
  | .str x, .str y, S, Q => x.length + y.length ≤ sizeLine ∧ Q (.str (x ++ y)) S
  | .tup xs, .tup ys, S, Q => xs.length + ys.length ≤ sizeLine ∧ Q (.tup (xs ++ ys)) S
  | a, b, S, Q => ∃ xs ys, lstOf S a = some xs ∧ lstOf S b = some ys ∧ xs.length + ys.length ≤ sizeLine ∧ NewL (xs ++ ys) S Q
def subW : D → D → Hs → QD → Prop
  | .int i, .int j, S, Q => Q (.int (i - j)) S
  | _, _, _, _ => False
def mulW : D → D → Hs → QD → Prop
  | .int i, .int j, S, Q => (CMul i j ∨ CMulW i j) ∧ Q (.int (i * j)) S
  | .ref a, .int k, S, Q => ∃ xs, S a = some (.lst xs) ∧ -(2 ^ 63) ≤ k ∧ k < 2 ^ 63 ∧ xs.length * k.toNat ≤ sizeLine ∧ NewL (List.replicate k.toNat xs).flatten (sdel S a) Q
  | _, _, _, _ => False
def fdivW : D → D → Hs → QD → Prop
  | .int i, .int j, S, Q => CDivW i j ∧ Q (.int (i / j)) S
  | _, _, _, _ => False
def modW : D → D → Hs → QD → Prop
  | .int i, .int j, S, Q => 0 < j ∧ Q (.int (i % j)) S
  | _, _, _, _ => False
def powW : D → D → Hs → QD → Prop
  | .int i, .int j, S, Q => CPow i j ∧ Q (.int (i ^ j.toNat)) S
  | _, _, _, _ => False
def ltW : D → D → Hs → QD → Prop
  | .int i, .int j, S, Q => Q (.bl (decide (i < j))) S
  | .str x, .str y, S, Q => Q (.bl (decide (x.cps.toList < y.cps.toList))) S
  | _, _, _, _ => False
def leW : D → D → Hs → QD → Prop
  | .int i, .int j, S, Q => Q (.bl (decide (i ≤ j))) S
  | .str x, .str y, S, Q => Q (.bl (!decide (y.cps.toList < x.cps.toList))) S
  | _, _, _, _ => False
def gtW : D → D → Hs → QD → Prop
  | .int i, .int j, S, Q => Q (.bl (decide (j < i))) S
  | .str x, .str y, S, Q => Q (.bl (decide (y.cps.toList < x.cps.toList))) S
  | _, _, _, _ => False
def geW : D → D → Hs → QD → Prop
  | .int i, .int j, S, Q => Q (.bl (decide (j ≤ i))) S
  | .str x, .str y, S, Q => Q (.bl (!decide (x.cps.toList < y.cps.toList))) S
  | _, _, _, _ => False
def eqW (d e : D) (S : Hs) (Q : QD) : Prop := d.ok = true ∧ e.ok = true ∧ Q (.bl (D.eq d e)) S
def neW (d e : D) (S : Hs) (Q : QD) : Prop := d.ok = true ∧ e.ok = true ∧ Q (.bl (!D.eq d e)) S
def isNone : D → Bool
  | .non => true
  | _ => false
/-- is None, is True, is False -/
def isNW : D → D → Hs → QD → Prop
  | d, .non, S, Q => Q (.bl (isNone d)) S
  | .bl a, .bl b, S, Q => Q (.bl (decide (a = b))) S
  | _, _, _, _ => False
def notNW : D → D → Hs → QD → Prop
  | d, .non, S, Q => Q (.bl (!isNone d)) S
  | .bl a, .bl b, S, Q => Q (.bl (!decide (a = b))) S
  | _, _, _, _ => False

def D.flat : D → Bool
  | .non => true | .bl _ => true | .int _ => true | .str _ => true | _ => false
/-- x in y: a sign in a text; a thing in a frozen list of data; a flat one in a list or a tuple of flat ones -/
def inR (S : Hs) : D → D → Bool → Prop
  | .str x, .str y, b => ∃ c, x = ⟨#[c]⟩ ∧ b = decide (c ∈ y.cps.toList)
  | d, .lst xs, b => (d.ok = true ∧ D.ok (.lst xs) = true ∧ b = xs.any fun z => D.eq z d)
  | d, .tup xs, b => d.flat = true ∧ xs.all D.flat = true ∧ b = xs.any fun z => D.eq z d
  | d, .ctp xs, b => d.flat = true ∧ xs.all D.flat = true ∧ b = xs.any fun z => D.eq z d
  | d, .ref a, b => (∃ xs, S a = some (.lst xs) ∧ d.flat = true ∧ xs.all D.flat = true ∧ b = xs.any fun z => D.eq z d) ∨ ∃ o, dgetR S a d o ∧ b = o.isSome
  | _, _, _ => False
def inW (d e : D) (S : Hs) (Q : QD) : Prop := ∃ b, inR S d e b ∧ Q (.bl b) S
def notInW (d e : D) (S : Hs) (Q : QD) : Prop := ∃ b, inR S d e b ∧ Q (.bl (!b)) S
def two (f : D → D → Hs → QD → Prop) : OW := fun ds S Q => match ds with
  | [a, b] => f a b S Q
  | _ => False
def one (f : D → Hs → QD → Prop) : OW := fun ds S Q => match ds with
  | [a] => f a S Q
  | _ => False

section
variable {X : Cx}
/-- list + list, however they stand -/
def rCatG (K : PySem.W.Frag) : R2 := fun x y H Q => ∃ l b xs zs, x = .ref l ∧ y = .ref b ∧ SqL K H l xs ∧ SqL K H b zs ∧ xs.length + zs.length ≤ sizeLine ∧ ∀ p, H p = none → Q (.ref p) (upd H p (.lst (xs ++ zs)))
theorem op_catG : OpR X (binaryOp .Add) (rCatG X.K) := by
  intro pins s σ H x y v u Q I rx ry h
  obtain ⟨l, b, xs, zs, rfl, rfl, hH, hB, hz, q⟩ := h
  cases rx
  cases ry
  obtain ⟨its, r, ⟨o, n, ho, hc, hd, hdt⟩, z⟩ := I.list hH
  obtain ⟨its2, r2, ⟨o2, n2, ho2, hc2, hd2, hdt2⟩, z2⟩ := I.list hB
  obtain ⟨cls, dd, data, sl⟩ := o
  obtain ⟨cls2, dd2, data2, sl2⟩ := o2
  simp only at hc hd hdt hc2 hd2 hdt2
  subst hc hd hdt hc2 hd2 hdt2
  have e : its.toArray ++ its2.toArray = (its ++ its2).toArray := by simp
  have hl := r.length
  have hl2 := r2.length
  refine concat_meets ⟨_, ho, rfl⟩ ⟨_, ho2, rfl⟩ noFill_list_add seq_list_add PySem.F.slot_list_add PySem.F.entry_list_add (PySem.F.args_list_add_2 _ _) (PyProof.Rows.list_addW l b its.toArray its2.toArray n n2 none none sl sl2 (by simp only [List.size_toArray]; omega)) ⟨ho, ho2, ?_⟩
  rw [e]
  exact ⟨.ref _, _, I.lnew (t' := s.toks) (r.append r2) (by rw [List.length_append]; omega), rfl, q _ I.fresh⟩
/-- by cases on the data -/
theorem op2 {f : Value → Value → Sem Value} {g : D → D → Hs → QD → Prop}
    (h : ∀ (pins : List (Addr × Obj)) (s : Shared) (σ : L2.St) (H : Hp) (x y : V) (v u : Value) (Q : VK) (d e : D) (S : Hs) (Q' : QD), Inv X pins σ H s → RelV x v → RelV y u → Rs X.K S H → Dv X.K S H x d → Dv X.K S H y e → g d e S Q' → EndQ X.K S H Q' Q →
      wpAny (model X.prog X.w) X.A (f v u) (EP X pins σ Q) X.xe s) : OpR X f (fun x y H Q => rO X.K (two g) [x, y] H Q) := by
  intro pins s σ H x y v u Q I rx ry q
  obtain ⟨ds, S, Q', r, da, hg, e⟩ := q
  cases da with
  | cons h1 t1 =>
    cases t1 with
    | cons h2 t2 =>
      cases t2
      exact h pins s σ H x y v u Q _ _ S Q' I rx ry r h1 h2 hg e
theorem o_add : OpR X (binaryOp .Add) (fun x y H Q => rO X.K (two addW) [x, y] H Q) := op2 fun pins s σ H x y v u Q d e S Q' I rx ry r hx hy g k => by
  have lists : ∀ {d e : D}, Dv X.K S H x d → Dv X.K S H y e → (∃ xs ys, lstOf S d = some xs ∧ lstOf S e = some ys ∧ xs.length + ys.length ≤ sizeLine ∧ NewL (xs ++ ys) S Q') → wpAny (model X.prog X.w) X.A (binaryOp .Add v u) (EP X pins σ Q) X.xe s := fun {d e} hx hy ⟨xs, ys, e1, e2, z, n⟩ => by
    obtain ⟨a, vs, rfl, q1, q2⟩ := lstOf_ok r hx e1
    obtain ⟨b, ws, rfl, q3, q4⟩ := lstOf_ok r hy e2
    exact op_catG pins s σ H _ _ v u Q I rx ry ⟨a, b, vs, ws, rfl, rfl, q1, q3, by rw [q2.len, q4.len]; exact z, newL_ok r (q2.append q4) n k⟩
  cases d with
  | int i =>
    cases e with
    | int j =>
      cases hx
      cases hy
      exact op_add pins s σ H _ _ v u Q I rx ry ⟨i, j, rfl, rfl, end_now r (.int _) g k⟩
    | _ => exact lists hx hy g
  | str i =>
    cases e with
    | str j =>
      cases hx
      cases hy
      exact op_add_str pins s σ H _ _ v u Q I rx ry ⟨i, j, rfl, rfl, g.1, end_now r (.str _) g.2 k⟩
    | _ => exact lists hx hy g
  | tup xs =>
    cases e with
    | tup ys =>
      obtain ⟨z, q⟩ : xs.length + ys.length ≤ sizeLine ∧ Q' (.tup (xs ++ ys)) S := g
      obtain ⟨a, vs, rfl, q1, q2⟩ := hx.of_tup
      obtain ⟨b, ws, rfl, q3, q4⟩ := hy.of_tup
      refine op_catA pins s σ H _ _ v u Q I rx ry ⟨a, b, vs, ws, rfl, rfl, q1, q3, by rw [q2.len, q4.len]; exact z, fun e0 => ?_, fun _ e1 => ?_, fun _ _ => newT_ok r (q2.append q4) q k⟩
      · subst e0
        cases q2
        exact end_now r hy q k
      · subst e1
        cases q4
        exact end_now r hx (by rw [List.append_nil] at q; exact q) k
    | _ => exact lists hx hy g
  | _ => exact lists hx hy (by cases e <;> exact g)
theorem o_int {f : Value → Value → Sem Value} {C : Int → Int → Prop} {c : Int → Int → Int} (h : OpR X f (rI C fun i j => .int (c i j))) :
    OpR X f (fun x y H Q => rO X.K (two fun d e S Q => match d, e with | .int i, .int j => C i j ∧ Q (.int (c i j)) S | _, _ => False) [x, y] H Q) := op2 fun pins s σ H x y v u Q d e S Q' I rx ry r hx hy g k => by
  cases d <;> cases e <;> first
    | exact (show False from g).elim
    | skip
  cases hx
  cases hy
  exact h pins s σ H _ _ v u Q I rx ry ⟨_, _, rfl, rfl, g.1, end_now r (.int _) g.2 k⟩
end
end Dz
namespace Dz
open PySem L2
section
variable {X : Cx}
theorem o_sub : OpR X (binaryOp .Sub) (fun x y H Q => rO X.K (two subW) [x, y] H Q) := op2 fun pins s σ H x y v u Q d e S Q' I rx ry r hx hy g k => by
  cases d <;> cases e <;> first
    | exact (show False from g).elim
    | skip
  cases hx
  cases hy
  exact op_sub pins s σ H _ _ v u Q I rx ry ⟨_, _, rfl, rfl, end_now r (.int _) g k⟩
theorem o_fdiv : OpR X (binaryOp .FloorDiv) (fun x y H Q => rO X.K (two fdivW) [x, y] H Q) := op2 fun pins s σ H x y v u Q d e S Q' I rx ry r hx hy g k => by
  cases d <;> cases e <;> first
    | exact (show False from g).elim
    | skip
  cases hx
  cases hy
  exact op_fdivW pins s σ H _ _ v u Q I rx ry ⟨_, _, rfl, rfl, g.1, end_now r (.int _) g.2 k⟩
theorem o_mod : OpR X (binaryOp .Mod) (fun x y H Q => rO X.K (two modW) [x, y] H Q) := op2 fun pins s σ H x y v u Q d e S Q' I rx ry r hx hy g k => by
  cases d <;> cases e <;> first
    | exact (show False from g).elim
    | skip
  cases hx
  cases hy
  exact op_mod pins s σ H _ _ v u Q I rx ry ⟨_, _, rfl, rfl, g.1, end_now r (.int _) g.2 k⟩
theorem o_pow : OpR X (binaryOp .Pow) (fun x y H Q => rO X.K (two powW) [x, y] H Q) := op2 fun pins s σ H x y v u Q d e S Q' I rx ry r hx hy g k => by
  cases d <;> cases e <;> first
    | exact (show False from g).elim
    | skip
  cases hx
  cases hy
  exact op_pow pins s σ H _ _ v u Q I rx ry ⟨_, _, rfl, rfl, g.1, end_now r (.int _) g.2 k⟩
/-- live list * int: it is dropped -/
theorem o_mul : OpR X (binaryOp .Mult) (fun x y H Q => rO X.K (two mulW) [x, y] H Q) := op2 fun pins s σ H x y v u Q d e S Q' I rx ry r hx hy g k => by
  cases d <;> cases e <;> first
    | exact (show False from g).elim
    | skip
  · cases hx
    cases hy
    rcases g.1 with g1 | g1
    · exact op_mul pins s σ H _ _ v u Q I rx ry ⟨_, _, rfl, rfl, g1, end_now r (.int _) g.2 k⟩
    · exact op_mulW pins s σ H _ _ v u Q I rx ry ⟨_, _, rfl, rfl, g1, end_now r (.int _) g.2 k⟩
  · rename_i a j
    obtain ⟨xs, e1, h1, h2, z, n⟩ := g
    cases hx
    cases hy
    obtain ⟨vs, q1, q2⟩ := rs_lst r e1
    have q3 : DvA X.K S H (List.replicate j.toNat vs).flatten (List.replicate j.toNat xs).flatten := by
      generalize j.toNat = m
      induction m with
      | zero => exact .nil
      | succ m ih => simpa [List.replicate_succ] using q2.append ih
    exact op_rep pins s σ H _ _ v u Q I rx ry ⟨a, j, vs, rfl, rfl, q1, h1, h2, by rw [q2.len]; exact z, newL_ok (rs_del r) (q3.mono fr_del) n fun v' H' d' S' r' f' x' q' => k v' H' d' S' r' (fr_del.trans f') x' q'⟩

/-! comparisons -/
theorem o_lt : OpR X (compareOp .Lt) (fun x y H Q => rO X.K (two ltW) [x, y] H Q) := op2 fun pins s σ H x y v u Q d e S Q' I rx ry r hx hy g k => by
  cases d <;> cases e <;> first
    | exact (show False from g).elim
    | (cases hx; cases hy; exact op_lt pins s σ H _ _ v u Q I rx ry ⟨_, _, rfl, rfl, end_now r (.bl _) g k⟩)
    | (cases hx; cases hy; exact op_lt_str pins s σ H _ _ v u Q I rx ry ⟨_, _, rfl, rfl, end_now r (.bl _) g k⟩)
theorem o_le : OpR X (compareOp .LtE) (fun x y H Q => rO X.K (two leW) [x, y] H Q) := op2 fun pins s σ H x y v u Q d e S Q' I rx ry r hx hy g k => by
  cases d <;> cases e <;> first
    | exact (show False from g).elim
    | (cases hx; cases hy; exact op_le pins s σ H _ _ v u Q I rx ry ⟨_, _, rfl, rfl, end_now r (.bl _) g k⟩)
    | (cases hx; cases hy; exact op_le_str pins s σ H _ _ v u Q I rx ry ⟨_, _, rfl, rfl, end_now r (.bl _) g k⟩)
theorem o_gt : OpR X (compareOp .Gt) (fun x y H Q => rO X.K (two gtW) [x, y] H Q) := op2 fun pins s σ H x y v u Q d e S Q' I rx ry r hx hy g k => by
  cases d <;> cases e <;> first
    | exact (show False from g).elim
    | (cases hx; cases hy; exact op_gt pins s σ H _ _ v u Q I rx ry ⟨_, _, rfl, rfl, end_now r (.bl _) g k⟩)
    | (cases hx; cases hy; exact op_gt_str pins s σ H _ _ v u Q I rx ry ⟨_, _, rfl, rfl, end_now r (.bl _) g k⟩)
theorem o_ge : OpR X (compareOp .GtE) (fun x y H Q => rO X.K (two geW) [x, y] H Q) := op2 fun pins s σ H x y v u Q d e S Q' I rx ry r hx hy g k => by
  cases d <;> cases e <;> first
    | exact (show False from g).elim
    | (cases hx; cases hy; exact op_ge pins s σ H _ _ v u Q I rx ry ⟨_, _, rfl, rfl, end_now r (.bl _) g k⟩)
    | (cases hx; cases hy; exact op_ge_str pins s σ H _ _ v u Q I rx ry ⟨_, _, rfl, rfl, end_now r (.bl _) g k⟩)
theorem ok_pure {d : D} (h : d.ok = true) : d.pure = true := (Bool.and_eq_true_iff.mp h).1
theorem ok_shape {d : D} (h : d.ok = true) : SeqAt.shaped d.py = true := (Bool.and_eq_true_iff.mp h).2
theorem o_eq (hu : X.A.units + 64 < cLine) : OpR X (compareOp .Eq) (fun x y H Q => rO X.K (two eqW) [x, y] H Q) := op2 fun pins s σ H x y v u Q d e S Q' I rx ry r hx hy g k =>
  op_eqD hu pins s σ H _ _ v u Q I rx ry ⟨d.py, e.py, hx.dp (ok_pure g.1), hy.dp (ok_pure g.2.1), ok_shape g.1, ok_shape g.2.1, end_now r (.bl _) g.2.2 k⟩
theorem o_ne (hu : X.A.units + 64 < cLine) : OpR X (compareOp .NotEq) (fun x y H Q => rO X.K (two neW) [x, y] H Q) := op2 fun pins s σ H x y v u Q d e S Q' I rx ry r hx hy g k =>
  op_neD hu pins s σ H _ _ v u Q I rx ry ⟨d.py, e.py, hx.dp (ok_pure g.1), hy.dp (ok_pure g.2.1), ok_shape g.1, ok_shape g.2.1, end_now r (.bl _) g.2.2 k⟩
theorem isNone_V {S : Hs} {H : Hp} {v : V} {d : D} (h : Dv X.K S H v d) : isNone d = decide (v = .non) := by
  cases h <;> simp [isNone]
theorem o_isN : OpR X (compareOp .Is) (fun x y H Q => rO X.K (two isNW) [x, y] H Q) := op2 fun pins s σ H x y v u Q d e S Q' I rx ry r hx hy g k => by
  cases e with
  | non =>
    cases hy
    refine op_isN pins s σ H _ _ v u Q I rx ry ⟨rfl, ?_⟩
    rw [← isNone_V hx]
    exact end_now r (.bl _) (show Q' (.bl (isNone d)) S by cases d <;> exact g) k
  | bl b =>
    cases d with
    | bl a =>
      cases hx
      cases hy
      exact op_isBl pins s σ H _ _ v u Q I rx ry ⟨a, b, rfl, rfl, end_now r (.bl _) g k⟩
    | _ => exact (show False from g).elim
  | _ => exact (show False by cases d <;> exact g).elim
theorem o_notN : OpR X (compareOp .IsNot) (fun x y H Q => rO X.K (two notNW) [x, y] H Q) := op2 fun pins s σ H x y v u Q d e S Q' I rx ry r hx hy g k => by
  cases e with
  | non =>
    cases hy
    refine op_notN pins s σ H _ _ v u Q I rx ry ⟨rfl, ?_⟩
    rw [← isNone_V hx]
    exact end_now r (.bl _) (show Q' (.bl (!isNone d)) S by cases d <;> exact g) k
  | bl b =>
    cases d with
    | bl a =>
      cases hx
      cases hy
      exact op_notBl pins s σ H _ _ v u Q I rx ry ⟨a, b, rfl, rfl, end_now r (.bl _) g k⟩
    | _ => exact (show False from g).elim
  | _ => exact (show False by cases d <;> exact g).elim

/-! in -/
theorem flat_V {S : Hs} {H : Hp} {v : V} {d : D} (h : Dv X.K S H v d) (f : d.flat = true) : flatV v = true := by
  cases h <;> first | rfl | cases f
theorem flat_eqV {S : Hs} {H : Hp} {v w : V} {d e : D} (h : Dv X.K S H v d) (h' : Dv X.K S H w e) (f : d.flat = true) (f' : e.flat = true) : eqV w v = D.eq e d := by
  cases h <;> cases h' <;> first
    | rfl
    | cases f
    | cases f'
    | (simp [eqV, D.eq, D.py, PyData.eqv])
theorem flat_all {S : Hs} {H : Hp} : ∀ {vs : List V} {ds : List D}, DvA X.K S H vs ds → ds.all D.flat = true → vs.all flatV = true
  | _, _, .nil, _ => rfl
  | _, _, .cons a b, h => by
    rw [List.all_cons, Bool.and_eq_true] at h ⊢
    exact ⟨flat_V a h.1, flat_all b h.2⟩
theorem flat_any {S : Hs} {H : Hp} {v : V} {d : D} (hx : Dv X.K S H v d) (f : d.flat = true) : ∀ {vs : List V} {ds : List D}, DvA X.K S H vs ds → ds.all D.flat = true → inV v vs = ds.any fun z => D.eq z d
  | _, _, .nil, _ => rfl
  | _, _, .cons a b, h => by
    rw [List.all_cons, Bool.and_eq_true] at h
    have ih := flat_any hx f b h.2
    unfold inV at ih ⊢
    rw [List.any_cons, List.any_cons, ih, flat_eqV hx a f h.1]
theorem pys_any {d : D} : ∀ xs : List D, (D.pys xs).any (fun z => PyData.eqv z d.py) = xs.any fun z => D.eq z d
  | [] => rfl
  | x :: r => by
    unfold D.pys
    rw [List.any_cons, List.any_cons, pys_any r]
    rfl
theorem in_list_of {S : Hs} {H : Hp} {x y : V} {d : D} {xs : List D} (hx : Dv X.K S H x d) (hy : Dv X.K S H y (.lst xs)) (h1 : d.ok = true) (h2 : D.ok (.lst xs) = true) {Q : VK} (neg : Bool) (q : Q (.bl (if neg then !xs.any fun z => D.eq z d else xs.any fun z => D.eq z d)) H) :
    if neg then rNotInD X.K x y H Q else rInD X.K x y H Q := by
  cases neg with
  | true => exact ⟨d.py, D.pys xs, hx.dp (ok_pure h1), hy.dp (ok_pure h2), ok_shape h1, ok_shape h2, by rw [pys_any]; exact q⟩
  | false => exact ⟨d.py, D.pys xs, hx.dp (ok_pure h1), hy.dp (ok_pure h2), ok_shape h1, ok_shape h2, by rw [pys_any]; exact q⟩
theorem o_in (hu : X.A.units + 65 < cLine) : OpR X (compareOp .In) (fun x y H Q => rO X.K (two inW) [x, y] H Q) := op2 fun pins s σ H x y v u Q d e S Q' I rx ry r hx hy g k => by
  obtain ⟨b, g, q⟩ := g
  have fin : Q (.bl b) H := end_now r (.bl _) q k
  cases e with
  | str y =>
    cases d with
    | str z =>
      obtain ⟨c, e1, e2⟩ := g
      cases hx
      cases hy
      subst e1 e2
      exact op_in_sign pins s σ H _ _ v u Q I rx ry ⟨c, y, rfl, rfl, fin⟩
    | _ => exact (show False from g).elim
  | lst xs =>
    obtain ⟨h1, h2, e⟩ : d.ok = true ∧ D.ok (.lst xs) = true ∧ b = xs.any fun z => D.eq z d := by cases d <;> exact g
    subst e
    exact op_inD hu pins s σ H _ _ v u Q I rx ry (in_list_of hx hy h1 h2 false fin)
  | tup xs =>
    obtain ⟨h1, h2, e⟩ : d.flat = true ∧ xs.all D.flat = true ∧ b = xs.any fun z => D.eq z d := by cases d <;> exact g
    obtain ⟨a, vs, rfl, q1, q2⟩ := hy.of_tup
    refine op_in_seq pins s σ H _ _ v u Q I rx ry ⟨a, vs, rfl, .inr q1, flat_V hx h1, flat_all q2 h2, ?_⟩
    rw [flat_any hx h1 q2 h2, ← e]
    exact fin
  | ctp xs =>
    obtain ⟨h1, h2, e⟩ : d.flat = true ∧ xs.all D.flat = true ∧ b = xs.any fun z => D.eq z d := by cases d <;> exact g
    obtain ⟨a, vs, rfl, q1, q2⟩ := hy.of_ctp
    refine op_in_seq pins s σ H _ _ v u Q I rx ry ⟨a, vs, rfl, .inr q1, flat_V hx h1, flat_all q2 h2, ?_⟩
    rw [flat_any hx h1 q2 h2, ← e]
    exact fin
  | ref a =>
    have g : (∃ xs, S a = some (.lst xs) ∧ d.flat = true ∧ xs.all D.flat = true ∧ b = xs.any fun z => D.eq z d) ∨ ∃ o, dgetR S a d o ∧ b = o.isSome := by cases d <;> exact g
    rcases g with ⟨xs, e0, h1, h2, e⟩ | ⟨o, g, e⟩
    · obtain ⟨vs, q1, q2⟩ := rs_lst r e0
      cases hy
      refine op_in_seq pins s σ H _ _ v u Q I rx ry ⟨a, vs, rfl, .inl (.of q1), flat_V hx h1, flat_all q2 h2, ?_⟩
      rw [flat_any hx h1 q2 h2, ← e]
      exact fin
    · obtain ⟨p, g1, g2⟩ := dget_ok r hx g
      cases hy
      cases (show u = Value.ref a from ry)
      refine d_in (Nat.lt_of_le_of_lt (Nat.add_le_add_left (by decide) _) hu) I g1 rx fun s' I' => ⟨.bl p.isSome, H, I', rfl, ?_⟩
      rw [g2.same, ← e]
      exact fin
  | _ => exact (show False by cases d <;> exact g).elim
theorem o_notIn (hu : X.A.units + 65 < cLine) : OpR X (compareOp .NotIn) (fun x y H Q => rO X.K (two notInW) [x, y] H Q) := op2 fun pins s σ H x y v u Q d e S Q' I rx ry r hx hy g k => by
  obtain ⟨b, g, q⟩ := g
  have fin : Q (.bl (!b)) H := end_now r (.bl _) q k
  cases e with
  | str y =>
    cases d with
    | str z =>
      obtain ⟨c, e1, e2⟩ := g
      cases hx
      cases hy
      subst e1 e2
      exact op_notIn_sign pins s σ H _ _ v u Q I rx ry ⟨c, y, rfl, rfl, fin⟩
    | _ => exact (show False from g).elim
  | lst xs =>
    obtain ⟨h1, h2, e⟩ : d.ok = true ∧ D.ok (.lst xs) = true ∧ b = xs.any fun z => D.eq z d := by cases d <;> exact g
    subst e
    exact op_notInD hu pins s σ H _ _ v u Q I rx ry (in_list_of hx hy h1 h2 true fin)
  | tup xs =>
    obtain ⟨h1, h2, e⟩ : d.flat = true ∧ xs.all D.flat = true ∧ b = xs.any fun z => D.eq z d := by cases d <;> exact g
    obtain ⟨a, vs, rfl, q1, q2⟩ := hy.of_tup
    refine op_notIn_seq pins s σ H _ _ v u Q I rx ry ⟨a, vs, rfl, .inr q1, flat_V hx h1, flat_all q2 h2, ?_⟩
    rw [flat_any hx h1 q2 h2, ← e]
    exact fin
  | ctp xs =>
    obtain ⟨h1, h2, e⟩ : d.flat = true ∧ xs.all D.flat = true ∧ b = xs.any fun z => D.eq z d := by cases d <;> exact g
    obtain ⟨a, vs, rfl, q1, q2⟩ := hy.of_ctp
    refine op_notIn_seq pins s σ H _ _ v u Q I rx ry ⟨a, vs, rfl, .inr q1, flat_V hx h1, flat_all q2 h2, ?_⟩
    rw [flat_any hx h1 q2 h2, ← e]
    exact fin
  | ref a =>
    have g : (∃ xs, S a = some (.lst xs) ∧ d.flat = true ∧ xs.all D.flat = true ∧ b = xs.any fun z => D.eq z d) ∨ ∃ o, dgetR S a d o ∧ b = o.isSome := by cases d <;> exact g
    rcases g with ⟨xs, e0, h1, h2, e⟩ | ⟨o, g, e⟩
    · obtain ⟨vs, q1, q2⟩ := rs_lst r e0
      cases hy
      refine op_notIn_seq pins s σ H _ _ v u Q I rx ry ⟨a, vs, rfl, .inl (.of q1), flat_V hx h1, flat_all q2 h2, ?_⟩
      rw [flat_any hx h1 q2 h2, ← e]
      exact fin
    · obtain ⟨p, g1, g2⟩ := dget_ok r hx g
      cases hy
      cases (show u = Value.ref a from ry)
      refine d_notIn (Nat.lt_of_le_of_lt (Nat.add_le_add_left (by decide) _) hu) I g1 rx fun s' I' => ⟨.bl (!p.isSome), H, I', rfl, ?_⟩
      rw [g2.same, ← e]
      exact fin
  | _ => exact (show False by cases d <;> exact g).elim
end
end Dz
namespace Dz
open PySem L2

/-! ### the small tree -/
inductive B2 where
  | add | sub | mul | fdiv | mod | pow
  deriving DecidableEq
inductive Cm where
  | lt | le | gt | ge | eq | ne | isN | notN | isIn | notIn
  deriving DecidableEq
/-- a built-in that is called by its name -/
inductive Bi where
  | len | int1 | abs | min2 | max2 | tuple1 | list1 | sorted | all | any | sum | dict1
  deriving DecidableEq
/-- a built-in type's method -/
inductive Bm where
  | append | get1 | get2 | pop1 | pop2
  deriving DecidableEq
mutual
inductive E where
  | var (i : Nat) | int (i : Int) | str (x : Str) | bl (b : Bool) | non
  | glob (i : Nat)
  | b2 (o : B2) (a b : E) | neg (a : E)
  | cm (o : Cm) (a b : E) | ch (o o' : Cm) (a b c : E)
  | not (a : E) | and (es : Es) | or (es : Es) | ife (t a b : E)
  | tup (es : Es) | lst (es : Es)
  | ix (a i : E) | sl (a : E) (lo hi : O) | rev (a : E)
  | bi (f : Bi) (es : Es) | isi (a : E) (ts : List String)
  | call (i : Nat) (es : Es)
  | bm (f : Bm) (o : E) (es : Es)
  | comp (own : List (Str × Nat)) (g : G) (it : It) (cond : Es) (elt : E)
  | call0 (i : Nat)
  | fld (o : E) (f : Str)
  | mt (o : E) (m : Str) (es : Es)
  | mk (i : Nat) (es : Es)
  | dic (kvs : Es) | dic0
  | dcomp (own : List (Str × Nat)) (g : G) (it : It) (cond : Es) (k v : E)
  | lock (e : E)
inductive Es where
  | nil | cons (e : E) (r : Es)
inductive O where
  | no | yes (e : E)
inductive G where
  | name (i : Nat) | tup (gs : Gs) | sub (o i : E)
inductive Gs where
  | nil | cons (g : G) (r : Gs)
inductive It where
  | seq (e : E) | rng (es : Es) | enum (e : E)
  | items (e : E)
end
mutual
inductive T where
  | asg (g : G) (e : E) | setc (i : Nat) (e : E)
  | aug (i : Nat) (o : B2) (e : E)
  | ex (e : E) | ret (e : E) | retN | pass | brk | cont | never
  | ite (c : E) (a b : Ts)
  | for_ (g : G) (it : It) (body : Ts)
  | whil (c : E) (body : Ts)
  | fst (o : E) (f : Str) (e : E)
  | faug (o : E) (f : Str) (p : B2) (e : E)
  | saug (o i : E) (p : B2) (e : E)
  | par2 (i j : Nat) (a b : E)
  | par3 (i j l : Nat) (a b c : E)
  | del (o i : E)
  | lock (t : T)
  | rais (i : Nat)
  | try1 (body : Ts) (x : Nat) (suite : Ts)
inductive Ts where
  | nil | cons (t : T) (r : Ts)
end
def Es.len : Es → Nat
  | .nil => 0 | .cons _ r => r.len + 1
def Gs.len : Gs → Nat
  | .nil => 0 | .cons _ r => r.len + 1

/-! ### what calls mean -/
abbrev DSp := List D → Hs → QD → XQ → Prop
structure MthD where
  name : Str
  C : Addr
  sp : DSp
structure Cfg where
  fns : List (Str × DSp)
  cons : List (Str × D)
  nob : List Str
  /-- the attributes of instances -/
  flds : List (Addr × Str) := []
  /-- methods -/
  mths : List MthD := []
  /-- classes that are made: the name, the class, what __init__ means -/
  mks : List MthD := []
  /-- exceptions that are raised or caught -/
  excs : List (Str × Addr) := []
  /-- is the one an instance of the other -/
  exm : List (Addr × Addr × Bool) := []

/-! ### operations -/
def B2.w : B2 → D → D → Hs → QD → Prop
  | .add => addW | .sub => subW | .mul => mulW | .fdiv => fdivW | .mod => modW | .pow => powW
def B2.op : B2 → Operator
  | .add => .Add | .sub => .Sub | .mul => .Mult | .fdiv => .FloorDiv | .mod => .Mod | .pow => .Pow
def Cm.w : Cm → D → D → Hs → QD → Prop
  | .lt => ltW | .le => leW | .gt => gtW | .ge => geW | .eq => eqW | .ne => neW | .isN => isNW | .notN => notNW | .isIn => inW | .notIn => notInW
def Cm.op : Cm → CmpOp
  | .lt => .Lt | .le => .LtE | .gt => .Gt | .ge => .GtE | .eq => .Eq | .ne => .NotEq | .isN => .Is | .notN => .IsNot | .isIn => .In | .notIn => .NotIn
def augW : B2 → D → D → Hs → QD → Prop
  | .add, .int i, .int j, S, Q => Q (.int (i + j)) S
  | .add, .str x, .str y, S, Q => x.length + y.length ≤ sizeLine ∧ Q (.str (x ++ y)) S
  | .sub, .int i, .int j, S, Q => Q (.int (i - j)) S
  | _, _, _, _, _ => False
def negW : D → Hs → QD → Prop
  | .int i, S, Q => Q (.int (-i)) S
  | _, _, _ => False
def ixW : D → D → Hs → QD → Prop
  | .str z, .int i, S, Q => z.length ≤ sizeLine ∧ ∃ c, atI z.cps.toList i = some c ∧ Q (.str ⟨#[c]⟩) S
  | .tup xs, .int i, S, Q => ∃ x, atI xs i = some x ∧ Q x S
  | .ctp xs, .int i, S, Q => ∃ x, atI xs i = some x ∧ Q x S
  | .lst xs, .int i, S, Q => ∃ x, atI xs i = some x ∧ Q x S
  | .ref a, d, S, Q => (∃ xs i x, S a = some (.lst xs) ∧ d = .int i ∧ atI xs i = some x ∧ Q x S) ∨ ∃ x, dgetR S a d (some x) ∧ Q x S
  | _, _, _, _ => False
def cutD (xs : List D) (lo hi : Option Int) : List D := (xs.drop (HT.sIx xs.length 0 lo)).take (HT.sIx xs.length xs.length hi - HT.sIx xs.length 0 lo)
def slW : D → Option Int → Option Int → Hs → QD → Prop
  | .str z, lo, hi, S, Q => z.length ≤ sizeLine ∧ Q (.str (cutS z lo hi)) S
  | .tup xs, lo, hi, S, Q => Q (.tup (cutD xs lo hi)) S
  | d, lo, hi, S, Q => ∃ xs, lstOf S d = some xs ∧ NewL (cutD xs lo hi) S Q
def revW : D → Hs → QD → Prop
  | .tup xs, S, Q => xs.length ≤ sizeLine ∧ Q (.tup xs.reverse) S
  | d, S, Q => ∃ xs, lstOf S d = some xs ∧ NewL xs.reverse S Q
def MO.len : MO → Option Nat
  | .lst xs => some xs.length | .dK kvs => some kvs.length | .dT kvs => some kvs.length | _ => none
def lenW : D → Hs → QD → Prop
  | .str z, S, Q => z.length ≤ sizeLine ∧ Q (.int z.length) S
  | .ref a, S, Q => ∃ o n, S a = some o ∧ o.len = some n ∧ Q (.int (n : Nat)) S
  | d, S, Q => ∃ xs, seqOf S d = some xs ∧ Q (.int xs.length) S
def intW : D → Hs → QD → Prop
  | .int i, S, Q => Q (.int i) S
  | .bl b, S, Q => Q (.int (if b then 1 else 0)) S
  | _, _, _ => False
def absW : D → Hs → QD → Prop
  | .int i, S, Q => Q (.int (if i < 0 then -i else i)) S
  | _, _, _ => False
def minW : D → D → Hs → QD → Prop
  | .int i, .int j, S, Q => Q (.int (if j < i then j else i)) S
  | _, _, _, _ => False
def maxW : D → D → Hs → QD → Prop
  | .int i, .int j, S, Q => Q (.int (if j > i then j else i)) S
  | _, _, _, _ => False
def tupleW : D → Hs → QD → Prop
  | .ctp xs, S, Q => Q (.ctp xs) S
  | d, S, Q => ∃ xs, seqOf S d = some xs ∧ Q (.tup xs) S
def listW : D → Hs → QD → Prop := fun d S Q => ∃ xs, seqOf S d = some xs ∧ NewL xs S Q
def sortI (ns : List Int) : List Int := ns.mergeSort (fun a b => decide (a ≤ b))
def sortedW (d : D) (S : Hs) (Q : QD) : Prop :=
  (∃ ns : List Int, seqOf S d = some (ns.map D.int) ∧ NewL ((sortI ns).map D.int) S Q) ∨
  (∃ xs : List Str, lstOf S d = some (xs.map D.str) ∧ xs.length < 64 ∧ ∀ ys : List Str, ys.Perm xs → PyProof.Rows.sortedS ys = true → NewL (ys.map D.str) S Q) ∨
  (∃ a kvs, ∃ ks : List Str, d = .ref a ∧ (S a = some (.dK kvs) ∨ S a = some (.zK kvs)) ∧ kvs.map (·.1) = ks.map Sum.inr ∧ ks.length < 64 ∧ ∀ ys : List Str, ys.Perm ks → PyProof.Rows.sortedS ys = true → NewL (ys.map D.str) S Q) ∨
  ∃ a kvs, ∃ ks : List Int, d = .ref a ∧ (S a = some (.dK kvs) ∨ S a = some (.zK kvs)) ∧ kvs.map (·.1) = ks.map Sum.inl ∧ ks.length < 64 ∧ NewL ((sortI ks).map D.int) S Q
def allW : D → Hs → QD → Prop := fun d S Q => ∃ bs : List Bool, lstOf S d = some (bs.map D.bl) ∧ Q (.bl (bs.all id)) S
def anyW : D → Hs → QD → Prop := fun d S Q => ∃ bs : List Bool, lstOf S d = some (bs.map D.bl) ∧ Q (.bl (bs.any id)) S
def sumW : D → Hs → QD → Prop := fun d S Q => ∃ ns : List Int, lstOf S d = some (ns.map D.int) ∧ Q (.int ns.sum) S
/-- dict(d), dict(pairs) -/
def dictW (d : D) (S : Hs) (Q : QD) : Prop :=
  (∃ a kvs, d = .ref a ∧ (S a = some (.dK kvs) ∨ S a = some (.zK kvs)) ∧ ∀ p, S p = none → Q (.ref p) (sup S p (.dK kvs))) ∨
  ∃ kvs : List (Key × D), lstOf S d = some (kvs.map fun p => D.tup [keyD p.1, p.2]) ∧ ∀ p, S p = none → Q (.ref p) (sup S p (.dK (mergeD [] kvs)))
def Bi.w : Bi → OW
  | .len => one lenW | .int1 => one intW | .abs => one absW | .min2 => two minW | .max2 => two maxW | .tuple1 => one tupleW | .list1 => one listW
  | .sorted => one sortedW | .all => one allW | .any => one anyW | .sum => one sumW | .dict1 => one dictW
/-- by no iterator -/
def Bi.free : Bi → Bool
  | .sorted => false | .dict1 => false | .min2 => false | .max2 => false | .all => false | .any => false | .sum => false | _ => true
def Bi.name : Bi → Str
  | .len => "len" | .int1 => "int" | .abs => "abs" | .min2 => "min" | .max2 => "max" | .tuple1 => "tuple" | .list1 => "list" | .sorted => "sorted" | .all => "all" | .any => "any" | .sum => "sum" | .dict1 => "dict"
def appendW : D → D → Hs → QD → Prop
  | .ref a, y, S, Q => ∃ xs, S a = some (.lst xs) ∧ xs.length < sizeLine ∧ Q .non (sup S a (.lst (xs ++ [y])))
  | _, _, _, _ => False
def get1W : D → D → Hs → QD → Prop
  | .ref a, k, S, Q => ∃ o, dgetR S a k o ∧ Q (o.getD .non) S
  | _, _, _, _ => False
def three (f : D → D → D → Hs → QD → Prop) : OW := fun ds S Q => match ds with
  | [a, b, c] => f a b c S Q
  | _ => False
def get2W : D → D → D → Hs → QD → Prop
  | .ref a, k, x, S, Q => ∃ o, dgetR S a k o ∧ Q (o.getD x) S
  | _, _, _, _, _ => False
def pop1W : D → D → Hs → QD → Prop
  | .ref a, d, S, Q => ∃ kvs k v, S a = some (.dK kvs) ∧ d.key = some k ∧ valD kvs k = some v ∧ Q v (sup S a (.dK (dropD kvs k)))
  | _, _, _, _ => False
def pop2W : D → D → D → Hs → QD → Prop
  | .ref a, d, x, S, Q => ∃ kvs k, S a = some (.dK kvs) ∧ d.key = some k ∧ ∀ o, valD kvs k = o → Q (o.getD x) (match o with | some _ => sup S a (.dK (dropD kvs k)) | none => S)
  | _, _, _, _, _ => False
def Bm.w : Bm → OW
  | .append => two appendW | .get1 => two get1W | .get2 => three get2W | .pop1 => two pop1W | .pop2 => three pop2W
/-- what the receiver must be, ahead of the arguments -/
def isDic : MO → Bool
  | .dK _ => true | .dT _ => true | .zK _ => true | .zT _ => true | _ => false
def Bm.ty (S : Hs) (d : D) : Bm → Prop
  | .append => ∃ xs, lstOf S d = some xs
  | _ => ∃ a o, d = .ref a ∧ S a = some o ∧ isDic o = true
def Bm.name : Bm → Str
  | .append => "append" | .get1 => "get" | .get2 => "get" | .pop1 => "pop" | .pop2 => "pop"
def Bm.many : Bm → Nat
  | .append => 1 | .get1 => 1 | .get2 => 2 | .pop1 => 1 | .pop2 => 2
def MO.lk : MO → Option MO
  | .dK kvs => some (.zK kvs) | .dT kvs => some (.zT kvs) | _ => none
/-- o is read of an instance -/
def putFD (f : Str) (d : D) : List (Str × D) → List (Str × D)
  | [] => [(f, d)]
  | p :: r => if p.1 = f then (f, d) :: r else p :: putFD f d r
def tyName (S : Hs) : D → Option String
  | .non => some "NoneType" | .bl _ => some "bool" | .int _ => some "int" | .str _ => some "str" | .tup _ => some "tuple" | .ctp _ => some "tuple" | .lst _ => some "list"
  | .ref a => match S a with
    | some (.lst _) => some "list" | some (.dK _) => some "dict" | some (.dT _) => some "dict" | some (.zK _) => some "dict" | _ => none
  | .ty _ => none
def isiAny (t : String) : List String → Option Bool
  | [] => some false
  | c :: cs => match kitB t c with
    | some true => some true
    | some false => isiAny t cs
    | none => none
def TruD (S : Hs) : D → Bool → Prop
  | .non, b => b = false
  | .bl c, b => b = c
  | .int i, b => b = (i != 0)
  | .str y, b => y.length ≤ sizeLine ∧ b = ((y.length : Int) != 0)
  | .tup xs, b => b = !xs.isEmpty
  | .ctp xs, b => b = !xs.isEmpty
  | .lst xs, b => b = !xs.isEmpty
  | .ref a, b => (∃ xs, S a = some (.lst xs) ∧ b = !xs.isEmpty) ∨ (∃ kvs, S a = some (.dK kvs) ∧ b = !kvs.isEmpty)
  | .ty _, _ => False
def wipeD (ρ : List (Option D)) : List Nat → List (Option D)
  | [] => ρ
  | v :: vs => (wipeD ρ vs).set v none
/-- what is iterated: the items; what must hold of the live objects at each turn -/
abbrev QI := List D → (Hs → Prop) → Hs → Prop
def MO.items : MO → Option (List D)
  | .lst xs => some xs | .zK kvs => some (kvs.map fun p => keyD p.1) | .zT kvs => some (kvs.map fun p => D.tup (p.1.map keyD)) | _ => none
def strD (z : Str) : List D := z.cps.toList.map fun c => D.str ⟨#[c]⟩
def seqI (d : D) (S : Hs) (Q : QI) : Prop := match d with
  | .ref a => ∃ o xs, S a = some o ∧ o.items = some xs ∧ Q xs (fun S' => S' a = some o) S
  | .lst xs => Q xs (fun _ => True) S
  | .tup xs => Q xs (fun _ => True) S
  | .ctp xs => Q xs (fun _ => True) S
  | .str z => Q (strD z) (fun _ => True) S
  | _ => False
def itemsI (d : D) (S : Hs) (Q : QI) : Prop := match d with
  | .ref a => ∃ kvs, S a = some (.zK kvs) ∧ Q (kvs.map fun p => D.tup [keyD p.1, p.2]) (fun S' => S' a = some (.zK kvs)) S
  | _ => False
def rngD (lo : Int) (n : Nat) : List D := (List.range n).map fun i : Nat => D.int (lo + (i : Int))
def rngI : List D → Hs → QI → Prop
  | [.int j], S, Q => -(2 ^ 62) ≤ j ∧ j < 2 ^ 62 ∧ Q (rngD 0 j.toNat) (fun _ => True) S
  | [.int i, .int j], S, Q => (-(2 ^ 62) ≤ i ∧ i < 2 ^ 62 ∧ -(2 ^ 62) ≤ j ∧ j < 2 ^ 62) ∧ Q (rngD i (j - i).toNat) (fun _ => True) S
  | _, _, _ => False
def enumD (xs : List D) : List D := xs.mapIdx fun i x => D.tup [D.int (i : Nat), x]
def enumI (d : D) (S : Hs) (Q : QI) : Prop := match d with
  | .ref a => ∃ xs, S a = some (.lst xs) ∧ Q (enumD xs) (fun S' => S' a = some (.lst xs)) S
  | .lst xs => Q (enumD xs) (fun _ => True) S
  | .tup xs => Q (enumD xs) (fun _ => True) S
  | _ => False
def setW (o i v : D) (S : Hs) (Q : Hs → Prop) : Prop := match o with
  | .ref a => (∃ xs k j, S a = some (.lst xs) ∧ i = .int k ∧ ixN xs.length k = some j ∧ Q (sup S a (.lst (xs.set j v)))) ∨ dputR S a i v Q
  | _ => False
abbrev Ro := List (Option D)
abbrev X0 : XQ := fun _ _ => False

/-- a comprehension's turns -/
def compB (vs : List Nat) (wg : D → Ro → Hs → (Ro → Hs → Prop) → XQ → Prop) (wc : WB) (we : WE) (ρ : Ro) (Q : QD) : QI := fun ds Pr S1 =>
  ds.length ≤ sizeLine ∧ ∀ L, S1 L = none → ∃ W : Nat → List D → Hs → Prop, W 0 [] (sup S1 L (.lst [])) ∧
      (∀ i x acc S2, ds[i]? = some x → acc.length ≤ i → W i acc S2 → S2 L = some (.lst acc) ∧ Pr S2 ∧ wg x (wipeD ρ vs) S2 (fun ρ' S3 =>
        wc ρ' S3 (fun b S4 => if b = true then we ρ' S4 (fun y S5 => S5 L = some (.lst acc) ∧ W (i + 1) (acc ++ [y]) (sup S5 L (.lst (acc ++ [y])))) X0 else W (i + 1) acc S4) X0) X0) ∧
      (∀ acc S2, acc.length ≤ ds.length → W ds.length acc S2 → S2 L = some (.lst acc) ∧ Pr S2 ∧ (Q (.lst acc) (sdel S2 L) ∨ Q (.ref L) S2))
/-- a dict comprehension's turns -/
def dcompB (vs : List Nat) (wg : D → Ro → Hs → (Ro → Hs → Prop) → XQ → Prop) (wc : WB) (wk wv : WE) (ρ : Ro) (Q : QD) : QI := fun ds Pr S1 =>
  ds.length < sizeLine ∧ ∀ L, S1 L = none → ∃ W : Nat → List (Key × D) → Hs → Prop, W 0 [] (sup S1 L (.dK [])) ∧
      (∀ i x acc S2, ds[i]? = some x → acc.length ≤ i → W i acc S2 → S2 L = some (.dK acc) ∧ Pr S2 ∧ wg x (wipeD ρ vs) S2 (fun ρ' S3 =>
        wc ρ' S3 (fun b S4 => if b = true then wk ρ' S4 (fun y S5 => wv ρ' S5 (fun z S6 => S6 L = some (.dK acc) ∧ ∃ k, y.key = some k ∧ W (i + 1) (putD acc k z) (sup S6 L (.dK (putD acc k z)))) X0) X0 else W (i + 1) acc S4) X0) X0) ∧
      (∀ acc S2, acc.length ≤ ds.length → W ds.length acc S2 → S2 L = some (.dK acc) ∧ Pr S2 ∧ Q (.ref L) S2)
/-- a for's turns -/
def forB (wg : D → Ro → Hs → (Ro → Hs → Prop) → XQ → Prop) (wt : WT) (Z : DE) (ρ : Ro) : QI := fun ds Pr S1 =>
  ∃ W : Nat → Ro → Hs → Prop, W 0 ρ S1 ∧
      (∀ i x ρ2 S2, ds[i]? = some x → W i ρ2 S2 → Pr S2 ∧ wg x ρ2 S2 (fun ρ3 S3 => wt { nx := W (i + 1), rt := Z.rt, bk := Z.nx, ct := W (i + 1), ex := Z.ex } ρ3 S3) (fun x S' => Z.ex x ρ2 S')) ∧
      (∀ ρ2 S2, W ds.length ρ2 S2 → Pr S2 ∧ Z.nx ρ2 S2)
/-- a while's turns -/
def whilB (wc : WB) (wt : WT) (Z : DE) (ρ : Ro) (S : Hs) : Prop :=
  ∃ W : Nat → Ro → Hs → Prop, (∃ m, W m ρ S) ∧ ∀ m ρ2 S2, W m ρ2 S2 →
      wc ρ2 S2 (fun k S3 => if k = true then wt { nx := fun ρ4 S4 => ∃ m', m' < m ∧ W m' ρ4 S4, rt := Z.rt, bk := Z.nx, ct := fun ρ4 S4 => ∃ m', m' < m ∧ W m' ρ4 S4, ex := Z.ex } ρ2 S3 else Z.nx ρ2 S3) (fun x S' => Z.ex x ρ2 S')
/-- what is handed back: a live list may be frozen -/
def retW (d : D) (S : Hs) (rt : QD) : Prop := rt d S ∨ ∃ a xs, d = .ref a ∧ S a = some (.lst xs) ∧ rt (.lst xs) (sdel S a)
/-- .. of a list or a dict -/
def ixR (S : Hs) (a : Addr) (d : D) (Q : D → Prop) : Prop := (∃ xs i x, S a = some (.lst xs) ∧ d = .int i ∧ 0 ≤ i ∧ atI xs i = some x ∧ Q x) ∨ ∃ x, dgetR S a d (some x) ∧ Q x
def augIx : D → D → Hs → QD → Prop
  | .ref a, d, S, Q => ixR S a d fun x => Q x S
  | _, _, _, _ => False
/-- {}: of plain keys, of tuples -/
def NewD (S : Hs) (Q : QD) : Prop := (∀ y, S y = none → Q (.ref y) (sup S y (.dK []))) ∨ ∀ y, S y = none → Q (.ref y) (sup S y (.dT []))
/-! ### the wish -/
mutual
def wE (c : Cfg) : E → WE
  | .var i, ρ, S, Q, _ => ∃ d, ρ[i]? = some (some d) ∧ Q d S
  | .int i, _, S, Q, _ => Q (.int i) S
  | .str x, _, S, Q, _ => Q (.str x) S
  | .bl b, _, S, Q, _ => Q (.bl b) S
  | .non, _, S, Q, _ => Q .non S
  | .glob i, _, S, Q, _ => ∃ p, c.cons[i]? = some p ∧ Q p.2 S
  | .b2 o a b, ρ, S, Q, X => wE c a ρ S (fun x S1 => wE c b ρ S1 (fun y S2 => o.w x y S2 Q) X) X
  | .neg a, ρ, S, Q, X => wE c a ρ S (fun x S1 => negW x S1 Q) X
  | .cm o a b, ρ, S, Q, X => wE c a ρ S (fun x S1 => wE c b ρ S1 (fun y S2 => o.w x y S2 Q) X) X
  | .ch o o' a b e, ρ, S, Q, X => wE c a ρ S (fun x S1 => wE c b ρ S1 (fun y S2 => o.w x y S2 fun z S3 => ∃ k, z = .bl k ∧
      if k = true then wE c e ρ S3 (fun w S4 => o'.w y w S4 Q) X else Q (.bl false) S3) X) X
  | .not a, ρ, S, Q, X => wE c a ρ S (fun x S1 => ∃ k, x = .bl k ∧ Q (.bl (!k)) S1) X
  | .and es, ρ, S, Q, X => wAnd c es ρ S Q X
  | .or es, ρ, S, Q, X => wOr c es ρ S Q X
  | .ife t a b, ρ, S, Q, X => wB c t ρ S (fun k S1 => if k = true then wE c a ρ S1 Q X else wE c b ρ S1 Q X) X
  | .tup es, ρ, S, Q, X => wEs c es ρ S (fun ds S1 => ds.length ≤ sizeLine ∧ Q (.tup ds) S1) X
  | .lst es, ρ, S, Q, X => wEs c es ρ S (fun ds S1 => ds.length ≤ sizeLine ∧ NewL ds S1 Q) X
  | .ix a i, ρ, S, Q, X => wE c a ρ S (fun x S1 => wE c i ρ S1 (fun y S2 => ixW x y S2 Q) X) X
  | .sl a lo hi, ρ, S, Q, X => wE c a ρ S (fun x S1 => wO c lo ρ S1 (fun l S2 => wO c hi ρ S2 (fun h S3 => slW x l h S3 Q) X) X) X
  | .rev a, ρ, S, Q, X => wE c a ρ S (fun x S1 => revW x S1 Q) X
  | .bi f es, ρ, S, Q, X => wEs c es ρ S (fun ds S1 => f.w ds S1 Q) X
  | .isi a ts, ρ, S, Q, X => wE c a ρ S (fun x S1 => ∃ t b, tyName S1 x = some t ∧ isiAny t ts = some b ∧ Q (.bl b) S1) X
  | .call i es, ρ, S, Q, X => wEs c es ρ S (fun ds S1 => ∃ p, c.fns[i]? = some p ∧ p.2 ds S1 Q X) X
  | .bm f o es, ρ, S, Q, X => wE c o ρ S (fun x S1 => f.ty S1 x ∧ wEs c es ρ S1 (fun ds S2 => f.w (x :: ds) S2 Q) X) X
  | .comp own g it cond elt, ρ, S, Q, X => wI c it ρ S (compB (own.map (·.2)) (wG c g) (wC c cond) (wE c elt) ρ Q) X
  | .call0 i, _, S, Q, X => ∃ p, c.fns[i]? = some p ∧ p.2 [] S Q X
  | .fld o f, ρ, S, Q, X => wE c o ρ S (fun x S1 => ∃ a C fs d, x = .ref a ∧ S1 a = some (.ins C fs) ∧ (C, f) ∈ c.flds ∧ fs.lookup f = some d ∧ Q d S1) X
  | .mt o m es, ρ, S, Q, X => wE c o ρ S (fun x S1 => ∃ a fs p, x = .ref a ∧ p ∈ c.mths ∧ p.name = m ∧ S1 a = some (.ins p.C fs) ∧ fs.lookup m = none ∧ wEs c es ρ S1 (fun ds S2 => p.sp (x :: ds) S2 Q X) X) X
  | .mk i es, ρ, S, Q, X => wEs c es ρ S (fun ds S1 => ∃ p, c.mks[i]? = some p ∧ ∀ y, S1 y = none → p.sp (.ref y :: ds) (sup S1 y (.ins p.C [])) (fun d S2 => d = .non ∧ Q (.ref y) S2) X) X
  | .dic kvs, ρ, S, Q, X => ∀ y, S y = none → wPr c kvs ρ (sup S y (.dK [])) (fun ps S2 => S2 y = some (.dK []) ∧ ∃ kvs : List (Key × D), ps = kvs.map (fun p => (keyD p.1, p.2)) ∧ kvs.length ≤ 15 ∧ Q (.ref y) (sup S2 y (.dK (mergeD [] kvs)))) X
  | .dic0, _, S, Q, _ => NewD S Q
  | .dcomp own g it cond ke ve, ρ, S, Q, X => wI c it ρ S (dcompB (own.map (·.2)) (wG c g) (wC c cond) (wE c ke) (wE c ve) ρ Q) X
  | .lock e, ρ, S, Q, _ => ∃ a o z, S a = some o ∧ o.lk = some z ∧ wE c e ρ (sup S a z) (fun d S1 => S1 a = some z ∧ Q d (sup S1 a o)) X0
def wB (c : Cfg) : E → WB
  | .not a, ρ, S, Q, X => wB c a ρ S (fun k S1 => Q (!k) S1) X
  | .and es, ρ, S, Q, X => wBAnd c es ρ S Q X
  | .or es, ρ, S, Q, X => wBOr c es ρ S Q X
  | .cm o a b, ρ, S, Q, X => wE c a ρ S (fun x S1 => wE c b ρ S1 (fun y S2 => o.w x y S2 fun z S3 => ∃ k, z = .bl k ∧ Q k S3) X) X
  | .ch o o' a b e, ρ, S, Q, X => wE c a ρ S (fun x S1 => wE c b ρ S1 (fun y S2 => o.w x y S2 fun z S3 => ∃ k, z = .bl k ∧
      if k = true then wE c e ρ S3 (fun w S4 => o'.w y w S4 fun z' S5 => ∃ k', z' = .bl k' ∧ Q k' S5) X else ∃ k', D.bl false = .bl k' ∧ Q k' S3) X) X
  | .var i, ρ, S, Q, _ => ∃ d, ρ[i]? = some (some d) ∧ ∃ k, TruD S d k ∧ Q k S
  | .ix a i, ρ, S, Q, X => wE c a ρ S (fun x S1 => wE c i ρ S1 (fun y S2 => ixW x y S2 fun d S3 => ∃ k, TruD S3 d k ∧ Q k S3) X) X
  | .bi f es, ρ, S, Q, X => wEs c es ρ S (fun ds S1 => f.w ds S1 fun d S3 => ∃ k, TruD S3 d k ∧ Q k S3) X
  | .isi a ts, ρ, S, Q, X => wE c a ρ S (fun x S1 => ∃ t b, tyName S1 x = some t ∧ isiAny t ts = some b ∧ Q b S1) X
  | .call i es, ρ, S, Q, X => wEs c es ρ S (fun ds S1 => ∃ p, c.fns[i]? = some p ∧ p.2 ds S1 (fun d S3 => ∃ k, TruD S3 d k ∧ Q k S3) X) X
  | .bm f o es, ρ, S, Q, X => wE c o ρ S (fun x S1 => f.ty S1 x ∧ wEs c es ρ S1 (fun ds S2 => f.w (x :: ds) S2 fun d S3 => ∃ k, TruD S3 d k ∧ Q k S3) X) X
  | .call0 i, _, S, Q, X => ∃ p, c.fns[i]? = some p ∧ p.2 [] S (fun d S3 => ∃ k, TruD S3 d k ∧ Q k S3) X
  | .fld o f, ρ, S, Q, X => wE c o ρ S (fun x S1 => ∃ a C fs d, x = .ref a ∧ S1 a = some (.ins C fs) ∧ (C, f) ∈ c.flds ∧ fs.lookup f = some d ∧ ∃ k, TruD S1 d k ∧ Q k S1) X
  | .mt o m es, ρ, S, Q, X => wE c o ρ S (fun x S1 => ∃ a fs p, x = .ref a ∧ p ∈ c.mths ∧ p.name = m ∧ S1 a = some (.ins p.C fs) ∧ fs.lookup m = none ∧ wEs c es ρ S1 (fun ds S2 => p.sp (x :: ds) S2 (fun d S3 => ∃ k, TruD S3 d k ∧ Q k S3) X) X) X
  | _, _, _, _, _ => False
def wAnd (c : Cfg) : Es → WE
  | .nil, _, _, _, _ => False
  | .cons e .nil, ρ, S, Q, X => wE c e ρ S Q X
  | .cons e r, ρ, S, Q, X => wE c e ρ S (fun x S1 => ∃ k, x = .bl k ∧ if k = true then wAnd c r ρ S1 Q X else Q (.bl false) S1) X
def wOr (c : Cfg) : Es → WE
  | .nil, _, _, _, _ => False
  | .cons e .nil, ρ, S, Q, X => wE c e ρ S Q X
  | .cons e r, ρ, S, Q, X => wE c e ρ S (fun x S1 => ∃ k, x = .bl k ∧ if k = true then Q (.bl true) S1 else wOr c r ρ S1 Q X) X
def wBAnd (c : Cfg) : Es → WB
  | .nil, _, _, _, _ => False
  | .cons e .nil, ρ, S, Q, X => wB c e ρ S Q X
  | .cons e r, ρ, S, Q, X => wB c e ρ S (fun k S1 => if k = true then wBAnd c r ρ S1 Q X else Q false S1) X
def wBOr (c : Cfg) : Es → WB
  | .nil, _, _, _, _ => False
  | .cons e .nil, ρ, S, Q, X => wB c e ρ S Q X
  | .cons e r, ρ, S, Q, X => wB c e ρ S (fun k S1 => if k = true then Q true S1 else wBOr c r ρ S1 Q X) X
def wEs (c : Cfg) : Es → WA
  | .nil, _, S, Q, _ => Q [] S
  | .cons e r, ρ, S, Q, X => wE c e ρ S (fun x S1 => wEs c r ρ S1 (fun xs S2 => Q (x :: xs) S2) X) X
def wPr (c : Cfg) : Es → Ro → Hs → (List (D × D) → Hs → Prop) → XQ → Prop
  | .nil, _, S, Q, _ => Q [] S
  | .cons _ .nil, _, _, _, _ => False
  | .cons k (.cons v r), ρ, S, Q, X => wE c k ρ S (fun x S1 => wE c v ρ S1 (fun y S2 => wPr c r ρ S2 (fun ps S3 => Q ((x, y) :: ps) S3) X) X) X
/-- the test of a comprehension -/
def wC (c : Cfg) : Es → WB
  | .nil, _, S, Q, _ => Q true S
  | .cons e .nil, ρ, S, Q, X => wB c e ρ S Q X
  | .cons _ (.cons _ _), _, _, _, _ => False
def wO (c : Cfg) : O → List (Option D) → Hs → (Option Int → Hs → Prop) → XQ → Prop
  | .no, _, S, Q, _ => Q none S
  | .yes e, ρ, S, Q, X => wE c e ρ S (fun x S1 => ∃ i, x = .int i ∧ Q (some i) S1) X
def wG (c : Cfg) : G → D → List (Option D) → Hs → (List (Option D) → Hs → Prop) → XQ → Prop
  | .name i, d, ρ, S, Q, _ => Q (ρ.set i (some d)) S
  | .tup gs, d, ρ, S, Q, X => ∃ ds, d = .tup ds ∧ ds.length = gs.len ∧ wGs c gs ds ρ S Q X
  | .sub o i, d, ρ, S, Q, X => wE c o ρ S (fun x S1 => wE c i ρ S1 (fun y S2 => setW x y d S2 fun S3 => Q ρ S3) X) X
def wGs (c : Cfg) : Gs → List D → List (Option D) → Hs → (List (Option D) → Hs → Prop) → XQ → Prop
  | .nil, ds, ρ, S, Q, _ => ds = [] ∧ Q ρ S
  | .cons g r, ds, ρ, S, Q, X => ∃ d t, ds = d :: t ∧ wG c g d ρ S (fun ρ' S' => wGs c r t ρ' S' Q X) X
def wI (c : Cfg) : It → List (Option D) → Hs → QI → XQ → Prop
  | .seq e, ρ, S, Q, X => wE c e ρ S (fun d S1 => seqI d S1 Q) X
  | .rng es, ρ, S, Q, X => wEs c es ρ S (fun ds S1 => rngI ds S1 Q) X
  | .enum e, ρ, S, Q, X => wE c e ρ S (fun d S1 => enumI d S1 Q) X
  | .items e, ρ, S, Q, X => wE c e ρ S (fun d S1 => itemsI d S1 Q) X
end
mutual
def wT (c : Cfg) : T → WT
  | .asg g e, D, ρ, S => wE c e ρ S (fun d S1 => wG c g d ρ S1 D.nx (fun x S' => D.ex x ρ S')) (fun x S' => D.ex x ρ S')
  | .setc i e, D, ρ, S => wE c e ρ S (fun d S1 => D.nx (ρ.set i (some d)) S1) (fun x S' => D.ex x ρ S')
  | .aug i o e, D, ρ, S => ∃ x, ρ[i]? = some (some x) ∧ wE c e ρ S (fun y S1 => augW o x y S1 fun z S2 => D.nx (ρ.set i (some z)) S2) (fun x S' => D.ex x ρ S')
  | .ex e, D, ρ, S => wE c e ρ S (fun _ S1 => D.nx ρ S1) (fun x S' => D.ex x ρ S')
  | .ret e, D, ρ, S => wE c e ρ S (fun d S1 => retW d S1 D.rt) (fun x S' => D.ex x ρ S')
  | .retN, D, _, S => D.rt .non S
  | .pass, D, ρ, S => D.nx ρ S
  | .brk, D, ρ, S => D.bk ρ S
  | .cont, D, ρ, S => D.ct ρ S
  | .never, _, _, _ => False
  | .ite t a b, D, ρ, S => wB c t ρ S (fun k S1 => if k = true then wTs c a D ρ S1 else wTs c b D ρ S1) (fun x S' => D.ex x ρ S')
  | .for_ g it body, D, ρ, S => wI c it ρ S (forB (wG c g) (wTs c body) D ρ) (fun x S' => D.ex x ρ S')
  | .whil t body, D, ρ, S => whilB (wB c t) (wTs c body) D ρ S
  | .fst o f e, D, ρ, S => wE c e ρ S (fun d S1 => wE c o ρ S1 (fun x S2 => ∃ a C fs, x = .ref a ∧ S2 a = some (.ins C fs) ∧ (C, f) ∈ c.flds ∧ fs.length < 1000 ∧ D.nx ρ (sup S2 a (.ins C (putFD f d fs)))) (fun x S' => D.ex x ρ S')) (fun x S' => D.ex x ρ S')
  | .faug o f p e, D, ρ, S => wE c o ρ S (fun x S1 => ∃ a C fs d, x = .ref a ∧ S1 a = some (.ins C fs) ∧ (C, f) ∈ c.flds ∧ fs.lookup f = some d ∧
      wE c e ρ S1 (fun y S2 => augW p d y S2 fun z S3 => ∃ fs', S3 a = some (.ins C fs') ∧ fs'.length < 1000 ∧ D.nx ρ (sup S3 a (.ins C (putFD f z fs')))) (fun x S' => D.ex x ρ S')) (fun x S' => D.ex x ρ S')
  | .saug o i p e, D, ρ, S => wE c o ρ S (fun x S1 => wE c i ρ S1 (fun k S2 => augIx x k S2 fun d S3 => wE c e ρ S3 (fun y S4 => augW p d y S4 fun z S5 => setW x k z S5 fun S6 => D.nx ρ S6) (fun x S' => D.ex x ρ S')) (fun x S' => D.ex x ρ S')) (fun x S' => D.ex x ρ S')
  | .par2 i j a b, D, ρ, S => wE c a ρ S (fun x S1 => wE c b ρ S1 (fun y S2 => D.nx ((ρ.set i (some x)).set j (some y)) S2) (fun x S' => D.ex x ρ S')) (fun x S' => D.ex x ρ S')
  | .par3 i j l a b e, D, ρ, S => wE c a ρ S (fun x S1 => wE c b ρ S1 (fun y S2 => wE c e ρ S2 (fun z S3 => D.nx (((ρ.set i (some x)).set j (some y)).set l (some z)) S3) (fun x S' => D.ex x ρ S')) (fun x S' => D.ex x ρ S')) (fun x S' => D.ex x ρ S')
  | .del o i, D, ρ, S => wE c o ρ S (fun x S1 => wE c i ρ S1 (fun y S2 => ∃ a kvs k v, x = .ref a ∧ S2 a = some (.dK kvs) ∧ y.key = some k ∧ valD kvs k = some v ∧ D.nx ρ (sup S2 a (.dK (dropD kvs k)))) (fun x S' => D.ex x ρ S')) (fun x S' => D.ex x ρ S')
  | .lock t, D, ρ, S => ∃ a o z, S a = some o ∧ o.lk = some z ∧
      wT c t { nx := fun ρ' S' => S' a = some z ∧ D.nx ρ' (sup S' a o), rt := fun d S' => S' a = some z ∧ D.rt d (sup S' a o), bk := fun ρ' S' => S' a = some z ∧ D.bk ρ' (sup S' a o), ct := fun ρ' S' => S' a = some z ∧ D.ct ρ' (sup S' a o) } ρ (sup S a z)
  | .rais i, D, ρ, S => ∃ p, c.excs[i]? = some p ∧ D.ex ⟨p.2, none⟩ ρ S
  | .try1 body i suite, D, ρ, S => wTs c body { D with ex := fun x ρ' S' => ∃ p b, c.excs[i]? = some p ∧ (x.C, p.2, b) ∈ c.exm ∧ (b = true → wTs c suite { D with ex := fun _ _ _ => False } ρ' S') ∧ (b = false → D.ex x ρ' S') } ρ S
def wTs (c : Cfg) : Ts → WT
  | .nil, D, ρ, S => D.nx ρ S
  | .cons t r, D, ρ, S => wT c t { D with nx := wTs c r D } ρ S
end
end Dz
namespace Dz
open PySem PySem.Spec PyProof.Rows L2
/-! ### sorted of a tuple -/
section
variable {prog : Program} {w : World} {A : Around} {E : Value → Shared → Prop} {s : Shared}
/-- the heap behind collect -/
def heapC (h : Heap) (us : List Value) : Heap := (h.push (seqObj "list" #[] 0)).update h.objs.size (Obj.mapSeq fun x => x ++ us.toArray)
theorem collectT {t : Addr} {us : List Value} {Q : List Value → Shared → Prop} (ht : IsTup s.heap t us.toArray) (h : Q us { s with heap := heapC s.heap us }) (hz : us.length ≤ sizeLine) : wpAny (model prog w) A (collect (.ref t)) Q E s := by
  obtain ⟨ob, h1, h2, k, h3⟩ := id ht
  unfold collect
  refine wpAny_bind (wpAny_runValue (codeAny_builtin entry_proto_collect' ?_))
  show wpAny _ _ (newList [] >>= fun z => again (.builtin "list.__iadd__" ⟨[z, .ref t], []⟩)) _ _ s
  refine wpAny_bind (wpAny_newList (wpAny_pure ⟨Code.quiet_builtin _ (by decide +kernel), codeAny_builtin entry_list_iadd' ?_⟩))
  unfold Builtin.«list.__iadd__»
  have g1 : (s.heap.push (seqObj "list" #[] 0)).get? t = some ob := Heap.get?_push_of_some _ h1
  have g2 : (s.heap.push (seqObj "list" #[] 0)).get? s.heap.objs.size = some (seqObj "list" #[] 0) := Heap.get?_push_size _ rfl
  show wpAny _ _ (Builtin.List.listExtendWith (.ref s.heap.objs.size) (.ref t) (.ref s.heap.objs.size)) _ _ _
  unfold Builtin.List.listExtendWith
  refine wpAny_bind (wpAny_typeOf (T := "tuple") ⟨ob, g1, h2⟩ ?_)
  rw [if_pos (by simp)]
  refine wpAny_bind (listItems_at g1 h3 (wpAny_bind (listItems_at (xs := #[]) (n := 0) g2 rfl ?_)))
  rw [if_neg (by simp)]
  refine wpAny_bind (listUpdate_at (xs := #[]) (n := 0) g2 rfl ?_ (Nat.zero_le _) (by simp; omega))
  refine wpAny_pure ?_
  refine wpAny_bind (wpAny_load (get?_update_seq g2 _) ?_)
  show wpAny _ _ (pure ((#[] : Array Value) ++ us.toArray).toList) Q E _
  have e : ((#[] : Array Value) ++ us.toArray).toList = us := by simp
  rw [e]
  exact wpAny_pure h
theorem sortT_run {t : Addr} {us : List Value} {lt : Value → Value → Bool} {Q : Value → Shared → Prop} (O : SrtO.Swo lt) (ht : IsTup s.heap t us.toArray) (hz : us.length ≤ sizeLine)
    (hS : 2 ≤ us.length → ∀ (g : Heap) (b : Addr), g.get? b = some (seqObj "list" us.toArray 0) → SrtO.SortableO prog w A.in1.in1 { s with heap := g } b us lt)
    (h : ∀ ys : List Value, SrtO.Srtd lt ys → SrtO.Stb lt ys us → Q (.ref (s.heap.objs.size + 1)) { s with heap := sortedAll s.heap us ys.toArray }) :
    wpAny (model prog w) A (call (.builtin "sorted") [.ref t]) Q E s := by
  refine Calls.call_function_entry kind_sorted plain_sorted entry_sorted (args_sorted1 _) ?_
  unfold Builtin.«sorted»
  refine wpAny_bind (m := checkCount "sorted" 1 1 _) (wpAny_pure (wpAny_bind (collectT ht ?_ hz)))
  refine wpAny_bind (wpAny_newList ?_ hz)
  have n1 : (heapC s.heap us).objs.size = s.heap.objs.size + 1 := by
    unfold heapC
    rw [Heap.size_update, size_push']
  have at2 : ((heapC s.heap us).push (seqObj "list" us.toArray 0)).get? (s.heap.objs.size + 1) = some (seqObj "list" us.toArray 0) := by
    rw [← n1]
    exact Heap.get?_push_size _ rfl
  show wpAny _ _ _ _ _ { s with heap := (heapC s.heap us).push (seqObj "list" us.toArray 0) }
  rw [n1]
  have run := SrtO.list_sort_ord (prog := prog) (w := w) (A := A.in1.in1) (E := E) (s := { s with heap := (heapC s.heap us).push (seqObj "list" us.toArray 0) }) (R := fun fin s' => ∃ v, fin = .done (.ret v) ∧ v = .none ∧ Q (.ref (s.heap.objs.size + 1)) s') O at2 hz (fun h2 => hS h2 _ _ at2) fun ys a b => ⟨_, rfl, rfl, h ys a b⟩
  refine wpAny_bind (wpAny_holding (wpAny_call_entry slot_list_sort ⟨_, at2, rfl⟩ entry_list_sort (wpAny_mono run (fun fin s' hq => ?_) fun _ _ z => z) (args_list_sort _)))
  obtain ⟨v, e1, e2, q⟩ := hq
  exact ⟨v, e1, wpAny_pure ⟨_, rfl, q⟩⟩
end
section
variable {X : Cx}
/-- sorted(t), t a tuple of ints -/
theorem cr_sortT : CallR X (.builtin "sorted") (fun vs H Q => ∃ (a : Addr) (ns : List Int), vs = [V.ref a] ∧ SqT X.K H a (ns.map V.int) ∧ ∀ (ms : List Int) (p : Addr), ms.Perm ns → ms.Pairwise (· ≤ ·) → H p = none → Q (.ref p) (upd H p (.lst (ms.map V.int)))) := by
  intro pins s σ H vs us Q I r h
  obtain ⟨a, ns, rfl, hs, q⟩ := h
  obtain ⟨its, rv, hl, hz⟩ := I.tuple hs
  rw [Vals.ref1 r]
  have hi := rv.ints
  refine sortT_run SrtO.swo_int hl (by rw [← rv.length]; exact hz) (fun h2 _ _ _ => SrtO.ints_sortable hi h2) fun ys h1 h2 => ?_
  obtain ⟨k1, k2, k3⟩ := SrtO.ints_out hi h1 h2
  obtain ⟨ep, he⟩ := PyProof.Rows.sortedAll_at s.heap its ys.toArray
  have len : ((ys.map SrtO.iv).map V.int).length ≤ sizeLine := by
    rw [List.length_map, k2.length_eq, ← List.length_map (f := V.int)]
    exact hz
  exact ⟨.ref _, upd H (s.heap.objs.size + 1) (.lst ((ys.map SrtO.iv).map V.int)), I.laid (t' := s.toks) (fun _ _ => PyProof.Rows.sortedAll_old) (Nat.le_succ _) ⟨len, ys, ep, vals_of_ints k1, he⟩, rfl, q _ _ k2 k3 (I.hok.fresh (Nat.le_succ _))⟩
end
end Dz
namespace HT
open PySem PyProof.Rows
section
variable {prog : Program} {w : World} {A : Around} {E : Value → Shared → Prop} {s : Shared}
theorem sliceApplied_rev {sl : Addr} {t : Tok} {n : Nat} {Q : Int × Int × Nat → Shared → Prop} (hs : s.heap.IsSliceOf sl .none .none (.int (-1) t))
    (h : Q ((n : Int) - 1, -1, n) s) : wpAny (model prog w) A (Builtin.Slice.sliceApplied (.ref sl) (pure (n : Int))) Q E s := by
  obtain ⟨os, hos, hcs, hds⟩ := id hs
  unfold Builtin.Slice.sliceApplied Builtin.Slice.sliceFields
  refine wpAny_bind (wpAny_bind (wpAny_field hos hds (x := Value.none) rfl (wpAny_bind (wpAny_field hos hds (x := Value.none) rfl (wpAny_bind (wpAny_field hos hds (x := .int (-1) t) rfl (wpAny_pure ?_)))))))
  refine wpAny_bind (slicePart_int ?_)
  show wpAny _ _ (if ((-1 : Int) == 0) = true then _ else _) _ _ s
  rw [if_neg (by decide)]
  refine wpAny_bind (slicePart_none (wpAny_bind (slicePart_none (wpAny_bind (wpAny_pure ?_)))))
  show wpAny _ _ (pure ((n : Int) - 1, (-1 : Int), Builtin.Slice.slicePlaces ((n : Int) - 1) (-1) (-1))) _ _ s
  have e : Builtin.Slice.slicePlaces ((n : Int) - 1) (-1) (-1) = n := by
    unfold Builtin.Slice.slicePlaces
    rw [if_neg (by decide)]
    by_cases hn : n = 0
    · subst hn; decide
    · rw [if_pos (by omega)]
      have : ((n : Int) - 1 - -1 - 1) / (- -1) + 1 = n := by
        rw [show (- -1 : Int) = 1 by decide, Int.ediv_one]; omega
      rw [this]; omega
  rw [e]
  exact wpAny_pure h
theorem pick_rev (xs : Array Value) : ((List.range xs.size).filterMap fun (m : Nat) => xs[(((xs.size : Int) - 1) + (m : Int) * -1).toNat]?).toArray = xs.toList.reverse.toArray := by
  congr 1
  have e : ∀ n, n ≤ xs.size → ((List.range n).filterMap fun (m : Nat) => xs[(((xs.size : Int) - 1) + (m : Int) * -1).toNat]?) = xs.toList.reverse.take n := by
    intro n hn
    induction n with
    | zero => simp
    | succ n ih =>
      rw [List.range_succ, List.filterMap_append, ih (by omega)]
      have hi : (((xs.size : Int) - 1) + (n : Int) * -1).toNat = xs.size - 1 - n := by omega
      have hl : xs.size - 1 - n < xs.size := by omega
      rw [List.filterMap_cons, List.filterMap_nil, hi, Array.getElem?_eq_getElem hl]
      have hr : n < xs.toList.reverse.length := by simp; omega
      rw [List.take_succ_eq_append_getElem hr]
      congr 1
      rw [List.getElem_reverse]
      simp
  rw [e _ (Nat.le_refl _)]
  rw [List.take_of_length_le (by simp)]
theorem getItem_tuple_rev {t sl : Addr} {items : Array Value} {tk : Tok} {Q : Value → Shared → Prop} (ht : IsTup s.heap t items) (hs : s.heap.IsSliceOf sl .none .none (.int (-1) tk))
    (h : Q (.ref s.heap.objs.size) { s with heap := s.heap.push { cls := .type "tuple", data := .seq items.toList.reverse.toArray } })
    (hsz : items.size ≤ sizeLine) : wpAny (model prog w) A (getItem (.ref t) (.ref sl)) Q E s := by
  have htake : sizeOk (.seq items.toList.reverse.toArray) := by
    show items.toList.reverse.toArray.size ≤ sizeLine
    simpa using hsz
  obtain ⟨os, hos, hcs, hds⟩ := id hs
  have hTs : s.TypeIs (.ref sl) "slice" := ⟨os, hos, hcs⟩
  unfold getItem
  try with_reducible refine wpAny_holding ?_
  first | refine wpAny_bind (wpAny_pure ?_) | skip
  refine wpAny_bind (wpAny_sequenceKey ht.typeIs (by decide) ?_)
  refine wpAny_bind (wpAny_callSpecial?_slot (name := Str.ofString "__getitem__") ht.typeIs PyProof.Rows.slot_tuple_getitem
    (wpAny_call_entry PyProof.Rows.slot_tuple_getitem ht.typeIs entry_tuple_getitem ?_ (args_tuple_getitem _ _)))
  show wpAny _ _ (Builtin.Tuple.tupleItemsOf (.ref t) >>= _) _ _ s
  refine wpAny_bind (tupleItemsOf_ ht ?_)
  refine wpAny_bind (wpAny_typeOf hTs ?_)
  rw [if_pos (by decide)]
  refine wpAny_bind (sliceApplied_rev hs ?_)
  have hno : ¬ ((((items.size : Int) - 1) == 0 && (-1 : Int) == 1 && (items.size == items.size)) = true) := by
    intro q
    rw [Bool.and_eq_true, Bool.and_eq_true] at q
    exact absurd q.1.2 (by decide)
  show wpAny _ _ (if (((items.size : Int) - 1) == 0 && (-1 : Int) == 1 && (items.size == items.size)) = true then _ else _) _ _ s
  rw [if_neg hno, pick_rev]
  first
    | exact wpAny_bind (m := Builtin.Tuple.tupleExact _) (wpAny_newObj_type (wpAny_pure ⟨_, rfl, wpAny_pure h⟩) htake)
    | exact wpAny_bind (m := Builtin.Tuple.tupleExact _) (wpAny_newObj_type (wpAny_bind (wpAny_pure (wpAny_pure ⟨_, rfl, wpAny_pure h⟩))) htake)
    | exact wpAny_bind (wpAny_bind (m := Builtin.Tuple.tupleExact _) (wpAny_newObj_type (wpAny_pure (wpAny_pure ⟨_, rfl, wpAny_pure h⟩)) htake))
    | exact wpAny_bind (wpAny_bind (m := Builtin.Tuple.tupleExact _) (wpAny_newObj_type (wpAny_pure ⟨_, rfl, wpAny_pure h⟩) htake))
end
end HT
namespace Dz
open PySem PySem.Spec PyProof.Rows L2
section
variable {X : Cx}
/-! ### xs[::-1] of a list or a tuple -/
def tRevS (K : PySem.W.Frag) (te : TE) : TE := fun σ H Q => te σ H fun x H1 => ∃ a xs, x = .ref a ∧ ((SqL K H1 a xs ∧ ∀ p, H1 p = none → Q (.ref p) (upd H1 p (.lst xs.reverse))) ∨ (SqT K H1 a xs ∧ ∀ p, H1 p = none → Q (.ref p) (upd H1 p (.tup xs.reverse))))
theorem pe_revS {e : Expr} {te : TE} {k : Nat} {p1 p2 p3 pos : Pos} (he : PE X e te) : PE X (.Subscript e (.Slice none none (some (.UnaryOp .USub (.Constant (.int 1) k p1) p2)) p3) pos) (tRevS X.K te) := by
  refine ⟨fun pins s σ H Q I h => ?_⟩
  refine Subscript_ (thn (he.run pins s σ H _ I h) fun v s1 ⟨x, H1, I1, r1, q1⟩ => ?_)
  obtain ⟨a, xs, ex, hx⟩ := q1
  subst ex
  cases r1
  have hst : PO X (some (.UnaryOp .USub (.Constant (.int 1) k p1) p2)) (tPart (tUn (rU fun i => .int (-i)) (tC (.int 1)))) := po_some (pe_un un_neg pe_int)
  refine wpAny_Slice (thn (po_none.run pins s1 σ H1 (fun o H2 => o = none ∧ H2 = H1) I1 ⟨rfl, rfl⟩) fun vl s2 ⟨l, H2, I2, pl, el, e2⟩ => ?_)
  subst el e2
  refine thn (po_none.run pins s2 σ H2 (fun o H3 => o = none ∧ H3 = H2) I2 ⟨rfl, rfl⟩) fun vu s3 ⟨u, H3, I3, pu, eu, e3⟩ => ?_
  subst eu e3
  refine thn (hst.run pins s3 σ H3 (fun o H4 => o = some (-1) ∧ H4 = H3) I3 ⟨1, rfl, -1, rfl, rfl, rfl⟩) fun vs s4 ⟨o, H4, I4, ps, eo, e4⟩ => ?_
  subst eo e4
  have I5 : Inv X pins σ H4 { s4 with heap := s4.heap.push { cls := .type "slice", data := .fields #[vl, vu, vs] } } := I4.kept (t' := s4.toks) fun b ob q => Heap.get?_push_of_some _ q
  rcases hx with ⟨hx, q⟩ | ⟨hx, q⟩
  · obtain ⟨its, r, ht, hz⟩ := I5.list hx
    have hlen := r.length
    show wpAny (model X.prog X.w) X.A (subscriptTail e (.Slice none none (some (.UnaryOp .USub (.Constant (.int 1) k p1) p2)) p3) (.ref a) (.ref s4.heap.objs.size)) (EP X pins σ Q) X.xe { s4 with heap := s4.heap.push { cls := .type "slice", data := .fields #[vl, vu, vs] } }
    refine PyProof.Rows.tail_any (ops := [.ref a, .ref s4.heap.objs.size]) ht.isList.typeIs (PySem.slot_list_getitem.lookup) ?_ (by with_unfolding_all rfl)
    refine wpAny_getItem_list_slice ht.isList (Heap.IsSliceOf.new _ vl vu vs) pl pu ps (by decide) ?_ (by rw [List.size_toArray]; omega)
    rw [PySem.W.krv_pick]
    refine ⟨.ref _, _, I5.laid (t' := s4.toks) (o := .lst xs.reverse) (fun b ob q => Heap.get?_push_of_some _ q) (Nat.le_refl _) ?_, rfl, q _ (I5.hok.fresh (Nat.le_refl _))⟩
    exact ⟨by rw [List.length_reverse]; exact hz, _, 0, r.reverse, Heap.get?_push_size _ rfl⟩
  · obtain ⟨its, r, ht, hz⟩ := I5.tuple hx
    have hlen := r.length
    cases pl
    cases pu
    cases ps
    show wpAny (model X.prog X.w) X.A (subscriptTail e (.Slice none none (some (.UnaryOp .USub (.Constant (.int 1) k p1) p2)) p3) (.ref a) (.ref s4.heap.objs.size)) (EP X pins σ Q) X.xe { s4 with heap := s4.heap.push { cls := .type "slice", data := .fields #[.none, .none, _] } }
    refine PyProof.Rows.tail_any (ops := [.ref a, .ref s4.heap.objs.size]) ht.typeIs (PyProof.Rows.slot_tuple_getitem.lookup) ?_ (by with_unfolding_all rfl)
    refine HT.getItem_tuple_rev ht (Heap.IsSliceOf.new _ _ _ _) ?_ (by rw [List.size_toArray]; omega)
    refine ⟨.ref _, _, I5.laid (t' := s4.toks) (o := .tup xs.reverse) (fun b ob q => Heap.get?_push_of_some _ q) (Nat.le_refl _) ?_, rfl, q _ (I5.hok.fresh (Nat.le_refl _))⟩
    exact ⟨by rw [List.length_reverse]; exact hz, _, r.reverse, IsTup.new _ _⟩

/-! ### one value in -/
theorem op1 {f : Value → Sem Value} {g : D → Hs → QD → Prop}
    (h : ∀ (pins : List (Addr × Obj)) (s : Shared) (σ : L2.St) (H : Hp) (x : V) (v : Value) (Q : VK) (d : D) (S : Hs) (Q' : QD), Inv X pins σ H s → RelV x v → Rs X.K S H → Dv X.K S H x d → g d S Q' → EndQ X.K S H Q' Q →
      wpAny (model X.prog X.w) X.A (f v) (EP X pins σ Q) X.xe s) : UnR X f (fun x H Q => rO X.K (Dz.one g) [x] H Q) := by
  intro pins s σ H x v Q I rx q
  obtain ⟨ds, S, Q', r, da, hg, e⟩ := q
  cases da with
  | cons h1 t1 =>
    cases t1
    exact h pins s σ H x v Q _ S Q' I rx r h1 hg e
theorem o_neg : UnR X (unaryOp .USub) (fun x H Q => rO X.K (Dz.one negW) [x] H Q) := op1 fun pins s σ H x v Q d S Q' I rx r hx g k => by
  cases d <;> first
    | exact (show False from g).elim
    | skip
  cases hx
  exact un_neg pins s σ H _ v Q I rx ⟨_, rfl, end_now r (.int _) g k⟩
/-- a call with one argument -/
theorem ca1 {f : Value} {g : D → Hs → QD → Prop} {r : List V → Hp → VK → Prop} (hf : CallR X f r)
    (h : ∀ (H : Hp) (x : V) (Q : VK) (d : D) (S : Hs) (Q' : QD), Rs X.K S H → Dv X.K S H x d → g d S Q' → EndQ X.K S H Q' Q → r [x] H Q) : CallR X f (rO X.K (Dz.one g)) := by
  intro pins s σ H xs us Q I rx q
  obtain ⟨ds, S, Q', r', da, hg, e⟩ := q
  cases da with
  | nil => exact (show False from hg).elim
  | cons h1 t1 =>
    cases t1 with
    | nil => exact hf pins s σ H _ us Q I rx (h H _ Q _ S Q' r' h1 hg e)
    | cons _ _ => exact (show False from hg).elim
theorem ca2 {f : Value} {g : D → D → Hs → QD → Prop} {r : List V → Hp → VK → Prop} (hf : CallR X f r)
    (h : ∀ (H : Hp) (x y : V) (Q : VK) (d e : D) (S : Hs) (Q' : QD), Rs X.K S H → Dv X.K S H x d → Dv X.K S H y e → g d e S Q' → EndQ X.K S H Q' Q → r [x, y] H Q) : CallR X f (rO X.K (two g)) := by
  intro pins s σ H xs us Q I rx q
  obtain ⟨ds, S, Q', r', da, hg, e⟩ := q
  cases da with
  | nil => exact (show False from hg).elim
  | cons h1 t1 =>
    cases t1 with
    | nil => exact (show False from hg).elim
    | cons h2 t2 =>
      cases t2 with
      | nil => exact hf pins s σ H _ us Q I rx (h H _ _ Q _ _ S Q' r' h1 h2 hg e)
      | cons _ _ => exact (show False from hg).elim
theorem c_len : CallR X (.builtin "len") (rO X.K (Dz.one lenW)) := ca1 (L2.CallR.or (L2.CallR.or call_len_str call_len_seq) (L2.CallR.or call_lenD call_len_dT)) fun H x Q d S Q' r hx g k => by
  have seqs : (∃ xs, seqOf S d = some xs ∧ Q' (.int xs.length) S) → ((∃ z, [x] = [V.str z] ∧ z.length ≤ sizeLine ∧ Q (V.int z.length) H) ∨ ∃ p ys, [x] = [V.ref p] ∧ (SqL X.K H p ys ∨ SqT X.K H p ys) ∧ Q (V.int ys.length) H) ∨ ((∃ a kvs, [x] = [V.ref a] ∧ H a = some (HO.dK kvs) ∧ Q (V.int kvs.length) H) ∨ rLenT [x] H Q) := fun ⟨xs, e, q⟩ => by
    obtain ⟨a, vs, rfl, h1, h2⟩ := seqOf_ok r hx e
    exact Or.inl (Or.inr ⟨a, vs, rfl, h1, by rw [h2.len]; exact end_now r (.int _) q k⟩)
  cases d with
  | str z =>
    cases hx
    exact .inl (.inl ⟨z, rfl, g.1, end_now r (.int _) g.2 k⟩)
  | ref a =>
    obtain ⟨o, n, e1, e2, q⟩ := g
    cases o with
    | lst xs =>
      cases e2
      exact seqs ⟨xs, by unfold seqOf lstOf; simp only [e1], q⟩
    | dK kvs =>
      cases e2
      cases hx
      obtain ⟨kv, q1, q2⟩ := rs_dk r e1
      exact .inr (.inl ⟨a, kv, rfl, q1, by rw [← kvd_len q2]; exact end_now r (.int _) q k⟩)
    | dT kvs =>
      cases e2
      cases hx
      obtain ⟨kv, q1, q2⟩ := rs_dt r e1
      exact .inr (.inr ⟨a, kv, rfl, q1, by rw [← kvd_len q2]; exact end_now r (.int _) q k⟩)
    | _ => cases e2
  | _ => exact seqs g
theorem c_int : CallR X (.type "int") (rO X.K (Dz.one intW)) := ca1 call_int1 fun H x Q d S Q' r hx g k => by
  cases d <;> first
    | exact (show False from g).elim
    | (cases hx; exact .inl ⟨_, rfl, end_now r (.int _) g k⟩)
    | (cases hx; exact .inr ⟨_, rfl, end_now r (.int _) g k⟩)
theorem c_abs : CallR X (.builtin "abs") (rO X.K (Dz.one absW)) := ca1 call_abs fun H x Q d S Q' r hx g k => by
  cases d <;> first
    | exact (show False from g).elim
    | (cases hx; exact ⟨_, rfl, end_now r (.int _) g k⟩)
theorem c_min (hc : X.calm = true) : CallR X (.builtin "min") (rO X.K (two minW)) := ca2 (call_min2 hc) fun H x y Q d e S Q' r hx hy g k => by
  cases d <;> cases e <;> first
    | exact (show False from g).elim
    | (cases hx; cases hy; exact ⟨_, _, rfl, end_now r (.int _) g k⟩)
theorem c_max (hc : X.calm = true) : CallR X (.builtin "max") (rO X.K (two maxW)) := ca2 (call_max2 hc) fun H x y Q d e S Q' r hx hy g k => by
  cases d <;> cases e <;> first
    | exact (show False from g).elim
    | (cases hx; cases hy; exact ⟨_, _, rfl, end_now r (.int _) g k⟩)
theorem c_tuple : CallR X (.type "tuple") (rO X.K (Dz.one tupleW)) := ca1 call_tuple_of fun H x Q d S Q' r hx g k => by
  have lists : (∃ xs, lstOf S d = some xs ∧ Q' (.tup xs) S) → ∃ p ys, [x] = [V.ref p] ∧ ((SqL X.K H p ys ∧ ∀ l, H l = none → Q (.ref l) (upd H l (.tup ys))) ∨ (SqT X.K H p ys ∧ Q (.ref p) H)) := fun ⟨xs, e, q⟩ => by
    obtain ⟨a, vs, rfl, h1, h2⟩ := lstOf_ok r hx e
    exact ⟨a, vs, rfl, .inl ⟨h1, newT_ok r h2 q k⟩⟩
  cases d with
  | tup ys =>
    obtain ⟨xs, e, q⟩ := g
    cases e
    obtain ⟨a, vs, rfl, h1, h2⟩ := hx.of_tup
    exact ⟨a, vs, rfl, .inr ⟨h1, end_now r hx q k⟩⟩
  | ctp ys =>
    obtain ⟨a, vs, rfl, h1, h2⟩ := hx.of_ctp
    exact ⟨a, vs, rfl, .inr ⟨h1, end_now r hx g k⟩⟩
  | _ => exact lists g
theorem c_list : CallR X (.type "list") (rO X.K (Dz.one listW)) := ca1 call_list_of fun H x Q d S Q' r hx g k => by
  obtain ⟨xs, e, q⟩ := g
  obtain ⟨a, vs, rfl, h1, h2⟩ := seqOf_ok r hx e
  exact ⟨a, vs, rfl, h1, newL_ok r h2 q k⟩
theorem sortI_perm (ns : List Int) : (sortI ns).Perm ns := List.mergeSort_perm _ _
theorem sortI_sorted (ns : List Int) : (sortI ns).Pairwise (· ≤ ·) := by
  have h := List.pairwise_mergeSort (le := fun a b : Int => decide (a ≤ b)) (fun a b c h1 h2 => by simp at *; omega) (fun a b => by simp; omega) ns
  exact h.imp fun z => by simpa using z
theorem DvA.strs {S : Hs} {H : Hp} {K : PySem.W.Frag} : ∀ ns : List Str, DvA K S H (ns.map V.str) (ns.map D.str)
  | [] => .nil
  | n :: r => .cons (.str n) (DvA.strs r)
theorem DvA.of_strs {S : Hs} {H : Hp} {K : PySem.W.Frag} : ∀ {ns : List Str} {vs : List V}, DvA K S H vs (ns.map D.str) → vs = ns.map V.str
  | [], _, h => by cases h; rfl
  | n :: r, _, h => by
    cases h with
    | cons a b =>
      cases a
      rw [DvA.of_strs b]
      rfl
theorem kvd_keys {S : Hs} {H : Hp} {K : PySem.W.Frag} {κ : Type} {kd : List (κ × D)} {kv : List (κ × V)} (h : KvD K S H kd kv) : kv.map (·.1) = kd.map (·.1) := by
  unfold KvD at h
  induction h with
  | nil => rfl
  | cons hd tl ih => rw [List.map_cons, List.map_cons, ih, hd.1]
theorem c_sorted (hc : X.calm = true) : CallR X (.builtin "sorted") (rO X.K (Dz.one sortedW)) := ca1 (L2.CallR.or (L2.CallR.or cr_sortedI cr_sortT) (L2.CallR.or cr_sortedS (L2.CallR.or (call_sortedD hc) (call_sortedDI hc)))) fun H x Q d S Q' r hx g k => by
  rcases g with ⟨ns, e, q⟩ | ⟨xs, e, hl, q⟩ | ⟨a, kvs, ks, rfl, e, ek, hl, q⟩ | ⟨a, kvs, ks, rfl, e, ek, hl, q⟩
  · obtain ⟨a, vs, rfl, h1, h2⟩ := seqOf_ok r hx e
    have e2 := h2.of_ints
    subst e2
    have fin : ∀ (ms : List Int) (p : Addr), ms.Perm ns → ms.Pairwise (· ≤ ·) → H p = none → Q (.ref p) (upd H p (.lst (ms.map V.int))) := fun ms p hp hs hn => by
      have e3 : ms = sortI ns := PySem.W.ksm_same (hp.trans (sortI_perm ns).symm) hs (sortI_sorted ns)
      subst e3
      exact newL_ok r (DvA.ints _) q k p hn
    rcases h1 with h1 | h1
    · exact .inl (.inl ⟨a, ns, rfl, h1, fin⟩)
    · exact .inl (.inr ⟨a, ns, rfl, h1, fin⟩)
  · obtain ⟨a, vs, rfl, h1, h2⟩ := lstOf_ok r hx e
    have e2 := h2.of_strs
    subst e2
    exact .inr (.inl ⟨a, xs, rfl, h1, hl, fun ys p hp hs hn => newL_ok r (DvA.strs _) (q ys hp hs) k p hn⟩)
  · cases hx
    obtain ⟨kv, h1, h2⟩ := rs_kd r e
    exact .inr (.inr (.inl ⟨a, kv, ks, rfl, h1, by rw [kvd_keys h2]; exact ek, hl, fun ys p hp hs hn => newL_ok r (DvA.strs _) (q ys hp hs) k p hn⟩))
  · cases hx
    obtain ⟨kv, h1, h2⟩ := rs_kd r e
    refine .inr (.inr (.inr ⟨a, kv, ks, rfl, h1, by rw [kvd_keys h2]; exact ek, hl, fun ys p hp hs hn => ?_⟩))
    have e3 : ys = sortI ks := PySem.W.ksm_same (hp.trans (sortI_perm ks).symm) hs (sortI_sorted ks)
    subst e3
    exact newL_ok r (DvA.ints _) q k p hn
theorem pairs_D {S : Hs} {H : Hp} {K : PySem.W.Frag} : ∀ {kd : List (Key × D)} {vs : List V}, DvA K S H vs (kd.map fun p => D.tup [keyD p.1, p.2]) → ∃ (ps : List Addr) (kv : List (Key × V)), vs = ps.map V.ref ∧ Paired (fun p kv => SqT K H p [kV kv.1, kv.2]) ps kv ∧ KvD K S H kd kv
  | [], _, h => by
    cases h
    exact ⟨[], [], rfl, .nil, .nil⟩
  | (key, d) :: t, _, h => by
    cases h with
    | cons a b =>
      obtain ⟨ps, kv, e1, e2, e3⟩ := pairs_D b
      obtain ⟨q, ws, rfl, g1, g2⟩ := a.of_tup
      cases g2 with
      | cons x1 x2 =>
        cases x2 with
        | cons x3 x4 =>
          cases x4
          have e4 := key_V x1 (show (keyD key).key = some key by cases key <;> rfl)
          subst e4
          exact ⟨q :: ps, (key, _) :: kv, by rw [e1]; rfl, .cons g1 e2, .cons ⟨rfl, x3⟩ e3⟩
theorem c_dict (hc : X.calm = true) : CallR X (.type "dict") (rO X.K (Dz.one dictW)) := ca1 (L2.CallR.or call_dictD (call_dictP hc)) fun H x Q d S Q' r hx g k => by
  rcases g with ⟨a, kvs, rfl, e, q⟩ | ⟨kvs, e, q⟩
  · cases hx
    obtain ⟨kv, h1, h2⟩ := rs_kd r e
    exact .inl ⟨a, kv, rfl, h1, fun p hp => k _ _ _ _ (rs_live (m := .dK kvs) (o := .dK kv) r hp (show KvD X.K _ _ kvs kv from KvD.mono (fr_live hp) h2)) (fr_live hp) (.ref p) (q p (r.free hp))⟩
  · obtain ⟨a, vs, rfl, h1, h2⟩ := lstOf_ok r hx e
    obtain ⟨ps, kv, rfl, h3, h4⟩ := pairs_D h2
    exact .inr ⟨a, ps, kv, rfl, h1, h3, fun p hp => k _ _ _ _ (rs_live (m := .dK (mergeD [] kvs)) (o := .dK (mergeK [] kv)) r hp (show KvD X.K _ _ (mergeD [] kvs) (mergeK [] kv) from KvD.mono (fr_live hp) (kvd_merge h4 .nil))) (fr_live hp) (.ref p) (q p (r.free hp))⟩
theorem DvA.of_bls {S : Hs} {H : Hp} {K : PySem.W.Frag} : ∀ {bs : List Bool} {vs : List V}, DvA K S H vs (bs.map D.bl) → vs = bs.map V.bl
  | [], _, h => by cases h; rfl
  | b :: t, _, h => by
    cases h with
    | cons a c =>
      cases a
      rw [DvA.of_bls c]
      rfl
theorem c_all (hc : X.calm = true) : CallR X (.builtin "all") (rO X.K (Dz.one allW)) := ca1 (cr_all hc) fun H x Q d S Q' r hx g k => by
  obtain ⟨bs, e, q⟩ := g
  obtain ⟨a, vs, rfl, h1, h2⟩ := lstOf_ok r hx e
  have e2 := h2.of_bls
  subst e2
  exact ⟨a, bs, rfl, h1, end_now r (.bl _) q k⟩
theorem c_any (hc : X.calm = true) : CallR X (.builtin "any") (rO X.K (Dz.one anyW)) := ca1 (cr_any hc) fun H x Q d S Q' r hx g k => by
  obtain ⟨bs, e, q⟩ := g
  obtain ⟨a, vs, rfl, h1, h2⟩ := lstOf_ok r hx e
  have e2 := h2.of_bls
  subst e2
  exact ⟨a, bs, rfl, h1, end_now r (.bl _) q k⟩
theorem c_sum (hc : X.calm = true) : CallR X (.builtin "sum") (rO X.K (Dz.one sumW)) := ca1 (cr_sum hc) fun H x Q d S Q' r hx g k => by
  obtain ⟨ns, e, q⟩ := g
  obtain ⟨a, vs, rfl, h1, h2⟩ := lstOf_ok r hx e
  have e2 := h2.of_ints
  subst e2
  exact ⟨a, ns, rfl, h1, end_now r (.int _) q k⟩

/-! ### subscripts -/
theorem atI_D {S : Hs} {H : Hp} {K : PySem.W.Frag} {vs : List V} {ds : List D} {i : Int} {d : D} (h : DvA K S H vs ds) (e : atI ds i = some d) : ∃ v, atI vs i = some v ∧ Dv K S H v d := by
  unfold atI at e ⊢
  rw [h.len]
  cases q : ixN ds.length i with
  | none => rw [q] at e; cases e
  | some j =>
    rw [q] at e
    obtain ⟨v, e1, e2⟩ := h.get (show ds[j]? = some d from e)
    exact ⟨v, e1, e2⟩
theorem o_ix (hu : X.A.units + 1 < cLine) : IxR X (fun x y H Q => rO X.K (two ixW) [x, y] H Q) := by
  intro value slice pins s σ H x y v u Q I rx ry q hs
  obtain ⟨ds, S, Q', r, da, hg, k⟩ := q
  cases da with
  | cons h1 t1 =>
    cases t1 with
    | cons h2 t2 =>
      cases t2
      rename_i d e
      have hg : ixW d e S Q' := hg
      have seqs : ∀ {i : Int}, Dv X.K S H y (.int i) → (∃ xs x', seqOf S d = some xs ∧ atI xs i = some x' ∧ Q' x' S) → wpAny (model X.prog X.w) X.A (subscriptTail value slice v u) (EP X pins σ Q) X.xe s := fun {i} hy ⟨xs, x', e1, e2, q⟩ => by
        cases hy
        obtain ⟨a, vs, rfl, q1, q2⟩ := seqOf_ok r h1 e1
        obtain ⟨w', e3, e4⟩ := atI_D q2 e2
        rcases q1 with q1 | q1
        · exact ix_list value slice pins s σ H _ _ v u Q I rx ry ⟨a, vs, i, w', rfl, rfl, q1, e3, end_now r e4 q k⟩ hs
        · exact ix_tup value slice pins s σ H _ _ v u Q I rx ry ⟨a, vs, i, w', rfl, rfl, q1, e3, end_now r e4 q k⟩ hs
      cases d with
      | ref a =>
        rcases hg with ⟨xs, i, x', e1, e2, e3, q⟩ | ⟨x', g, q⟩
        · subst e2
          exact seqs h2 ⟨xs, x', by unfold seqOf lstOf; simp only [e1], e3, q⟩
        · obtain ⟨p, g1, g2⟩ := dget_ok r h2 g
          cases p with
          | none => exact g2.elim
          | some w' =>
            cases h1
            cases (show v = Value.ref a from rx)
            refine PyProof.Rows.tail_any (ops := [.ref a, u]) (dict_typeIs I g1) PySem.F.slot_dict_getitem.lookup ?_ hs
            exact d_getItem hu I g1 ry fun w'' s3 I3 rw' => ⟨w', H, I3, rw', end_now r g2 q k⟩
      | str z =>
        cases e with
        | int i =>
          obtain ⟨hz, c, e1, q⟩ := hg
          cases h1
          cases h2
          exact ix_str value slice pins s σ H _ _ v u Q I rx ry ⟨z, i, c, rfl, rfl, hz, e1, end_now r (.str _) q k⟩ hs
        | _ => exact (show False from hg).elim
      | tup xs =>
        cases e with
        | int i => obtain ⟨x', e1, q⟩ := hg; exact seqs h2 ⟨xs, x', rfl, e1, q⟩
        | _ => exact (show False from hg).elim
      | ctp xs =>
        cases e with
        | int i => obtain ⟨x', e1, q⟩ := hg; exact seqs h2 ⟨xs, x', rfl, e1, q⟩
        | _ => exact (show False from hg).elim
      | lst xs =>
        cases e with
        | int i => obtain ⟨x', e1, q⟩ := hg; exact seqs h2 ⟨xs, x', rfl, e1, q⟩
        | _ => exact (show False from hg).elim
      | _ => exact (show False by cases e <;> exact hg).elim
/-! slices -/
theorem cut_D {S : Hs} {H : Hp} {K : PySem.W.Frag} {vs : List V} {ds : List D} (h : DvA K S H vs ds) (lo hi : Option Int) : DvA K S H (cutV vs lo hi) (cutD ds lo hi) := by
  unfold cutV cutD
  rw [h.len]
  exact (h.drop _).take _
def rSl (K : PySem.W.Frag) : V → Option Int → Option Int → Hp → VK → Prop := fun x lo hi H Q => ∃ d S Q', Rs K S H ∧ Dv K S H x d ∧ slW d lo hi S Q' ∧ EndQ K S H Q' Q
theorem cutD_whole {xs : List D} {lo hi : Option Int} (h : HT.sIx xs.length 0 lo = 0 ∧ HT.sIx xs.length xs.length hi = xs.length) : cutD xs lo hi = xs := by
  unfold cutD
  rw [h.1, h.2]
  simp
theorem o_sl : SlR X (rSl X.K) := by
  intro pins s σ H x v vl vu lo hi sl Q I rx hs pl pu h
  obtain ⟨d, S, Q', r, hx, g, k⟩ := h
  have lists : (∃ xs, lstOf S d = some xs ∧ NewL (cutD xs lo hi) S Q') → rSlL X.K x lo hi H Q := fun ⟨xs, e, n⟩ => by
    obtain ⟨a, vs, rfl, q1, q2⟩ := lstOf_ok r hx e
    exact ⟨a, vs, rfl, q1, newL_ok r (cut_D q2 lo hi) n k⟩
  cases d with
  | str z =>
    cases hx
    exact sl_str pins s σ H _ v vl vu lo hi sl Q I rx hs pl pu ⟨z, rfl, g.1, end_now r (.str _) g.2 k⟩
  | tup xs =>
    obtain ⟨a, vs, rfl, q1, q2⟩ := hx.of_tup
    refine sl_tupA pins s σ H _ v vl vu lo hi sl Q I rx hs pl pu ⟨a, vs, rfl, q1, fun w => ?_, fun w => newT_ok r (cut_D q2 lo hi) g k⟩
    rw [q2.len] at w
    exact end_now r hx (by rw [← cutD_whole w]; exact g) k
  | _ => exact sl_list pins s σ H _ v vl vu lo hi sl Q I rx hs pl pu (lists g)

/-! ### methods, stores, truth -/
theorem m_append : MtR X "list.append" (fun x xs H Q => rO X.K (two appendW) (x :: xs) H Q) := by
  intro pins s σ H x xs v us Q I rx rs q
  obtain ⟨ds, S, Q', r, da, hg, k⟩ := q
  cases da with
  | cons h1 t1 =>
    cases t1 with
    | nil => exact (show False from hg).elim
    | cons h2 t2 =>
      cases t2 with
      | cons _ _ => exact (show False from hg).elim
      | nil =>
        rename_i d y e
        cases d with
        | ref a =>
          obtain ⟨xs, e1, hz, q⟩ := (show ∃ xs, S a = some (.lst xs) ∧ xs.length < sizeLine ∧ Q' .non (sup S a (.lst (xs ++ [e]))) from hg)
          obtain ⟨vs, q1, q2⟩ := rs_lst r e1
          cases h1
          refine mt_append pins s σ H _ _ v us Q I rx rs ⟨a, vs, y, rfl, rfl, q1, by rw [q2.len]; exact hz, ?_⟩
          exact k _ _ _ _ (rs_mut (m := .lst (xs ++ [e])) r e1 (show DvA X.K _ _ (vs ++ [y]) (xs ++ [e]) from (q2.append (.cons h2 .nil)).mono (fr_mut r e1))) (fr_mut r e1) .non q
        | _ => exact (show False from hg).elim
def rSetD (K : PySem.W.Frag) : V → V → V → Hp → (Hp → Prop) → Prop := fun o i v H Q => ∃ d e y S Q', Rs K S H ∧ Dv K S H o d ∧ Dv K S H i e ∧ Dv K S H v y ∧ setW d e y S Q' ∧ ∀ H' S', Rs K S' H' → Fr S H S' H' → Q' S' → Q H'
theorem o_set (hu : X.A.units + 1 < cLine) : PSet X (rSetD X.K) := by
  intro pins s σ H o i v ov iv u Q I ro ri rv h
  obtain ⟨d, e, y, S, Q', r, h1, h2, h3, g, k⟩ := h
  unfold setW at g
  cases d with
  | ref a =>
    cases h1
    rcases g with ⟨xs, j, n, e1, e0, e2, q⟩ | g
    · subst e0
      obtain ⟨vs, q1, q2⟩ := rs_lst r e1
      cases h2
      refine set_list pins s σ H _ _ _ ov iv u Q I ro ri rv ⟨a, vs, j, n, rfl, rfl, q1, by rw [q2.len]; exact e2, ?_⟩
      exact k _ _ (rs_mut (m := .lst (xs.set n y)) r e1 (show DvA X.K _ _ (vs.set n v) (xs.set n y) from (q2.set h3 n).mono (fr_mut r e1))) (fr_mut r e1) q
    · obtain ⟨H', S', g1, r', f', q⟩ := dput_ok r h2 h3 g
      cases (show ov = Value.ref a from ro)
      exact d_setItem hu I g1 ri rv fun s' I' => ⟨H', I', k _ _ r' f' q⟩
  | _ => exact (show False from g).elim
theorem isEmpty_len {α β : Type} {xs : List α} {ys : List β} (h : xs.length = ys.length) : xs.isEmpty = ys.isEmpty := by
  cases xs <;> cases ys <;> simp at h ⊢
theorem tru_D {S : Hs} {H : Hp} {x : V} {d : D} {b : Bool} (r : Rs X.K S H) (hx : Dv X.K S H x d) (h : TruD S d b) : TruV X.K x H b := by
  cases d with
  | non => cases hx; exact h
  | bl c => cases hx; exact h
  | int i => cases hx; exact h
  | str y => cases hx; exact h
  | tup xs =>
    obtain ⟨a, vs, rfl, q1, q2⟩ := hx.of_tup
    exact .inr (.inl ⟨vs, q1, by rw [isEmpty_len q2.len]; exact h⟩)
  | ctp xs =>
    obtain ⟨a, vs, rfl, q1, q2⟩ := hx.of_ctp
    exact .inr (.inl ⟨vs, q1, by rw [isEmpty_len q2.len]; exact h⟩)
  | lst xs =>
    obtain ⟨a, vs, rfl, q1, q2⟩ := hx.of_lst
    exact .inl ⟨vs, q1, by rw [isEmpty_len q2.len]; exact h⟩
  | ref a =>
    cases hx
    rcases h with ⟨xs, e, h⟩ | ⟨kvs, e, h⟩
    · obtain ⟨vs, q1, q2⟩ := rs_lst r e
      exact .inl ⟨vs, .of q1, by rw [isEmpty_len q2.len]; exact h⟩
    · obtain ⟨u, e1, e2⟩ := r a _ e
      cases u with
      | dK kv =>
        have hl : kvs.length = kv.length := Paired.length (show KvD X.K S H kvs kv from e2)
        exact .inr (.inr ⟨kv, e1, by rw [← isEmpty_len hl]; exact h⟩)
      | _ => exact (show False from e2).elim
  | ty n => exact h.elim
end
end Dz
namespace Dz
open PySem PySem.Spec PyProof.Rows L2

/-! ### the wishes at an end -/
section
variable {K : PySem.W.Frag} {S S1 : Hs} {H H1 : Hp} {Q' : QD} {Q : VK} {X' : XQ} {E : XK}
theorem EndQ.fr (f : Fr S H S1 H1) (e : EndQ K S H Q' Q) : EndQ K S1 H1 Q' Q := fun v H' d S' r g x q => e v H' d S' r (f.trans g) x q
theorem EndX.fr (f : Fr S H S1 H1) (e : EndX K S H X' E) : EndX K S1 H1 X' E := fun c dx H' x S' r g z q => e c dx H' x S' r (f.trans g) z q
theorem EndX.X0 : EndX K S H X0 E := fun _ _ _ _ _ _ _ _ q => q.elim
end
/-- what a callee promises, by data -/
def toSp (K : PySem.W.Frag) (sp : DSp) : Sp := fun vs H Q E => ∃ ds S Q' X', Rs K S H ∧ DvA K S H vs ds ∧ sp ds S Q' X' ∧ EndQ K S H Q' Q ∧ EndX K S H X' E
def FnAt (P : Program) (w : World) (K : PySem.W.Frag) (mg : Str → Option Value) (base : Heap) (k : Nat) (p : Str × DSp) : Prop :=
  ∃ f fd ps, mg p.1 = some (.ref f) ∧ PySem.W.keepIn K (.ref f) = true ∧ Binds K fd ps [] ∧ FnOk P w K mg base (L2.CX P w) k f fd ps (toSp K p.2)
def MthAt (P : Program) (w : World) (K : PySem.W.Frag) (base : Heap) (mg : Str → Option Value) (k : Nat) (p : MthD) : Prop :=
  Cls K p.C ∧ ∃ f fd ps, Meth K p.C p.name f ∧ Binds K fd ps [] ∧ FnOk P w K mg base (L2.CX P w) k f fd ps (toSp K p.sp)
def MkAt (P : Program) (w : World) (K : PySem.W.Frag) (base : Heap) (mg : Str → Option Value) (k : Nat) (p : MthD) : Prop :=
  mg p.name = some (.ref p.C) ∧ ∃ f fd ps j, j + 1 ≤ k ∧ Mk K p.C f ∧ Binds K fd ps [] ∧ FnOk P w K mg base (L2.CX P w) j f fd ps (toSp K p.sp)
/-- an exception class of the program over ValueError, without __init__ -/
structure ExcAt (K : PySem.W.Frag) (mg : Str → Option Value) (p : Str × Addr) : Prop where
  g : mg p.1 = some (.ref p.2)
  x : PySem.W.excIn K p.2 [.type "ValueError", .type "Exception", .type "BaseException", .type "object"] "ValueError.__new__" = true
  k : PySem.W.keepIn K (.ref p.2) = true
  b : PySem.W.subIn K (.ref p.2) (.type "BaseException") = some true
  t : PySem.W.typeIn K (.ref p.2) = some (.type "type")
structure CfgOk (P : Program) (w : World) (K : PySem.W.Frag) (mg : Str → Option Value) (base : Heap) (k : Nat) (c : Cfg) : Prop where
  fns : ∀ p ∈ c.fns, FnAt P w K mg base k p
  cons : ∀ p ∈ c.cons, ∃ v u, mg p.1 = some u ∧ RelV v u ∧ ∀ S H, Dv K S H v p.2
  nob : ∀ x ∈ c.nob, mg x = none
  flds : ∀ p ∈ c.flds, Cls K p.1 ∧ NoAttr K p.1 p.2 := by intro _ h; cases h
  mths : ∀ p ∈ c.mths, MthAt P w K base mg k p := by intro _ h; cases h
  mks : ∀ p ∈ c.mks, MkAt P w K base mg k p := by intro _ h; cases h
  excs : ∀ p ∈ c.excs, ExcAt K mg p := by intro _ h; cases h
  exm : ∀ p ∈ c.exm, PySem.W.exmOne K (.ref p.1) (.ref p.2.1) = some p.2.2 := by intro _ h; cases h
structure Sx (X : Cx) (c : Cfg) (N : List Str) (sc : Scope) (W : WX) (cm : Bool) : Prop where
  hN : X.N = N
  nd : X.N.Nodup
  hsc : X.env.scope = sc
  calm : cm = true → X.calm = true
  hu : X.A.units + 65 < cLine
  cfg : ∃ k, (cm = true → Room k X.A) ∧ CfgOk X.prog X.w X.K X.mg X.base k c
  tk : Takes X W

section
variable {X : Cx} {W : WX} {pos p : Pos} {a b e : Expr} {wa wb we : WE}
theorem s_var {i : Nat} {x : Str} (hN : X.N[i]? = some x) (hv : Vis X.env.scope x) (h1 : (x == ("__debug__" : Str)) = false) (h2 : (x == ("__classdict__" : Str)) = false) :
    PE X (.Name x pos) (tDE X.K W fun ρ S Q _ => ∃ d, ρ[i]? = some (some d) ∧ Q d S) := (pe_var hN hv h1 h2).imp fun σ H Q ⟨ρ, S, Q', X', r, rr, ⟨d, e, q⟩, k, _⟩ => by
  obtain ⟨v, e1, e2⟩ := rr.2 i d e
  exact ⟨v, e1, end_now r e2 q k⟩
theorem s_con {e : Expr} {v : V} {d : D} (h : PE X e (tC v)) (hd : ∀ S H, Dv X.K S H v d) : PE X e (tDE X.K W fun _ S Q _ => Q d S) := h.imp fun σ H Q ⟨ρ, S, Q', X', r, rr, q, k, _⟩ => end_now r (hd S H) q k
theorem da2 {K : PySem.W.Frag} {S S1 : Hs} {H H1 : Hp} {v w : V} {d e : D} (f : Fr S H S1 H1) (h1 : Dv K S H v d) (h2 : Dv K S1 H1 w e) : DvA K S1 H1 [v, w] [d, e] := .cons (h1.mono f) (.cons h2 .nil)
/-- two expressions in a row, then an operation -/
theorem seq2 {σ : L2.St} {H : Hp} {Q : VK} {f : D → D → Hs → QD → Prop} {r2 : R2} (h : tDE X.K W (fun ρ S Q X => wa ρ S (fun x S1 => wb ρ S1 (fun y S2 => f x y S2 Q) X) X) σ H Q) (hr : r2 = fun x y H Q => rO X.K (two f) [x, y] H Q) :
    tOp r2 (tDE X.K W wa) (tDE X.K W wb) σ H Q := by
  obtain ⟨ρ, S, Q', X', r, rr, hw, k, kx⟩ := h
  subst hr
  refine ⟨ρ, S, _, X', r, rr, hw, fun v H1 d S1 r1 f1 x1 q1 => ?_, kx⟩
  refine ⟨ρ, S1, _, X', r1, rr.mono f1, q1, fun w H2 e S2 r2 f2 x2 q2 => ?_, kx.fr f1⟩
  exact ⟨[d, e], S2, Q', r2, da2 f2 x1 x2, q2, k.fr (f1.trans f2)⟩
theorem s_b2 (hu : X.A.units + 65 < cLine) (o : B2) (ha : PE X a (tDE X.K W wa)) (hb : PE X b (tDE X.K W wb)) : PE X (.BinOp a o.op b pos) (tDE X.K W fun ρ S Q X => wa ρ S (fun x S1 => wb ρ S1 (fun y S2 => o.w x y S2 Q) X) X) := by
  cases o with
  | add => exact (pe_op o_add ha hb).imp fun σ H Q h => seq2 h rfl
  | sub => exact (pe_op o_sub ha hb).imp fun σ H Q h => seq2 h rfl
  | mul => exact (pe_op o_mul ha hb).imp fun σ H Q h => seq2 h rfl
  | fdiv => exact (pe_op o_fdiv ha hb).imp fun σ H Q h => seq2 h rfl
  | mod => exact (pe_op o_mod ha hb).imp fun σ H Q h => seq2 h rfl
  | pow => exact (pe_op o_pow ha hb).imp fun σ H Q h => seq2 h rfl
theorem s_neg (ha : PE X a (tDE X.K W wa)) : PE X (.UnaryOp .USub a pos) (tDE X.K W fun ρ S Q X => wa ρ S (fun x S1 => negW x S1 Q) X) := (pe_un o_neg ha).imp fun σ H Q ⟨ρ, S, Q', X', r, rr, hw, k, kx⟩ =>
  ⟨ρ, S, _, X', r, rr, hw, fun v H1 d S1 r1 f1 x1 q1 => ⟨[d], S1, Q', r1, .cons x1 .nil, q1, k.fr f1⟩, kx⟩
/-- the rule of a comparison -/
theorem o_cm (hu : X.A.units + 65 < cLine) (o : Cm) : OpR X (compareOp o.op) (fun x y H Q => rO X.K (two o.w) [x, y] H Q) := by
  cases o with
  | lt => exact o_lt
  | le => exact o_le
  | gt => exact o_gt
  | ge => exact o_ge
  | eq => exact o_eq (by omega)
  | ne => exact o_ne (by omega)
  | isN => exact o_isN
  | notN => exact o_notN
  | isIn => exact o_in hu
  | notIn => exact o_notIn hu
theorem s_cm (hu : X.A.units + 65 < cLine) (o : Cm) (ha : PE X a (tDE X.K W wa)) (hb : PE X b (tDE X.K W wb)) (hm : behindInMarks o.op b = false) : PE X (.Compare a [o.op] [b] pos) (tDE X.K W fun ρ S Q X => wa ρ S (fun x S1 => wb ρ S1 (fun y S2 => o.w x y S2 Q) X) X) :=
  (pe_cmpR (o_cm hu o) ha hb hm).imp fun σ H Q h => seq2 h rfl
/-- a value's wish as a test's -/
theorem bl_end {K : PySem.W.Frag} {S : Hs} {H : Hp} {Q' : Bool → Hs → Prop} {Q : Bool → Hp → Prop} (k : ∀ b H' S', Rs K S' H' → Fr S H S' H' → Q' b S' → Q b H') :
    EndQ K S H (fun z S3 => ∃ k, z = .bl k ∧ Q' k S3) (fun x H' => ∃ k, x = .bl k ∧ Q k H') := fun v H' d S' r f x q => by
  obtain ⟨b, rfl, q⟩ := q
  cases x
  exact ⟨b, rfl, k b H' S' r f q⟩
theorem t_cm (hu : X.A.units + 65 < cLine) (o : Cm) (ha : PE X a (tDE X.K W wa)) (hb : PE X b (tDE X.K W wb)) (hm : behindInMarks o.op b = false) :
    PT X (.Compare a [o.op] [b] pos) (tDB X.K W fun ρ S Q X => wa ρ S (fun x S1 => wb ρ S1 (fun y S2 => o.w x y S2 fun z S3 => ∃ k, z = .bl k ∧ Q k S3) X) X) :=
  (pt_cmpR (o_cm hu o) ha hb hm).imp fun σ H Q ⟨ρ, S, Q', X', r, rr, hw, k, kx⟩ => seq2 (f := o.w) ⟨ρ, S, _, X', r, rr, hw, bl_end k, kx⟩ rfl
/-- a chain -/
theorem seq3 {σ : L2.St} {H : Hp} {Q : VK} {o o' : Cm} {we : WE} (h : tDE X.K W (fun ρ S Q X => wa ρ S (fun x S1 => wb ρ S1 (fun y S2 => o.w x y S2 fun z S3 => ∃ k, z = .bl k ∧
      if k = true then we ρ S3 (fun w S4 => o'.w y w S4 Q) X else Q (.bl false) S3) X) X) σ H Q) :
    tChain (fun x y H Q => rO X.K (two o.w) [x, y] H Q) (fun x y H Q => rO X.K (two o'.w) [x, y] H Q) (tDE X.K W wa) (tDE X.K W wb) (tDE X.K W we) σ H Q := by
  obtain ⟨ρ, S, Q', X', r, rr, hw, k, kx⟩ := h
  refine ⟨ρ, S, _, X', r, rr, hw, fun v H1 d S1 r1 f1 x1 q1 => ?_, kx⟩
  refine ⟨ρ, S1, _, X', r1, rr.mono f1, q1, fun w H2 e S2 r2 f2 x2 q2 => ?_, kx.fr f1⟩
  refine ⟨[d, e], S2, _, r2, da2 f2 x1 x2, q2, fun z H3 dz S3 r3 f3 x3 q3 => ?_⟩
  obtain ⟨c, rfl, q3⟩ := q3
  cases x3
  refine ⟨c, rfl, ?_⟩
  cases c with
  | false => exact iteF (k _ _ _ _ r3 (f1.trans (f2.trans f3)) (.bl false) q3)
  | true =>
    have q3 : we ρ S3 (fun w S4 => o'.w e w S4 Q') X' := q3
    refine iteT ⟨ρ, S3, _, X', r3, rr.mono (f1.trans (f2.trans f3)), q3, fun w' H4 d4 S4 r4 f4 x4 q4 => ?_, kx.fr (f1.trans (f2.trans f3))⟩
    exact ⟨[e, d4], S4, Q', r4, da2 (f3.trans f4) x2 x4, q4, k.fr (f1.trans (f2.trans (f3.trans f4)))⟩
theorem s_ch (hu : X.A.units + 65 < cLine) (o o' : Cm) (ha : PE X a (tDE X.K W wa)) (hb : PE X b (tDE X.K W wb)) (he : PE X e (tDE X.K W we)) (hm : lastMarks [o.op, o'.op] [b, e] = false) :
    PE X (.Compare a [o.op, o'.op] [b, e] pos) (tDE X.K W fun ρ S Q X => wa ρ S (fun x S1 => wb ρ S1 (fun y S2 => o.w x y S2 fun z S3 => ∃ k, z = .bl k ∧
      if k = true then we ρ S3 (fun w S4 => o'.w y w S4 Q) X else Q (.bl false) S3) X) X) := (pe_chain (o_cm hu o) (o_cm hu o') ha hb he hm).imp fun σ H Q h => seq3 h
theorem t_ch (hu : X.A.units + 65 < cLine) (o o' : Cm) (ha : PE X a (tDE X.K W wa)) (hb : PE X b (tDE X.K W wb)) (he : PE X e (tDE X.K W we)) (hm : lastMarks [o.op, o'.op] [b, e] = false) :
    PT X (.Compare a [o.op, o'.op] [b, e] pos) (tDB X.K W fun ρ S Q X => wa ρ S (fun x S1 => wb ρ S1 (fun y S2 => o.w x y S2 fun z S3 => ∃ k, z = .bl k ∧
      if k = true then we ρ S3 (fun w S4 => o'.w y w S4 fun z' S5 => ∃ k', z' = .bl k' ∧ Q k' S5) X else ∃ k', D.bl false = .bl k' ∧ Q k' S3) X) X) :=
  (pt_chain (o_cm hu o) (o_cm hu o') ha hb he hm).imp fun σ H Q ⟨ρ, S, Q', X', r, rr, hw, k, kx⟩ => seq3 (o := o) (o' := o') (we := we) ⟨ρ, S, (fun z S3 => ∃ k, z = .bl k ∧ Q' k S3), X', r, rr, hw, bl_end k, kx⟩
/-- a plain value's truth -/
theorem s_tru (ha : PE X a (tDE X.K W wa)) (he : ∀ whole, isTrue a X.env whole = (do let v ← whole; standAt a.pos; holding [v] (truthy v))) :
    PT X a (tDB X.K W fun ρ S Q X => wa ρ S (fun d S3 => ∃ k, TruD S3 d k ∧ Q k S3) X) := (pt_truth ha he).imp fun σ H Q ⟨ρ, S, Q', X', r, rr, hw, k, kx⟩ =>
  ⟨ρ, S, _, X', r, rr, hw, fun v H1 d S1 r1 f1 x1 ⟨c, t, q⟩ => ⟨c, tru_D r1 x1 t, k c H1 S1 r1 f1 q⟩, kx⟩
theorem s_not (ha : PE X a (tDE X.K W wa)) : PE X (.UnaryOp .Not a pos) (tDE X.K W fun ρ S Q X => wa ρ S (fun x S1 => ∃ k, x = .bl k ∧ Q (.bl (!k)) S1) X) := (pe_not ha).imp fun σ H Q ⟨ρ, S, Q', X', r, rr, hw, k, kx⟩ =>
  ⟨ρ, S, _, X', r, rr, hw, fun v H1 d S1 r1 f1 x1 ⟨c, e, q⟩ => by
    subst e
    cases x1
    exact ⟨c, rfl, k _ _ _ _ r1 f1 (.bl _) q⟩, kx⟩
theorem t_not {wa : WB} (ha : PT X a (tDB X.K W wa)) : PT X (.UnaryOp .Not a pos) (tDB X.K W fun ρ S Q X => wa ρ S (fun k S1 => Q (!k) S1) X) := (pt_not ha).imp fun σ H Q ⟨ρ, S, Q', X', r, rr, hw, k, kx⟩ =>
  ⟨ρ, S, _, X', r, rr, hw, fun c H1 S1 r1 f1 q => k _ _ _ r1 f1 q, kx⟩
theorem s_ife {c : Expr} {wc : WB} (hc : PT X c (tDB X.K W wc)) (ha : PE X a (tDE X.K W wa)) (hb : PE X b (tDE X.K W wb)) :
    PE X (.IfExp c a b pos) (tDE X.K W fun ρ S Q X => wc ρ S (fun k S1 => if k = true then wa ρ S1 Q X else wb ρ S1 Q X) X) := (pe_ifExp hc ha hb).imp fun σ H Q ⟨ρ, S, Q', X', r, rr, hw, k, kx⟩ =>
  ⟨ρ, S, _, X', r, rr, hw, fun c H1 S1 r1 f1 q => by
    cases c with
    | true => exact iteT ⟨ρ, S1, Q', X', r1, rr.mono f1, q, k.fr f1, kx.fr f1⟩
    | false => exact iteF ⟨ρ, S1, Q', X', r1, rr.mono f1, q, k.fr f1, kx.fr f1⟩, kx⟩
/-! and, or -/
variable {rest : List Expr} {b₀ : Expr}
theorem s_and (ha : PE X a (tDE X.K W wa)) (hb : PE X (.BoolOp .And (b :: rest) pos) (tDE X.K W wb)) :
    PE X (.BoolOp .And (a :: b :: rest) pos) (tDE X.K W fun ρ S Q X => wa ρ S (fun x S1 => ∃ k, x = .bl k ∧ if k = true then wb ρ S1 Q X else Q (.bl false) S1) X) := (pe_and ha hb).imp fun σ H Q ⟨ρ, S, Q', X', r, rr, hw, k, kx⟩ =>
  ⟨ρ, S, _, X', r, rr, hw, fun v H1 d S1 r1 f1 x1 ⟨c, e, q⟩ => by
    subst e
    cases x1
    refine ⟨c, rfl, ?_⟩
    cases c with
    | true => exact iteT ⟨ρ, S1, Q', X', r1, rr.mono f1, q, k.fr f1, kx.fr f1⟩
    | false => exact iteF (k _ _ _ _ r1 f1 (.bl false) q), kx⟩
theorem s_or (ha : PE X a (tDE X.K W wa)) (hb : PE X (.BoolOp .Or (b :: rest) pos) (tDE X.K W wb)) :
    PE X (.BoolOp .Or (a :: b :: rest) pos) (tDE X.K W fun ρ S Q X => wa ρ S (fun x S1 => ∃ k, x = .bl k ∧ if k = true then Q (.bl true) S1 else wb ρ S1 Q X) X) := (pe_or ha hb).imp fun σ H Q ⟨ρ, S, Q', X', r, rr, hw, k, kx⟩ =>
  ⟨ρ, S, _, X', r, rr, hw, fun v H1 d S1 r1 f1 x1 ⟨c, e, q⟩ => by
    subst e
    cases x1
    refine ⟨c, rfl, ?_⟩
    cases c with
    | true => exact iteT (k _ _ _ _ r1 f1 (.bl true) q)
    | false => exact iteF ⟨ρ, S1, Q', X', r1, rr.mono f1, q, k.fr f1, kx.fr f1⟩, kx⟩
variable {va vb : WB}
theorem _root_.L2.PW.imp {X : Cx} {e : Expr} {t t' : TT} (h : PW X e t) (k : ∀ σ H Q, t' σ H Q → t σ H Q) : PW X e t' := ⟨fun wh pins s σ H Q I q => h.run wh pins s σ H Q I (k _ _ _ q)⟩
theorem t_and (ha : PT X a (tDB X.K W va)) (hb : PW X (.BoolOp .And (b :: rest) pos) (tDB X.K W vb)) :
    PW X (.BoolOp .And (a :: b :: rest) pos) (tDB X.K W fun ρ S Q X => va ρ S (fun k S1 => if k = true then vb ρ S1 Q X else Q false S1) X) := (pw_and ha hb).imp fun σ H Q ⟨ρ, S, Q', X', r, rr, hw, k, kx⟩ =>
  ⟨ρ, S, _, X', r, rr, hw, fun c H1 S1 r1 f1 q => by
    cases c with
    | true => exact iteT ⟨ρ, S1, Q', X', r1, rr.mono f1, q, fun b H2 S2 r2 f2 q2 => k b H2 S2 r2 (f1.trans f2) q2, kx.fr f1⟩
    | false => exact iteF (k _ _ _ r1 f1 q), kx⟩
theorem t_or (ha : PT X a (tDB X.K W va)) (hb : PW X (.BoolOp .Or (b :: rest) pos) (tDB X.K W vb)) :
    PW X (.BoolOp .Or (a :: b :: rest) pos) (tDB X.K W fun ρ S Q X => va ρ S (fun k S1 => if k = true then Q true S1 else vb ρ S1 Q X) X) := (pw_or ha hb).imp fun σ H Q ⟨ρ, S, Q', X', r, rr, hw, k, kx⟩ =>
  ⟨ρ, S, _, X', r, rr, hw, fun c H1 S1 r1 f1 q => by
    cases c with
    | true => exact iteT (k _ _ _ r1 f1 q)
    | false => exact iteF ⟨ρ, S1, Q', X', r1, rr.mono f1, q, fun b H2 S2 r2 f2 q2 => k b H2 S2 r2 (f1.trans f2) q2, kx.fr f1⟩, kx⟩
/-! argument lists, displays -/
variable {es : List Expr} {ws : WA}
theorem s_nil : PA X [] (tDA X.K W fun _ S Q _ => Q [] S) := pa_nil.imp fun σ H Q ⟨ρ, S, Q', X', r, rr, q, k, kx⟩ => k [] H [] S r (Fr.refl S H) .nil q
theorem s_cons (ha : PE X a (tDE X.K W wa)) (hr : PA X es (tDA X.K W ws)) (hs : starEach (a :: es) X.env = (false, eval a X.env) :: starEach es X.env) :
    PA X (a :: es) (tDA X.K W fun ρ S Q X => wa ρ S (fun x S1 => ws ρ S1 (fun xs S2 => Q (x :: xs) S2) X) X) := (pa_cons ha hr hs).imp fun σ H Q ⟨ρ, S, Q', X', r, rr, hw, k, kx⟩ =>
  ⟨ρ, S, _, X', r, rr, hw, fun v H1 d S1 r1 f1 x1 q1 => ⟨ρ, S1, _, X', r1, rr.mono f1, q1, fun vs H2 ds S2 r2 f2 x2 q2 => k _ _ _ _ r2 (f1.trans f2) (.cons (x1.mono f2) x2) q2, kx.fr f1⟩, kx⟩
theorem s_tup {x1} (h : PA X es (tDA X.K W ws)) : PE X (.Tuple es x1 pos) (tDE X.K W fun ρ S Q X => ws ρ S (fun ds S1 => ds.length ≤ sizeLine ∧ Q (.tup ds) S1) X) := (pe_tup h).imp fun σ H Q ⟨ρ, S, Q', X', r, rr, hw, k, kx⟩ =>
  ⟨ρ, S, _, X', r, rr, hw, fun vs H1 ds S1 r1 f1 x1 q1 => ⟨by rw [x1.len]; exact q1.1, newT_ok r1 x1 q1.2 (k.fr f1)⟩, kx⟩
theorem s_lst (h : PA X es (tDA X.K W ws)) : PE X (.List es pos) (tDE X.K W fun ρ S Q X => ws ρ S (fun ds S1 => ds.length ≤ sizeLine ∧ NewL ds S1 Q) X) := (pe_lst h).imp fun σ H Q ⟨ρ, S, Q', X', r, rr, hw, k, kx⟩ =>
  ⟨ρ, S, _, X', r, rr, hw, fun vs H1 ds S1 r1 f1 x1 q1 => ⟨by rw [x1.len]; exact q1.1, newL_ok r1 x1 q1.2 (k.fr f1)⟩, kx⟩
/-! subscripts -/
theorem s_ix (hu : X.A.units + 65 < cLine) (ha : PE X a (tDE X.K W wa)) (hb : PE X b (tDE X.K W wb)) (hs : PlainIx b) : PE X (.Subscript a b pos) (tDE X.K W fun ρ S Q X => wa ρ S (fun x S1 => wb ρ S1 (fun y S2 => ixW x y S2 Q) X) X) :=
  (pe_ix (o_ix (by omega)) ha hb hs).imp fun σ H Q h => seq2 h rfl
abbrev WO := List (Option D) → Hs → (Option Int → Hs → Prop) → XQ → Prop
def tDO (K : PySem.W.Frag) (W : WX) (w : WO) : TO := fun σ H Q => ∃ ρ S Q' X', Rs K S H ∧ Rr K S H σ ρ ∧ w ρ S Q' X' ∧ (∀ o H' S', Rs K S' H' → Fr S H S' H' → Q' o S' → Q o H') ∧ EndX K S H X' (fun c d H' => W c d σ H')
theorem _root_.L2.PO.imp {X : Cx} {e : Option Expr} {t t' : TO} (h : PO X e t) (k : ∀ σ H Q, t' σ H Q → t σ H Q) : PO X e t' := ⟨fun pins s σ H Q I q => h.run pins s σ H Q I (k _ _ _ q)⟩
theorem s_no : PO X none (tDO X.K W fun _ S Q _ => Q none S) := (po_none).imp fun σ H Q ⟨ρ, S, Q', X', r, rr, q, k, kx⟩ => k none H S r (Fr.refl S H) q
theorem s_yes (ha : PE X a (tDE X.K W wa)) : PO X (some a) (tDO X.K W fun ρ S Q X => wa ρ S (fun x S1 => ∃ i, x = .int i ∧ Q (some i) S1) X) := (po_some ha).imp fun σ H Q ⟨ρ, S, Q', X', r, rr, hw, k, kx⟩ =>
  ⟨ρ, S, _, X', r, rr, hw, fun v H1 d S1 r1 f1 x1 ⟨i, e, q⟩ => by
    subst e
    cases x1
    exact ⟨i, rfl, k _ _ _ r1 f1 q⟩, kx⟩
theorem s_sl {lo hi : Option Expr} {wl wh : WO} {p2 : Pos} (ha : PE X a (tDE X.K W wa)) (hl : PO X lo (tDO X.K W wl)) (hh : PO X hi (tDO X.K W wh)) :
    PE X (.Subscript a (.Slice lo hi none p2) pos) (tDE X.K W fun ρ S Q X => wa ρ S (fun x S1 => wl ρ S1 (fun l S2 => wh ρ S2 (fun h S3 => slW x l h S3 Q) X) X) X) := (pe_slice o_sl ha hl hh).imp fun σ H Q ⟨ρ, S, Q', X', r, rr, hw, k, kx⟩ =>
  ⟨ρ, S, _, X', r, rr, hw, fun v H1 d S1 r1 f1 x1 q1 => ⟨ρ, S1, _, X', r1, rr.mono f1, q1, fun l H2 S2 r2 f2 q2 => ⟨ρ, S2, _, X', r2, rr.mono (f1.trans f2), q2, fun h H3 S3 r3 f3 q3 =>
    ⟨d, S3, Q', r3, x1.mono (f2.trans f3), q3, k.fr (f1.trans (f2.trans f3))⟩, kx.fr (f1.trans f2)⟩, kx.fr f1⟩, kx⟩
theorem s_rev {k : Nat} {p1 p2 p3 : Pos} (ha : PE X a (tDE X.K W wa)) : PE X (.Subscript a (.Slice none none (some (.UnaryOp .USub (.Constant (.int 1) k p1) p2)) p3) pos) (tDE X.K W fun ρ S Q X => wa ρ S (fun x S1 => revW x S1 Q) X) :=
  (pe_revS ha).imp fun σ H Q ⟨ρ, S, Q', X', r, rr, hw, kq, kx⟩ => ⟨ρ, S, _, X', r, rr, hw, fun v H1 d S1 r1 f1 x1 q1 => by
    have lists : (∃ xs, lstOf S1 d = some xs ∧ NewL xs.reverse S1 Q') → ∃ a xs, v = .ref a ∧ ((SqL X.K H1 a xs ∧ ∀ p, H1 p = none → Q (.ref p) (upd H1 p (.lst xs.reverse))) ∨ (SqT X.K H1 a xs ∧ ∀ p, H1 p = none → Q (.ref p) (upd H1 p (.tup xs.reverse)))) := fun ⟨xs, e, n⟩ => by
      obtain ⟨a, vs, rfl, h1, h2⟩ := lstOf_ok r1 x1 e
      exact ⟨a, vs, rfl, .inl ⟨h1, newL_ok r1 h2.reverse n (kq.fr f1)⟩⟩
    cases d with
    | tup xs =>
      obtain ⟨a, vs, rfl, h1, h2⟩ := x1.of_tup
      exact ⟨a, vs, rfl, .inr ⟨h1, newT_ok r1 h2.reverse q1.2 (kq.fr f1)⟩⟩
    | _ => exact lists q1, kx⟩
end
end Dz
namespace Dz
open PySem PySem.Spec PyProof.Rows L2
section
variable {X : Cx} {W : WX} {pos p : Pos} {a b e : Expr} {wa wb we : WE} {es : List Expr} {ws : WA}
/-! ### built-ins by name -/
theorem b_min : bootBuiltins "min" = some (.builtin "min") := by decide +kernel
theorem b_max : bootBuiltins "max" = some (.builtin "max") := by decide +kernel
theorem b_sorted : bootBuiltins "sorted" = some (.builtin "sorted") := by decide +kernel
theorem b_all : bootBuiltins "all" = some (.builtin "all") := by decide +kernel
theorem b_any : bootBuiltins "any" = some (.builtin "any") := by decide +kernel
theorem b_sum : bootBuiltins "sum" = some (.builtin "sum") := by decide +kernel
theorem b_len : bootBuiltins "len" = some (.builtin "len") := by decide +kernel
theorem b_abs : bootBuiltins "abs" = some (.builtin "abs") := by decide +kernel
theorem b_isi : bootBuiltins "isinstance" = some (.builtin "isinstance") := by decide +kernel
theorem b_int : bootBuiltins "int" = some (.type "int") := by decide +kernel
theorem b_list : bootBuiltins "list" = some (.type "list") := by decide +kernel
theorem b_dict : bootBuiltins "dict" = some (.type "dict") := by decide +kernel
theorem b_tuple : bootBuiltins "tuple" = some (.type "tuple") := by decide +kernel
/-- what calls give, by data -/
theorem cbW {f : OW} (h : PE X e (tCB (rO X.K f) (tDA X.K W ws))) : PE X e (tDE X.K W fun ρ S Q X => ws ρ S (fun ds S1 => f ds S1 Q) X) := h.imp fun σ H Q ⟨ρ, S, Q', X', r, rr, hw, k, kx⟩ =>
  ⟨ρ, S, _, X', r, rr, hw, fun vs H1 ds S1 r1 f1 x1 q1 => ⟨ds, S1, Q', r1, x1, q1, k.fr f1⟩, kx⟩
theorem s_bi (f : Bi) (hc : f.free = false → X.calm = true) (hg : Gl X f.name) (hm : X.mg f.name = none) (ha : PA X (e :: es) (tDA X.K W ws)) (he : starEach (e :: es) X.env = (false, eval e X.env) :: starEach es X.env) (hpl : (backTo pos (starEach es X.env)).any (·.1) = false) :
    PE X (.Call (.Name f.name p) (e :: es) [] pos) (tDE X.K W fun ρ S Q X => ws ρ S (fun ds S1 => f.w ds S1 Q) X) := by
  cases f with
  | len => exact cbW (pe_callB c_len hg hm b_len ha (by decide +kernel) (by decide +kernel) he hpl)
  | int1 => exact cbW (pe_callTy c_int hg hm b_int ha (by decide +kernel) (by decide +kernel) he hpl)
  | abs => exact cbW (pe_callB c_abs hg hm b_abs ha (by decide +kernel) (by decide +kernel) he hpl)
  | min2 => exact cbW (pe_callB (c_min (hc rfl)) hg hm b_min ha (by decide +kernel) (by decide +kernel) he hpl)
  | max2 => exact cbW (pe_callB (c_max (hc rfl)) hg hm b_max ha (by decide +kernel) (by decide +kernel) he hpl)
  | tuple1 => exact cbW (pe_callTy c_tuple hg hm b_tuple ha (by decide +kernel) (by decide +kernel) he hpl)
  | list1 => exact cbW (pe_callTy c_list hg hm b_list ha (by decide +kernel) (by decide +kernel) he hpl)
  | sorted => exact cbW (pe_callB (c_sorted (hc rfl)) hg hm b_sorted ha (by decide +kernel) (by decide +kernel) he hpl)
  | all => exact cbW (pe_callB (c_all (hc rfl)) hg hm b_all ha (by decide +kernel) (by decide +kernel) he hpl)
  | any => exact cbW (pe_callB (c_any (hc rfl)) hg hm b_any ha (by decide +kernel) (by decide +kernel) he hpl)
  | dict1 => exact cbW (pe_callTy (c_dict (hc rfl)) hg hm b_dict ha (by decide +kernel) (by decide +kernel) he hpl)
  | sum => exact cbW (pe_callB (c_sum (hc rfl)) hg hm b_sum ha (by decide +kernel) (by decide +kernel) he hpl)
theorem s_bm (f : Bm) (hf : f = .append) (apos cpos : Pos) {o : Expr} {wo : WE} (ho : PE X o (tDE X.K W wo)) (ha : PA X (e :: es) (tDA X.K W ws))
    (hbase : attributeBase o f.name X.env (eval o X.env) = eval o X.env)
    (hfew : ((backTo cpos (starEach (e :: es) X.env)).all (fun x => !x.1) && (backToKw cpos (keywordEach [] X.env)).all (fun x => x.1.isSome)
      && decide ((e :: es).length + ([] : List Keyword).length + (if ([] : List Keyword).isEmpty then 0 else 1) < 30)) = true)
    (hline : (apos.endLine == cpos.line) = true) (hs : starEach (e :: es) X.env = (false, eval e X.env) :: starEach es X.env) (hplain : (backTo cpos (starEach es X.env)).any (·.1) = false) :
    PE X (.Call (.Attribute o f.name apos) (e :: es) [] cpos) (tDE X.K W fun ρ S Q X => wo ρ S (fun x S1 => f.ty S1 x ∧ ws ρ S1 (fun ds S2 => f.w (x :: ds) S2 Q) X) X) := by
  subst hf
  refine (pe_bm PySem.F.plainAttrs_list PySem.F.slot_list_append PySem.F.type_list_append m_append ho ha hbase hfew hline hs hplain).imp fun σ H Q ⟨ρ, S, Q', X', r, rr, hw, k, kx⟩ => ?_
  refine ⟨ρ, S, _, X', r, rr, hw, fun v H1 d S1 r1 f1 x1 ⟨⟨xs, ex⟩, q1⟩ => ⟨?_, ρ, S1, _, X', r1, rr.mono f1, q1, fun vs H2 ds S2 r2 f2 x2 q2 => ⟨d :: ds, S2, Q', r2, .cons (x1.mono f2) x2, q2, k.fr (f1.trans f2)⟩, kx.fr f1⟩, kx⟩
  obtain ⟨a, vs, rfl, h1, h2⟩ := lstOf_ok r1 x1 ex
  exact .inl ⟨rfl, vs, h1⟩
/-- methods of dicts -/
theorem isD_of {K : PySem.W.Frag} {S : Hs} {H : Hp} {d : D} {v : V} (r : Rs K S H) (x : Dv K S H v d) (h : ∃ a o, d = .ref a ∧ S a = some o ∧ isDic o = true) : ∃ a, v = .ref a ∧ IsD H a := by
  obtain ⟨a, o, rfl, e, hd⟩ := h
  cases x
  refine ⟨a, rfl, ?_⟩
  cases o with
  | dK kvs => obtain ⟨kv, q, _⟩ := rs_dk r e; exact .inl ⟨kv, .inl q⟩
  | dT kvs => obtain ⟨kv, q, _⟩ := rs_dt r e; exact .inr ⟨kv, .inl q⟩
  | zK kvs => obtain ⟨od, kv, q, _⟩ := rs_zk r e; exact .inl ⟨kv, .inr ⟨od, q⟩⟩
  | zT kvs => obtain ⟨od, kv, q, _⟩ := rs_zt r e; exact .inr ⟨kv, .inr ⟨od, q⟩⟩
  | _ => cases hd
theorem m1_of {m : Str} {apos cpos : Pos} {o : Expr} (hbase : attributeBase o m X.env (eval o X.env) = eval o X.env) (hline : (apos.endLine == cpos.line) = true) (hs : starEach [e] X.env = (false, eval e X.env) :: starEach [] X.env) : M1 X o m apos e cpos :=
  ⟨hbase, by rw [hs]; rfl, hline, by rw [hs]; rfl⟩
theorem m2_of {m : Str} {apos cpos : Pos} {o e2 : Expr} (hbase : attributeBase o m X.env (eval o X.env) = eval o X.env) (hline : (apos.endLine == cpos.line) = true) (hs : starEach [e, e2] X.env = (false, eval e X.env) :: starEach [e2] X.env) (hs2 : starEach [e2] X.env = (false, eval e2 X.env) :: starEach [] X.env) : M2 X o m apos e e2 cpos :=
  ⟨hbase, by rw [hs, hs2]; rfl, hline, by rw [hs, hs2]; rfl⟩
theorem od_getD {K : PySem.W.Frag} {S : Hs} {H : Hp} {o : Option D} {p : Option V} (h : OD K S H o p) : Dv K S H (p.getD .non) (o.getD .non) := by
  cases o <;> cases p <;> first | exact .non | exact h.elim | exact h
theorem od_getE {K : PySem.W.Frag} {S : Hs} {H : Hp} {o : Option D} {p : Option V} {x : D} {v : V} (h : OD K S H o p) (hx : Dv K S H v x) : Dv K S H (p.getD v) (o.getD x) := by
  cases o <;> cases p <;> first | exact hx | exact h.elim | exact h
section
variable {o e2 : Expr} {wo we2 : WE} {apos cpos : Pos}
theorem s_get1 (hu : X.A.units + 65 < cLine) (ho : PE X o (tDE X.K W wo)) (he : PE X e (tDE X.K W we)) (m : M1 X o "get" apos e cpos) :
    PE X (.Call (.Attribute o "get" apos) [e] [] cpos) (tDE X.K W fun ρ S Q X => wo ρ S (fun x S1 => Bm.ty S1 x .get1 ∧ we ρ S1 (fun y S2 => get1W x y S2 Q) X) X) := (pe_dget1 (by omega) ho he m).imp fun σ H Q ⟨ρ, S, Q', X', r, rr, hw, k, kx⟩ =>
  ⟨ρ, S, _, X', r, rr, hw, fun v1 H1 d1 S1 r1 f1 x1 ⟨hd, q1⟩ => by
    obtain ⟨a, rfl, hd2⟩ := isD_of r1 x1 hd
    refine ⟨a, rfl, hd2, ρ, S1, _, X', r1, rr.mono f1, q1, fun v2 H2 d2 S2 r2 f2 x2 q2 => ?_, kx.fr f1⟩
    obtain ⟨a', _, rfl, _, _⟩ := hd
    obtain ⟨od, g, q2⟩ := q2
    obtain ⟨p, g1, g2⟩ := dget_ok r2 x2 g
    cases x1
    exact ⟨p, g1, end_now r2 (od_getD g2) q2 (k.fr (f1.trans f2))⟩, kx⟩
theorem s_get2 (hu : X.A.units + 65 < cLine) (ho : PE X o (tDE X.K W wo)) (he : PE X e (tDE X.K W we)) (he2 : PE X e2 (tDE X.K W we2)) (m : M2 X o "get" apos e e2 cpos) :
    PE X (.Call (.Attribute o "get" apos) [e, e2] [] cpos) (tDE X.K W fun ρ S Q X => wo ρ S (fun x S1 => Bm.ty S1 x .get2 ∧ we ρ S1 (fun y S2 => we2 ρ S2 (fun z S3 => get2W x y z S3 Q) X) X) X) := (pe_dget2 (by omega) ho he he2 m).imp fun σ H Q ⟨ρ, S, Q', X', r, rr, hw, k, kx⟩ =>
  ⟨ρ, S, _, X', r, rr, hw, fun v1 H1 d1 S1 r1 f1 x1 ⟨hd, q1⟩ => by
    obtain ⟨a, rfl, hd2⟩ := isD_of r1 x1 hd
    refine ⟨a, rfl, hd2, ρ, S1, _, X', r1, rr.mono f1, q1, fun v2 H2 d2 S2 r2 f2 x2 q2 => ?_, kx.fr f1⟩
    refine ⟨ρ, S2, _, X', r2, rr.mono (f1.trans f2), q2, fun v3 H3 d3 S3 r3 f3 x3 q3 => ?_, kx.fr (f1.trans f2)⟩
    obtain ⟨a', _, rfl, _, _⟩ := hd
    obtain ⟨od, g, q3⟩ := q3
    obtain ⟨p, g1, g2⟩ := dget_ok r3 (x2.mono f3) g
    cases x1
    exact ⟨p, g1, end_now r3 (od_getE g2 x3) q3 (k.fr (f1.trans (f2.trans f3)))⟩, kx⟩
theorem s_pop1 (ho : PE X o (tDE X.K W wo)) (he : PE X e (tDE X.K W we)) (m : M1 X o "pop" apos e cpos) :
    PE X (.Call (.Attribute o "pop" apos) [e] [] cpos) (tDE X.K W fun ρ S Q X => wo ρ S (fun x S1 => Bm.ty S1 x .pop1 ∧ we ρ S1 (fun y S2 => pop1W x y S2 Q) X) X) := (pe_dpop1 ho he m).imp fun σ H Q ⟨ρ, S, Q', X', r, rr, hw, k, kx⟩ =>
  ⟨ρ, S, _, X', r, rr, hw, fun v1 H1 d1 S1 r1 f1 x1 ⟨hd, q1⟩ => by
    obtain ⟨a, rfl, hd2⟩ := isD_of r1 x1 hd
    refine ⟨a, rfl, hd2, ρ, S1, _, X', r1, rr.mono f1, q1, fun v2 H2 d2 S2 r2 f2 x2 q2 => ?_, kx.fr f1⟩
    obtain ⟨a', _, rfl, _, _⟩ := hd
    obtain ⟨kvs, key, x, e1, e2, e3, q2⟩ := q2
    cases x1
    obtain ⟨kv, h1, h2⟩ := rs_dk r2 e1
    have ov := od_val h2 key
    rw [e3] at ov
    cases e4 : valV kv key with
    | none => rw [e4] at ov; exact ov.elim
    | some v =>
      rw [e4] at ov
      refine ⟨kv, key, v, h1, key_V x2 e2, e4, k _ _ _ _ (rs_mut (m := .dK (dropD kvs key)) (o := .dK (dropK kv key)) r2 e1 (show KvD X.K _ _ (dropD kvs key) (dropK kv key) from KvD.mono (fr_mut r2 e1) (kvd_drop h2 key))) (f1.trans (f2.trans (fr_mut r2 e1))) (Dv.mono (fr_mut r2 e1) ov) q2⟩, kx⟩
theorem s_pop2 (ho : PE X o (tDE X.K W wo)) (he : PE X e (tDE X.K W we)) (he2 : PE X e2 (tDE X.K W we2)) (m : M2 X o "pop" apos e e2 cpos) :
    PE X (.Call (.Attribute o "pop" apos) [e, e2] [] cpos) (tDE X.K W fun ρ S Q X => wo ρ S (fun x S1 => Bm.ty S1 x .pop2 ∧ we ρ S1 (fun y S2 => we2 ρ S2 (fun z S3 => pop2W x y z S3 Q) X) X) X) := (pe_dpop2 ho he he2 m).imp fun σ H Q ⟨ρ, S, Q', X', r, rr, hw, k, kx⟩ =>
  ⟨ρ, S, _, X', r, rr, hw, fun v1 H1 d1 S1 r1 f1 x1 ⟨hd, q1⟩ => by
    obtain ⟨a, rfl, hd2⟩ := isD_of r1 x1 hd
    refine ⟨a, rfl, hd2, ρ, S1, _, X', r1, rr.mono f1, q1, fun v2 H2 d2 S2 r2 f2 x2 q2 => ?_, kx.fr f1⟩
    refine ⟨ρ, S2, _, X', r2, rr.mono (f1.trans f2), q2, fun v3 H3 d3 S3 r3 f3 x3 q3 => ?_, kx.fr (f1.trans f2)⟩
    obtain ⟨a', _, rfl, _, _⟩ := hd
    obtain ⟨kvs, key, e1, e2, q3⟩ := q3
    cases x1
    obtain ⟨kv, h1, h2⟩ := rs_dk r3 e1
    have ov := od_val h2 key
    have f := f1.trans (f2.trans f3)
    refine ⟨kv, key, h1, key_V (x2.mono f3) e2, fun v ev => ?_, fun ev => ?_⟩
    · rw [ev] at ov
      cases e4 : valD kvs key with
      | none => rw [e4] at ov; exact ov.elim
      | some x =>
        rw [e4] at ov
        have q := q3 _ e4
        exact k _ _ _ _ (rs_mut (m := .dK (dropD kvs key)) (o := .dK (dropK kv key)) r3 e1 (show KvD X.K _ _ (dropD kvs key) (dropK kv key) from KvD.mono (fr_mut r3 e1) (kvd_drop h2 key))) (f.trans (fr_mut r3 e1)) (Dv.mono (fr_mut r3 e1) ov) q
    · rw [ev] at ov
      cases e4 : valD kvs key with
      | none => exact end_now r3 x3 (q3 _ e4) (k.fr f)
      | some x => rw [e4] at ov; exact ov.elim, kx⟩
end
/-! ### a global constant, a call -/
theorem s_glob {c : Cfg} {x : Str} {i : Nat} {q : Str × D} (hi : c.cons[i]? = some q) (hx : q.1 = x) (hg : Gl X x) (hd : (x == ("__debug__" : Str)) = false) (h : ∃ v u, X.mg q.1 = some u ∧ RelV v u ∧ ∀ S H, Dv X.K S H v q.2) :
    PE X (.Name x pos) (tDE X.K W fun _ S Q _ => ∃ p, c.cons[i]? = some p ∧ Q p.2 S) := by
  subst hx
  obtain ⟨v, u, h1, h2, h3⟩ := h
  refine (pe_glob hg h1 h2 hd).imp fun σ H Q ⟨ρ, S, Q', X', r, rr, ⟨p, e, q⟩, k, kx⟩ => ?_
  rw [hi] at e
  cases e
  exact end_now r (h3 S H) q k
theorem s_call {c : Cfg} {k : Nat} {x : Str} {i : Nat} {q : Str × DSp} (hi : c.fns[i]? = some q) (hx : q.1 = x) (hg : Gl X x) (hd : (x == ("__debug__" : Str)) = false) (hr : Room k X.A) (h : FnAt X.prog X.w X.K X.mg X.base k q) (tk : Takes X W)
    (ha : PA X (e :: es) (tDA X.K W ws)) (he : starEach (e :: es) X.env = (false, eval e X.env) :: starEach es X.env) (hpl : (backTo pos (starEach es X.env)).any (·.1) = false) :
    PE X (.Call (.Name x p) (e :: es) [] pos) (tDE X.K W fun ρ S Q X => ws ρ S (fun ds S1 => ∃ p, c.fns[i]? = some p ∧ p.2 ds S1 Q X) X) := by
  subst hx
  obtain ⟨f, fd, ps, h1, h2, h3, h4⟩ := h
  refine (pe_callSD (dvs := []) (ds := []) (E := L2.WE W) h4 hr hg h1 h2 h3 .nil (fun σ => passAt tk σ) ha hd he hpl).imp fun σ H Q ⟨ρ, S, Q', X', r, rr, hw, k, kx⟩ => ?_
  refine ⟨ρ, S, _, X', r, rr, hw, fun vs H1 ds S1 r1 f1 x1 ⟨p, e, q1⟩ => ?_, kx⟩
  rw [hi] at e
  cases e
  rw [List.append_nil]
  exact ⟨ds, S1, Q', X', r1, x1, q1, k.fr f1, kx.fr f1⟩

/-! ### isinstance with built-in types -/
theorem ty_D {S : Hs} {H : Hp} {v : V} {d : D} {t : String} (r : Rs X.K S H) (hx : Dv X.K S H v d) (h : tyName S d = some t) : TyX X.K H v (.type t) := by
  cases d with
  | non => cases hx; cases h; exact .base .non
  | bl b => cases hx; cases h; exact .base (.bl b)
  | int i => cases hx; cases h; exact .base (.int i)
  | str x => cases hx; cases h; exact .base (.str x)
  | tup xs =>
    cases h
    obtain ⟨a, vs, rfl, q1, q2⟩ := hx.of_tup
    rcases q1 with (q1 | ⟨o, q1⟩) | ⟨o, its, n, q1, q3, _⟩
    · exact .base (.tup q1)
    · exact .fTuple q1
    · exact .kTuple q1 q3
  | ctp xs =>
    cases h
    obtain ⟨a, vs, rfl, q1, q2⟩ := hx.of_ctp
    rcases q1 with (q1 | ⟨o, q1⟩) | ⟨o, its, n, q1, q3, _⟩
    · exact .base (.tup q1)
    · exact .fTuple q1
    · exact .kTuple q1 q3
  | lst xs =>
    cases h
    obtain ⟨a, vs, rfl, q1, q2⟩ := hx.of_lst
    rcases q1 with (q1 | ⟨o, q1⟩) | ⟨o, its, n, q1, q3, _⟩
    · exact .base (.lst q1)
    · exact .base (.frz q1)
    · exact .kList q1 q3
  | ref a =>
    cases hx
    unfold tyName at h
    simp only at h
    split at h
    · rename_i e
      cases h
      obtain ⟨vs, q1, _⟩ := rs_lst r e
      exact .base (.lst q1)
    · rename_i e
      cases h
      obtain ⟨u, e1, e2⟩ := r a _ e
      cases u with
      | dK kv => exact .base (.dK e1)
      | _ => exact (show False from e2).elim
    · rename_i e
      cases h
      obtain ⟨u, e1, e2⟩ := r a _ e
      cases u with
      | dT kv => exact .base (.dT e1)
      | _ => exact (show False from e2).elim
    · rename_i e
      cases h
      obtain ⟨od, kv, e1, e2⟩ := rs_zk r e
      exact .fDict e1
    · cases h
  | ty n => cases h
theorem isi_any {K : PySem.W.Frag} {t : String} : ∀ {ts : List String} {b : Bool}, isiAny t ts = some b → PySem.W.kitAny K (.type t) (ts.map Value.type) = some b
  | [], b, h => by
    cases h
    exact kitAny_nil
  | c :: cs, b, h => by
    unfold isiAny at h
    split at h
    · rename_i e
      cases h
      exact kitAny_cons (kit_ty e) (fun z => by cases z) (fun _ => rfl)
    · rename_i e
      exact kitAny_cons (kit_ty e) (fun _ => isi_any h) (fun z => by cases z)
    · cases h
theorem cls_tys : ∀ ts : List String, Paired ClsV (ts.map V.ty) (ts.map Value.type)
  | [] => .nil
  | t :: r => .cons (.ty t) (cls_tys r)
/-- isinstance(x, T) -/
theorem s_isi1 {T : Expr} {t0 : String} (hg : Gl X "isinstance") (hm : X.mg "isinstance" = none) (ha : PE X e (tDE X.K W we)) (hT : PE X T (tC (.ty t0))) (he : starEach [e, T] X.env = (false, eval e X.env) :: starEach [T] X.env) (hT2 : starEach [T] X.env = (false, eval T X.env) :: starEach [] X.env) :
    PE X (.Call (.Name "isinstance" p) [e, T] [] pos) (tDE X.K W fun ρ S Q X => we ρ S (fun x S1 => ∃ t b, tyName S1 x = some t ∧ isiAny t [t0] = some b ∧ Q (.bl b) S1) X) := by
  refine (pe_callB call_isi hg hm b_isi (pa_cons ha (pa_cons hT pa_nil hT2) he) (by decide +kernel) (by decide +kernel) he (by rw [hT2]; rfl)).imp fun σ H Q ⟨ρ, S, Q', X', r, rr, hw, k, kx⟩ => ?_
  refine ⟨ρ, S, _, X', r, rr, hw, fun v H1 d S1 r1 f1 x1 ⟨t, b, e1, e2, q⟩ => ?_, kx⟩
  refine ⟨v, .ty t0, .type t, .type t0, b, rfl, .ty t0, ty_D r1 x1 e1, ?_, k _ _ _ _ r1 f1 (.bl b) q⟩
  unfold isiAny at e2
  split at e2
  · rename_i e3
    cases e2
    exact kit_ty e3
  · rename_i e3
    cases e2
    exact kit_ty e3
  · cases e2
/-- isinstance(x, (T, U, ..)) -/
theorem s_isiT {Ts : List Expr} {ts : List String} {kk : Nat} {tpos : Pos} (hg : Gl X "isinstance") (hm : X.mg "isinstance" = none) (ha : PE X e (tDE X.K W we)) (hT : PA X Ts (fun _ H Q => Q (ts.map V.ty) H)) (hl : ts.length ≤ sizeLine)
    (he : starEach [e, .Tuple Ts kk tpos] X.env = (false, eval e X.env) :: starEach [.Tuple Ts kk tpos] X.env) :
    PE X (.Call (.Name "isinstance" p) [e, .Tuple Ts kk tpos] [] pos) (tDE X.K W fun ρ S Q X => we ρ S (fun x S1 => ∃ t b, tyName S1 x = some t ∧ isiAny t ts = some b ∧ Q (.bl b) S1) X) := by
  refine (pe_callB call_isiT hg hm b_isi (pa_cons ha (pa_cons (pe_tup hT) pa_nil rfl) he) (by decide +kernel) (by decide +kernel) he rfl).imp fun σ H Q ⟨ρ, S, Q', X', r, rr, hw, k, kx⟩ => ?_
  refine ⟨ρ, S, _, X', r, rr, hw, fun v H1 d S1 r1 f1 x1 ⟨t, b, e1, e2, q⟩ => ?_, kx⟩
  refine ⟨by rw [List.length_map]; exact hl, fun tp hn => ?_⟩
  have ty := ty_D (rs_new (o := .tup (ts.map V.ty)) r1 hn) (x1.mono (fr_new hn)) e1
  exact ⟨v, tp, ts.map V.ty, .type t, ts.map Value.type, b, rfl, upd_same, cls_tys ts, ty, isi_any e2, k _ _ _ _ (rs_new r1 hn) (f1.trans (fr_new hn)) (.bl b) q⟩
end
end Dz
namespace Dz
open PySem PySem.Spec PyProof.Rows L2
/-! ### slots forgotten -/
theorem set_set_ne {α : Type} {l : List α} {i j : Nat} {a b : α} (h : i ≠ j) : (l.set i a).set j b = (l.set j b).set i a := List.set_comm a b h
theorem wipe_set {σ : L2.St} {i : Nat} {x : Option V} : ∀ {vs : List Nat}, i ∈ vs → wipe (σ.set i x) vs = wipe σ vs
  | [], h => by cases h
  | v :: vs, h => by
    unfold wipe
    by_cases hi : i ∈ vs
    · rw [wipe_set hi]
    · rcases List.mem_cons.mp h with e | e
      · subst e
        have out : ∀ {vs : List Nat}, i ∉ vs → wipe (σ.set i x) vs = (wipe σ vs).set i x := fun {vs} => by
          induction vs with
          | nil => intro _; rfl
          | cons w ws ih =>
            intro hn
            unfold wipe
            rw [ih (fun z => hn (List.mem_cons_of_mem _ z))]
            exact set_set_ne (fun z => hn (z ▸ List.mem_cons_self))
        rw [out hi, List.set_set]
      · exact absurd e hi
theorem wipe_none {σ : L2.St} : ∀ {vs : List Nat} {v : Nat}, v ∈ vs → (wipe σ vs).set v none = wipe σ vs
  | [], _, h => by cases h
  | w :: vs, v, h => by
    unfold wipe
    by_cases e : v = w
    · subst e
      rw [List.set_set]
    · rcases List.mem_cons.mp h with e2 | e2
      · exact absurd e2 e
      · rw [set_set_ne (fun z => e z.symm), wipe_none e2]
theorem wipe_wipe {σ : L2.St} : ∀ {vs ws : List Nat}, (∀ v ∈ ws, v ∈ vs) → wipe (wipe σ vs) ws = wipe σ vs
  | _, [], _ => rfl
  | vs, w :: ws, h => by
    show (wipe (wipe σ vs) ws).set w none = _
    rw [wipe_wipe (ws := ws) fun v hv => h v (List.mem_cons_of_mem _ hv)]
    exact wipe_none (h w List.mem_cons_self)
theorem Rr.wipe {K : PySem.W.Frag} {S : Hs} {H : Hp} {σ : L2.St} {ρ : List (Option D)} (h : Rr K S H σ ρ) : ∀ vs : List Nat, Rr K S H (wipe σ vs) (wipeD ρ vs)
  | [] => h
  | v :: vs => (Rr.wipe h vs).setN v

/-! ### targets -/
abbrev WG := D → Ro → Hs → (Ro → Hs → Prop) → XQ → Prop
def tDG (K : PySem.W.Frag) (W : WX) (ix : List Nat) (w : WG) : TG := fun v σ H Q => ∃ d ρ S Q' X', Rs K S H ∧ Rr K S H σ ρ ∧ Dv K S H v d ∧ w d ρ S Q' X' ∧
  (∀ σ' H' ρ' S', Rs K S' H' → Fr S H S' H' → Rr K S' H' σ' ρ' → (∀ vs : List Nat, (∀ i ∈ ix, i ∈ vs) → wipe σ' vs = wipe σ vs) → Q' ρ' S' → Q σ' H') ∧ (∀ cls dx σ' H' x S', Rs K S' H' → Fr S H S' H' → Rr K S' H' σ' ρ → XRel K S' H' cls dx x → X' x S' → W cls dx σ' H')
abbrev WGs := List D → Ro → Hs → (Ro → Hs → Prop) → XQ → Prop
def tDGs (K : PySem.W.Frag) (W : WX) (ix : List Nat) (w : WGs) : TGs := fun vs σ H Q => ∃ ds ρ S Q' X', Rs K S H ∧ Rr K S H σ ρ ∧ DvA K S H vs ds ∧ w ds ρ S Q' X' ∧
  (∀ σ' H' ρ' S', Rs K S' H' → Fr S H S' H' → Rr K S' H' σ' ρ' → (∀ vs : List Nat, (∀ i ∈ ix, i ∈ vs) → wipe σ' vs = wipe σ vs) → Q' ρ' S' → Q σ' H')
theorem _root_.L2.PG.imp {X : Cx} {e : Expr} {t t' : TG} (h : PG X e t) (k : ∀ v σ H Q, t' v σ H Q → t v σ H Q) : PG X e t' := ⟨fun pins s σ H v u Q I r q => h.run pins s σ H v u Q I r (k _ _ _ _ q)⟩
theorem _root_.L2.PGs.imp {X : Cx} {e : List Expr} {t t' : TGs} (h : PGs X e t) (k : ∀ v σ H Q, t' v σ H Q → t v σ H Q) : PGs X e t' := ⟨fun pins s σ H v u Q I r q => h.run pins s σ H v u Q I r (k _ _ _ _ q)⟩
section
variable {X : Cx} {W : WX} {pos p : Pos} {a b e : Expr} {wa wb we : WE} {es : List Expr} {ws : WA}
theorem g_name {i : Nat} {x : Str} (hN : X.N.Nodup) (hi : X.N[i]? = some x) (hx : Loc X.env.scope x) (hf : X.fn x = true ∨ X.env.scope.names.lookup x = some .local) :
    PG X (.Name x pos) (tDG X.K W [i] fun d ρ S Q _ => Q (ρ.set i (some d)) S) := (pg_name hN hi hx hf).imp fun v σ H Q ⟨d, ρ, S, Q', X', r, rr, xv, hw, k, _⟩ =>
  k _ H _ S r (Fr.refl S H) (rr.set i xv) (fun vs hv => wipe_set (hv i List.mem_cons_self)) hw
theorem gs_nil : PGs X [] (tDGs X.K W [] fun ds ρ S Q _ => ds = [] ∧ Q ρ S) := pgs_nil.imp fun v σ H Q ⟨ds, ρ, S, Q', X', r, rr, xv, ⟨e, q⟩, k⟩ => by
  subst e
  cases xv
  exact ⟨rfl, k σ H ρ S r (Fr.refl S H) rr (fun _ _ => rfl) q⟩
theorem gs_cons {ix jx : List Nat} {wg : WG} {wr : WGs} (h1 : PG X e (tDG X.K W ix wg)) (h2 : PGs X es (tDGs X.K W jx wr)) (hs : (assignEach (e :: es) X.env).map (·.2) = assign e X.env :: (assignEach es X.env).map (·.2))
    (n1 : ∀ {d ρ S Q Y}, wg d ρ S Q Y → wg d ρ S Q X0) :
    PGs X (e :: es) (tDGs X.K W (ix ++ jx) fun ds ρ S Q Y => ∃ d t, ds = d :: t ∧ wg d ρ S (fun ρ' S' => wr t ρ' S' Q Y) Y) := (pgs_cons h1 h2 hs).imp fun v σ H Q ⟨ds, ρ, S, Q', X', r, rr, xv, ⟨d, t, e, hw⟩, k⟩ => by
  subst e
  cases xv with
  | cons x1 x2 =>
    refine ⟨_, _, rfl, d, ρ, S, _, X0, r, rr, x1, n1 hw, fun σ' H' ρ' S' r' f' rr' z q => ?_, fun _ _ _ _ _ _ _ _ _ _ q => q.elim⟩
    refine ⟨t, ρ', S', Q', X', r', rr', x2.mono f', q, fun σ2 H2 ρ2 S2 r2 f2 rr2 z2 q2 => k σ2 H2 ρ2 S2 r2 (f'.trans f2) rr2 (fun vs hv => ?_) q2⟩
    rw [z2 vs fun i hi => hv i (List.mem_append_right _ hi), z vs fun i hi => hv i (List.mem_append_left _ hi)]
theorem g_tup {kk : Nat} {ix : List Nat} {wr : WGs} (hc : X.calm = true) (h : PGs X es (tDGs X.K W ix wr)) {n : Nat} (hst : (assignEach es X.env).findIdx? (·.1) = none) (hlen : (assignEach es X.env).length = n) :
    PG X (.Tuple es kk pos) (tDG X.K W ix fun d ρ S Q Y => ∃ ds, d = .tup ds ∧ ds.length = n ∧ wr ds ρ S Q Y) := (pg_tup (n := n) hc h hlen hst).imp fun v σ H Q ⟨d, ρ, S, Q', X', r, rr, xv, ⟨ds, e, hl, hw⟩, k, _⟩ => by
  subst e
  obtain ⟨a, vs, rfl, h1, h2⟩ := xv.of_tup
  exact ⟨a, vs, rfl, h1, by rw [h2.len]; exact hl, ds, ρ, S, Q', X', r, rr, h2, hw, k⟩
def isSl : Expr → Bool
  | .Slice _ _ _ _ => true
  | _ => false
theorem sl_assign {a b : Expr} (h : isSl b = false) : ∀ v, assign (.Subscript a b pos) X.env v = (do
      let ov ← holding [v] (eval a X.env)
      let iv ← holding [v, ov] (eval b X.env)
      standAt pos
      holding [v, ov, iv] (setItem ov iv v)
      release [v, ov, iv] []) := by
  intro v
  cases b <;> first | rfl | cases h
theorem sl_plain {b : Expr} (h : isSl b = false) : PlainIx b := by
  intro o i
  cases b <;> first | rfl | cases h
theorem g_sub (hu : X.A.units + 65 < cLine) (hsl : isSl b = false) (ho : PE X a (tDE X.K W wa)) (hi : PE X b (tDE X.K W wb)) : PG X (.Subscript a b pos) (tDG X.K W [] fun d ρ S Q Y => wa ρ S (fun x S1 => wb ρ S1 (fun y S2 => setW x y d S2 fun S3 => Q ρ S3) Y) Y) :=
  (pg_sub ho hi (o_set (by omega)) (sl_assign hsl)).imp fun v σ H Q ⟨d, ρ, S, Q', X', r, rr, xv, hw, k, kx⟩ => by
    have kx' : ∀ {S1 H1}, Fr S H S1 H1 → EndX X.K S1 H1 X' fun c d H' => W c d σ H' := fun f c dx H' x S' r' f' z q => kx c dx σ H' x S' r' (f.trans f') (rr.mono (f.trans f')) z q
    exact ⟨ρ, S, _, X', r, rr, hw, fun v1 H1 d1 S1 r1 f1 x1 q1 => ⟨ρ, S1, _, X', r1, rr.mono f1, q1, fun v2 H2 d2 S2 r2 f2 x2 q2 =>
      ⟨d1, d2, d, S2, _, r2, x1.mono f2, x2, xv.mono (f1.trans f2), q2, fun H3 S3 r3 f3 q3 => k σ H3 ρ S3 r3 (f1.trans (f2.trans f3)) (rr.mono (f1.trans (f2.trans f3))) (fun _ _ => rfl) q3⟩, kx' f1⟩, kx' (Fr.refl S H)⟩

/-! ### what is iterated -/
def JOk (K : PySem.W.Frag) (J : L2.It) (S0 : Hs) (H0 : Hp) (ds : List D) (Pr : Hs → Prop) : Prop := ∀ S H, Rs K S H → Fr S0 H0 S H → Pr S → ∀ i : Nat,
  (∀ d, ds[i]? = some d → J.go i H ∧ ∀ x H', J.yld i H x H' → Rs K S H' ∧ Fr S H S H' ∧ Dv K S H' x d) ∧ (ds.length ≤ i → J.stop i H)
abbrev WI := Ro → Hs → QI → XQ → Prop
def tDI (K : PySem.W.Frag) (W : WX) (w : WI) : TI := fun σ H R => ∃ ρ S Q' X', Rs K S H ∧ Rr K S H σ ρ ∧ w ρ S Q' X' ∧ (∀ J H1 ds Pr S1, Rs K S1 H1 → Fr S H S1 H1 → JOk K J S1 H1 ds Pr → Q' ds Pr S1 → R J H1) ∧ EndX K S H X' (fun c d H' => W c d σ H')
theorem _root_.L2.PI.imp {X : Cx} {tg e : Expr} {t t' : TI} (h : PI X tg e t) (k : ∀ σ H Q, t' σ H Q → t σ H Q) : PI X tg e t' := ⟨fun pins s σ H Q I q => h.run pins s σ H Q I (k _ _ _ q)⟩
def iSeq (K : PySem.W.Frag) (tl : TE) : TI := fun σ H R => tl σ H fun x H1 => (∃ a, x = .ref a ∧ (((∃ xs, SqL K H1 a xs) ∧ R (Itl K a) H1) ∨ ((∃ xs, SqT K H1 a xs) ∧ R (Itt K a) H1))) ∨ (∃ z, x = .str z ∧ R (Its z) H1) ∨
  ∃ d o, x = .ref d ∧ ((∃ kvs, H1 d = some (.frz o (.dK kvs)) ∧ R (Itk d o kvs) H1) ∨ ∃ kvs, H1 d = some (.frz o (.dT kvs)) ∧ R (Itkt d o kvs) H1)
theorem pi_seq {tg l : Expr} {tl : TE} (hl : PE X l tl) : PI X tg l (iSeq X.K tl) := by
  refine ⟨fun pins s σ H R I h => ?_⟩
  refine thn (hl.run pins s σ H _ I h) fun v s1 ⟨x, H1, I1, r1, q1⟩ => ?_
  rcases q1 with ⟨a, e, q1⟩ | ⟨z, e, q⟩ | ⟨d, o, e, q⟩
  · subst e
    rcases q1 with ⟨hq, q⟩ | ⟨hq, q⟩
    · cases r1
      obtain ⟨xs, hq⟩ := hq
      obtain ⟨its, rv, p, hz⟩ := I1.list hq
      refine wpAny_pyIter_list p.isList ?_
      refine ⟨s1.heap.objs.size, [s1.heap.objs.size], _, _, H1, rfl, I1.kept (t' := s1.toks) fun b o e => Heap.get?_push_of_some _ e, turn_list a _, ⟨_, Heap.get?_push_size _ rfl, rfl, rfl⟩, fun b hb => ?_, q⟩
      have e : b = s1.heap.objs.size := by simpa using hb
      subst e
      exact I1.fpOk (Nat.le_refl _) (I1.hok.fresh (Nat.le_refl _))
    · cases r1
      obtain ⟨xs, hq⟩ := hq
      obtain ⟨its, rv, p, hz⟩ := I1.tuple hq
      refine wpAny_pyIter_tuple (show s1.heap.IsTuple a its.toArray from p) ?_
      refine ⟨s1.heap.objs.size, [s1.heap.objs.size], _, _, H1, rfl, I1.kept (t' := s1.toks) fun b o e => Heap.get?_push_of_some _ e, turn_tuple a _, ⟨_, Heap.get?_push_size _ rfl, rfl, rfl⟩, fun b hb => ?_, q⟩
      have e : b = s1.heap.objs.size := by simpa using hb
      subst e
      exact I1.fpOk (Nat.le_refl _) (I1.hok.fresh (Nat.le_refl _))
  · subst e
    obtain ⟨t, rfl⟩ := r1
    cases ha : z.cps.all (· < 128)
    · exact wpAny_pyIter_wide ha (pi_one (tk := s1.toks) I1 _ (turn_str _ z t "str_iterator" (.inr rfl)) ⟨_, Heap.get?_push_size _ rfl, rfl, rfl⟩ q)
    · exact wpAny_pyIter_ascii ha (pi_one (tk := s1.toks) I1 _ (turn_str _ z t "str_ascii_iterator" (.inl rfl)) ⟨_, Heap.get?_push_size _ rfl, rfl, rfl⟩ q)
  · subst e
    obtain rfl : v = Value.ref d := r1
    rcases q with ⟨kvs, hd, q⟩ | ⟨kvs, hd, q⟩
    · obtain ⟨hs, hgd, hx, es, ep, vs, hdt, hsz, kv, hm⟩ := I1.frzK hd
      refine iter_keys hs hgd hx hdt (pi_one (tk := s1.toks) I1 _ (turn_keys _ hdt) ⟨_, Heap.get?_push_size _ rfl, rfl, ?_⟩ q)
      rw [hsz] <;> rfl
    · obtain ⟨hs, hgd, hx, es, ep, hdt, hsz, ent⟩ := I1.frzT hd
      refine iter_keys hs hgd hx hdt (pi_one (tk := s1.toks) I1 _ (turn_keysT _ hdt) ⟨_, Heap.get?_push_size _ rfl, rfl, ?_⟩ q)
      rw [hsz] <;> rfl
/-- a text's turns, by data -/
theorem Paired.get? {α β : Type} {R : α → β → Prop} : ∀ {xs : List α} {ys : List β} {i : Nat} {x : α} {y : β}, Paired R xs ys → xs[i]? = some x → ys[i]? = some y → R x y
  | _, _, _, _, _, .nil, e, _ => by simp at e
  | _, _, 0, _, _, .cons h _, e, e' => by simp at e e'; subst e e'; exact h
  | _, _, i + 1, _, _, .cons _ t, e, e' => Paired.get? (i := i) t (by simpa using e) (by simpa using e')
theorem jok_s {K : PySem.W.Frag} {S0 : Hs} {H0 : Hp} {z : Str} : JOk K (Its z) S0 H0 (strD z) fun _ => True := fun S H r f _ i => by
  have hl : (strD z).length = z.cps.size := by unfold strD; simp
  refine ⟨fun d e => ?_, fun h => by rw [hl] at h; exact h⟩
  have hi : i < z.cps.size := by
    have := (List.getElem?_eq_some_iff.mp e).1
    omega
  refine ⟨hi, fun x H' y => ?_⟩
  obtain ⟨rfl, c, e1, rfl⟩ := y
  refine ⟨r, Fr.refl S H', ?_⟩
  unfold strD at e
  rw [List.getElem?_map] at e
  rw [show z.cps.toList[i]? = some c by simpa using e1] at e
  cases e
  exact .str _
/-- a dict's turns, by data: it stands locked -/
theorem jok_k {K : PySem.W.Frag} {S0 : Hs} {H0 : Hp} {a : Addr} {od : Obj} {kd : List (Key × D)} {kv : List (Key × V)} (h : H0 a = some (.frz od (.dK kv))) (hk : KvD K S0 H0 kd kv) : JOk K (Itk a od kv) S0 H0 (kd.map fun p => keyD p.1) fun S' => S' a = some (.zK kd) := fun S H r f _ i => by
  have hH := f.frz _ _ _ h
  have hl := kvd_len hk
  refine ⟨fun d e => ?_, fun h => ⟨hH, by rw [List.length_map] at h; omega⟩⟩
  have hi : i < kd.length := by
    have := (List.getElem?_eq_some_iff.mp e).1
    rw [List.length_map] at this
    exact this
  refine ⟨⟨hH, by omega⟩, fun x H' y => ?_⟩
  obtain ⟨rfl, k, v, e1, rfl⟩ := y
  refine ⟨r, Fr.refl S H', ?_⟩
  rw [List.getElem?_map, List.getElem?_eq_getElem hi] at e
  cases e
  have := Paired.get? hk (List.getElem?_eq_getElem hi) e1
  show Dv K S H' (kV k) (keyD kd[i].1)
  rw [this.1]
  exact keyD_dv k
theorem rs_tupS {K : PySem.W.Frag} {S : Hs} {H : Hp} {q : Addr} {vs : List V} (r : Rs K S H) (h : H q = some (.tup vs)) : S q = none := by
  cases e : S q with
  | none => rfl
  | some o =>
    obtain ⟨u, e1, e2⟩ := r q o e
    rw [h] at e1
    cases e1
    cases o <;> exact (show False from e2).elim
theorem keys_dva {K : PySem.W.Frag} {S : Hs} {H : Hp} : ∀ ks : List Key, DvA K S H (ks.map kV) (ks.map keyD)
  | [] => .nil
  | k :: r => .cons (keyD_dv k) (keys_dva r)
theorem jok_kt {K : PySem.W.Frag} {S0 : Hs} {H0 : Hp} {a : Addr} {od : Obj} {kd : List (List Key × D)} {kv : List (List Key × V)} (h : H0 a = some (.frz od (.dT kv))) (hk : KvD K S0 H0 kd kv) : JOk K (Itkt a od kv) S0 H0 (kd.map fun p => D.tup (p.1.map keyD)) fun S' => S' a = some (.zT kd) := fun S H r f _ i => by
  have hH := f.frz _ _ _ h
  have hl := kvd_len hk
  refine ⟨fun d e => ?_, fun h => ⟨hH, by rw [List.length_map] at h; omega⟩⟩
  have hi : i < kd.length := by
    have := (List.getElem?_eq_some_iff.mp e).1
    rw [List.length_map] at this
    exact this
  refine ⟨⟨hH, by omega⟩, fun x H' y => ?_⟩
  obtain ⟨rfl, k, v, q, e1, rfl, e2⟩ := y
  refine ⟨r, Fr.refl S H', ?_⟩
  rw [List.getElem?_map, List.getElem?_eq_getElem hi] at e
  cases e
  have := Paired.get? hk (List.getElem?_eq_getElem hi) e1
  show Dv K S H' (V.ref q) (D.tup (kd[i].1.map keyD))
  rw [this.1]
  exact .tup (rs_tupS r e2) e2 (keys_dva k)
/-- a list's turns, by data -/
theorem jok_l {K : PySem.W.Frag} {S0 : Hs} {H0 : Hp} {ds : List D} {Pr : Hs → Prop} {a : Addr} (h : ∀ S H, Rs K S H → Fr S0 H0 S H → Pr S → ∃ vs, SqL K H a vs ∧ DvA K S H vs ds) : JOk K (Itl K a) S0 H0 ds Pr := fun S H r f p i => by
  obtain ⟨vs, h1, h2⟩ := h S H r f p
  refine ⟨fun d e => ?_, fun hl => ⟨vs, h1, by rw [h2.len]; exact hl⟩⟩
  obtain ⟨v, e1, e2⟩ := h2.get e
  refine ⟨⟨vs, v, h1, e1⟩, fun x H' y => ?_⟩
  obtain ⟨rfl, y⟩ := y
  refine ⟨r, Fr.refl S H', ?_⟩
  have e3 := y vs h1
  rw [e1] at e3
  cases e3
  exact e2
theorem jok_t {K : PySem.W.Frag} {S0 : Hs} {H0 : Hp} {ds : List D} {Pr : Hs → Prop} {a : Addr} (h : ∀ S H, Rs K S H → Fr S0 H0 S H → Pr S → ∃ vs, SqT K H a vs ∧ DvA K S H vs ds) : JOk K (Itt K a) S0 H0 ds Pr := fun S H r f p i => by
  obtain ⟨vs, h1, h2⟩ := h S H r f p
  refine ⟨fun d e => ?_, fun hl => ⟨vs, h1, by rw [h2.len]; exact hl⟩⟩
  obtain ⟨v, e1, e2⟩ := h2.get e
  refine ⟨⟨vs, v, h1, e1⟩, fun x H' y => ?_⟩
  obtain ⟨rfl, y⟩ := y
  refine ⟨r, Fr.refl S H', ?_⟩
  have e3 := y vs h1
  rw [e1] at e3
  cases e3
  exact e2

end
end Dz
namespace PySem
open Sem (wp)
open AutoSeq1 (wpAny_loadPart')
set_option maxHeartbeats 2000000 in
theorem meets_enumerate_newB1 {v : Value} {o : Obj} {H : Heap → Prop} (B : Begins v o H) :
    Meets (Builtin.«enumerate.__new__» ⟨[.type "enumerate", v], []⟩) (fun _ R s => H s.heap ∧
      R (.ok (.ret (.ref (s.heap.push o).objs.size))) { s with heap := (s.heap.push o).push { cls := .type "enumerate", data := .fields #[.none, .bool false, .ref s.heap.objs.size, rawInt 0, .none, .none] } }) :=
  .of_wp fun prog w A R s h => by
    obtain ⟨hp, g, d, tk, os⟩ := s; obtain ⟨h1, h⟩ := h
    have hsub := sub_enumerate
    have q1 : ∀ {A' : Around} {E : Value → Shared → Prop} {Q : Value → Shared → Prop}, Q (.ref hp.objs.size) ⟨hp.push o, g, d, tk, os⟩ → wpAny (model prog w) A' (pyIter v) Q E ⟨hp, g, d, tk, os⟩ :=
      fun q => B.iter prog w _ _ ⟨hp, g, d, tk, os⟩ _ h1 q
    wp_walk using q1
    refine wpAny_stack_any fun st => wpAny_pure ?_
    split
    · rename_i c _ _ _ _ _
      cases (c == Value.type "enumerate")
      · wp_walk using q1
        exact ⟨_, rfl, h⟩
      · wp_walk using q1
        exact ⟨_, rfl, h⟩
    · wp_walk using q1
      exact ⟨_, rfl, h⟩
theorem call_enumerate_b {prog : Program} {w : World} {A : Around} {E : Value → Shared → Prop} {s : Shared} {v : Value} {o : Obj} {H : Heap → Prop} {Q : Value → Shared → Prop} (B : Begins v o H) (h1 : H s.heap)
    (h : ∀ h', IsEnum h' (s.heap.objs.size + 1) s.heap.objs.size 0 .none → h'.get? s.heap.objs.size = some o → h'.objs.size = s.heap.objs.size + 2 →
      (∀ b o, s.heap.get? b = some o → h'.get? b = some o) → Q (.ref (s.heap.objs.size + 1)) { s with heap := h' }) :
    wpAny (model prog w) A (call (.type "enumerate") [v]) Q E s := by
  refine callType_new F.called_enumerate (by decide) (F.typeCall_enumerate_1 _) (F.newCall_enumerate_1 _) (fun obj => F.args_object_init_2 obj _) F.entry_enumerate_new
    (meets_enumerate_newB1 B) ⟨h1, ?_⟩
  have hz : (s.heap.push o).objs.size = s.heap.objs.size + 1 := Heap.size_push ..
  show _ ∧ _
  rw [hz]
  have he : IsEnum ((s.heap.push o).push { cls := .type "enumerate", data := .fields #[.none, .bool false, .ref s.heap.objs.size, rawInt 0, .none, .none] }) (s.heap.objs.size + 1) s.heap.objs.size 0 .none := by
    have := Heap.get?_push_size (s.heap.push o) (o := { cls := .type "enumerate", data := .fields #[.none, .bool false, .ref s.heap.objs.size, rawInt 0, .none, .none] }) rfl
    rw [hz] at this; exact this
  refine ⟨⟨_, he, rfl⟩, h _ he (Heap.get?_push_of_some _ (Heap.get?_push_size _ B.free)) (by rw [Heap.size_push, hz]) fun b o x => Heap.get?_push_of_some _ (Heap.get?_push_of_some _ x)⟩
theorem enumT_end {prog : Program} {w : World} {A : Around} {E : Value → Shared → Prop} {s : Shared} {e it l : Addr} {i : Nat} {items : Array Value} {old : Value} {Q : Option Value → Shared → Prop} (hh : A.handled = none)
    (he : IsEnum s.heap e it i old) (hit : s.heap.IsTupleIter it l i) (hl : s.heap.IsTuple l items) (hx : items[i]? = none)
    (hQ : ∀ h', Heap.ExtBut it s.heap h' → Q none { s with heap := h' }) : wpAny (model prog w) A (pyNext (.ref e)) Q E s := by
  have hT : s.TypeIs (.ref e) "enumerate" := ⟨_, he, rfl⟩
  unfold pyNext
  refine wpAny_bind (wpAny_attempt (wpAny_callSpecial?_slot (name := Str.ofString "__next__") hT F.slot_enumerate_next
    (wpAny_call_entry F.slot_enumerate_next hT F.entry_enumerate_next ?_ (F.args_enumerate_next_1 _))))
  show wpAny _ _ (field (.ref e) 2 >>= _) _ _ _
  refine wpAny_bind (wpAny_field he rfl (x := .ref it) rfl ?_)
  refine wpAny_bind (wpAny_nextOf_tuple_end hh hit hl hx fun h' x he' hx' => ?_)
  obtain ⟨o, ho, hc⟩ := hx'
  refine wpAny_bind (wpAny_isInstance (T := "StopIteration") (b := true) ⟨o, ho, hc⟩ isSubtype_stop ?_)
  exact wpAny_pure (hQ _ he')
end PySem
namespace Dz
open PySem PySem.Spec PyProof.Rows L2
def IteT (K : PySem.W.Frag) (a : Addr) : L2.It :=
  ⟨fun i H => ∃ (xs : List V) (x : V), SqT K H a xs ∧ xs[i]? = some x, fun i H v H' => ∃ T x, v = .ref T ∧ H T = none ∧ H' = upd H T (.tup [.int (i : Nat), x]) ∧ ∀ xs, SqT K H a xs → xs[i]? = some x, fun i H => ∃ xs : List V, SqT K H a xs ∧ xs.length ≤ i⟩
theorem turn_enumT {P : Program} {w : World} {K : PySem.W.Frag} {elts : List Expr} {kk : Nat} {tpos : Pos} (a e it : Addr) (hai : a ≠ it) :
    Turn P w K (.Tuple elts kk tpos) (IteT K a) [e, it] e (fun i h => (∃ old, IsEnum h e it ((i : Nat) : Int) old) ∧ h.IsTupleIter it a i ∧ e ≠ it ∧ e ≠ a) where
  mem := by simp
  obj := fun i h st b hb => by
    obtain ⟨⟨old, he⟩, ⟨o, ho, hc, hd⟩, _⟩ := st
    have e' : b = e ∨ b = it := by simpa using hb
    rcases e' with z | z
    · rw [z]; exact ⟨_, he, fun v q => nomatch q⟩
    · rw [z]; exact ⟨o, ho, fun v q => by rw [hd] at q; cases q⟩
  keep := fun i h h' st k => let ⟨⟨old, he⟩, hi, hne, hea⟩ := st; ⟨⟨old, k e (by simp) _ he⟩, hi.at fun o q => k it (by simp) o q, hne, hea⟩
  item := by
    intro X hP hw hK hc i pins s σ H E I hf st hg
    subst hP hw hK
    obtain ⟨⟨old, he⟩, hit, hne, hea⟩ := st
    obtain ⟨xs, x, hq, hx⟩ := hg
    obtain ⟨its, rv, p, hz⟩ := I.tuple hq
    obtain ⟨u, hu, ru⟩ := rv.get hx
    have hel : e < s.heap.objs.size := Heap.lt_size he
    have hil : it < s.heap.objs.size := by obtain ⟨_, q, _⟩ := hit; exact Heap.lt_size q
    have hlt : i < its.toArray.size := by
      have := (List.getElem?_eq_some_iff.mp hu).1
      simpa using this
    refine wpAny_pyNext_enum_itemD (Draws.tuple (show X.A.in1.handled = none from I.ok.hd hc) it a hai its.toArray) he ⟨hit, show s.heap.IsTuple a its.toArray from p⟩ hlt hne (by simp [hne, hea]) fun x' h' tk hp' ho hit' hT hsz hk => ?_
    have ex : x' = u := by
      have : its.toArray[i]? = some u := by simpa using hu
      rw [this] at hp'
      exact (Option.some.inj hp').symm
    subst ex
    refine ⟨_, rfl, wpAny_letOwnedTupleGo_enum (s := { s with heap := h', toks := tk + 1 }) ho fun h'' he' sb => ?_⟩
    have hT2 : h''.get? s.heap.objs.size = some { cls := .type "tuple", data := .seq #[.int i tk, x'] } := (sb.2 _ (Nat.ne_of_gt hel)).trans hT
    have new : ObjOk X.prog X.w (upd H s.heap.objs.size (.tup [.int (i : Nat), x])) h'' s.heap.objs.size (.tup [.int (i : Nat), x]) :=
      ⟨by show 2 ≤ sizeLine; decide, [.int i tk, x'], .cons ⟨_, rfl⟩ (.cons ru .nil), ⟨_, hT2, rfl, _, rfl⟩⟩
    have I1 : Inv X pins σ (upd H s.heap.objs.size (.tup [.int (i : Nat), x])) { s with heap := h'', toks := tk + 1 } :=
      I.turnedNew (ch := [e, it]) (fun b ob hb q => (sb.2 b (fun z => hb (by simp [z]))).trans (hk b ob (fun z => hb (by simp [z])) (fun z => hb (by simp [z])) q)) hf (Nat.le_refl _) new
    refine ⟨.ref s.heap.objs.size, _, I1, rfl, ⟨_, x, rfl, I.hok.fresh (Nat.le_refl _), rfl, fun ys hy => by rw [I.tuple_inj hy hq]; exact hx⟩, ⟨⟨x', ?_⟩, hit'.1.at fun o q => (sb.2 it (Ne.symm hne)).trans q, hne, hea⟩, fun b hb => ?_⟩
    · have e1 : ((i + 1 : Nat) : Int) = (i : Int) + 1 := by omega
      rw [e1]; exact he'
    · have hb' : b < s.heap.objs.size := by
        have e' : b = e ∨ b = it := by simpa using hb
        rcases e' with z | z
        · rw [z]; exact hel
        · rw [z]; exact hil
      rw [upd_ne (Nat.ne_of_lt hb')]
      exact (hf b hb).1
  done := by
    intro X hP hw hK hc i pins s σ H E I hf st hg
    subst hP hw hK
    obtain ⟨⟨old, he⟩, hit, hne, hea⟩ := st
    obtain ⟨xs, hq, hx⟩ := hg
    obtain ⟨its, rv, p, hz⟩ := I.tuple hq
    obtain ⟨f0, f1, f2, f3, f4, f5⟩ := hf it (by simp)
    have hl := rv.length
    exact enumT_end (I.ok.hd hc) he hit (show s.heap.IsTuple a its.toArray from p) (by simp; omega) fun h' eb => ⟨rfl, I.turned (t' := s.toks) (fun b o hb q => eb b o hb q) f0 f1 f3 f4 f5⟩
  self := fun A i s Q E st h => let ⟨⟨_, he⟩, _⟩ := st; wpAny_pyIter_enum he h

/-- enumerate(x), x a list or a tuple -/
def iEnumS (K : PySem.W.Frag) (ta : TA) : TI := fun σ H R => ta σ H fun vs H1 => ∃ a, vs = [.ref a] ∧ (((∃ xs, SqL K H1 a xs) ∧ R (Ite K a) H1) ∨ ((∃ xs, SqT K H1 a xs) ∧ R (IteT K a) H1))
theorem pi_enumS {X : Cx} {e : Expr} {ta : TA} {p pos tpos : Pos} {elts : List Expr} {kk : Nat} (hg : Gl X "enumerate") (hm : X.mg "enumerate" = none) (ha : PA X [e] ta) (hs : starEach [e] X.env = [(false, eval e X.env)]) :
    PI X (.Tuple elts kk tpos) (.Call (.Name "enumerate" p) [e] [] pos) (iEnumS X.K ta) := by
  refine ⟨fun pins s σ H R I h => ?_⟩
  refine Call_ (ld_blt I hg hm boot_enumerate (PyProof.Rows.callWith_type1 (thn (ha.run pos pins s σ H _ I h) fun us s1 ⟨vs, H1, I1, r1, q1⟩ => ?_) hs rfl))
  obtain ⟨a, ex, q⟩ := q1
  subst ex
  cases r1 with
  | cons r rr =>
    cases rr
    cases r
    have fp : ∀ b, b ∈ [s1.heap.objs.size + 1, s1.heap.objs.size] → FpOk X pins H1 b := fun b hb => by
      have e' : b = s1.heap.objs.size + 1 ∨ b = s1.heap.objs.size := by simpa using hb
      have hle : s1.heap.objs.size ≤ b := by
        rcases e' with z | z
        · rw [z]; exact Nat.le_add_right _ _
        · rw [z]; exact Nat.le_refl _
      exact I1.fpOk hle (I1.hok.fresh hle)
    rcases q with ⟨⟨xs, hq⟩, q⟩ | ⟨⟨xs, hq⟩, q⟩
    · obtain ⟨its, rv, p', hz⟩ := I1.list hq
      refine call_enumerate_list p'.isList fun h' he hit hsz hk => wpAny_pyIter_enum he ?_
      have I2 : Inv X pins σ H1 { s1 with heap := h' } := I1.kept (t' := s1.toks) hk
      exact ⟨s1.heap.objs.size + 1, [s1.heap.objs.size + 1, s1.heap.objs.size], _, _, H1, rfl, I2, turn_enum a (s1.heap.objs.size + 1) s1.heap.objs.size, ⟨⟨.none, he⟩, hit, Nat.succ_ne_self _⟩, fp, q⟩
    · obtain ⟨its, rv, p', hz⟩ := I1.tuple hq
      have hal : a < s1.heap.objs.size := p'.lt
      refine call_enumerate_b (begins_tuple a its.toArray) p' fun h' he hit hsz hk => wpAny_pyIter_enum he ?_
      have I2 : Inv X pins σ H1 { s1 with heap := h' } := I1.kept (t' := s1.toks) hk
      exact ⟨s1.heap.objs.size + 1, [s1.heap.objs.size + 1, s1.heap.objs.size], _, _, H1, rfl, I2, turn_enumT a (s1.heap.objs.size + 1) s1.heap.objs.size (Nat.ne_of_lt hal), ⟨⟨.none, he⟩, ⟨_, hit, rfl, rfl⟩, Nat.succ_ne_self _, Nat.ne_of_gt (Nat.lt_succ_of_lt hal)⟩, fp, q⟩
theorem enumD_get {xs : List D} {i : Nat} {d : D} (e : (enumD xs)[i]? = some d) : ∃ x, xs[i]? = some x ∧ d = D.tup [D.int (i : Nat), x] := by
  unfold enumD at e
  rw [List.getElem?_mapIdx] at e
  cases q : xs[i]? with
  | none => rw [q] at e; cases e
  | some x => rw [q] at e; exact ⟨x, rfl, (Option.some.inj e).symm⟩
theorem enumD_len {xs : List D} : (enumD xs).length = xs.length := by unfold enumD; simp
theorem jok_e {K : PySem.W.Frag} {S0 : Hs} {H0 : Hp} {ds : List D} {Pr : Hs → Prop} {a : Addr} (h : ∀ S H, Rs K S H → Fr S0 H0 S H → Pr S → ∃ vs, SqL K H a vs ∧ DvA K S H vs ds) : JOk K (Ite K a) S0 H0 (enumD ds) Pr := fun S H r f p i => by
  obtain ⟨vs, h1, h2⟩ := h S H r f p
  refine ⟨fun d e => ?_, fun hl => ⟨vs, h1, by rw [enumD_len] at hl; rw [h2.len]; exact hl⟩⟩
  obtain ⟨y, e0, rfl⟩ := enumD_get e
  obtain ⟨v, e1, e2⟩ := h2.get e0
  refine ⟨⟨vs, v, h1, e1⟩, fun x H' z => ?_⟩
  obtain ⟨T, x', rfl, hT, rfl, z⟩ := z
  have e3 := z vs h1
  rw [e1] at e3
  cases e3
  exact ⟨rs_new r hT, fr_new hT, .tup (r.free hT) upd_same (.cons (.int _) (.cons (e2.mono (fr_new hT)) .nil))⟩
theorem jok_eT {K : PySem.W.Frag} {S0 : Hs} {H0 : Hp} {ds : List D} {Pr : Hs → Prop} {a : Addr} (h : ∀ S H, Rs K S H → Fr S0 H0 S H → Pr S → ∃ vs, SqT K H a vs ∧ DvA K S H vs ds) : JOk K (IteT K a) S0 H0 (enumD ds) Pr := fun S H r f p i => by
  obtain ⟨vs, h1, h2⟩ := h S H r f p
  refine ⟨fun d e => ?_, fun hl => ⟨vs, h1, by rw [enumD_len] at hl; rw [h2.len]; exact hl⟩⟩
  obtain ⟨y, e0, rfl⟩ := enumD_get e
  obtain ⟨v, e1, e2⟩ := h2.get e0
  refine ⟨⟨vs, v, h1, e1⟩, fun x H' z => ?_⟩
  obtain ⟨T, x', rfl, hT, rfl, z⟩ := z
  have e3 := z vs h1
  rw [e1] at e3
  cases e3
  exact ⟨rs_new r hT, fr_new hT, .tup (r.free hT) upd_same (.cons (.int _) (.cons (e2.mono (fr_new hT)) .nil))⟩
theorem i_enum {X : Cx} {W : WX} {pos p : Pos} {a : Expr} {wa : WE} {elts : List Expr} {kk : Nat} {tpos : Pos} (hg : Gl X "enumerate") (hm : X.mg "enumerate" = none) (ha : PE X a (tDE X.K W wa)) (hs : starEach [a] X.env = (false, eval a X.env) :: starEach [] X.env) :
    PI X (.Tuple elts kk tpos) (.Call (.Name "enumerate" p) [a] [] pos) (tDI X.K W fun ρ S Q Y => wa ρ S (fun d S1 => enumI d S1 Q) Y) := (pi_enumS hg hm (pa_cons ha pa_nil hs) hs).imp fun σ H R ⟨ρ, S, Q', X', r, rr, hw, k, kx⟩ =>
  ⟨ρ, S, _, X', r, rr, hw, fun v H1 d S1 r1 f1 x1 q1 => by
    cases d with
    | lst xs =>
      obtain ⟨a, vs, rfl, h1, h2⟩ := x1.of_lst
      exact ⟨a, rfl, .inl ⟨⟨vs, h1⟩, k _ H1 _ _ S1 r1 f1 (jok_e (ds := xs) fun S2 H2 r2 f2 _ => (x1.mono f2).sql) q1⟩⟩
    | tup xs =>
      obtain ⟨a, vs, rfl, h1, h2⟩ := x1.of_tup
      exact ⟨a, rfl, .inr ⟨⟨vs, h1⟩, k _ H1 _ _ S1 r1 f1 (jok_eT (ds := xs) fun S2 H2 r2 f2 _ => (x1.mono f2).sqt) q1⟩⟩
    | ref a =>
      cases x1
      obtain ⟨xs, e, q1⟩ := q1
      obtain ⟨vs, h1, h2⟩ := rs_lst r1 e
      refine ⟨a, rfl, .inl ⟨⟨vs, .of h1⟩, k _ H1 _ _ S1 r1 f1 (jok_e (ds := xs) fun S2 H2 r2 f2 p2 => ?_) q1⟩⟩
      obtain ⟨vs2, h3, h4⟩ := rs_lst r2 p2
      exact ⟨vs2, .of h3, h4⟩
    | _ => exact (show False from q1).elim, kx⟩
end Dz
namespace Dz
open PySem PySem.Spec PyProof.Rows L2
section
variable {X : Cx} {W : WX} {pos p : Pos} {a b e : Expr} {wa wb we : WE} {es : List Expr} {ws : WA}
theorem dv_fr_l {K : PySem.W.Frag} {S S1 : Hs} {H H1 : Hp} {a : Addr} {ds : List D} (f : Fr S H S1 H1) (h : Dv K S H (.ref a) (.lst ds)) : ∃ vs, SqL K H1 a vs ∧ DvA K S1 H1 vs ds := (h.mono f).sql
theorem dv_fr_t {K : PySem.W.Frag} {S S1 : Hs} {H H1 : Hp} {a : Addr} {ds : List D} (f : Fr S H S1 H1) (h : Dv K S H (.ref a) (.tup ds)) : ∃ vs, SqT K H1 a vs ∧ DvA K S1 H1 vs ds := (h.mono f).sqt
theorem i_seq {tg l : Expr} (hl : PE X l (tDE X.K W wa)) : PI X tg l (tDI X.K W fun ρ S Q Y => wa ρ S (fun d S1 => seqI d S1 Q) Y) := (pi_seq hl).imp fun σ H R ⟨ρ, S, Q', X', r, rr, hw, k, kx⟩ =>
  ⟨ρ, S, _, X', r, rr, hw, fun v H1 d S1 r1 f1 x1 q1 => by
    cases d with
    | lst xs =>
      obtain ⟨a, vs, rfl, h1, h2⟩ := x1.of_lst
      exact .inl ⟨a, rfl, .inl ⟨⟨vs, h1⟩, k _ H1 xs _ S1 r1 f1 (jok_l fun S2 H2 r2 f2 _ => dv_fr_l f2 x1) q1⟩⟩
    | tup xs =>
      obtain ⟨a, vs, rfl, h1, h2⟩ := x1.of_tup
      exact .inl ⟨a, rfl, .inr ⟨⟨vs, h1⟩, k _ H1 xs _ S1 r1 f1 (jok_t fun S2 H2 r2 f2 _ => dv_fr_t f2 x1) q1⟩⟩
    | ctp xs =>
      obtain ⟨a, vs, rfl, h1, h2⟩ := x1.of_ctp
      exact .inl ⟨a, rfl, .inr ⟨⟨vs, h1⟩, k _ H1 xs _ S1 r1 f1 (jok_t fun S2 H2 r2 f2 _ => (x1.mono f2).sqc) q1⟩⟩
    | str z =>
      cases x1
      exact .inr (.inl ⟨z, rfl, k _ H1 (strD z) _ S1 r1 f1 jok_s q1⟩)
    | ref a =>
      cases x1
      obtain ⟨o, xs, e, e', q1⟩ := q1
      cases o with
      | lst xs' =>
        cases e'
        obtain ⟨vs, h1, h2⟩ := rs_lst r1 e
        refine .inl ⟨a, rfl, .inl ⟨⟨vs, .of h1⟩, k _ H1 xs _ S1 r1 f1 (jok_l fun S2 H2 r2 f2 p2 => ?_) q1⟩⟩
        obtain ⟨vs2, h3, h4⟩ := rs_lst r2 p2
        exact ⟨vs2, .of h3, h4⟩
      | zK kd =>
        cases e'
        obtain ⟨od, kv, h1, h2⟩ := rs_zk r1 e
        exact .inr (.inr ⟨a, od, rfl, .inl ⟨kv, h1, k _ H1 _ _ S1 r1 f1 (jok_k h1 h2) q1⟩⟩)
      | zT kd =>
        cases e'
        obtain ⟨od, kv, h1, h2⟩ := rs_zt r1 e
        exact .inr (.inr ⟨a, od, rfl, .inr ⟨kv, h1, k _ H1 _ _ S1 r1 f1 (jok_kt h1 h2) q1⟩⟩)
      | _ => cases e'
    | _ => exact (show False from q1).elim, kx⟩
theorem jok_r {K : PySem.W.Frag} {S0 : Hs} {H0 : Hp} (lo : Int) (n : Nat) : JOk K (Itr lo n) S0 H0 (rngD lo n) (fun _ => True) := fun S H r f _ i => by
  have hlen : (rngD lo n).length = n := by unfold rngD; simp
  refine ⟨fun d e => ?_, fun hl => by rw [hlen] at hl; exact hl⟩
  have hi : i < n := by
    have := (List.getElem?_eq_some_iff.mp e).1
    omega
  have ed : d = .int (lo + i) := by
    unfold rngD at e
    rw [List.getElem?_map, List.getElem?_range hi] at e
    exact (Option.some.inj e).symm
  subst ed
  refine ⟨hi, fun x H' y => ?_⟩
  obtain ⟨rfl, rfl⟩ := y
  exact ⟨r, Fr.refl S H', .int _⟩
theorem i_rng1 {tg : Expr} (hg : Gl X "range") (hm : X.mg "range" = none) (ha : PE X a (tDE X.K W wa)) (hs : starEach [a] X.env = (false, eval a X.env) :: starEach [] X.env) :
    PI X tg (.Call (.Name "range" p) [a] [] pos) (tDI X.K W fun ρ S Q Y => wa ρ S (fun x S1 => rngI [x] S1 Q) Y) := (pi_range1 hg hm (pa_cons ha pa_nil hs) hs).imp fun σ H R ⟨ρ, S, Q', X', r, rr, hw, k, kx⟩ =>
  ⟨ρ, S, _, X', r, rr, hw, fun v H1 d S1 r1 f1 x1 q1 => by
      cases d with
      | int j =>
        cases x1
        obtain ⟨q2, q3, q⟩ : -(2 ^ 62) ≤ j ∧ j < 2 ^ 62 ∧ Q' (rngD 0 j.toNat) (fun _ => True) S1 := q1
        exact ⟨j, rfl, q2, q3, k _ H1 _ _ S1 r1 f1 (jok_r 0 j.toNat) q⟩
      | _ => exact (show False from q1).elim, kx⟩
theorem i_rng2 {tg : Expr} (hg : Gl X "range") (hm : X.mg "range" = none) (ha : PE X a (tDE X.K W wa)) (hb : PE X b (tDE X.K W wb)) (hs : starEach [a, b] X.env = (false, eval a X.env) :: starEach [b] X.env) (hs2 : starEach [b] X.env = (false, eval b X.env) :: starEach [] X.env) :
    PI X tg (.Call (.Name "range" p) [a, b] [] pos) (tDI X.K W fun ρ S Q Y => wa ρ S (fun x S1 => wb ρ S1 (fun y S2 => rngI [x, y] S2 Q) Y) Y) := (pi_range2 hg hm (pa_cons ha (pa_cons hb pa_nil hs2) hs) (by rw [hs, hs2]; rfl) hs2).imp fun σ H R ⟨ρ, S, Q', X', r, rr, hw, k, kx⟩ =>
  ⟨ρ, S, _, X', r, rr, hw, fun v H1 d S1 r1 f1 x1 q1 => ⟨ρ, S1, _, X', r1, rr.mono f1, q1, fun v2 H2 d' S2 r2 f2 x2 q2 => by
      cases d with
      | int j =>
        cases d' with
        | int j' =>
          cases x1
          cases x2
          obtain ⟨q2, q⟩ : (-(2 ^ 62) ≤ j ∧ j < 2 ^ 62 ∧ -(2 ^ 62) ≤ j' ∧ j' < 2 ^ 62) ∧ Q' (rngD j (j' - j).toNat) (fun _ => True) S2 := q2
          exact ⟨j, j', rfl, by assumption, k _ H2 _ _ S2 r2 (f1.trans f2) (jok_r j (j' - j).toNat) q⟩
        | _ => exact (show False from q2).elim
      | _ => exact (show False by cases d' <;> exact q2).elim, kx.fr f1⟩, kx⟩

/-! ### comprehensions -/
abbrev W00 : WX := fun _ _ _ _ => False
def wComp (vs : List Nat) (wi : WI) (wg : WG) (wc : WB) (we : WE) : WE := fun ρ S Q X => wi ρ S (compB vs wg wc we ρ Q) X
theorem comp_t {σ : L2.St} {H : Hp} {Q : VK} {ix vs : List Nat} {wi : WI} {wg : WG} {wc : WB} {we : WE} (hix : ∀ i ∈ ix, i ∈ vs) (h : tDE X.K W (wComp vs wi wg wc we) σ H Q) :
    tLc (tDI X.K W wi) (tDG X.K W00 ix wg) (tDB X.K W00 wc) (tDE X.K W00 we) vs σ H Q := by
  obtain ⟨ρ, S, Q', X', r, rr, hw, k, kx⟩ := h
  refine ⟨ρ, S, _, X', r, rr, hw, fun J H1 ds Pr S1 r1 f1 jok q1 => ?_, kx⟩
  obtain ⟨hsz, q1⟩ := q1
  intro L hL
  obtain ⟨Wv, w0, turn, done⟩ := q1 L (r1.free hL)
  refine ⟨fun i m H2 => m = ds.length - i ∧ i ≤ ds.length ∧ ∃ acc S2, acc.length ≤ i ∧ Rs X.K S2 H2 ∧ Fr S1 H1 S2 H2 ∧ Wv i acc S2, ⟨ds.length, by simp, Nat.zero_le _, [], sup S1 L (.lst []), Nat.zero_le _, rs_live (m := .lst []) r1 hL .nil, fr_live hL, w0⟩, ?_⟩
  rintro i m H2 ⟨rfl, hi, acc, S2, hal, r2, f2, w2⟩
  by_cases hlt : i < ds.length
  · obtain ⟨e2, p2, q2⟩ := turn i ds[i] acc S2 (by simp [hlt]) hal w2
    obtain ⟨go, yld⟩ := (jok S2 H2 r2 f2 p2 i).1 ds[i] (by simp [hlt])
    refine .inr ⟨go, fun H' => ∃ acc' S', acc'.length ≤ i + 1 ∧ Rs X.K S' H' ∧ Fr S1 H1 S' H' ∧ Wv (i + 1) acc' S', fun H' ⟨acc', S', n1, n2, n3, n4⟩ => ⟨ds.length - (i + 1), by omega, rfl, hlt, acc', S', n1, n2, n3, n4⟩, fun x H3 y => ?_⟩
    obtain ⟨r3, f3, x3⟩ := yld x H3 y
    have rr3 : Rr X.K S2 H3 (wipe σ vs) (wipeD ρ vs) := (rr.mono (f1.trans (f2.trans f3))).wipe vs
    refine ⟨ds[i], wipeD ρ vs, S2, _, X0, r3, rr3, x3, q2, fun σ4 H4 ρ4 S4 r4 f4 rr4 z4 q4 => ?_, fun _ _ _ _ _ _ _ _ _ _ q => q.elim⟩
    refine ⟨(z4 vs hix).trans (wipe_wipe fun v hv => hv), ρ4, S4, _, X0, r4, rr4, q4, fun b H5 S5 r5 f5 q5 => ?_, EndX.X0⟩
    have f25 : Fr S2 H2 S5 H5 := f3.trans (f4.trans f5)
    cases b with
    | false => exact iteF ⟨acc, S5, by omega, r5, f2.trans f25, q5⟩
    | true =>
      refine iteT ⟨ρ4, S5, _, X0, r5, rr4.mono f5, q5, fun yv H6 yd S6 r6 f6 x6 ⟨e6, q6⟩ => ?_, EndX.X0⟩
      obtain ⟨vacc, h6, d6⟩ := rs_lst r6 e6
      refine ⟨vacc, h6, by rw [d6.len]; omega, acc ++ [yd], sup S6 L (.lst (acc ++ [yd])), by simp; omega, ?_, f2.trans (f25.trans (f6.trans (fr_mut r6 e6))), q6⟩
      exact rs_mut (m := .lst (acc ++ [yd])) r6 e6 (show DvA X.K _ _ (vacc ++ [yv]) (acc ++ [yd]) from (d6.append (.cons x6 .nil)).mono (fr_mut r6 e6))
  · have e : i = ds.length := by omega
    subst e
    obtain ⟨e2, p2, q2⟩ := done acc S2 hal w2
    refine .inl ⟨(jok S2 H2 r2 f2 p2 ds.length).2 (Nat.le_refl _), ?_⟩
    rcases q2 with q2 | q2
    · exact k _ _ _ _ (rs_del r2) (f1.trans (f2.trans fr_del)) (dv_frz r2 e2) q2
    · exact k _ _ _ _ r2 (f1.trans f2) (.ref L) q2

theorem s_comp {own : List (Str × Nat)} {ix : List Nat} {wi : WI} {wg : WG} {wc : WB} {we : WE} {elt tg iter : Expr} {ifs : List Expr} {scope : Scope} (hc : X.calm = true) (hN : X.N.Nodup) (hi : PI X tg iter (tDI X.K W wi)) (ok : BlkOk X.N X.env.scope scope own)
    (hix : ∀ i ∈ ix, i ∈ own.map (·.2))
    (hg : ∀ (s : Shared) (H : Hp) (C : Addr) (cl : List (Str × Addr)) (fp : List Addr), PG (X.blk s H scope (compEnvC scope cl C X.env) fp) tg (tDG X.K W00 ix wg)) (ht : ∀ (s : Shared) (H : Hp) (C : Addr) (cl : List (Str × Addr)) (fp : List Addr), PTs (X.blk s H scope (compEnvC scope cl C X.env) fp) ifs (tDB X.K W00 wc))
    (he : ∀ (s : Shared) (H : Hp) (C : Addr) (cl : List (Str × Addr)) (fp : List Addr), PE (X.blk s H scope (compEnvC scope cl C X.env) fp) elt (tDE X.K W00 we)) (hs : ∀ x, foldedSetIterable iter X.env x = pure x) :
    PE X (.ListComp elt [⟨tg, iter, ifs, 0⟩] scope pos) (tDE X.K W (wComp (own.map (·.2)) wi wg wc we)) := (pe_lc hc hN hi ok hg ht he hs).imp fun σ H Q h => comp_t hix h
/-- y = [..] on one line, y a local -/
theorem s_setc {i : Nat} {y : Str} {py spos : Pos} {own : List (Str × Nat)} {ix : List Nat} {wi : WI} {wg : WG} {wc : WB} {we : WE} {elt tg iter : Expr} {ifs : List Expr} {scope : Scope} (hc : X.calm = true) (hN : X.N.Nodup) (hy : X.N[i]? = some y) (hyl : X.env.scope.names.lookup y = some .local)
    (hsw : swapsWith (.ListComp elt [⟨tg, iter, ifs, 0⟩] scope pos) (some (.Name y py)) spos.line X.env = pure true) (hi : PI X tg iter (tDI X.K W wi)) (ok : BlkOk X.N X.env.scope scope own)
    (hix : ∀ i ∈ ix, i ∈ own.map (·.2))
    (hg : ∀ (s : Shared) (H : Hp) (C : Addr) (cl : List (Str × Addr)) (fp : List Addr), PG (X.blk s H scope (compEnvC scope cl C X.env) fp) tg (tDG X.K W00 ix wg)) (ht : ∀ (s : Shared) (H : Hp) (C : Addr) (cl : List (Str × Addr)) (fp : List Addr), PTs (X.blk s H scope (compEnvC scope cl C X.env) fp) ifs (tDB X.K W00 wc))
    (he : ∀ (s : Shared) (H : Hp) (C : Addr) (cl : List (Str × Addr)) (fp : List Addr), PE (X.blk s H scope (compEnvC scope cl C X.env) fp) elt (tDE X.K W00 we)) (hs : ∀ x, foldedSetIterable iter X.env x = pure x) :
    PS X (.Assign [.Name y py] (.ListComp elt [⟨tg, iter, ifs, 0⟩] scope pos) spos) (tDT X.K W fun Z ρ S => wComp (own.map (·.2)) wi wg wc we ρ S (fun d S1 => Z.nx (ρ.set i (some d)) S1) (fun x S' => Z.ex x ρ S')) :=
  (ps_setLc (i := i) hc hN hy hyl hsw hi ok hg ht he hs).imp fun Z0 σ H ⟨ρ, S, Z, r, rr, hw, k1, k2, k3, k4, k5⟩ =>
    comp_t hix ⟨ρ, S, _, _, r, rr, hw, fun v H1 d S1 r1 f1 x1 q1 => k1 _ H1 _ S1 r1 f1 ((rr.mono f1).set i x1) q1, fun c dx H' x S' r' f' z q => k5 c dx σ H' x ρ S' r' f' (rr.mono f') z q⟩

/-! ### statements -/
section
variable {K : PySem.W.Frag} {σ : L2.St} {H H1 : Hp} {ρ : Ro} {S S1 : Hs} {Z : DE} {Z0 : Ends}
/-- the five wishes -/
structure Five (K : PySem.W.Frag) (W : WX) (S : Hs) (H : Hp) (Z : DE) (Z0 : Ends) : Prop where
  nx : ∀ σ' H' ρ' S', Rs K S' H' → Fr S H S' H' → Rr K S' H' σ' ρ' → Z.nx ρ' S' → Z0.nx σ' H'
  bk : ∀ σ' H' ρ' S', Rs K S' H' → Fr S H S' H' → Rr K S' H' σ' ρ' → Z.bk ρ' S' → Z0.bk σ' H'
  ct : ∀ σ' H' ρ' S', Rs K S' H' → Fr S H S' H' → Rr K S' H' σ' ρ' → Z.ct ρ' S' → Z0.ct σ' H'
  rt : ∀ v H' d S', Rs K S' H' → Fr S H S' H' → Dv K S' H' v d → Z.rt d S' → Z0.rt v H'
  ex : ∀ cls dx σ' H' x ρ' S', Rs K S' H' → Fr S H S' H' → Rr K S' H' σ' ρ' → XRel K S' H' cls dx x → Z.ex x ρ' S' → W cls dx σ' H'
theorem Five.fr (f : Fr S H S1 H1) (k : Five K W S H Z Z0) : Five K W S1 H1 Z Z0 :=
  ⟨fun a b c d r g => k.nx a b c d r (f.trans g), fun a b c d r g => k.bk a b c d r (f.trans g), fun a b c d r g => k.ct a b c d r (f.trans g), fun a b c d r g => k.rt a b c d r (f.trans g), fun a b c d e g h r l => k.ex a b c d e g h r (f.trans l)⟩
/-- an expression's exceptions are the statement's -/
theorem Five.x (k : Five K W S H Z Z0) (rr : Rr K S H σ ρ) : EndX K S H (fun x S' => Z.ex x ρ S') (fun c d H' => W c d σ H') := fun c dx H' x S' r f z q => k.ex c dx σ H' x ρ S' r f (rr.mono f) z q
theorem t_mk {w : WT} (r : Rs K S H) (rr : Rr K S H σ ρ) (h : w Z ρ S) (k : Five K W S H Z Z0) : tDT K W w Z0 σ H := ⟨ρ, S, Z, r, rr, h, k.nx, k.bk, k.ct, k.rt, k.ex⟩
theorem t_un {w : WT} (h : tDT K W w Z0 σ H) : ∃ ρ S Z, Rs K S H ∧ Rr K S H σ ρ ∧ w Z ρ S ∧ Five K W S H Z Z0 := by
  obtain ⟨ρ, S, Z, r, rr, h, k1, k2, k3, k4, k5⟩ := h
  exact ⟨ρ, S, Z, r, rr, h, ⟨k1, k2, k3, k4, k5⟩⟩
end
variable {st : Stmt} {rest : List Stmt} {wt wu : WT}
theorem ss_nil : PSs X [] (tDT X.K W fun Z ρ S => Z.nx ρ S) := pss_nil.imp fun Z0 σ H h => by
  obtain ⟨ρ, S, Z, r, rr, h, k⟩ := t_un h
  exact k.nx _ _ _ _ r (Fr.refl S H) rr h
theorem ss_cons (h1 : PS X st (tDT X.K W wt)) (h2 : PSs X rest (tDT X.K W wu)) : PSs X (st :: rest) (tDT X.K W fun Z ρ S => wt { Z with nx := wu Z } ρ S) := (pss_cons h1 h2).imp fun Z0 σ H h => by
  obtain ⟨ρ, S, Z, r, rr, h, k⟩ := t_un h
  refine t_mk r rr h ⟨fun σ' H' ρ' S' r' f' rr' q => t_mk r' rr' q (k.fr f'), k.bk, k.ct, k.rt, k.ex⟩
theorem st_asg {g : Expr} {ix : List Nat} {wg : WG} (he : PE X e (tDE X.K W we)) (hg : PG X g (tDG X.K W ix wg)) (hs : swapsWithSole [g] e pos.line X.env = pure false) (hw : swappedStores [g] e X.env = pure none) (h1 : (assignEach [g] X.env).map (·.2) = [assign g X.env]) :
    PS X (.Assign [g] e pos) (tDT X.K W fun Z ρ S => we ρ S (fun d S1 => wg d ρ S1 Z.nx (fun x S' => Z.ex x ρ S')) (fun x S' => Z.ex x ρ S')) := (ps_asg he hg hs hw h1).imp fun Z0 σ H h => by
  obtain ⟨ρ, S, Z, r, rr, h, k⟩ := t_un h
  refine ⟨ρ, S, _, _, r, rr, h, fun v H1 d S1 r1 f1 x1 q1 => ?_, k.x rr⟩
  exact ⟨d, ρ, S1, _, _, r1, rr.mono f1, x1, q1, fun σ' H' ρ' S' r' f' rr' _ q => k.nx _ _ _ _ r' (f1.trans f') rr' q, fun c dx σ' H' x S' r' f' rr' z q => k.ex c dx σ' H' x ρ S' r' (f1.trans f') rr' z q⟩
theorem ip_aug (o : B2) : PIp X o.op (fun x y H Q => rO X.K (two (augW o)) [x, y] H Q) := by
  intro pins s σ H x y v u Q I rx ry q
  obtain ⟨ds, S, Q', r, da, hg, k⟩ := q
  cases da with
  | cons h1 t1 =>
    cases t1 with
    | cons h2 t2 =>
      cases t2
      rename_i d e
      have hg : augW o d e S Q' := hg
      cases o <;> cases d <;> cases e <;> first
        | exact (show False from hg).elim
        | (cases h1; cases h2; exact iop_add pins s σ H _ _ v u Q I rx ry ⟨_, _, rfl, rfl, end_now r (.int _) hg k⟩)
        | (cases h1; cases h2; exact iop_sub pins s σ H _ _ v u Q I rx ry ⟨_, _, rfl, rfl, end_now r (.int _) hg k⟩)
        | (cases h1; cases h2; exact iop_add_str pins s σ H _ _ v u Q I rx ry ⟨_, _, rfl, rfl, hg.1, end_now r (.str _) hg.2 k⟩)
theorem st_aug {i : Nat} {x : Str} {pos' : Pos} (o : B2) (hN : X.N.Nodup) (hi : X.N[i]? = some x) (hx : Loc X.env.scope x) (hf : X.fn x = true ∨ X.env.scope.names.lookup x = some .local) (he : PE X e (tDE X.K W we)) :
    PS X (.AugAssign (.Name x pos') o.op e pos) (tDT X.K W fun Z ρ S => ∃ x, ρ[i]? = some (some x) ∧ we ρ S (fun y S1 => augW o x y S1 fun z S2 => Z.nx (ρ.set i (some z)) S2) (fun x S' => Z.ex x ρ S')) := (ps_aug hN hi hx he (ip_aug o) hf).imp fun Z0 σ H h => by
  obtain ⟨ρ, S, Z, r, rr, ⟨d, e1, h⟩, k⟩ := t_un h
  obtain ⟨v, e2, xv⟩ := rr.2 i d e1
  refine ⟨v, e2, ρ, S, _, _, r, rr, h, fun w H1 d1 S1 r1 f1 x1 q1 => ?_, k.x rr⟩
  exact ⟨[d, d1], S1, _, r1, da2 f1 xv x1, q1, fun z H2 dz S2 r2 f2 x2 q2 => k.nx _ _ _ _ r2 (f1.trans f2) ((rr.mono (f1.trans f2)).set i x2) q2⟩
theorem st_ex (he : PE X e (tDE X.K W we)) (hs : swapsWith e none pos.line X.env = pure false) : PS X (.Expr e pos) (tDT X.K W fun Z ρ S => we ρ S (fun _ S1 => Z.nx ρ S1) (fun x S' => Z.ex x ρ S')) := (ps_expr he hs).imp fun Z0 σ H h => by
  obtain ⟨ρ, S, Z, r, rr, h, k⟩ := t_un h
  exact ⟨ρ, S, _, _, r, rr, h, fun v H1 d S1 r1 f1 x1 q1 => k.nx _ _ _ _ r1 f1 (rr.mono f1) q1, k.x rr⟩
theorem st_ret (he : PE X e (tDE X.K W we)) : PS X (.Return (some e) pos) (tDT X.K W fun Z ρ S => we ρ S (fun d S1 => retW d S1 Z.rt) (fun x S' => Z.ex x ρ S')) := (ps_ret he).imp fun Z0 σ H h => by
  obtain ⟨ρ, S, Z, r, rr, h, k⟩ := t_un h
  refine ⟨ρ, S, _, _, r, rr, h, fun v H1 d S1 r1 f1 x1 q1 => ?_, k.x rr⟩
  rcases q1 with q1 | ⟨a, xs, e1, e2, q1⟩
  · exact k.rt _ _ _ _ r1 f1 x1 q1
  · subst e1
    cases x1
    exact k.rt _ _ _ _ (rs_del r1) (f1.trans fr_del) (dv_frz r1 e2) q1
theorem st_retN : PS X (.Return none pos) (tDT X.K W fun Z _ S => Z.rt .non S) := ps_retN.imp fun Z0 σ H h => by
  obtain ⟨ρ, S, Z, r, rr, h, k⟩ := t_un h
  exact k.rt _ _ _ _ r (Fr.refl S H) .non h
theorem st_pass : PS X (.Pass pos) (tDT X.K W fun Z ρ S => Z.nx ρ S) := ps_pass.imp fun Z0 σ H h => by
  obtain ⟨ρ, S, Z, r, rr, h, k⟩ := t_un h
  exact k.nx _ _ _ _ r (Fr.refl S H) rr h
theorem st_brk : PS X (.Break pos) (tDT X.K W fun Z ρ S => Z.bk ρ S) := ps_break.imp fun Z0 σ H h => by
  obtain ⟨ρ, S, Z, r, rr, h, k⟩ := t_un h
  exact k.bk _ _ _ _ r (Fr.refl S H) rr h
theorem st_cont : PS X (.Continue pos) (tDT X.K W fun Z ρ S => Z.ct ρ S) := ps_continue.imp fun Z0 σ H h => by
  obtain ⟨ρ, S, Z, r, rr, h, k⟩ := t_un h
  exact k.ct _ _ _ _ r (Fr.refl S H) rr h
theorem st_never : PS X st (tDT X.K W fun _ _ _ => False) := ps_never.imp fun Z0 σ H h => by
  obtain ⟨ρ, S, Z, r, rr, h, k⟩ := t_un h
  exact h
theorem st_ite {c : Expr} {l1 l2 : List Stmt} {wc : WB} (hc : PT X c (tDB X.K W wc)) (ha : PSs X l1 (tDT X.K W wt)) (hb : PSs X l2 (tDT X.K W wu)) :
    PS X (.If c l1 l2 pos) (tDT X.K W fun Z ρ S => wc ρ S (fun k S1 => if k = true then wt Z ρ S1 else wu Z ρ S1) (fun x S' => Z.ex x ρ S')) := (ps_if hc ha hb).imp fun Z0 σ H h => by
  obtain ⟨ρ, S, Z, r, rr, h, k⟩ := t_un h
  refine ⟨ρ, S, _, _, r, rr, h, fun b H1 S1 r1 f1 q1 => ?_, k.x rr⟩
  cases b with
  | true => exact iteT (t_mk r1 (rr.mono f1) q1 (k.fr f1))
  | false => exact iteF (t_mk r1 (rr.mono f1) q1 (k.fr f1))
theorem st_for {g iter : Expr} {body : List Stmt} {ix : List Nat} {wi : WI} {wg : WG} (hp : PassesOwn (model X.prog X.w) X.A X.env X.xe) (hc : X.calm = true) (hi : PI X g iter (tDI X.K W wi)) (hg : PG X g (tDG X.K W ix wg)) (hb : PSs X body (tDT X.K W wt)) (hs : ∀ x, foldedSetIterable iter X.env x = pure x) :
    PS X (.For g iter body [] pos) (tDT X.K W fun D ρ S => wi ρ S (forB wg wt D ρ) (fun x S' => D.ex x ρ S')) := (ps_for hp hc hi hg hb hs).imp fun Z0 σ H h => by
  obtain ⟨ρ, S, Z, r, rr, h, k⟩ := t_un h
  refine ⟨ρ, S, _, _, r, rr, h, fun J H1 ds Pr S1 r1 f1 jok ⟨Wv, w0, turn, done⟩ => ?_, k.x rr⟩
  refine ⟨fun i m σ2 H2 => m = ds.length - i ∧ i ≤ ds.length ∧ ∃ ρ2 S2, Rs X.K S2 H2 ∧ Fr S1 H1 S2 H2 ∧ Rr X.K S2 H2 σ2 ρ2 ∧ Wv i ρ2 S2, ⟨ds.length, by simp, Nat.zero_le _, ρ, S1, r1, Fr.refl S1 H1, rr.mono f1, w0⟩, ?_⟩
  rintro i m σ2 H2 ⟨rfl, hi, ρ2, S2, r2, f2, rr2, w2⟩
  by_cases hlt : i < ds.length
  · obtain ⟨p2, q2⟩ := turn i ds[i] ρ2 S2 (by simp [hlt]) w2
    obtain ⟨go, yld⟩ := (jok S2 H2 r2 f2 p2 i).1 ds[i] (by simp [hlt])
    refine .inr ⟨go, fun σ' H' => ∃ ρ' S', Rs X.K S' H' ∧ Fr S1 H1 S' H' ∧ Rr X.K S' H' σ' ρ' ∧ Wv (i + 1) ρ' S', fun σ' H' ⟨ρ', S', n1, n2, n3, n4⟩ => ⟨ds.length - (i + 1), by omega, rfl, hlt, ρ', S', n1, n2, n3, n4⟩, fun x H3 y => ?_⟩
    obtain ⟨r3, f3, x3⟩ := yld x H3 y
    have f13 := f1.trans (f2.trans f3)
    refine ⟨ds[i], ρ2, S2, _, _, r3, rr2.mono f3, x3, q2, fun σ4 H4 ρ4 S4 r4 f4 rr4 _ q4 => ?_, fun c dx σ' H' x S' r' f' rr' z q => k.ex c dx σ' H' x ρ2 S' r' (f13.trans f') rr' z q⟩
    refine t_mk r4 rr4 q4 ⟨fun a b c d e g l q => ⟨c, d, e, f2.trans (f3.trans (f4.trans g)), l, q⟩, fun a b c d e g l q => k.nx a b c d e (f13.trans (f4.trans g)) l q, fun a b c d e g l q => ⟨c, d, e, f2.trans (f3.trans (f4.trans g)), l, q⟩, ((k.fr f13).fr f4).rt, ((k.fr f13).fr f4).ex⟩
  · have e : i = ds.length := by omega
    subst e
    obtain ⟨p2, q2⟩ := done ρ2 S2 w2
    exact .inl ⟨(jok S2 H2 r2 f2 p2 ds.length).2 (Nat.le_refl _), k.nx _ _ _ _ r2 (f1.trans f2) rr2 q2⟩
theorem st_whil {c : Expr} {body : List Stmt} {wc : WB} (hp : PassesOwn (model X.prog X.w) X.A X.env X.xe) (hc : PT X c (tDB X.K W wc)) (hb : PSs X body (tDT X.K W wt)) :
    PS X (.While c body [] pos) (tDT X.K W fun D ρ S => whilB wc wt D ρ S) := (ps_while hp hc hb).imp fun Z0 σ H h => by
  obtain ⟨ρ, S, Z, r, rr, ⟨Wv, ⟨m0, w0⟩, turn⟩, k⟩ := t_un h
  refine ⟨fun m σ2 H2 => ∃ ρ2 S2, Rs X.K S2 H2 ∧ Fr S H S2 H2 ∧ Rr X.K S2 H2 σ2 ρ2 ∧ Wv m ρ2 S2, ⟨m0, ρ, S, r, Fr.refl S H, rr, w0⟩, ?_⟩
  rintro m σ2 H2 ⟨ρ2, S2, r2, f2, rr2, w2⟩
  refine ⟨ρ2, S2, _, _, r2, rr2, turn m ρ2 S2 w2, fun b H3 S3 r3 f3 q3 => ?_, (k.fr f2).x rr2⟩
  cases b with
  | true =>
    refine iteT ⟨fun σ' H' => ∃ m', m' < m ∧ ∃ ρ' S', Rs X.K S' H' ∧ Fr S H S' H' ∧ Rr X.K S' H' σ' ρ' ∧ Wv m' ρ' S', fun σ' H' ⟨m', h1, h2⟩ => ⟨m', h1, h2⟩, ?_⟩
    refine t_mk r3 (rr2.mono f3) q3 ⟨fun a b c d e g l ⟨m', h1, h2⟩ => ⟨m', h1, c, d, e, f2.trans (f3.trans g), l, h2⟩, fun a b c d e g l q => k.nx a b c d e (f2.trans (f3.trans g)) l q, fun a b c d e g l ⟨m', h1, h2⟩ => ⟨m', h1, c, d, e, f2.trans (f3.trans g), l, h2⟩, ((k.fr f2).fr f3).rt, ((k.fr f2).fr f3).ex⟩
  | false => exact iteF (k.nx _ _ _ _ r3 (f2.trans f3) (rr2.mono f3) q3)
end
end Dz
namespace Dz
open PySem PySem.Spec PyProof.Rows L2
section
variable {X : Cx} {k : Nat} {f C : Addr} {fd : FuncData} {ps : List Str} {sp : Sp} {W : WX} {x m : Str} {p pos apos : Pos} {e o : Expr} {es : List Expr} {ta : TE} {t : TA}
abbrev FnK (X : Cx) (k : Nat) (f : Addr) (fd : FuncData) (ps : List Str) (sp : Sp) : Prop := FnOk X.prog X.w X.K X.mg X.base (L2.CX X.prog X.w) k f fd ps sp
/-- f(), what is raised wished for at the slots -/
theorem v_call0 (tk : Takes X W) (hr : Room k X.A) (F : FnK X k f fd ps sp) (hb : Binds X.K fd ps []) (kp : PySem.W.keepIn X.K (.ref f) = true) (hm : X.mg x = some (.ref f)) (hg : Gl X x) (hd : (x == ("__debug__" : Str)) = false) :
    PE X (.Call (.Name x p) [] [] pos) (fun σ H Q => sp [] H Q (L2.WE W σ)) := ⟨fun pins s σ H Q I h =>
  wpAny_Call_Name_kw (ld_glob I hg hm (PySem.W.callWith_K0 I.kIn kp (run_fnSD (dvs := []) (vs := []) (us := []) F hr hb .nil (passAt tk σ) I .nil h)) hd)⟩
/-- o.m(..), the class told behind o -/
def mtQ (X : Cx) (k : Nat) (m : Str) (run : Sp → V → L2.St → Hp → VK → Prop) (σ : L2.St) (Q : VK) (x : V) (H1 : Hp) : Prop :=
  ∃ (a C f : Addr) (dx : Addr) (fs : List (Str × V)) (fd : FuncData) (ps : List Str) (sp : Sp), x = .ref a ∧ H1 a = some (.ins C dx fs) ∧ fs.lookup m = none ∧ Cls X.K C ∧ Meth X.K C m f ∧ FnK X k f fd ps sp ∧ Binds X.K fd ps [] ∧ run sp x σ H1 Q
theorem v_mt {pl : Sem Bool} (tk : Takes X W) (hr : Room k X.A) (he : PE X o ta) (ha : PA X (e :: es) t)
    (hst : starEach (e :: es) X.env = (false, eval e X.env) :: starEach es X.env) (hpl : (backTo pos (starEach es X.env)).any (·.1) = false)
    (ht : eval (.Call (.Attribute o m apos) (e :: es) [] pos) X.env = (eval o X.env >>= fun ov => standAt apos.atName >>= fun _ => holding [ov] (getMethod ov m pl) >>= fun ff => callWith pos ff.1 ff.2 (backTo pos (starEach (e :: es) X.env)) (backToKw pos (keywordEach [] X.env)))) :
    PE X (.Call (.Attribute o m apos) (e :: es) [] pos) (fun σ H Q => ta σ H (mtQ X k m (fun sp x σ H1 Q => t σ H1 fun vs H2 => sp (x :: vs) H2 Q (L2.WE W σ)) σ Q)) := ⟨fun pins s σ H Q I h => by
  refine PySem.W.methodCall_KW (pl := pl) (thn (he.run pins s σ H _ I h) fun u s1 hq => ?_) ht
  obtain ⟨y, H1, I1, ry, a, C, f, dx, fs, fd, ps, sp, rfl, ea, lk, c, hm, F, hb, q⟩ := hq
  cases (show u = Value.ref a from ry)
  refine getmeth_ok I1 ea c hm lk (PySem.W.callWith_K (h₀ := X.base) (first := [.ref a]) I.ok.mod.kin hm.kp (thn (ha.run pos pins s1 σ H1 _ I1 q) fun us s2 hv => ?_) hst hpl)
  obtain ⟨vs, H2, I2, rv, q2⟩ := hv
  exact ⟨I2.kIn, run_fnSD (dvs := []) (us := .ref a :: us) (vs := .ref a :: vs) F hr hb .nil (passAt tk σ) I2 (.cons rfl rv) (by rw [List.append_nil]; exact q2)⟩⟩
theorem v_mt0 {pl : Sem Bool} (tk : Takes X W) (hr : Room k X.A) (he : PE X o ta)
    (ht : eval (.Call (.Attribute o m apos) [] [] pos) X.env = (eval o X.env >>= fun ov => standAt apos.atName >>= fun _ => holding [ov] (getMethod ov m pl) >>= fun ff => callWith pos ff.1 ff.2 (backTo pos (starEach [] X.env)) (backToKw pos (keywordEach [] X.env)))) :
    PE X (.Call (.Attribute o m apos) [] [] pos) (fun σ H Q => ta σ H (mtQ X k m (fun sp x σ H1 Q => sp [x] H1 Q (L2.WE W σ)) σ Q)) := ⟨fun pins s σ H Q I h => by
  refine PySem.W.methodCall_KW (pl := pl) (thn (he.run pins s σ H _ I h) fun u s1 hq => ?_) ht
  obtain ⟨y, H1, I1, ry, a, C, f, dx, fs, fd, ps, sp, rfl, ea, lk, c, hm, F, hb, q⟩ := hq
  cases (show u = Value.ref a from ry)
  exact getmeth_ok I1 ea c hm lk (PySem.W.callWith_K0 (first := [.ref a]) I1.kIn hm.kp (run_fnSD (dvs := []) (us := [.ref a]) (vs := [.ref a]) F hr hb .nil (passAt tk σ) I1 (.cons rfl .nil) q))⟩
/-- C(..) -/
def spNew (C : Addr) (sp : Sp) (vs : List V) (H : Hp) (Q : VK) (E : XK) : Prop := ∀ y dx, H y = none → H dx = none → dx ≠ y → sp (.ref y :: vs) (upd (upd H dx (.own y)) y (.ins C dx [])) (fun v H2 => v = .non ∧ Q (.ref y) H2) E
theorem run_new (tk : Takes X W) (hr : Room (k + 1) X.A) (M : Mk X.K C f) (F : FnK X k f fd ps sp) (hb : Binds X.K fd ps []) {pins : List (Addr × Obj)} {σ : L2.St} {H : Hp} {s : Shared} {Q : VK} {us : List Value} {vs : List V}
    (I : Inv X pins σ H s) (rv : Vals vs us) (h : spNew C sp vs H Q (L2.WE W σ)) : wpAny (model X.prog X.w) X.A (call (.ref C) us) (EP X pins σ Q) X.xe s := by
  have n := s.heap.objs.size
  have go := h (s.heap.objs.size + 1) s.heap.objs.size (I.hok.fresh (Nat.le_succ _)) (I.hok.fresh (Nat.le_refl _)) (Nat.ne_of_lt (Nat.lt_succ_self _))
  have J := Inv.made (C := C) I
  have rr : Vals (V.ref (s.heap.objs.size + 1) :: vs) (Value.ref (s.heap.objs.size + 1) :: us) := .cons rfl rv
  have len : (Value.ref (s.heap.objs.size + 1) :: us ++ []).length = ps.length := by
    rw [List.append_nil, ← rr.length]
    exact F.len _ _ _ _ go
  have bnd := hb _ (Value.ref (s.heap.objs.size + 1) :: us) J.kIn len
  rw [List.append_nil] at bnd
  refine wpAny_call (make_map (f := f) I.kIn M.makes M.init (beq_iff_eq.mp M.fn) (codeAny_mono (F.run _ X.stack _ _ ⟨Value.ref (s.heap.objs.size + 1) :: us, []⟩ _ _ _ _ (hr.make C us []) (J.env0.make C us []) bnd rr go) fun r s2 hq => ?_))
  match r, hq with
  | .error e, hq => exact passAt tk σ pins _ _ e s2 J hq
  | .ok (.ret u), hq =>
    obtain ⟨v, H', J2, rv2, ev, q⟩ := J.after hq
    subst ev
    exact ⟨rv2, V.ref (s.heap.objs.size + 1), H', J2, rfl, q⟩
  | .ok .next, hq => exact hq.elim
  | .ok .brk, hq => exact hq.elim
  | .ok .cont, hq => exact hq.elim
theorem v_mk (tk : Takes X W) (hr : Room (k + 1) X.A) (M : Mk X.K C f) (F : FnK X k f fd ps sp) (hb : Binds X.K fd ps []) (hm : X.mg x = some (.ref C)) (hg : Gl X x) (hd : (x == ("__debug__" : Str)) = false) (ha : PA X (e :: es) t)
    (hst : starEach (e :: es) X.env = (false, eval e X.env) :: starEach es X.env) (hpl : (backTo pos (starEach es X.env)).any (·.1) = false) :
    PE X (.Call (.Name x p) (e :: es) [] pos) (fun σ H Q => t σ H fun vs H1 => spNew C sp vs H1 Q (L2.WE W σ)) := ⟨fun pins s σ H Q I h =>
  wpAny_Call_Name_kw (ld_glob I hg hm (PySem.W.callWith_K (h₀ := X.base) I.ok.mod.kin M.kp (thn (ha.run pos pins s σ H _ I h) fun us s1 ⟨vs, H1, I1, rv, q⟩ => ⟨I1.kIn, run_new tk hr M F hb I1 rv q⟩) hst hpl) hd)⟩
theorem v_mk0 (tk : Takes X W) (hr : Room (k + 1) X.A) (M : Mk X.K C f) (F : FnK X k f fd ps sp) (hb : Binds X.K fd ps []) (hm : X.mg x = some (.ref C)) (hg : Gl X x) (hd : (x == ("__debug__" : Str)) = false) :
    PE X (.Call (.Name x p) [] [] pos) (fun σ H Q => spNew C sp [] H Q (L2.WE W σ)) := ⟨fun pins s σ H Q I h =>
  wpAny_Call_Name_kw (ld_glob I hg hm (PySem.W.callWith_K0 I.kIn M.kp (run_new (us := []) tk hr M F hb I .nil h)) hd)⟩
end
end Dz
namespace Dz
open PySem PySem.Spec PyProof.Rows L2
section
variable {K : PySem.W.Frag} {S S' : Hs} {H H' : Hp} {fd : List (Str × D)} {fv : List (Str × V)} {f : Str} {d : D} {v : V}
theorem kvd_look (h : KvD K S H fd fv) (e : fd.lookup f = some d) : ∃ v, fv.lookup f = some v ∧ Dv K S H v d := by
  unfold KvD at h
  induction h with
  | nil => cases e
  | @cons p q ps qs hd tl ih =>
    obtain ⟨n, x⟩ := p
    obtain ⟨n', y⟩ := q
    obtain ⟨rfl, hx⟩ := hd
    rw [List.lookup_cons] at e ⊢
    split at e
    · rename_i z
      cases e
      exact ⟨y, by rw [z], hx⟩
    · rename_i z
      obtain ⟨v, e1, e2⟩ := ih e
      exact ⟨v, by rw [z]; exact e1, e2⟩
theorem kvd_lookN (h : KvD K S H fd fv) (e : fd.lookup f = none) : fv.lookup f = none := by
  unfold KvD at h
  induction h with
  | nil => rfl
  | @cons p q ps qs hd tl ih =>
    obtain ⟨n, x⟩ := p
    obtain ⟨n', y⟩ := q
    obtain ⟨rfl, hx⟩ := hd
    rw [List.lookup_cons] at e ⊢
    split at e
    · cases e
    · rename_i z
      rw [z]
      exact ih e
theorem kvd_putF (h : KvD K S H fd fv) (hv : Dv K S H v d) : KvD K S H (putFD f d fd) (putF f v fv) := by
  unfold KvD at h ⊢
  induction h with
  | nil => exact .cons ⟨rfl, hv⟩ .nil
  | @cons p q ps qs hd tl ih =>
    obtain ⟨n, x⟩ := p
    obtain ⟨n', y⟩ := q
    obtain ⟨rfl, hx⟩ := hd
    show Paired _ (if n = f then (f, d) :: ps else (n, x) :: putFD f d ps) (if n = f then (n, v) :: qs else (n, y) :: putF f v qs)
    split
    · rename_i z
      exact .cons ⟨z.symm, hv⟩ tl
    · exact .cons ⟨rfl, hx⟩ ih
end
section
variable {X : Cx} {W : WX} {c : Cfg} {pos p apos pos' tpos : Pos} {o e i : Expr} {es : List Expr} {wo we wi : WE} {ws : WA} {f m x : Str} {k : Nat}
/-! ### attributes -/
theorem s_fld (hf : ∀ p ∈ c.flds, Cls X.K p.1 ∧ NoAttr X.K p.1 p.2) (ho : PE X o (tDE X.K W wo)) (hb : attributeBase o f X.env (eval o X.env) = eval o X.env) :
    PE X (.Attribute o f pos) (tDE X.K W fun ρ S Q Y => wo ρ S (fun x S1 => ∃ a C fs d, x = .ref a ∧ S1 a = some (.ins C fs) ∧ (C, f) ∈ c.flds ∧ fs.lookup f = some d ∧ Q d S1) Y) := (pe_fld ho hb).imp fun σ H Q ⟨ρ, S, Q', X', r, rr, hw, kq, kx⟩ =>
  ⟨ρ, S, _, X', r, rr, hw, fun v1 H1 d1 S1 r1 f1 x1 ⟨a, C, fs, d, e1, e2, hm, e3, q⟩ => by
    subst e1
    cases x1
    obtain ⟨dx, fv, h1, h2⟩ := rs_ins r1 e2
    obtain ⟨v, h3, h4⟩ := kvd_look h2 e3
    obtain ⟨g1, g2⟩ := hf _ hm
    exact ⟨a, C, dx, fv, v, rfl, h1, g1, g2, h3, end_now r1 h4 q (kq.fr f1)⟩, kx⟩
theorem ins_upd {S1 : Hs} {H1 : Hp} {K : PySem.W.Frag} {a C dx : Addr} {fs : List (Str × D)} {fv : List (Str × V)} {v : V} {d : D} (r : Rs K S1 H1) (e : S1 a = some (.ins C fs)) (h : KvD K S1 H1 fs fv) (hv : Dv K S1 H1 v d) :
    Rs K (sup S1 a (.ins C (putFD f d fs))) (upd H1 a (.ins C dx (putF f v fv))) ∧ Fr S1 H1 (sup S1 a (.ins C (putFD f d fs))) (upd H1 a (.ins C dx (putF f v fv))) :=
  ⟨rs_mut r e (show _ ∧ KvD K _ _ _ _ from ⟨rfl, KvD.mono (fr_mut r e) (kvd_putF h hv)⟩), fr_mut r e⟩
theorem st_fst (hf : ∀ p ∈ c.flds, Cls X.K p.1 ∧ NoAttr X.K p.1 p.2) (he : PE X e (tDE X.K W we)) (ho : PE X o (tDE X.K W wo)) (hs : swapsWith e (some (.Attribute o f pos')) pos.line X.env = pure false) :
    PS X (.Assign [.Attribute o f pos'] e pos) (tDT X.K W fun Z ρ S => we ρ S (fun d S1 => wo ρ S1 (fun x S2 => ∃ a C fs, x = .ref a ∧ S2 a = some (.ins C fs) ∧ (C, f) ∈ c.flds ∧ fs.length < 1000 ∧ Z.nx ρ (sup S2 a (.ins C (putFD f d fs)))) (fun x S' => Z.ex x ρ S')) (fun x S' => Z.ex x ρ S')) := (ps_fld ho he hs).imp fun Z0 σ H h => by
  obtain ⟨ρ, S, Z, r, rr, h, kk⟩ := t_un h
  refine ⟨ρ, S, _, _, r, rr, h, fun v1 H1 d1 S1 r1 f1 x1 q1 => ?_, kk.x rr⟩
  refine ⟨ρ, S1, _, _, r1, rr.mono f1, q1, fun v2 H2 d2 S2 r2 f2 x2 ⟨a, C, fs, e1, e2, hm, hl, q⟩ => ?_, (kk.fr f1).x (rr.mono f1)⟩
  subst e1
  cases x2
  obtain ⟨dx, fv, h1, h2⟩ := rs_ins r2 e2
  obtain ⟨g1, g2⟩ := hf _ hm
  obtain ⟨r3, f3⟩ := ins_upd (dx := dx) (f := f) r2 e2 h2 (x1.mono f2)
  exact ⟨a, C, dx, fv, rfl, h1, g1, g2, by rw [← kvd_len h2]; exact hl, kk.nx _ _ _ _ r3 (f1.trans (f2.trans f3)) (rr.mono (f1.trans (f2.trans f3))) q⟩
theorem in_aug (o : B2) : InOp X o.op (fun x y H Q => rO X.K (two (augW o)) [x, y] H Q) := fun pins s σ H x y u v Q I rx ry q => ip_aug o pins s σ H x y u v Q I rx ry q
theorem st_faug (pp : B2) (hf : ∀ p ∈ c.flds, Cls X.K p.1 ∧ NoAttr X.K p.1 p.2) (ho : PE X o (tDE X.K W wo)) (he : PE X e (tDE X.K W we)) :
    PS X (.AugAssign (.Attribute o f tpos) pp.op e pos) (tDT X.K W fun Z ρ S => wo ρ S (fun x S1 => ∃ a C fs d, x = .ref a ∧ S1 a = some (.ins C fs) ∧ (C, f) ∈ c.flds ∧ fs.lookup f = some d ∧
      we ρ S1 (fun y S2 => augW pp d y S2 fun z S3 => ∃ fs', S3 a = some (.ins C fs') ∧ fs'.length < 1000 ∧ Z.nx ρ (sup S3 a (.ins C (putFD f z fs')))) (fun x S' => Z.ex x ρ S')) (fun x S' => Z.ex x ρ S')) := (ps_fldaug ho he (in_aug pp)).imp fun Z0 σ H h => by
  obtain ⟨ρ, S, Z, r, rr, h, kk⟩ := t_un h
  refine ⟨ρ, S, _, _, r, rr, h, fun v1 H1 d1 S1 r1 f1 x1 ⟨a, C, fs, d, e1, e2, hm, e3, q⟩ => ?_, kk.x rr⟩
  subst e1
  cases x1
  obtain ⟨dx, fv, h1, h2⟩ := rs_ins r1 e2
  obtain ⟨v, h3, h4⟩ := kvd_look h2 e3
  obtain ⟨g1, g2⟩ := hf _ hm
  refine ⟨a, C, dx, fv, v, rfl, h1, g1, g2, h3, ρ, S1, _, _, r1, rr.mono f1, q, fun v2 H2 d2 S2 r2 f2 x2 q2 => ?_, (kk.fr f1).x (rr.mono f1)⟩
  refine ⟨[d, d2], S2, _, r2, da2 f2 h4 x2, q2, fun v3 H3 d3 S3 r3 f3 x3 q3 => ?_⟩
  obtain ⟨fs', e4, hl, q3⟩ := q3
  obtain ⟨dx', fv', h5, h6⟩ := rs_ins r3 e4
  obtain ⟨r4, f4⟩ := ins_upd (dx := dx') (f := f) r3 e4 h6 x3
  have fa := f1.trans (f2.trans (f3.trans f4))
  exact ⟨dx', fv', h5, by rw [← kvd_len h6]; exact hl, kk.nx _ _ _ _ r4 fa (rr.mono fa) q3⟩
/-! ### calls without arguments, of methods, of classes -/
theorem s_call0 {q : Str × DSp} {j : Nat} (hi : c.fns[j]? = some q) (hx : q.1 = x) (hg : Gl X x) (hd : (x == ("__debug__" : Str)) = false) (hr : Room k X.A) (h : FnAt X.prog X.w X.K X.mg X.base k q) (tk : Takes X W) :
    PE X (.Call (.Name x p) [] [] pos) (tDE X.K W fun ρ S Q Y => ∃ p, c.fns[j]? = some p ∧ p.2 [] S Q Y) := by
  subst hx
  obtain ⟨f, fd, ps, h1, h2, h3, h4⟩ := h
  refine (v_call0 tk hr h4 h3 h2 h1 hg hd).imp fun σ H Q ⟨ρ, S, Q', X', r, rr, ⟨p, e, hw⟩, kq, kx⟩ => ?_
  rw [hi] at e
  cases e
  exact ⟨[], S, Q', X', r, .nil, hw, kq, kx⟩
theorem s_mt {pl : Sem Bool} (tk : Takes X W) (hr : Room k X.A) (hM : ∀ p ∈ c.mths, MthAt X.prog X.w X.K X.base X.mg k p) (ho : PE X o (tDE X.K W wo)) (ha : PA X (e :: es) (tDA X.K W ws))
    (hst : starEach (e :: es) X.env = (false, eval e X.env) :: starEach es X.env) (hpl : (backTo pos (starEach es X.env)).any (·.1) = false)
    (ht : eval (.Call (.Attribute o m apos) (e :: es) [] pos) X.env = (eval o X.env >>= fun ov => standAt apos.atName >>= fun _ => holding [ov] (getMethod ov m pl) >>= fun ff => callWith pos ff.1 ff.2 (backTo pos (starEach (e :: es) X.env)) (backToKw pos (keywordEach [] X.env)))) :
    PE X (.Call (.Attribute o m apos) (e :: es) [] pos) (tDE X.K W fun ρ S Q Y => wo ρ S (fun x S1 => ∃ a fs p, x = .ref a ∧ p ∈ c.mths ∧ p.name = m ∧ S1 a = some (.ins p.C fs) ∧ fs.lookup m = none ∧ ws ρ S1 (fun ds S2 => p.sp (x :: ds) S2 Q Y) Y) Y) :=
  (v_mt (pl := pl) tk hr ho ha hst hpl ht).imp fun σ H Q ⟨ρ, S, Q', X', r, rr, hw, kq, kx⟩ => ⟨ρ, S, _, X', r, rr, hw, fun v1 H1 d1 S1 r1 f1 x1 ⟨a, fs, p, e1, hm, e0, e2, e3, q⟩ => by
    subst e1
    subst e0
    cases x1
    obtain ⟨dx, fv, h1, h2⟩ := rs_ins r1 e2
    obtain ⟨cl, f, fd, ps, g1, g2, g3⟩ := hM p hm
    refine ⟨a, p.C, f, dx, fv, fd, ps, _, rfl, h1, kvd_lookN h2 e3, cl, g1, g3, g2, ρ, S1, _, X', r1, rr.mono f1, q, fun vs H2 ds S2 r2 f2 x2 q2 => ?_, kx.fr f1⟩
    exact ⟨.ref a :: ds, S2, Q', X', r2, .cons (.ref a) x2, q2, kq.fr (f1.trans f2), kx.fr (f1.trans f2)⟩, kx⟩
theorem s_mt0 {pl : Sem Bool} (tk : Takes X W) (hr : Room k X.A) (hM : ∀ p ∈ c.mths, MthAt X.prog X.w X.K X.base X.mg k p) (ho : PE X o (tDE X.K W wo))
    (ht : eval (.Call (.Attribute o m apos) [] [] pos) X.env = (eval o X.env >>= fun ov => standAt apos.atName >>= fun _ => holding [ov] (getMethod ov m pl) >>= fun ff => callWith pos ff.1 ff.2 (backTo pos (starEach [] X.env)) (backToKw pos (keywordEach [] X.env)))) :
    PE X (.Call (.Attribute o m apos) [] [] pos) (tDE X.K W fun ρ S Q Y => wo ρ S (fun x S1 => ∃ a fs p, x = .ref a ∧ p ∈ c.mths ∧ p.name = m ∧ S1 a = some (.ins p.C fs) ∧ fs.lookup m = none ∧ p.sp [x] S1 Q Y) Y) :=
  (v_mt0 (pl := pl) tk hr ho ht).imp fun σ H Q ⟨ρ, S, Q', X', r, rr, hw, kq, kx⟩ => ⟨ρ, S, _, X', r, rr, hw, fun v1 H1 d1 S1 r1 f1 x1 ⟨a, fs, p, e1, hm, e0, e2, e3, q⟩ => by
    subst e1
    subst e0
    cases x1
    obtain ⟨dx, fv, h1, h2⟩ := rs_ins r1 e2
    obtain ⟨cl, f, fd, ps, g1, g2, g3⟩ := hM p hm
    exact ⟨a, p.C, f, dx, fv, fd, ps, _, rfl, h1, kvd_lookN h2 e3, cl, g1, g3, g2, [.ref a], S1, Q', X', r1, .cons (.ref a) .nil, q, kq.fr f1, kx.fr f1⟩, kx⟩
theorem new_D {K : PySem.W.Frag} {S1 : Hs} {H1 : Hp} {C : Addr} {sp : DSp} {vs : List V} {ds : List D} {Q' : QD} {Q : VK} {Y : XQ} {E : XK} (r : Rs K S1 H1) (xv : DvA K S1 H1 vs ds) (kq : EndQ K S1 H1 Q' Q) (kx : EndX K S1 H1 Y E)
    (h : ∀ y, S1 y = none → sp (.ref y :: ds) (sup S1 y (.ins C [])) (fun d S2 => d = .non ∧ Q' (.ref y) S2) Y) : spNew C (toSp K sp) vs H1 Q E := fun y dx hy hdx ne => by
  have fa : Fr S1 H1 S1 (upd H1 dx (.own y)) := fr_new hdx
  have ra : Rs K S1 (upd H1 dx (.own y)) := rs_new r hdx
  have hy' : upd H1 dx (.own y) y = none := by rw [upd_ne (Ne.symm ne)]; exact hy
  have fb : Fr S1 (upd H1 dx (.own y)) (sup S1 y (.ins C [])) (upd (upd H1 dx (.own y)) y (.ins C dx [])) := fr_live hy'
  have rb : Rs K (sup S1 y (.ins C [])) (upd (upd H1 dx (.own y)) y (.ins C dx [])) := rs_live ra hy' (show _ ∧ KvD K _ _ _ _ from ⟨rfl, .nil⟩)
  refine ⟨.ref y :: ds, _, _, Y, rb, .cons (.ref y) (xv.mono (fa.trans fb)), h y (r.free hy), fun v H2 d S2 r2 f2 x2 q => ?_, kx.fr (fa.trans fb)⟩
  obtain ⟨e, q⟩ := q
  subst e
  cases x2
  exact ⟨rfl, kq _ _ _ _ r2 (fa.trans (fb.trans f2)) (.ref y) q⟩
theorem s_mk {q : MthD} {j : Nat} (tk : Takes X W) (hr : Room k X.A) (hi : c.mks[j]? = some q) (hx : q.name = x) (hg : Gl X x) (hd : (x == ("__debug__" : Str)) = false) (h : MkAt X.prog X.w X.K X.base X.mg k q) (ha : PA X (e :: es) (tDA X.K W ws))
    (hst : starEach (e :: es) X.env = (false, eval e X.env) :: starEach es X.env) (hpl : (backTo pos (starEach es X.env)).any (·.1) = false) :
    PE X (.Call (.Name x p) (e :: es) [] pos) (tDE X.K W fun ρ S Q Y => ws ρ S (fun ds S1 => ∃ p, c.mks[j]? = some p ∧ ∀ y, S1 y = none → p.sp (.ref y :: ds) (sup S1 y (.ins p.C [])) (fun d S2 => d = .non ∧ Q (.ref y) S2) Y) Y) := by
  subst hx
  obtain ⟨h1, f, fd, ps, l, hl, M, hb, F⟩ := h
  refine (v_mk (k := l) tk (hr.mono hl) M F hb h1 hg hd ha hst hpl).imp fun σ H Q ⟨ρ, S, Q', X', r, rr, hw, kq, kx⟩ => ?_
  refine ⟨ρ, S, _, X', r, rr, hw, fun vs H1 ds S1 r1 f1 x1 ⟨p, e, q1⟩ => ?_, kx⟩
  rw [hi] at e
  cases e
  exact new_D r1 x1 (kq.fr f1) (kx.fr f1) q1
theorem s_mk0 {q : MthD} {j : Nat} (tk : Takes X W) (hr : Room k X.A) (hi : c.mks[j]? = some q) (hx : q.name = x) (hg : Gl X x) (hd : (x == ("__debug__" : Str)) = false) (h : MkAt X.prog X.w X.K X.base X.mg k q) :
    PE X (.Call (.Name x p) [] [] pos) (tDE X.K W fun ρ S Q Y => ∃ p, c.mks[j]? = some p ∧ ∀ y, S y = none → p.sp [.ref y] (sup S y (.ins p.C [])) (fun d S2 => d = .non ∧ Q (.ref y) S2) Y) := by
  subst hx
  obtain ⟨h1, f, fd, ps, l, hl, M, hb, F⟩ := h
  refine (v_mk0 (k := l) tk (hr.mono hl) M F hb h1 hg hd).imp fun σ H Q ⟨ρ, S, Q', X', r, rr, ⟨p, e, hw⟩, kq, kx⟩ => ?_
  rw [hi] at e
  cases e
  exact new_D r .nil kq kx hw
end
end Dz
namespace Dz
open PySem PySem.Spec PyProof.Rows L2
section
variable {X : Cx} {W : WX} {c : Cfg} {pos p apos pos' tpos cpos : Pos} {o e i a b : Expr} {es : List Expr} {wo we wi wa wb : WE} {ws : WA} {f m x : Str} {k : Nat}
/-! ### dicts walked -/
theorem rs_lock {K : PySem.W.Frag} {S : Hs} {H : Hp} {d : Addr} {o z : MO} (r : Rs K S H) (e : S d = some o) (hz : o.lk = some z) : ∃ u, H d = some u ∧ Mut (some u) ∧ (∀ od, Rs K (sup S d z) (upd H d (.frz od u)) ∧ Fr S H (sup S d z) (upd H d (.frz od u))) ∧
    ∀ od S' H', Rs K S' H' → Fr (sup S d z) (upd H d (.frz od u)) S' H' → S' d = some z → H' d = some (.frz od u) ∧ Rs K (sup S' d o) (upd H' d u) ∧ Fk S' H' (sup S' d o) (upd H' d u) ∧ Fr S H (sup S' d o) (upd H' d u) := by
  obtain ⟨u, e1, e2⟩ := r d _ e
  have nz : o.z = false := by cases o <;> first | rfl | cases hz
  have mu : Mut (some u) := by
    cases o with
    | dK kvs => obtain ⟨kv, q, _⟩ := rs_dk r e; rw [e1] at q; cases q; exact True.intro
    | dT kvs => obtain ⟨kv, q, _⟩ := rs_dt r e; rw [e1] at q; cases q; exact True.intro
    | _ => cases hz
  have nf : ∀ o' u', u ≠ .frz o' u' := fun o' u' q => rs_nofrz r e nz o' u' (by rw [e1, q])
  have ok : ∀ {S' : Hs} {H' : Hp} {od : Obj}, MoOk K S' H' o u → MoOk K S' H' z (.frz od u) := fun {S' H' od} h => by
    cases o with
    | dK kvs => cases hz; cases u with
      | dK kv => exact h
      | _ => exact (show False from h).elim
    | dT kvs => cases hz; cases u with
      | dT kv => exact h
      | _ => exact (show False from h).elim
    | _ => cases hz
  have ko : ∀ {S' : Hs} {H' : Hp} {od : Obj}, MoOk K S' H' z (.frz od u) → MoOk K S' H' o u := fun {S' H' od} h => by
    cases o with
    | dK kvs => cases hz; cases u with
      | dK kv => exact h
      | _ => exact (show False from h).elim
    | dT kvs => cases hz; cases u with
      | dT kv => exact h
      | _ => exact (show False from h).elim
    | _ => cases hz
  refine ⟨u, e1, mu, fun od => ⟨rs_mut r e (ok (e2.mono (fr_mut r e nz))) nz, fr_mut r e nz⟩, fun od S' H' r' f' hd => ?_⟩
  have hH : H' d = some (.frz od u) := f'.frz _ _ _ upd_same
  obtain ⟨u', g1, g2⟩ := r' d _ hd
  rw [hH] at g1
  cases g1
  have fu : ∀ {S0 : Hs} {H0 : Hp}, (∀ v w, v ≠ d → H0 v = some w → S0 v = none → H' v = some w ∧ S' v = none) → (∀ v w q, v ≠ d → H0 v = some (.frz w q) → H' v = some (.frz w q)) → S0 d ≠ none → (∀ w q, H0 d ≠ some (.frz w q)) → Fr S0 H0 (sup S' d o) (upd H' d u) := fun {S0 H0} h1 h2 h3 h4 =>
    ⟨fun v w q s => by
      have n : v ≠ d := fun z => h3 (by rw [← z]; exact s)
      rw [upd_ne n, sup_ne n]
      exact h1 v w n q s, fun v w q h => by
      have n : v ≠ d := fun z => h4 w q (by rw [← z]; exact h)
      rw [upd_ne n]
      exact h2 v w q n h⟩
  have fin : Fr S H (sup S' d o) (upd H' d u) := fu (fun v w n q s => f'.keep v w (by rw [upd_ne n]; exact q) (by rw [sup_ne n]; exact s)) (fun v w q n h => f'.frz v w q (by rw [upd_ne n]; exact h)) (by rw [e]; intro z; cases z) fun w q h => nf w q (by rw [e1] at h; exact Option.some.inj h)
  have fk : Fk S' H' (sup S' d o) (upd H' d u) := fun v w q s => by
    have n : v ≠ d := fun z => by rw [z, hd] at s; cases s
    rw [upd_ne n, sup_ne n]
    exact ⟨q, s⟩
  have mono : ∀ {oo : MO} {uu : HO}, MoOk K S' H' oo uu → MoOk K (sup S' d o) (upd H' d u) oo uu := fun {oo uu} h => h.monoK fk
  refine ⟨hH, fun v w q => ?_, fk, fin⟩
  by_cases n : v = d
  · subst n
    rw [sup_same] at q
    cases q
    exact ⟨u, upd_same, mono (ko g2)⟩
  · rw [sup_ne n] at q
    obtain ⟨w', h1, h2⟩ := r' v w q
    exact ⟨w', by rw [upd_ne n]; exact h1, mono h2⟩
theorem st_lock {st : Stmt} {wt : WT} (h : PS X st (tDT X.K (fun _ _ _ _ => False) wt)) : PS X st (tDT X.K W fun Z ρ S => ∃ a o z, S a = some o ∧ o.lk = some z ∧
      wt { nx := fun ρ' S' => S' a = some z ∧ Z.nx ρ' (sup S' a o), rt := fun d S' => S' a = some z ∧ Z.rt d (sup S' a o), bk := fun ρ' S' => S' a = some z ∧ Z.bk ρ' (sup S' a o), ct := fun ρ' S' => S' a = some z ∧ Z.ct ρ' (sup S' a o) } ρ (sup S a z)) := (ps_lock h).imp fun Z0 σ H hh => by
  obtain ⟨ρ, S, Z, r, rr, ⟨a, o, z, e, hz, hw⟩, k⟩ := t_un hh
  obtain ⟨u, h1, h2, h3, h4⟩ := rs_lock r e hz
  refine ⟨a, u, h1, h2, fun od => ?_⟩
  obtain ⟨r1, f1⟩ := h3 od
  have rdv : ∀ {S' : Hs} {H' : Hp} {v : V} {d : D}, Rs X.K S' H' → Fr (sup S a z) (upd H a (.frz od u)) S' H' → S' a = some z → Dv X.K S' H' v d → Dv X.K (sup S' a o) (upd H' a u) v d := fun {S' H' v d} r' f' e' x => (x.monoK (h4 od S' H' r' f' e').2.2.1)
  refine t_mk r1 (rr.mono f1) hw ⟨fun σ' H' ρ' S' r' f' rr' ⟨e', q⟩ => ?_, fun σ' H' ρ' S' r' f' rr' ⟨e', q⟩ => ?_, fun σ' H' ρ' S' r' f' rr' ⟨e', q⟩ => ?_, fun v H' d S' r' f' x' ⟨e', q⟩ => ?_, fun cls dx σ' H' x ρ' S' r' f' rr' z' q => q.elim⟩
  · obtain ⟨g1, g2, g3, g4⟩ := h4 od S' H' r' f' e'
    exact ⟨g1, k.nx _ _ _ _ g2 g4 (rr'.monoK g3) q⟩
  · obtain ⟨g1, g2, g3, g4⟩ := h4 od S' H' r' f' e'
    exact ⟨g1, k.bk _ _ _ _ g2 g4 (rr'.monoK g3) q⟩
  · obtain ⟨g1, g2, g3, g4⟩ := h4 od S' H' r' f' e'
    exact ⟨g1, k.ct _ _ _ _ g2 g4 (rr'.monoK g3) q⟩
  · obtain ⟨g1, g2, g3, g4⟩ := h4 od S' H' r' f' e'
    exact ⟨g1, k.rt _ _ _ _ g2 g4 (x'.monoK g3) q⟩
theorem s_lock (h : PE X e (tDE X.K (fun _ _ _ _ => False) we)) : PE X e (tDE X.K W fun ρ S Q _ => ∃ a o z, S a = some o ∧ o.lk = some z ∧ we ρ (sup S a z) (fun d S1 => S1 a = some z ∧ Q d (sup S1 a o)) X0) := (pe_lock h).imp fun σ H Q ⟨ρ, S, Q', X', r, rr, ⟨a, o, z, e, hz, hw⟩, kq, kx⟩ => by
  obtain ⟨u, h1, h2, h3, h4⟩ := rs_lock r e hz
  refine ⟨a, u, h1, h2, fun od => ?_⟩
  obtain ⟨r1, f1⟩ := h3 od
  refine ⟨ρ, _, _, X0, r1, rr.mono f1, hw, fun v H' d S' r' f' x' ⟨e', q⟩ => ?_, fun _ _ _ _ _ _ _ _ q => q.elim⟩
  obtain ⟨g1, g2, g3, g4⟩ := h4 od S' H' r' f' e'
  exact ⟨g1, kq _ _ _ _ g2 g4 (x'.monoK g3) q⟩
theorem i_items {elts : List Expr} {kk : Nat} {tpos : Pos} (he : PE X e (tDE X.K W we)) (hb : attributeBase e "items" X.env (eval e X.env) = eval e X.env) (hl : (apos.endLine == cpos.line) = true) :
    PI X (.Tuple elts kk tpos) (.Call (.Attribute e "items" apos) [] [] cpos) (tDI X.K W fun ρ S Q Y => we ρ S (fun d S1 => itemsI d S1 Q) Y) := (pi_items he hb hl).imp fun σ H R ⟨ρ, S, Q', X', r, rr, hw, k, kx⟩ =>
  ⟨ρ, S, _, X', r, rr, hw, fun v H1 d S1 r1 f1 x1 q1 => by
    cases d with
    | ref a =>
      cases x1
      obtain ⟨kd, e1, q1⟩ := q1
      obtain ⟨od, kv, h1, h2⟩ := rs_zk r1 e1
      refine ⟨a, od, kv, rfl, h1, k _ H1 _ _ S1 r1 f1 (fun S2 H2 r2 f2 _ i => ?_) q1⟩
      have hH := f2.frz _ _ _ h1
      have hl := kvd_len h2
      refine ⟨fun d e => ?_, fun h => ⟨hH, by rw [List.length_map] at h; omega⟩⟩
      have hi : i < kd.length := by
        have := (List.getElem?_eq_some_iff.mp e).1
        rw [List.length_map] at this
        exact this
      refine ⟨⟨hH, by omega⟩, fun x H' y => ?_⟩
      obtain ⟨T, key, v, e2, rfl, hT, rfl⟩ := y
      rw [List.getElem?_map, List.getElem?_eq_getElem hi] at e
      cases e
      have pr := Paired.get? h2 (List.getElem?_eq_getElem hi) e2
      have e5 : kd[i].1 = key := pr.1
      show Rs X.K S2 _ ∧ Fr S2 H2 S2 _ ∧ Dv X.K S2 _ (.ref T) (.tup [keyD kd[i].1, kd[i].2])
      rw [e5]
      exact ⟨rs_new r2 hT, fr_new hT, .tup (r2.free hT) upd_same (.cons (keyD_dv key) (.cons ((pr.2.mono f2).mono (fr_new hT)) .nil))⟩
    | _ => exact (show False from q1).elim, kx⟩
end
section
variable {X : Cx} {W : WX} {c : Cfg} {pos p apos pos' tpos cpos : Pos} {o e i a b e3 : Expr} {es : List Expr} {wo we wi wa wb w3 : WE} {ws : WA} {f m x y z : Str} {k : Nat}
theorem st_par2 {ii jj : Nat} {px py pt pt2 : Pos} {kt k2 : Nat} (hc : X.calm = true) (hN : X.N.Nodup) (hi : X.N[ii]? = some x) (hj : X.N[jj]? = some y) (hij : ii ≠ jj) (hx : X.env.scope.names.lookup x = some .local) (hy : X.env.scope.names.lookup y = some .local)
    (ha : PE X a (tDE X.K W wa)) (hb : PE X b (tDE X.K W wb)) (h1 : starEach [a, b] X.env = (false, eval a X.env) :: starEach [b] X.env) (h2 : starEach [b] X.env = (false, eval b X.env) :: starEach [] X.env)
    (hw : swappedStores [.Tuple [.Name x px, .Name y py] kt pt] (.Tuple [a, b] k2 pt2) X.env = pure (some [x, y])) (hs : swapsWithSole [.Tuple [.Name x px, .Name y py] kt pt] (.Tuple [a, b] k2 pt2) pos.line X.env = pure false) :
    PS X (.Assign [.Tuple [.Name x px, .Name y py] kt pt] (.Tuple [a, b] k2 pt2) pos) (tDT X.K W fun Z ρ S => wa ρ S (fun x S1 => wb ρ S1 (fun y S2 => Z.nx ((ρ.set ii (some x)).set jj (some y)) S2) (fun x S' => Z.ex x ρ S')) (fun x S' => Z.ex x ρ S')) :=
  (ps_par hc hN hi hj hij hx hy (pa_cons ha (pa_cons hb pa_nil h2) h1) hw hs).imp fun Z0 σ H h => by
  obtain ⟨ρ, S, Z, r, rr, h, kk⟩ := t_un h
  refine ⟨ρ, S, _, _, r, rr, h, fun v1 H1 d1 S1 r1 f1 x1 q1 => ?_, kk.x rr⟩
  refine ⟨ρ, S1, _, _, r1, rr.mono f1, q1, fun v2 H2 d2 S2 r2 f2 x2 q2 => ?_, (kk.fr f1).x (rr.mono f1)⟩
  exact ⟨v1, v2, rfl, kk.nx _ _ _ _ r2 (f1.trans f2) (((rr.mono (f1.trans f2)).set ii (x1.mono f2)).set jj x2) q2⟩
theorem st_par3 {ii jj ll : Nat} {px py pz pt pt2 : Pos} {kt k2 : Nat} (hc : X.calm = true) (hN : X.N.Nodup) (hi : X.N[ii]? = some x) (hj : X.N[jj]? = some y) (hl : X.N[ll]? = some z) (hij : ii ≠ jj) (hil : ii ≠ ll) (hjl : jj ≠ ll) (hx : X.env.scope.names.lookup x = some .local) (hy : X.env.scope.names.lookup y = some .local) (hz : X.env.scope.names.lookup z = some .local)
    (ha : PE X a (tDE X.K W wa)) (hb : PE X b (tDE X.K W wb)) (he3 : PE X e3 (tDE X.K W w3)) (h1 : starEach [a, b, e3] X.env = (false, eval a X.env) :: starEach [b, e3] X.env) (h2 : starEach [b, e3] X.env = (false, eval b X.env) :: starEach [e3] X.env) (h3 : starEach [e3] X.env = (false, eval e3 X.env) :: starEach [] X.env)
    (hw : swappedStores [.Tuple [.Name x px, .Name y py, .Name z pz] kt pt] (.Tuple [a, b, e3] k2 pt2) X.env = pure (some [x, y, z])) (hs : swapsWithSole [.Tuple [.Name x px, .Name y py, .Name z pz] kt pt] (.Tuple [a, b, e3] k2 pt2) pos.line X.env = pure false) :
    PS X (.Assign [.Tuple [.Name x px, .Name y py, .Name z pz] kt pt] (.Tuple [a, b, e3] k2 pt2) pos) (tDT X.K W fun Z ρ S => wa ρ S (fun x S1 => wb ρ S1 (fun y S2 => w3 ρ S2 (fun z S3 => Z.nx (((ρ.set ii (some x)).set jj (some y)).set ll (some z)) S3) (fun x S' => Z.ex x ρ S')) (fun x S' => Z.ex x ρ S')) (fun x S' => Z.ex x ρ S')) :=
  (ps_par3 hc hN hi hj hl hij hil hjl hx hy hz (pa_cons ha (pa_cons hb (pa_cons he3 pa_nil h3) h2) h1) hw hs).imp fun Z0 σ H h => by
  obtain ⟨ρ, S, Z, r, rr, h, kk⟩ := t_un h
  refine ⟨ρ, S, _, _, r, rr, h, fun v1 H1 d1 S1 r1 f1 x1 q1 => ?_, kk.x rr⟩
  refine ⟨ρ, S1, _, _, r1, rr.mono f1, q1, fun v2 H2 d2 S2 r2 f2 x2 q2 => ?_, (kk.fr f1).x (rr.mono f1)⟩
  refine ⟨ρ, S2, _, _, r2, rr.mono (f1.trans f2), q2, fun v3 H3 d3 S3 r3 f3 x3 q3 => ?_, (kk.fr (f1.trans f2)).x (rr.mono (f1.trans f2))⟩
  have fa := f1.trans (f2.trans f3)
  exact ⟨v1, v2, v3, rfl, kk.nx _ _ _ _ r3 fa ((((rr.mono fa).set ii (x1.mono (f2.trans f3))).set jj (x2.mono f3)).set ll x3) q3⟩
theorem st_del (ho : PE X o (tDE X.K W wo)) (hi : PE X i (tDE X.K W wi)) :
    PS X (.Delete [.Subscript o i tpos] pos) (tDT X.K W fun Z ρ S => wo ρ S (fun x S1 => wi ρ S1 (fun y S2 => ∃ a kvs k v, x = .ref a ∧ S2 a = some (.dK kvs) ∧ y.key = some k ∧ valD kvs k = some v ∧ Z.nx ρ (sup S2 a (.dK (dropD kvs k)))) (fun x S' => Z.ex x ρ S')) (fun x S' => Z.ex x ρ S')) := (ps_ddel ho hi).imp fun Z0 σ H h => by
  obtain ⟨ρ, S, Z, r, rr, h, kk⟩ := t_un h
  refine ⟨ρ, S, _, _, r, rr, h, fun v1 H1 d1 S1 r1 f1 x1 q1 => ?_, kk.x rr⟩
  refine ⟨ρ, S1, _, _, r1, rr.mono f1, q1, fun v2 H2 d2 S2 r2 f2 x2 ⟨a, kvs, key, v, e1, e2, e3, e4, q⟩ => ?_, (kk.fr f1).x (rr.mono f1)⟩
  subst e1
  cases x1
  obtain ⟨kv, h1, h2⟩ := rs_dk r2 e2
  have ov := od_val h2 key
  rw [e4] at ov
  refine ⟨a, kv, key, rfl, h1, key_V x2 e3, by rw [ov.same]; rfl, ?_⟩
  have fa := f1.trans (f2.trans (fr_mut (m := .dK (dropD kvs key)) (o := .dK (dropK kv key)) r2 e2))
  exact kk.nx _ _ _ _ (rs_mut (m := .dK (dropD kvs key)) (o := .dK (dropK kv key)) r2 e2 (show KvD X.K _ _ (dropD kvs key) (dropK kv key) from KvD.mono (fr_mut r2 e2) (kvd_drop h2 key))) fa (rr.mono fa) q
/-! o[i] op= e -/
theorem g_ix (hu : X.A.units + 1 < cLine) : PGet X (fun x y H Q => rO X.K (two augIx) [x, y] H Q) := by
  intro pins s σ H x y v u Q I rx ry q
  obtain ⟨ds, S, Q', r, da, hg, k⟩ := q
  cases da with
  | cons h1 t1 =>
    cases t1 with
    | cons h2 t2 =>
      cases t2
      rename_i d e
      cases d with
      | ref a =>
        cases h1
        cases (show v = Value.ref a from rx)
        rcases (show ixR S a e fun x => Q' x S from hg) with ⟨xs, i, x', e1, e2, e3, e4, q⟩ | ⟨x', g, q⟩
        · subst e2
          cases h2
          obtain ⟨t, rfl⟩ := ry
          obtain ⟨vs, q1, q2⟩ := rs_lst r e1
          obtain ⟨w', e5, e6⟩ := atI_D q2 e4
          obtain ⟨its, rv, pl, hz⟩ := I.list (.of q1)
          obtain ⟨j, g1, g2, g3, g4, g5⟩ := atI_get e5
          obtain ⟨w, ew, rw'⟩ := rv.get g2
          have hl := rv.length
          have hn := line63
          have hj : i.toNat = j := by
            rw [seqIndex_of e3 g5] at g1
            exact Option.some.inj g1
          exact wpAny_getItem_list pl.isList e3 (by omega) (by rw [hj]; simpa using ew) ⟨w', H, I, rw', end_now r e6 q k⟩
        · obtain ⟨p, g1, g2⟩ := dget_ok r h2 g
          cases p with
          | none => exact g2.elim
          | some w' => exact d_getItem hu I g1 ry fun w'' s3 I3 rw' => ⟨w', H, I3, rw', end_now r g2 q k⟩
      | _ => exact (show False from hg).elim
theorem st_saug (pp : B2) (hu : X.A.units + 65 < cLine) (ho : PE X o (tDE X.K W wo)) (hi : PE X i (tDE X.K W wi)) (he : PE X e (tDE X.K W we)) (ha : ∀ ov iv new, augStore i ov iv new = (do holding [new, ov, iv] (setItem ov iv new); release [new, ov, iv] []; pure .next)) :
    PS X (.AugAssign (.Subscript o i tpos) pp.op e pos) (tDT X.K W fun Z ρ S => wo ρ S (fun x S1 => wi ρ S1 (fun k S2 => augIx x k S2 fun d S3 => we ρ S3 (fun y S4 => augW pp d y S4 fun z S5 => setW x k z S5 fun S6 => Z.nx ρ S6) (fun x S' => Z.ex x ρ S')) (fun x S' => Z.ex x ρ S')) (fun x S' => Z.ex x ρ S')) :=
  (ps_augS ho hi (g_ix (by omega)) he (ip_aug pp) (o_set (by omega)) ha).imp fun Z0 σ H h => by
  obtain ⟨ρ, S, Z, r, rr, h, kk⟩ := t_un h
  refine ⟨ρ, S, _, _, r, rr, h, fun v1 H1 d1 S1 r1 f1 x1 q1 => ?_, kk.x rr⟩
  refine ⟨ρ, S1, _, _, r1, rr.mono f1, q1, fun v2 H2 d2 S2 r2 f2 x2 q2 => ?_, (kk.fr f1).x (rr.mono f1)⟩
  refine ⟨[d1, d2], S2, _, r2, da2 f2 x1 x2, q2, fun v3 H3 d3 S3 r3 f3 x3 q3 => ?_⟩
  have f123 := f1.trans (f2.trans f3)
  refine ⟨ρ, S3, _, _, r3, rr.mono f123, q3, fun v4 H4 d4 S4 r4 f4 x4 q4 => ?_, (kk.fr f123).x (rr.mono f123)⟩
  refine ⟨[d3, d4], S4, _, r4, da2 f4 x3 x4, q4, fun v5 H5 d5 S5 r5 f5 x5 q5 => ?_⟩
  have f25 := f2.trans (f3.trans (f4.trans f5))
  refine ⟨d1, d2, d5, S5, _, r5, x1.mono f25, x2.mono (f3.trans (f4.trans f5)), x5, q5, fun H6 S6 r6 f6 q6 => ?_⟩
  have fa := f1.trans (f25.trans f6)
  exact kk.nx _ _ _ _ r6 fa (rr.mono fa) q6
/-! raise X() -/
theorem v_rais {C : Addr} {x : Str} (T : ExcAt X.K X.mg (x, C)) (hg : Gl X x) (hd : (x == ("__debug__" : Str)) = false) : PMk X (.Call (.Name x p) [] [] pos) (fun _ H Q => Q (.ref C) none H) := by
  intro pins s σ H Q I h
  refine wpAny_Call_Name_kw (ld_glob I hg T.g (PySem.W.callWith_K0 I.kIn T.k ?_) hd)
  obtain ⟨bm, N, nm, qn, bs, hdct, sn, sub, ab, col, dd, k0, k1, k2, k3, k5, mN, hC, hN, hni, TT⟩ := exc_obj I.kIn T.x
  exact wpAny_call_exc_subT PySem.F.excBase_ValueError TT hC hN hni (fun h' e hm => mk_of I hm (raises_own T.b T.t) h (I.hok.gone hm.new)) (Nat.zero_le _)
theorem st_rais {C : Addr} {j : Nat} {x : Str} (hj : c.excs[j]? = some (x, C)) (hc : X.calm = true) (tk : Takes X W) (T : ExcAt X.K X.mg (x, C)) (hg : Gl X x) (hd : (x == ("__debug__" : Str)) = false) :
    PS X (.Raise (some (.Call (.Name x p) [] [] pos')) none pos) (tDT X.K W fun Z ρ S => ∃ p, c.excs[j]? = some p ∧ Z.ex ⟨p.2, none⟩ ρ S) := (ps_raise hc tk (v_rais T hg hd)).imp fun Z0 σ H h => by
  obtain ⟨ρ, S, Z, r, rr, ⟨p, e, q⟩, kk⟩ := t_un h
  rw [hj] at e
  cases e
  exact kk.ex _ _ _ _ _ _ _ r (Fr.refl S H) rr ⟨rfl, True.intro⟩ q
/-! ### displays of dicts -/
theorem s_dic0 : PE X (.Dict [] [] pos) (tDE X.K W fun _ S Q _ => NewD S Q) := ⟨fun pins s σ H Q I h => by
  obtain ⟨ρ, S, Q', X', r, rr, hw, kq, kx⟩ := h
  rcases hw with hw | hw
  · exact pe_dnewK.run pins s σ H Q I fun p hp => kq _ _ _ _ (rs_live (m := .dK []) (o := .dK []) r hp (show KvD X.K _ _ _ _ from .nil)) (fr_live hp) (.ref p) (hw p (r.free hp))
  · exact pe_dnewT.run pins s σ H Q I fun p hp => kq _ _ _ _ (rs_live (m := .dT []) (o := .dT []) r hp (show KvD X.K _ _ _ _ from .nil)) (fr_live hp) (.ref p) (hw p (r.free hp))⟩
def PrR (K : PySem.W.Frag) (S : Hs) (H : Hp) : List (D × D) → List (V × V) → Prop := Paired fun p q => Dv K S H q.1 p.1 ∧ Dv K S H q.2 p.2
theorem PrR.mono {K : PySem.W.Frag} {S S' : Hs} {H H' : Hp} (f : Fr S H S' H') {ps : List (D × D)} {qs : List (V × V)} (h : PrR K S H ps qs) : PrR K S' H' ps qs := Paired.mapP h fun _ _ z => ⟨z.1.mono f, z.2.mono f⟩
abbrev WPr := Ro → Hs → (List (D × D) → Hs → Prop) → XQ → Prop
def PrOk (K : PySem.W.Frag) (W : WX) (w : WPr) (trs : List (TE × TE)) : Prop := ∀ (σ : L2.St) (H : Hp) (Q : List (V × V) → Hp → Prop) (ρ : Ro) (S : Hs) (Q' : List (D × D) → Hs → Prop) (X' : XQ), Rs K S H → Rr K S H σ ρ → w ρ S Q' X' →
  (∀ qs H' ps S', Rs K S' H' → Fr S H S' H' → PrR K S' H' ps qs → Q' ps S' → Q qs H') → EndX K S H X' (fun c d H' => W c d σ H') → tPairs trs σ H Q
theorem pr_nil {K : PySem.W.Frag} {c : Cfg} : PrOk K W (wPr c .nil) [] := fun σ H Q ρ S Q' X' r rr hw k kx => k [] H [] S r (Fr.refl S H) .nil hw
theorem pr_cons {K : PySem.W.Frag} {c : Cfg} {a b : E} {q : Es} {trs : List (TE × TE)} (h : PrOk K W (wPr c q) trs) : PrOk K W (wPr c (.cons a (.cons b q))) ((tDE K W (wE c a), tDE K W (wE c b)) :: trs) := fun σ H Q ρ S Q' X' r rr hw k kx => by
  refine ⟨ρ, S, _, X', r, rr, hw, fun v1 H1 d1 S1 r1 f1 x1 q1 => ?_, kx⟩
  refine ⟨ρ, S1, _, X', r1, rr.mono f1, q1, fun v2 H2 d2 S2 r2 f2 x2 q2 => ?_, kx.fr f1⟩
  exact h σ H2 _ ρ S2 _ X' r2 (rr.mono (f1.trans f2)) q2 (fun qs H' ps S' r' f' x' q' => k _ _ _ _ r' (f1.trans (f2.trans f')) (.cons ⟨x1.mono (f2.trans f'), x2.mono f'⟩ x') q') (kx.fr (f1.trans f2))
theorem prR_kv {K : PySem.W.Frag} {S : Hs} {H : Hp} : ∀ {kd : List (Key × D)} {qs : List (V × V)}, PrR K S H (kd.map fun p => (keyD p.1, p.2)) qs → ∃ kv : List (Key × V), qs = kv.map (fun p => (kV p.1, p.2)) ∧ KvD K S H kd kv
  | [], _, h => by
    unfold PrR at h
    cases h
    exact ⟨[], rfl, .nil⟩
  | (key, d) :: t, _, h => by
    unfold PrR at h
    rw [List.map_cons] at h
    cases h with
    | @cons _ q _ qs hd tl =>
      obtain ⟨kv, e1, e2⟩ := prR_kv (kd := t) tl
      obtain ⟨v1, v2⟩ := q
      refine ⟨(key, v2) :: kv, ?_, .cons ⟨rfl, hd.2⟩ e2⟩
      rw [List.map_cons, ← e1]
      have e3 : v1 = kV key := key_V hd.1 (by cases key <;> rfl)
      rw [e3]
theorem s_dic {c : Cfg} {kvs : Es} {ks : List (Option Expr)} {vs : List Expr} {trs : List (TE × TE)} (h : PPs X pos ks vs trs) (hall : ks.all (·.isSome) = true) (hl : ks.length = vs.length) (h0 : ks ≠ []) (h15 : ks.length ≤ 15) (hp : PrOk X.K W (wPr c kvs) trs) :
    PE X (.Dict ks vs pos) (tDE X.K W fun ρ S Q Y => ∀ y, S y = none → wPr c kvs ρ (sup S y (.dK [])) (fun ps S2 => S2 y = some (.dK []) ∧ ∃ kvs : List (Key × D), ps = kvs.map (fun p => (keyD p.1, p.2)) ∧ kvs.length ≤ 15 ∧ Q (.ref y) (sup S2 y (.dK (mergeD [] kvs)))) Y) :=
  (pe_disp h hall hl h0 h15).imp fun σ H Q ⟨ρ, S, Q', X', r, rr, hw, kq, kx⟩ => fun y hy => by
    have f1 : Fr S H (sup S y (.dK [])) (upd H y (.dK [])) := fr_live hy
    have r1 : Rs X.K (sup S y (.dK [])) (upd H y (.dK [])) := rs_live (m := .dK []) (o := .dK []) r hy (show KvD X.K _ _ _ _ from .nil)
    refine hp σ _ _ ρ _ _ X' r1 (rr.mono f1) (hw y (r.free hy)) (fun qs H2 ps S2 r2 f2 x2 ⟨e1, kd, e2, e3, q⟩ => ?_) (kx.fr f1)
    subst e2
    obtain ⟨kv, e4, e5⟩ := prR_kv x2
    obtain ⟨kv0, e6, e7⟩ := rs_dk r2 e1
    have e8 : kv0 = [] := by unfold KvD at e7; cases e7; rfl
    subst e8
    refine ⟨e6, kv, e4, by rw [← kvd_len e5]; exact e3, ?_⟩
    have f3 := fr_mut (m := .dK (mergeD [] kd)) (o := .dK (mergeK [] kv)) r2 e1
    exact kq _ _ _ _ (rs_mut (m := .dK (mergeD [] kd)) (o := .dK (mergeK [] kv)) r2 e1 (show KvD X.K _ _ (mergeD [] kd) (mergeK [] kv) from KvD.mono f3 (kvd_merge e5 .nil))) (f1.trans (f2.trans f3)) (.ref y) q
end
/-! ### dict comprehensions -/
section
variable {X : Cx} {W : WX} {pos p : Pos} {a b e : Expr} {wa wb we : WE} {es : List Expr} {ws : WA}
theorem putD_len {κ : Type} [DecidableEq κ] {kvs : List (κ × D)} {k : κ} {v : D} : (putD kvs k v).length ≤ kvs.length + 1 := by
  unfold putD
  split <;> simp
def wDComp (vs : List Nat) (wi : WI) (wg : WG) (wc : WB) (wk wv : WE) : WE := fun ρ S Q X => wi ρ S (dcompB vs wg wc wk wv ρ Q) X
theorem dcomp_t {σ : L2.St} {H : Hp} {Q : VK} {ix vs : List Nat} {wi : WI} {wg : WG} {wc : WB} {wk wv : WE} (hix : ∀ i ∈ ix, i ∈ vs) (h : tDE X.K W (wDComp vs wi wg wc wk wv) σ H Q) :
    tDc (tDI X.K W wi) (tDG X.K W00 ix wg) (tDB X.K W00 wc) (tDE X.K W00 wk) (tDE X.K W00 wv) vs σ H Q := by
  obtain ⟨ρ, S, Q', X', r, rr, hw, k, kx⟩ := h
  refine ⟨ρ, S, _, X', r, rr, hw, fun J H1 ds Pr S1 r1 f1 jok q1 => ?_, kx⟩
  obtain ⟨hsz, q1⟩ := q1
  intro L hL
  obtain ⟨Wv, w0, turn, done⟩ := q1 L (r1.free hL)
  refine ⟨fun i m H2 => m = ds.length - i ∧ i ≤ ds.length ∧ ∃ acc S2, acc.length ≤ i ∧ Rs X.K S2 H2 ∧ Fr S1 H1 S2 H2 ∧ Wv i acc S2, ⟨ds.length, by simp, Nat.zero_le _, [], sup S1 L (.dK []), Nat.zero_le _, rs_live (m := .dK []) (o := .dK []) r1 hL (show KvD X.K _ _ _ _ from .nil), fr_live hL, w0⟩, ?_⟩
  rintro i m H2 ⟨rfl, hi, acc, S2, hal, r2, f2, w2⟩
  by_cases hlt : i < ds.length
  · obtain ⟨e2, p2, q2⟩ := turn i ds[i] acc S2 (by simp [hlt]) hal w2
    obtain ⟨go, yld⟩ := (jok S2 H2 r2 f2 p2 i).1 ds[i] (by simp [hlt])
    refine .inr ⟨go, fun H' => ∃ acc' S', acc'.length ≤ i + 1 ∧ Rs X.K S' H' ∧ Fr S1 H1 S' H' ∧ Wv (i + 1) acc' S', fun H' ⟨acc', S', n1, n2, n3, n4⟩ => ⟨ds.length - (i + 1), by omega, rfl, hlt, acc', S', n1, n2, n3, n4⟩, fun x H3 y => ?_⟩
    obtain ⟨r3, f3, x3⟩ := yld x H3 y
    have rr3 : Rr X.K S2 H3 (wipe σ vs) (wipeD ρ vs) := (rr.mono (f1.trans (f2.trans f3))).wipe vs
    refine ⟨ds[i], wipeD ρ vs, S2, _, X0, r3, rr3, x3, q2, fun σ4 H4 ρ4 S4 r4 f4 rr4 z4 q4 => ?_, fun _ _ _ _ _ _ _ _ _ _ q => q.elim⟩
    refine ⟨(z4 vs hix).trans (wipe_wipe fun v hv => hv), ρ4, S4, _, X0, r4, rr4, q4, fun b H5 S5 r5 f5 q5 => ?_, EndX.X0⟩
    have f25 : Fr S2 H2 S5 H5 := f3.trans (f4.trans f5)
    cases b with
    | false => exact iteF ⟨acc, S5, by omega, r5, f2.trans f25, q5⟩
    | true =>
      refine iteT ⟨ρ4, S5, _, X0, r5, rr4.mono f5, q5, fun yv H6 yd S6 r6 f6 x6 q6 => ?_, EndX.X0⟩
      refine ⟨ρ4, S6, _, X0, r6, (rr4.mono f5).mono f6, q6, fun zv H7 zd S7 r7 f7 x7 ⟨e7, key, ek, q7⟩ => ?_, EndX.X0⟩
      obtain ⟨kacc, h7, d7⟩ := rs_dk r7 e7
      have fm := fr_mut (m := .dK (putD acc key zd)) (o := .dK (putK kacc key zv)) r7 e7
      refine ⟨kacc, key, key_V (x6.mono f7) ek, h7, by rw [← kvd_len d7]; omega, putD acc key zd, _, by have := putD_len (kvs := acc) (k := key) (v := zd); omega, ?_, f2.trans (f25.trans (f6.trans (f7.trans fm))), q7⟩
      exact rs_mut (m := .dK (putD acc key zd)) (o := .dK (putK kacc key zv)) r7 e7 (show KvD X.K _ _ (putD acc key zd) (putK kacc key zv) from KvD.mono fm (kvd_put d7 key x7))
  · have e : i = ds.length := by omega
    subst e
    obtain ⟨e2, p2, q2⟩ := done acc S2 hal w2
    exact .inl ⟨(jok S2 H2 r2 f2 p2 ds.length).2 (Nat.le_refl _), k _ _ _ _ r2 (f1.trans f2) (.ref L) q2⟩
theorem s_dcomp {own : List (Str × Nat)} {ix : List Nat} {wi : WI} {wg : WG} {wc : WB} {wk wv : WE} {kx vx tg iter : Expr} {ifs : List Expr} {scope : Scope} (hc : X.calm = true) (hN : X.N.Nodup) (hi : PI X tg iter (tDI X.K W wi)) (ok : BlkOk X.N X.env.scope scope own)
    (hix : ∀ i ∈ ix, i ∈ own.map (·.2))
    (hg : ∀ (s : Shared) (H : Hp) (C : Addr) (cl : List (Str × Addr)) (fp : List Addr), PG (X.blk s H scope (compEnvC scope cl C X.env) fp) tg (tDG X.K W00 ix wg)) (ht : ∀ (s : Shared) (H : Hp) (C : Addr) (cl : List (Str × Addr)) (fp : List Addr), PTs (X.blk s H scope (compEnvC scope cl C X.env) fp) ifs (tDB X.K W00 wc))
    (hk : ∀ (s : Shared) (H : Hp) (C : Addr) (cl : List (Str × Addr)) (fp : List Addr), PE (X.blk s H scope (compEnvC scope cl C X.env) fp) kx (tDE X.K W00 wk))
    (he : ∀ (s : Shared) (H : Hp) (C : Addr) (cl : List (Str × Addr)) (fp : List Addr), PE (X.blk s H scope (compEnvC scope cl C X.env) fp) vx (tDE X.K W00 wv)) (hs : ∀ x, foldedSetIterable iter X.env x = pure x) :
    PE X (.DictComp kx vx [⟨tg, iter, ifs, 0⟩] scope pos) (tDE X.K W (wDComp (own.map (·.2)) wi wg wc wk wv)) := (pe_dc hc hN hi ok hg ht hk he hs).imp fun σ H Q h => dcomp_t hix h
end
end Dz
namespace Dz
open PySem PySem.Spec PyProof.Rows L2

/-! ### the check: the small tree is the text's -/
structure Nm where
  N : List Str
  fns : List Str
  cons : List Str
  nob : List Str
  mks : List Str := []
  excs : List Str := []
  /-- no except suite around -/
  cm : Bool := true
def visB (sc : Scope) (x : Str) : Bool := match sc.names.lookup x with
  | some .local => true | some .cell => true | some .free => true | _ => false
def locB (sc : Scope) (x : Str) : Bool := match sc.names.lookup x with
  | some .local => true | _ => false
def celB (sc : Scope) (x : Str) : Bool := match sc.names.lookup x with
  | some .cell => true | _ => false
def gloB (sc : Scope) (x : Str) : Bool := match sc.names.lookup x with
  | some .globalImplicit => true | _ => false
def okn (x : Str) : Bool := !(x == ("__debug__" : Str)) && !(x == ("__classdict__" : Str)) && !(x == ("__name__" : Str))
def nst : Expr → Bool
  | .Starred _ _ => false
  | _ => true
def nset : Expr → Bool
  | .Set _ _ _ => false
  | _ => true
def abOk : Expr → Bool
  | .Call _ _ _ _ => false
  | _ => true
def ncomp : Expr → Bool
  | .ListComp _ _ _ _ => false | .SetComp _ _ _ _ => false | .DictComp _ _ _ _ _ => false
  | _ => true
/-- a method call of o.m on one line with few arguments -/
def mtOk (l : Expr) (ls : List Expr) (apos pos : Pos) : Bool := abOk l && (apos.endLine == pos.line) && decide (ls.length < 20)
def ntup : Expr → Bool
  | .Tuple _ _ _ => false | .List _ _ => false
  | _ => true
def ntupT : Expr → Bool
  | .Tuple _ _ _ => false
  | _ => true
def tysOk (n : Nm) (sc : Scope) : List String → List Expr → Bool
  | [], [] => true
  | t :: ts, e :: es => (match e with
    | .Name x _ => (x == Str.ofString t) && gloB sc x && okn x && n.nob.contains x && decide (bootBuiltins x = some (.type t))
    | _ => false) && tysOk n sc ts es
  | _, _ => false
mutual
def G.ix : G → List Nat
  | .name i => [i] | .tup gs => gs.ix | .sub _ _ => []
def Gs.ix : Gs → List Nat
  | .nil => [] | .cons g r => g.ix ++ r.ix
end
mutual
def G.pure : G → Bool
  | .name _ => true | .tup gs => gs.pure | .sub _ _ => false
def Gs.pure : Gs → Bool
  | .nil => true | .cons g r => g.pure && r.pure
end
mutual
def cE (n : Nm) : E → Scope → Expr → Bool
  | .var i, sc, pe => match pe with
    | .Name x _ => decide (n.N[i]? = some x) && visB sc x && okn x
    | _ => false
  | .int i, _, pe => match pe with
    | .Constant (.int j) _ _ => i == j
    | _ => false
  | .str x, _, pe => match pe with
    | .Constant (.str y) _ _ => x == y
    | _ => false
  | .bl b, _, pe => match pe with
    | .Constant (.bool c) _ _ => b == c
    | _ => false
  | .non, _, pe => match pe with
    | .Constant .none _ _ => true
    | _ => false
  | .glob i, sc, pe => match pe with
    | .Name x _ => decide (n.cons[i]? = some x) && gloB sc x && okn x
    | _ => false
  | .b2 o a b, sc, pe => match pe with
    | .BinOp l p r _ => decide (p = o.op) && cE n a sc l && cE n b sc r
    | _ => false
  | .neg a, sc, pe => match pe with
    | .UnaryOp .USub l _ => cE n a sc l
    | _ => false
  | .cm o a b, sc, pe => match pe with
    | .Compare l [p] [r] _ => decide (p = o.op) && cE n a sc l && cE n b sc r && !behindInMarks p r
    | _ => false
  | .ch o o' a b e, sc, pe => match pe with
    | .Compare l [p, p'] [r, r'] _ => decide (p = o.op) && decide (p' = o'.op) && cE n a sc l && cE n b sc r && cE n e sc r' && !lastMarks [p, p'] [r, r']
    | _ => false
  | .not a, sc, pe => match pe with
    | .UnaryOp .Not l _ => cE n a sc l
    | _ => false
  | .and es, sc, pe => match pe with
    | .BoolOp .And ls _ => cEs n es sc ls
    | _ => false
  | .or es, sc, pe => match pe with
    | .BoolOp .Or ls _ => cEs n es sc ls
    | _ => false
  | .ife t a b, sc, pe => match pe with
    | .IfExp x l r _ => cE n t sc x && cE n a sc l && cE n b sc r
    | _ => false
  | .tup es, sc, pe => match pe with
    | .Tuple ls _ _ => cEs n es sc ls
    | _ => false
  | .lst es, sc, pe => match pe with
    | .List ls _ => cEs n es sc ls
    | _ => false
  | .ix a i, sc, pe => match pe with
    | .Subscript l r _ => !isSl r && cE n a sc l && cE n i sc r
    | _ => false
  | .sl a lo hi, sc, pe => match pe with
    | .Subscript l (.Slice x y none _) _ => cE n a sc l && cO n lo sc x && cO n hi sc y
    | _ => false
  | .rev a, sc, pe => match pe with
    | .Subscript l (.Slice none none (some (.UnaryOp .USub (.Constant (.int 1) _ _) _)) _) _ => cE n a sc l
    | _ => false
  | .bi f es, sc, pe => match pe with
    | .Call (.Name x _) (l :: ls) [] _ => (n.cm || f.free) && decide (x = f.name) && gloB sc x && n.nob.contains x && cEs n es sc (l :: ls)
    | _ => false
  | .isi a ts, sc, pe => match pe with
    | .Call (.Name x _) [l, t] [] _ => decide (x = "isinstance") && gloB sc x && n.nob.contains x && nst l && nst t && cE n a sc l && (match t with
      | .Tuple tl _ _ => decide (ts.length ≤ 100) && tysOk n sc ts tl
      | .Name y py => tysOk n sc ts [.Name y py]
      | _ => false)
    | _ => false
  | .call i es, sc, pe => match pe with
    | .Call (.Name x _) (l :: ls) [] _ => n.cm && decide (n.fns[i]? = some x) && gloB sc x && okn x && cEs n es sc (l :: ls)
    | _ => false
  | .bm f o es, sc, pe => match pe with
    | .Call (.Attribute p m apos) (l :: ls) [] pos => decide ((l :: ls).length = f.many) && decide (m = f.name) && abOk p && (apos.endLine == pos.line) && decide ((l :: ls).length < 20) && cE n o sc p && cEs n es sc (l :: ls)
    | _ => false
  | .comp own g it cond elt, sc, pe => match pe with
    | .ListComp el [⟨tg, iter, ifs, 0⟩] scope _ => n.cm && blkC n.N sc scope own && nset iter && cI n it sc tg iter && g.pure && (g.ix.all fun i => (own.map (·.2)).contains i) && cG n g true (relS scope sc) tg && cC n cond (relS scope sc) ifs && cE n elt (relS scope sc) el
    | _ => false
  | .call0 i, sc, pe => match pe with
    | .Call (.Name x _) [] [] _ => n.cm && decide (n.fns[i]? = some x) && gloB sc x && okn x
    | _ => false
  | .fld o f, sc, pe => match pe with
    | .Attribute l g _ => decide (g = f) && abOk l && cE n o sc l
    | _ => false
  | .mt o m es, sc, pe => match pe with
    | .Call (.Attribute l g apos) ls [] pos => n.cm && decide (g = m) && mtOk l ls apos pos && cE n o sc l && cEs n es sc ls
    | _ => false
  | .mk i es, sc, pe => match pe with
    | .Call (.Name x _) ls [] _ => n.cm && decide (n.mks[i]? = some x) && gloB sc x && okn x && cEs n es sc ls
    | _ => false
  | .dic kvs, sc, pe => match pe with
    | .Dict (k :: ks) vs _ => decide ((k :: ks).length ≤ 15) && cPr n kvs sc (k :: ks) vs
    | _ => false
  | .dcomp own g it cond ke ve, sc, pe => match pe with
    | .DictComp kx vx [⟨tg, iter, ifs, 0⟩] scope _ => n.cm && blkC n.N sc scope own && nset iter && cI n it sc tg iter && g.pure && (g.ix.all fun i => (own.map (·.2)).contains i) && cG n g true (relS scope sc) tg && cC n cond (relS scope sc) ifs && cE n ke (relS scope sc) kx && cE n ve (relS scope sc) vx
    | _ => false
  | .dic0, _, pe => match pe with
    | .Dict [] [] _ => true
    | _ => false
  | .lock e, sc, pe => n.cm && cE n e sc pe
def cPr (n : Nm) : Es → Scope → List (Option Expr) → List Expr → Bool
  | .nil, _, ks, vs => match ks, vs with
    | [], [] => true
    | _, _ => false
  | .cons _ .nil, _, _, _ => false
  | .cons k (.cons v r), sc, ks, vs => match ks, vs with
    | some a :: ks', b :: vs' => cE n k sc a && cE n v sc b && cPr n r sc ks' vs'
    | _, _ => false
def cEs (n : Nm) : Es → Scope → List Expr → Bool
  | .nil, _, ls => match ls with
    | [] => true
    | _ => false
  | .cons e r, sc, ls => match ls with
    | l :: ls => nst l && cE n e sc l && cEs n r sc ls
    | _ => false
def cC (n : Nm) : Es → Scope → List Expr → Bool
  | .nil, _, ls => match ls with
    | [] => true
    | _ => false
  | .cons e _, sc, ls => match ls with
    | [l] => cE n e sc l
    | _ => false
def cO (n : Nm) : O → Scope → Option Expr → Bool
  | .no, _, l => match l with
    | none => true
    | _ => false
  | .yes e, sc, l => match l with
    | some l => cE n e sc l
    | _ => false
def cG (n : Nm) : G → Bool → Scope → Expr → Bool
  | .name i, blk, sc, pe => match pe with
    | .Name x _ => decide (n.N[i]? = some x) && (locB sc x || (!blk && celB sc x))
    | _ => false
  | .tup gs, blk, sc, pe => match pe with
    | .Tuple ls _ _ => n.cm && gs.pure && cGs n gs blk sc ls
    | _ => false
  | .sub o i, _, sc, pe => match pe with
    | .Subscript a b _ => !isSl b && cE n o sc a && cE n i sc b
    | _ => false
def cGs (n : Nm) : Gs → Bool → Scope → List Expr → Bool
  | .nil, _, _, ls => match ls with
    | [] => true
    | _ => false
  | .cons g r, blk, sc, ls => match ls with
    | l :: ls => nst l && cG n g blk sc l && cGs n r blk sc ls
    | _ => false
def cI (n : Nm) : It → Scope → Expr → Expr → Bool
  | .seq e, sc, _, pe => cE n e sc pe
  | .enum e, sc, tg, pe => !ntupT tg && match pe with
    | .Call (.Name x _) [l] [] _ => decide (x = "enumerate") && gloB sc x && n.nob.contains x && nst l && cE n e sc l
    | _ => false
  | .rng es, sc, _, pe => match pe with
    | .Call (.Name x _) ls [] _ => decide (x = "range") && gloB sc x && n.nob.contains x && (ls.length == 1 || ls.length == 2) && cEs n es sc ls
    | _ => false
  | .items e, sc, tg, pe => !ntupT tg && match pe with
    | .Call (.Attribute l g apos) [] [] pos => decide (g = "items") && abOk l && (apos.endLine == pos.line) && cE n e sc l
    | _ => false
end
/-- constants into names -/
def fold2 : Expr → Expr → Bool
  | .Tuple _ _ _, .Tuple vs _ _ => vs.all (foldedForSure 8)
  | _, _ => false
def swOk (sc : Scope) (tg v : Expr) : Bool := (ncomp v || (match tg with
  | .Name x _ => celB sc x
  | _ => true)) && (ntup tg || ntup v || fold2 tg v) && nst tg
mutual
def cT (n : Nm) : T → Scope → Stmt → Bool
  | .asg g e, sc, st => match st with
    | .Assign [tg] v _ => cG n g false sc tg && cE n e sc v && swOk sc tg v
    | _ => false
  | .setc i e, sc, st => match st with
    | .Assign [.Name y py] v spos => n.cm && decide (n.N[i]? = some y) && locB sc y && (match v with
      | .ListComp _ [_] scope pos => (py.line == pos.line) && !(scope.names.any fun (m, k) => m == y && (k == .local || k == .cell))
      | _ => false) && (match e with
      | .comp _ _ _ _ _ => true
      | _ => false) && cE n e sc v
    | _ => false
  | .aug i o e, sc, st => match st with
    | .AugAssign (.Name x _) p v _ => decide (n.N[i]? = some x) && (locB sc x || celB sc x) && decide (p = o.op) && cE n e sc v
    | _ => false
  | .ex e, sc, st => match st with
    | .Expr v _ => cE n e sc v && ncomp v
    | _ => false
  | .ret e, sc, st => match st with
    | .Return (some v) _ => cE n e sc v
    | _ => false
  | .retN, _, st => match st with
    | .Return none _ => true
    | _ => false
  | .pass, _, st => match st with
    | .Pass _ => true
    | _ => false
  | .brk, _, st => match st with
    | .Break _ => true
    | _ => false
  | .cont, _, st => match st with
    | .Continue _ => true
    | _ => false
  | .never, _, _ => true
  | .ite c a b, sc, st => match st with
    | .If x l r _ => cE n c sc x && cTs n a sc l && cTs n b sc r
    | _ => false
  | .for_ g it body, sc, st => match st with
    | .For tg iter l [] _ => n.cm && nset iter && cI n it sc tg iter && cG n g false sc tg && cTs n body sc l
    | _ => false
  | .whil c body, sc, st => match st with
    | .While x l [] _ => cE n c sc x && cTs n body sc l
    | _ => false
  | .fst o f e, sc, st => match st with
    | .Assign [.Attribute l g _] v _ => decide (g = f) && cE n o sc l && cE n e sc v && ncomp v
    | _ => false
  | .faug o f p e, sc, st => match st with
    | .AugAssign (.Attribute l g _) q v _ => decide (g = f) && decide (q = p.op) && cE n o sc l && cE n e sc v
    | _ => false
  | .saug o i p e, sc, st => match st with
    | .AugAssign (.Subscript l r _) q v _ => !isSl r && decide (q = p.op) && cE n o sc l && cE n i sc r && cE n e sc v
    | _ => false
  | .par2 i j a b, sc, st => match st with
    | .Assign [.Tuple [.Name x px, .Name y py] _ _] (.Tuple [u, v] _ _) _ => n.cm && decide (n.N[i]? = some x) && decide (n.N[j]? = some y) && decide (i ≠ j) && decide (x ≠ y) && decide (py.line = px.line) && !([u, v].all (foldedForSure 8)) && !([u, v].all (constantsAlone 8)) && locB sc x && locB sc y && nst u && nst v && ncomp u && ncomp v && cE n a sc u && cE n b sc v
    | _ => false
  | .par3 i j l a b e, sc, st => match st with
    | .Assign [.Tuple [.Name x px, .Name y py, .Name z pz] _ _] (.Tuple [u, v, w] _ _) _ => n.cm && decide (n.N[i]? = some x) && decide (n.N[j]? = some y) && decide (n.N[l]? = some z) && decide (i ≠ j) && decide (i ≠ l) && decide (j ≠ l) && decide (x ≠ y) && decide (x ≠ z) && decide (y ≠ z) && decide (py.line = px.line) && decide (pz.line = px.line) && !([u, v, w].all (foldedForSure 8)) && !([u, v, w].all (constantsAlone 8)) && locB sc x && locB sc y && locB sc z && nst u && nst v && nst w && ncomp u && ncomp v && ncomp w && cE n a sc u && cE n b sc v && cE n e sc w
    | _ => false
  | .del o i, sc, st => match st with
    | .Delete [.Subscript l r _] _ => cE n o sc l && cE n i sc r
    | _ => false
  | .lock t, sc, st => n.cm && cT n t sc st
  | .rais i, sc, st => match st with
    | .Raise (some (.Call (.Name x _) [] [] _)) none _ => n.cm && decide (n.excs[i]? = some x) && gloB sc x && okn x
    | _ => false
  | .try1 body i suite, sc, st => match st with
    | .Try l [.ExceptHandler (some (.Name x _)) none (b :: r) _] [] [] _ => n.cm && decide (n.excs[i]? = some x) && gloB sc x && okn x && cTs n body sc l && cTs { n with cm := false } suite sc (b :: r)
    | _ => false
def cTs (n : Nm) : Ts → Scope → List Stmt → Bool
  | .nil, _, ls => match ls with
    | [] => true
    | _ => false
  | .cons t r, sc, ls => match ls with
    | l :: ls => cT n t sc l && cTs n r sc ls
    | _ => false
end
end Dz
namespace Dz
open PySem PySem.Spec PyProof.Rows L2
theorem vis_of {sc : Scope} {x : Str} (h : visB sc x = true) : Vis sc x := by
  unfold visB at h
  split at h <;> first
    | exact .inl (by assumption)
    | exact .inr (.inl (by assumption))
    | exact .inr (.inr (by assumption))
    | cases h
theorem loc_of {sc : Scope} {x : Str} (h : locB sc x = true) : sc.names.lookup x = some .local := by
  unfold locB at h
  split at h <;> first | assumption | cases h
theorem cel_of {sc : Scope} {x : Str} (h : celB sc x = true) : sc.names.lookup x = some .cell := by
  unfold celB at h
  split at h <;> first | assumption | cases h
theorem glo_of {sc : Scope} {x : Str} (h : gloB sc x = true) : sc.names.lookup x = some .globalImplicit := by
  unfold gloB at h
  split at h <;> first | assumption | cases h
theorem okn_of {x : Str} (h : okn x = true) : (x == ("__debug__" : Str)) = false ∧ (x == ("__classdict__" : Str)) = false ∧ (x == ("__name__" : Str)) = false := by
  unfold okn at h
  simp only [Bool.and_eq_true, Bool.not_eq_true'] at h
  exact ⟨h.1.1, h.1.2, h.2⟩
theorem ne_name {x : Str} (h : (x == ("__name__" : Str)) = false) : x ≠ ("__name__" : Str) := fun e => by
  subst e
  exact absurd h (by decide +kernel)
theorem nst_star {e : Expr} {es : List Expr} {env : Env} (h : nst e = true) : starEach (e :: es) env = (false, eval e env) :: starEach es env := by
  cases e <;> first | rfl | cases h
theorem nst_assign {e : Expr} {es : List Expr} {env : Env} (h : nst e = true) : assignEach (e :: es) env = (false, assign e env) :: assignEach es env := by
  cases e <;> first | rfl | cases h
theorem nset_fold {e : Expr} {env : Env} (h : nset e = true) : ∀ x, foldedSetIterable e env x = pure x := by
  intro x
  cases e <;> first | rfl | cases h
theorem ab_base {o : Expr} {m : Str} {env : Env} (h : abOk o = true) : attributeBase o m env (eval o env) = eval o env := by
  cases o <;> first | rfl | cases h
theorem sw_sole {tg v : Expr} {line : Nat} {env : Env} (hk : env.scope.kind = .function) (h : (ncomp v || (match tg with
  | .Name x _ => celB env.scope x
  | _ => true)) = true) : swapsWithSole [tg] v line env = pure false := by
  by_cases hv : ncomp v = true
  · cases v <;> first | rfl | cases hv
  · rw [Bool.or_eq_true] at h
    rcases h with h | h
    · exact absurd h hv
    · have hb : env.blockKind = .function := by unfold Env.blockKind; rw [hk]; rfl
      cases tg with
      | Name x p =>
        have hx : env.kindOf x = some .cell := cel_of h
        cases v <;> first
          | rfl
          | (have hk2 : (NameKind.cell == NameKind.local) = false := rfl
             unfold swapsWithSole swapsWith
             simp [hx, hk2])
      | _ => cases v <;> rfl
theorem sw_fold {ts vs : List Expr} {kt k2 : Nat} {pt p2 : Pos} {env : Env} (h : vs.all (foldedForSure 8) = true) : swappedStores [.Tuple ts kt pt] (.Tuple vs k2 p2) env = pure none := by
  unfold swappedStores
  simp only [h, if_true]
  repeat (first | rfl | split)
theorem sw_stores {tg v : Expr} {env : Env} (h : (ntup tg || ntup v || fold2 tg v) = true) : swappedStores [tg] v env = pure none := by
  rw [Bool.or_eq_true, Bool.or_eq_true] at h
  rcases h with (h | h) | h
  · cases tg <;> first | (cases h; done) | rfl | (cases v <;> rfl)
  · cases v <;> first | (cases h; done) | (cases tg <;> rfl)
  · unfold fold2 at h
    split at h
    · exact sw_fold h
    · cases h
theorem sw_some {v tg : Expr} {line : Nat} {env : Env} (h : ncomp v = true) : swapsWith v (some tg) line env = pure false := by
  cases v <;> first | rfl | cases h
theorem sw_par2 {x y : Str} {px py pt pt2 : Pos} {kt k2 : Nat} {a b : Expr} {env : Env} (hk : env.scope.kind = .function) (hx : env.scope.names.lookup x = some .local) (hy : env.scope.names.lookup y = some .local) (hl : py.line = px.line) (hxy : x ≠ y) (ha : nst a = true) (hb : nst b = true)
    (hf : [a, b].all (foldedForSure 8) = false) (hc : [a, b].all (constantsAlone 8) = false) : swappedStores [.Tuple [.Name x px, .Name y py] kt pt] (.Tuple [a, b] k2 pt2) env = pure (some [x, y]) := by
  unfold swappedStores
  have h1 : env.kindOf x = some .local := hx
  have h2 : env.kindOf y = some .local := hy
  have h3 : (y == x) = false := by simp; exact fun e => hxy e.symm
  have h4 : (x == y) = false := by simp; exact hxy
  have h5 : env.blockKind = .function := by unfold Env.blockKind; rw [hk]; rfl
  have h6 : [x, y].eraseDups = [x, y] := by simp [List.eraseDups, List.eraseDupsBy, List.eraseDupsBy.loop, h3]
  simp [h1, h2, h5, hl, h6, hf, hc, Expr.pos]
  intro h
  exfalso
  rcases h with h | h
  · cases a <;> first | (cases h; done) | (cases ha; done)
  · cases b <;> first | (cases h; done) | (cases hb; done)
theorem sw_par3 {x y z : Str} {px py pz pt pt2 : Pos} {kt k2 : Nat} {a b c : Expr} {env : Env} (hk : env.scope.kind = .function) (hx : env.scope.names.lookup x = some .local) (hy : env.scope.names.lookup y = some .local) (hz : env.scope.names.lookup z = some .local) (hl : py.line = px.line) (hl2 : pz.line = px.line) (hxy : x ≠ y) (hxz : x ≠ z) (hyz : y ≠ z) (ha : nst a = true) (hb : nst b = true) (hcc : nst c = true)
    (hf : [a, b, c].all (foldedForSure 8) = false) (hc : [a, b, c].all (constantsAlone 8) = false) : swappedStores [.Tuple [.Name x px, .Name y py, .Name z pz] kt pt] (.Tuple [a, b, c] k2 pt2) env = pure (some [x, y, z]) := by
  unfold swappedStores
  have h1 : env.kindOf x = some .local := hx
  have h2 : env.kindOf y = some .local := hy
  have h2' : env.kindOf z = some .local := hz
  have h3 : (y == x) = false := by simp; exact fun e => hxy e.symm
  have h4 : (z == y) = false := by simp; exact fun e => hyz e.symm
  have h4' : (z == x) = false := by simp; exact fun e => hxz e.symm
  have h5 : env.blockKind = .function := by unfold Env.blockKind; rw [hk]; rfl
  have h6 : [x, y, z].eraseDups = [x, y, z] := by simp [List.eraseDups, List.eraseDupsBy, List.eraseDupsBy.loop, h3, h4, h4']
  simp [h1, h2, h2', h5, hl, hl2, h6, hf, hc, Expr.pos]
  intro h
  exfalso
  rcases h with h | h | h
  · cases a <;> first | (cases h; done) | (cases ha; done)
  · cases b <;> first | (cases h; done) | (cases hb; done)
  · cases c <;> first | (cases h; done) | (cases hcc; done)
theorem sw_none {v : Expr} {line : Nat} {env : Env} (h : ncomp v = true) : swapsWith v none line env = pure false := by
  cases v <;> first | rfl | cases h
theorem name_truth {a : Expr} (h : (match a with | .Name _ _ => true | .Call _ _ _ _ => true | .Subscript _ _ _ => true | .Attribute _ _ _ => true | _ => false) = true) {env : Env} : ∀ whole, isTrue a env whole = (do let v ← whole; standAt a.pos; holding [v] (truthy v)) := by
  intro whole
  cases a <;> first | rfl | cases h

theorem mt_eval {env : Env} {o : Expr} {ls : List Expr} {m : Str} {apos pos : Pos} (hb : attributeBase o m env (eval o env) = eval o env) (hl : (apos.endLine == pos.line) = true) (hf : methodCallForm (ls.length + 0) (backTo pos (starEach ls env)) (backToKw pos (keywordEach [] env)) = true) :
    eval (.Call (.Attribute o m apos) ls [] pos) env = (eval o env >>= fun ov => standAt apos.atName >>= fun _ => holding [ov] (getMethod ov m (plainOf o env)) >>= fun ff => callWith pos ff.1 ff.2 (backTo pos (starEach ls env)) (backToKw pos (keywordEach [] env))) := by
  have e0 : eval (.Call (.Attribute o m apos) ls [] pos) env = (attributeBase o m env (eval o env) >>= fun ov => standAt apos.atName >>= fun _ => methodCall o m apos pos env ov (ls.length + 0) (backTo pos (starEach ls env)) (backToKw pos (keywordEach [] env))) := by
    first
      | rfl
      | (unfold eval; rfl)
  rw [e0, hb]
  have h : (fun ov => standAt apos.atName >>= fun _ => methodCall o m apos pos env ov (ls.length + 0) (backTo pos (starEach ls env)) (backToKw pos (keywordEach [] env))) = fun ov => standAt apos.atName >>= fun _ => holding [ov] (getMethod ov m (plainOf o env)) >>= fun ff => callWith pos ff.1 ff.2 (backTo pos (starEach ls env)) (backToKw pos (keywordEach [] env)) := by
    funext ov
    rw [mcall_line hf hl]
  rw [h]
section
variable {c : Cfg} {n : Nm} {X : Cx} {sc : Scope} {W : WX}
structure NmOk (c : Cfg) (n : Nm) : Prop where
  fns : n.fns = c.fns.map (·.1)
  cons : n.cons = c.cons.map (·.1)
  nob : n.nob = c.nob
  mks : n.mks = c.mks.map (·.name) := by rfl
  excs : n.excs = c.excs.map (·.1) := by rfl
theorem nob_of (k : NmOk c n) (hx : Sx X c n.N sc W n.cm) {x : Str} (h : n.nob.contains x = true) : X.mg x = none := by
  obtain ⟨_, _, g⟩ := hx.cfg
  exact g.nob x (by rw [← k.nob]; simpa using h)
theorem gl_of (hx : Sx X c n.N sc W n.cm) {x : Str} (h : gloB sc x = true) : Gl X x := by
  show X.env.scope.names.lookup x = _
  rw [hx.hsc]
  exact glo_of h
theorem get_map {α β : Type} {f : α → β} {l : List α} {i : Nat} {b : β} (h : (l.map f)[i]? = some b) : ∃ a, l[i]? = some a ∧ f a = b := by
  rw [List.getElem?_map] at h
  cases e : l[i]? with
  | none => rw [e] at h; cases h
  | some a => rw [e] at h; exact ⟨a, rfl, Option.some.inj h⟩
/-- the block's context -/
theorem sx_blk (hx : Sx X c n.N sc W n.cm) (s : Shared) (H : Hp) (scope : Scope) (C : Addr) (cl : List (Str × Addr)) (fp : List Addr) : Sx (X.blk s H scope (compEnvC scope cl C X.env) fp) c n.N (relS scope sc) W00 n.cm :=
  ⟨hx.hN, hx.nd, by rw [← hx.hsc]; rfl, hx.calm, hx.hu, hx.cfg, takes0⟩
/-- names of built-in types as arguments -/
theorem pa_tys (k : NmOk c n) (hx : Sx X c n.N sc W n.cm) : ∀ {ts : List String} {es : List Expr}, tysOk n sc ts es = true → PA X es (fun _ H Q => Q (ts.map V.ty) H) ∧ ts.length = es.length
  | [], [], _ => ⟨pa_nil, rfl⟩
  | [], _ :: _, h => by cases h
  | _ :: _, [], h => by cases h
  | t :: ts, e :: es, h => by
    unfold tysOk at h
    rw [Bool.and_eq_true] at h
    obtain ⟨h1, h2⟩ := h
    split at h1
    · simp only [Bool.and_eq_true, decide_eq_true_eq] at h1
      obtain ⟨⟨⟨⟨h3, h4⟩, h5⟩, h6⟩, h7⟩ := h1
      obtain ⟨r1, r2⟩ := pa_tys k hx h2
      exact ⟨(pa_cons (pe_bltn (v := .ty t) (gl_of hx h4) (nob_of k hx h6) h7 rfl (ne_name (okn_of h5).2.2) (okn_of h5).1) r1 rfl).imp fun σ H Q q => q, congrArg (· + 1) r2⟩
    · cases h1

theorem pt_no {X : Cx} {W : WX} {pe : Expr} : PT X pe (tDB X.K W fun _ _ _ _ => False) := ⟨fun _ _ _ _ _ _ ⟨_, _, _, _, _, _, h, _⟩ => h.elim⟩
theorem pe_no {X : Cx} {W : WX} {pe : Expr} : PE X pe (tDE X.K W fun _ _ _ _ => False) := ⟨fun _ _ _ _ _ _ ⟨_, _, _, _, _, _, h, _⟩ => h.elim⟩
theorem pw_no {X : Cx} {W : WX} {pe : Expr} : PW X pe (tDB X.K W fun _ _ _ _ => False) := ⟨fun _ _ _ _ _ _ _ ⟨_, _, _, _, _, _, h, _⟩ => h.elim⟩
theorem _root_.L2.PTs.imp {X : Cx} {e : List Expr} {t t' : TT} (h : PTs X e t) (k : ∀ σ H Q, t' σ H Q → t σ H Q) : PTs X e t' := ⟨fun pins s σ H Q I q => h.run pins s σ H Q I (k _ _ _ q)⟩
theorem isi_conv {wa : WE} {ρ : Ro} {S : Hs} {Q' : Bool → Hs → Prop} {X' : XQ} {ts : List String} (hw : wa ρ S (fun x S1 => ∃ t b, tyName S1 x = some t ∧ isiAny t ts = some b ∧ Q' b S1) X') : wa ρ S (fun x S1 => ∃ t b, tyName S1 x = some t ∧ isiAny t ts = some b ∧ ∃ b', D.bl b = .bl b' ∧ Q' b' S1) X' := by
  have e : (fun (x : D) (S1 : Hs) => ∃ t b, tyName S1 x = some t ∧ isiAny t ts = some b ∧ Q' b S1) = (fun (x : D) (S1 : Hs) => ∃ t b, tyName S1 x = some t ∧ isiAny t ts = some b ∧ ∃ b', D.bl b = .bl b' ∧ Q' b' S1) := by
    funext x S1
    refine propext ⟨fun ⟨t, b, h1, h2, h3⟩ => ⟨t, b, h1, h2, b, rfl, h3⟩, fun ⟨t, b, h1, h2, b', e, h3⟩ => ?_⟩
    cases e
    exact ⟨t, b, h1, h2, h3⟩
  rw [← e]
  exact hw
/-- isinstance as a test -/
theorem isi_test {X : Cx} {W : WX} {pe : Expr} {wa : WE} {ts : List String} (h : PE X pe (tDE X.K W fun ρ S Q X => wa ρ S (fun x S1 => ∃ t b, tyName S1 x = some t ∧ isiAny t ts = some b ∧ Q (.bl b) S1) X))
    (hp : ∀ whole, isTrue pe X.env whole = (do let v ← whole; standAt pe.pos; holding [v] (truthy v))) :
    PT X pe (tDB X.K W fun ρ S Q X => wa ρ S (fun x S1 => ∃ t b, tyName S1 x = some t ∧ isiAny t ts = some b ∧ Q b S1) X) := (pt_val h hp).imp fun σ H Q ⟨ρ, S, Q', X', r, rr, hw, k, kx⟩ =>
  ⟨ρ, S, (fun d S1 => ∃ b, d = .bl b ∧ Q' b S1), X', r, rr, isi_conv hw, bl_end k, kx⟩
mutual
theorem pure_wG {c : Cfg} : ∀ (g : G), g.pure = true → ∀ {d ρ S Q Y}, wG c g d ρ S Q Y → wG c g d ρ S Q X0
  | .name i, _, d, ρ, S, Q, Y, h => h
  | .tup gs, hp, d, ρ, S, Q, Y, h => by
    obtain ⟨ds, h1, h2, h3⟩ := h
    exact ⟨ds, h1, h2, pure_wGs gs hp h3⟩
  | .sub _ _, hp, d, ρ, S, Q, Y, h => by cases hp
theorem pure_wGs {c : Cfg} : ∀ (gs : Gs), gs.pure = true → ∀ {ds ρ S Q Y}, wGs c gs ds ρ S Q Y → wGs c gs ds ρ S Q X0
  | .nil, _, ds, ρ, S, Q, Y, h => h
  | .cons g r, hp, ds, ρ, S, Q, Y, h => by
    obtain ⟨d, t, h1, h2⟩ := h
    unfold Gs.pure at hp
    rw [Bool.and_eq_true] at hp
    refine ⟨d, t, h1, mono_wG g hp.1 (pure_wG g hp.1 h2) fun ρ' S' q => pure_wGs r hp.2 q⟩
theorem mono_wG {c : Cfg} : ∀ (g : G), g.pure = true → ∀ {d ρ S Q Q' Y}, wG c g d ρ S Q Y → (∀ ρ S, Q ρ S → Q' ρ S) → wG c g d ρ S Q' Y
  | .name i, _, d, ρ, S, Q, Q', Y, h, k => k _ _ h
  | .tup gs, hp, d, ρ, S, Q, Q', Y, h, k => by
    obtain ⟨ds, h1, h2, h3⟩ := h
    exact ⟨ds, h1, h2, mono_wGs gs hp h3 k⟩
  | .sub _ _, hp, d, ρ, S, Q, Q', Y, h, k => by cases hp
theorem mono_wGs {c : Cfg} : ∀ (gs : Gs), gs.pure = true → ∀ {ds ρ S Q Q' Y}, wGs c gs ds ρ S Q Y → (∀ ρ S, Q ρ S → Q' ρ S) → wGs c gs ds ρ S Q' Y
  | .nil, _, ds, ρ, S, Q, Q', Y, h, k => ⟨h.1, k _ _ h.2⟩
  | .cons g r, hp, ds, ρ, S, Q, Q', Y, h, k => by
    obtain ⟨d, t, h1, h2⟩ := h
    unfold Gs.pure at hp
    rw [Bool.and_eq_true] at hp
    exact ⟨d, t, h1, mono_wG g hp.1 h2 fun ρ' S' q => mono_wGs r hp.2 q k⟩
end
theorem cEs_star2 {n : Nm} {es : Es} {sc : Scope} {a b : Expr} {env : Env} (h : cEs n es sc [a, b] = true) : starEach [b] env = [(false, eval b env)] := by
  cases es with
  | nil => cases h
  | cons e r =>
    cases r with
    | nil => unfold cEs at h; simp [cEs] at h
    | cons e2 r2 =>
      unfold cEs at h
      simp only [Bool.and_eq_true] at h
      have h2 := h.2
      unfold cEs at h2
      simp only [Bool.and_eq_true] at h2
      exact nst_star h2.1.1
theorem cEs_len {n : Nm} : ∀ {es : Es} {sc : Scope} {ls : List Expr}, cEs n es sc ls = true → es.len = ls.length
  | .nil, sc, ls, h => by
    unfold cEs at h
    split at h
    · rfl
    · cases h
  | .cons e r, sc, ls, h => by
    unfold cEs at h
    split at h
    · simp only [Bool.and_eq_true] at h
      exact congrArg (· + 1) (cEs_len h.2)
    · cases h

mutual
theorem sE (k : NmOk c n) : ∀ (e : E) {X : Cx} {sc : Scope} {W : WX}, Sx X c n.N sc W n.cm → ∀ pe : Expr, cE n e sc pe = true → PE X pe (tDE X.K W (wE c e)) ∧ PT X pe (tDB X.K W (wB c e))
  | .var i, X, sc, W, hx, pe, h => by
    have hE : PE X pe (tDE X.K W (wE c (.var i))) := by
      unfold cE at h
      split at h
      · simp only [Bool.and_eq_true, decide_eq_true_eq] at h
        exact s_var (by rw [hx.hN]; exact h.1.1) (by rw [hx.hsc]; exact vis_of h.1.2) (okn_of h.2).1 (okn_of h.2).2.1
      · cases h
    refine ⟨hE, ?_⟩
    have hp : ∀ whole, isTrue pe X.env whole = (do let v ← whole; standAt pe.pos; holding [v] (truthy v)) := by
      unfold cE at h
      split at h
      · intro _; rfl
      · cases h
    exact (s_tru hE hp).imp fun σ H Q ⟨ρ, S, Q', X', r, rr, hw, kk, kx⟩ => ⟨ρ, S, Q', X', r, rr, hw, kk, kx⟩
  | .int i, X, sc, W, hx, pe, h => by
    have hE : PE X pe (tDE X.K W (wE c (.int i))) := by
      unfold cE at h
      split at h
      · have e := eq_of_beq h
        subst e
        exact s_con pe_int fun _ _ => .int _
      · cases h
    refine ⟨hE, ?_⟩
    exact pt_no
  | .str x, X, sc, W, hx, pe, h => by
    have hE : PE X pe (tDE X.K W (wE c (.str x))) := by
      unfold cE at h
      split at h
      · have e := eq_of_beq h
        subst e
        exact s_con pe_str fun _ _ => .str _
      · cases h
    refine ⟨hE, ?_⟩
    exact pt_no
  | .bl b, X, sc, W, hx, pe, h => by
    have hE : PE X pe (tDE X.K W (wE c (.bl b))) := by
      unfold cE at h
      split at h
      · have e := eq_of_beq h
        subst e
        exact s_con pe_bl fun _ _ => .bl _
      · cases h
    refine ⟨hE, ?_⟩
    exact pt_no
  | .non, X, sc, W, hx, pe, h => by
    have hE : PE X pe (tDE X.K W (wE c (.non))) := by
      unfold cE at h
      split at h
      · exact s_con pe_non fun _ _ => .non
      · cases h
    refine ⟨hE, ?_⟩
    exact pt_no
  | .glob i, X, sc, W, hx, pe, h => by
    have hE : PE X pe (tDE X.K W (wE c (.glob i))) := by
      unfold cE at h
      split at h
      · simp only [Bool.and_eq_true, decide_eq_true_eq] at h
        obtain ⟨⟨h1, h2⟩, h3⟩ := h
        rw [k.cons] at h1
        obtain ⟨q, e1, e2⟩ := get_map h1
        obtain ⟨_, _, g⟩ := hx.cfg
        exact s_glob e1 e2 (gl_of hx h2) (okn_of h3).1 (g.cons q (List.mem_of_getElem? e1))
      · cases h
    refine ⟨hE, ?_⟩
    exact pt_no
  | .b2 o a b, X, sc, W, hx, pe, h => by
    have hE : PE X pe (tDE X.K W (wE c (.b2 o a b))) := by
      unfold cE at h
      split at h
      · simp only [Bool.and_eq_true, decide_eq_true_eq] at h
        obtain ⟨⟨h1, h2⟩, h3⟩ := h
        subst h1
        exact s_b2 hx.hu o (sE k a hx _ h2).1 (sE k b hx _ h3).1
      · cases h
    refine ⟨hE, ?_⟩
    exact pt_no
  | .neg a, X, sc, W, hx, pe, h => by
    have hE : PE X pe (tDE X.K W (wE c (.neg a))) := by
      unfold cE at h
      split at h
      · exact s_neg (sE k a hx _ h).1
      · cases h
    refine ⟨hE, ?_⟩
    exact pt_no
  | .cm o a b, X, sc, W, hx, pe, h => by
    have hE : PE X pe (tDE X.K W (wE c (.cm o a b))) := by
      unfold cE at h
      split at h
      · simp only [Bool.and_eq_true, decide_eq_true_eq, Bool.not_eq_true'] at h
        obtain ⟨⟨⟨h1, h2⟩, h3⟩, h4⟩ := h
        subst h1
        exact s_cm hx.hu o (sE k a hx _ h2).1 (sE k b hx _ h3).1 h4
      · cases h
    refine ⟨hE, ?_⟩
    unfold cE at h
    split at h
    · simp only [Bool.and_eq_true, decide_eq_true_eq, Bool.not_eq_true'] at h
      obtain ⟨⟨⟨h1, h2⟩, h3⟩, h4⟩ := h
      subst h1
      exact t_cm hx.hu o (sE k a hx _ h2).1 (sE k b hx _ h3).1 h4
    · cases h
  | .ch o o' a b e, X, sc, W, hx, pe, h => by
    have hE : PE X pe (tDE X.K W (wE c (.ch o o' a b e))) := by
      unfold cE at h
      split at h
      · simp only [Bool.and_eq_true, decide_eq_true_eq, Bool.not_eq_true'] at h
        obtain ⟨⟨⟨⟨⟨h1, h2⟩, h3⟩, h4⟩, h5⟩, h6⟩ := h
        subst h1 h2
        exact s_ch hx.hu o o' (sE k a hx _ h3).1 (sE k b hx _ h4).1 (sE k e hx _ h5).1 h6
      · cases h
    refine ⟨hE, ?_⟩
    unfold cE at h
    split at h
    · simp only [Bool.and_eq_true, decide_eq_true_eq, Bool.not_eq_true'] at h
      obtain ⟨⟨⟨⟨⟨h1, h2⟩, h3⟩, h4⟩, h5⟩, h6⟩ := h
      subst h1 h2
      exact t_ch hx.hu o o' (sE k a hx _ h3).1 (sE k b hx _ h4).1 (sE k e hx _ h5).1 h6
    · cases h
  | .not a, X, sc, W, hx, pe, h => by
    have hE : PE X pe (tDE X.K W (wE c (.not a))) := by
      unfold cE at h
      split at h
      · exact s_not (sE k a hx _ h).1
      · cases h
    refine ⟨hE, ?_⟩
    unfold cE at h
    split at h
    · exact t_not (sE k a hx _ h).2
    · cases h
  | .and es, X, sc, W, hx, pe, h => by
    have hE : PE X pe (tDE X.K W (wE c (.and es))) := by
      unfold cE at h
      split at h
      · exact sAnd k es hx _ _ h
      · cases h
    refine ⟨hE, ?_⟩
    unfold cE at h
    split at h
    · exact (sBAnd k es hx _ _ h).pt
    · cases h
  | .or es, X, sc, W, hx, pe, h => by
    have hE : PE X pe (tDE X.K W (wE c (.or es))) := by
      unfold cE at h
      split at h
      · exact sOr k es hx _ _ h
      · cases h
    refine ⟨hE, ?_⟩
    unfold cE at h
    split at h
    · exact (sBOr k es hx _ _ h).pt
    · cases h
  | .ife t a b, X, sc, W, hx, pe, h => by
    have hE : PE X pe (tDE X.K W (wE c (.ife t a b))) := by
      unfold cE at h
      split at h
      · simp only [Bool.and_eq_true] at h
        exact s_ife (sE k t hx _ h.1.1).2 (sE k a hx _ h.1.2).1 (sE k b hx _ h.2).1
      · cases h
    refine ⟨hE, ?_⟩
    exact pt_no
  | .tup es, X, sc, W, hx, pe, h => by
    have hE : PE X pe (tDE X.K W (wE c (.tup es))) := by
      unfold cE at h
      split at h
      · exact s_tup (sEs k es hx _ h).1
      · cases h
    refine ⟨hE, ?_⟩
    exact pt_no
  | .lst es, X, sc, W, hx, pe, h => by
    have hE : PE X pe (tDE X.K W (wE c (.lst es))) := by
      unfold cE at h
      split at h
      · exact s_lst (sEs k es hx _ h).1
      · cases h
    refine ⟨hE, ?_⟩
    exact pt_no
  | .ix a i, X, sc, W, hx, pe, h => by
    have hE : PE X pe (tDE X.K W (wE c (.ix a i))) := by
      unfold cE at h
      split at h
      · simp only [Bool.and_eq_true, Bool.not_eq_true'] at h
        exact s_ix hx.hu (sE k a hx _ h.1.2).1 (sE k i hx _ h.2).1 (sl_plain h.1.1)
      · cases h
    refine ⟨hE, ?_⟩
    have hp : ∀ whole, isTrue pe X.env whole = (do let v ← whole; standAt pe.pos; holding [v] (truthy v)) := by
      unfold cE at h
      split at h
      · intro _; rfl
      · cases h
    exact (s_tru hE hp).imp fun σ H Q ⟨ρ, S, Q', X', r, rr, hw, kk, kx⟩ => ⟨ρ, S, Q', X', r, rr, hw, kk, kx⟩
  | .sl a lo hi, X, sc, W, hx, pe, h => by
    have hE : PE X pe (tDE X.K W (wE c (.sl a lo hi))) := by
      unfold cE at h
      split at h
      · simp only [Bool.and_eq_true] at h
        exact s_sl (sE k a hx _ h.1.1).1 (sO k lo hx _ h.1.2) (sO k hi hx _ h.2)
      · cases h
    refine ⟨hE, ?_⟩
    exact pt_no
  | .rev a, X, sc, W, hx, pe, h => by
    have hE : PE X pe (tDE X.K W (wE c (.rev a))) := by
      unfold cE at h
      split at h
      · exact s_rev (sE k a hx _ h).1
      · cases h
    refine ⟨hE, ?_⟩
    exact pt_no
  | .bi f es, X, sc, W, hx, pe, h => by
    have hE : PE X pe (tDE X.K W (wE c (.bi f es))) := by
      unfold cE at h
      split at h
      · simp only [Bool.and_eq_true, decide_eq_true_eq] at h
        obtain ⟨⟨⟨⟨h0, h1⟩, h2⟩, h3⟩, h4⟩ := h
        subst h1
        obtain ⟨r1, r2, r3⟩ := sEs k es hx _ h4
        exact s_bi f (fun hf => hx.calm (by simpa [hf] using h0)) (gl_of hx h2) (nob_of k hx h3) r1 (r2 _ _ rfl) (r3 _ _ rfl _)
      · cases h
    refine ⟨hE, ?_⟩
    have hp : ∀ whole, isTrue pe X.env whole = (do let v ← whole; standAt pe.pos; holding [v] (truthy v)) := by
      unfold cE at h
      split at h
      · intro _; rfl
      · cases h
    exact (s_tru hE hp).imp fun σ H Q ⟨ρ, S, Q', X', r, rr, hw, kk, kx⟩ => ⟨ρ, S, Q', X', r, rr, hw, kk, kx⟩
  | .isi a ts, X, sc, W, hx, pe, h => by
    have hE : PE X pe (tDE X.K W (wE c (.isi a ts))) := by
      unfold cE at h
      split at h
      · simp only [Bool.and_eq_true, decide_eq_true_eq] at h
        obtain ⟨⟨⟨⟨⟨⟨h1, h2⟩, h3⟩, h4⟩, h5⟩, h6⟩, h7⟩ := h
        subst h1
        split at h7
        · simp only [Bool.and_eq_true, decide_eq_true_eq] at h7
          have q := (pa_tys k hx h7.2).1
          exact s_isiT (gl_of hx h2) (nob_of k hx h3) (sE k a hx _ h6).1 q (Nat.le_trans h7.1 (by decide)) (nst_star h4)
        · match ts, h7 with
          | [t], h7 =>
            unfold tysOk at h7
            simp only [Bool.and_eq_true, decide_eq_true_eq] at h7
            obtain ⟨⟨⟨⟨⟨q3, q4⟩, q5⟩, q6⟩, q7⟩, _⟩ := h7
            exact s_isi1 (gl_of hx h2) (nob_of k hx h3) (sE k a hx _ h6).1 (pe_bltn (v := .ty t) (gl_of hx q4) (nob_of k hx q6) q7 rfl (ne_name (okn_of q5).2.2) (okn_of q5).1) (nst_star h4) rfl
          | [], h7 => exact absurd h7 (by simp [tysOk])
          | _ :: _ :: _, h7 => exact absurd h7 (by simp [tysOk])
        · cases h7
      · cases h
    refine ⟨hE, ?_⟩
    have hp : ∀ whole, isTrue pe X.env whole = (do let v ← whole; standAt pe.pos; holding [v] (truthy v)) := by
      unfold cE at h
      split at h
      · intro _; rfl
      · cases h
    exact isi_test hE hp
  | .call i es, X, sc, W, hx, pe, h => by
    have hE : PE X pe (tDE X.K W (wE c (.call i es))) := by
      unfold cE at h
      split at h
      · simp only [Bool.and_eq_true, decide_eq_true_eq] at h
        obtain ⟨⟨⟨⟨h0, h1⟩, h2⟩, h3⟩, h4⟩ := h
        rw [k.fns] at h1
        obtain ⟨q, e1, e2⟩ := get_map h1
        obtain ⟨_, hr, g⟩ := hx.cfg
        obtain ⟨r1, r2, r3⟩ := sEs k es hx _ h4
        exact s_call e1 e2 (gl_of hx h2) (okn_of h3).1 (hr h0) (g.fns q (List.mem_of_getElem? e1)) hx.tk r1 (r2 _ _ rfl) (r3 _ _ rfl _)
      · cases h
    refine ⟨hE, ?_⟩
    have hp : ∀ whole, isTrue pe X.env whole = (do let v ← whole; standAt pe.pos; holding [v] (truthy v)) := by
      unfold cE at h
      split at h
      · intro _; rfl
      · cases h
    exact (s_tru hE hp).imp fun σ H Q ⟨ρ, S, Q', X', r, rr, hw, kk, kx⟩ => ⟨ρ, S, Q', X', r, rr, hw, kk, kx⟩
  | .bm f o es, X, sc, W, hx, pe, h => by
    have hE : PE X pe (tDE X.K W (wE c (.bm f o es))) := by
      unfold cE at h
      split at h
      · rename_i p0 m0 apos0 l0 ls0 pos
        simp only [Bool.and_eq_true, decide_eq_true_eq] at h
        obtain ⟨⟨⟨⟨⟨⟨hm, h1⟩, h2⟩, h3⟩, h4⟩, h5⟩, h6⟩ := h
        subst h1
        obtain ⟨r1, r2, r3⟩ := sEs k es hx _ h6
        have one : ∀ {u : E}, ls0 = [] → es = .cons u .nil → cE n u sc l0 = true ∧ starEach [l0] X.env = (false, eval l0 X.env) :: starEach [] X.env := fun {u} e1 e2 => by
          subst e1 e2
          unfold cEs at h6
          simp only [Bool.and_eq_true] at h6
          exact ⟨h6.1.2, r2 _ _ rfl⟩
        cases f with
        | append =>
          refine s_bm .append rfl _ _ (sE k o hx _ h5).1 r1 (ab_base h2) ?_ h3 (r2 _ _ rfl) (r3 _ _ rfl _)
          rw [r2 _ _ rfl]
          have r4 := r3 _ _ rfl
          simp only [backTo, List.map_cons, List.all_cons, Bool.not_false, Bool.true_and, Bool.and_eq_true, decide_eq_true_eq]
          refine ⟨⟨?_, rfl⟩, by simp at h4 ⊢; omega⟩
          have r5 := r4 pos
          unfold backTo at r5
          rw [List.any_eq_false] at r5
          rw [List.all_eq_true]
          intro z hz
          have := r5 z hz
          simpa using this
        | get1 =>
          match es, ls0, hm, h6 with
          | .cons u .nil, [], _, h6 =>
            unfold cEs at h6
            simp only [Bool.and_eq_true] at h6
            exact (s_get1 hx.hu (sE k o hx _ h5).1 (sE k u hx _ h6.1.2).1 (m1_of (ab_base h2) h3 (nst_star h6.1.1))).imp fun σ H Q q => q
          | .nil, _, _, h6 => exact absurd h6 (by simp [cEs])
          | .cons _ (.cons _ _), [], _, h6 => exact absurd h6 (by simp [cEs])
          | _, _ :: _, hm, _ => exact absurd hm (by simp [Bm.many])
        | pop1 =>
          match es, ls0, hm, h6 with
          | .cons u .nil, [], _, h6 =>
            unfold cEs at h6
            simp only [Bool.and_eq_true] at h6
            exact (s_pop1 (sE k o hx _ h5).1 (sE k u hx _ h6.1.2).1 (m1_of (ab_base h2) h3 (nst_star h6.1.1))).imp fun σ H Q q => q
          | .nil, _, _, h6 => exact absurd h6 (by simp [cEs])
          | .cons _ (.cons _ _), [], _, h6 => exact absurd h6 (by simp [cEs])
          | _, _ :: _, hm, _ => exact absurd hm (by simp [Bm.many])
        | get2 =>
          match es, ls0, hm, h6 with
          | .cons u (.cons v .nil), [l1], _, h6 =>
            simp only [cEs, Bool.and_eq_true] at h6
            obtain ⟨⟨a1, a2⟩, ⟨b1, b2⟩, _⟩ := h6
            exact (s_get2 hx.hu (sE k o hx _ h5).1 (sE k u hx _ a2).1 (sE k v hx _ b2).1 (m2_of (ab_base h2) h3 (nst_star a1) (nst_star b1))).imp fun σ H Q q => q
          | .nil, _, _, h6 => exact absurd h6 (by simp [cEs])
          | .cons _ .nil, [_], _, h6 => exact absurd h6 (by simp [cEs])
          | .cons _ (.cons _ (.cons _ _)), [_], _, h6 => exact absurd h6 (by simp [cEs])
          | _, [], hm, _ => exact absurd hm (by simp [Bm.many])
          | _, _ :: _ :: _, hm, _ => exact absurd hm (by simp [Bm.many])
        | pop2 =>
          match es, ls0, hm, h6 with
          | .cons u (.cons v .nil), [l1], _, h6 =>
            simp only [cEs, Bool.and_eq_true] at h6
            obtain ⟨⟨a1, a2⟩, ⟨b1, b2⟩, _⟩ := h6
            exact (s_pop2 (sE k o hx _ h5).1 (sE k u hx _ a2).1 (sE k v hx _ b2).1 (m2_of (ab_base h2) h3 (nst_star a1) (nst_star b1))).imp fun σ H Q q => q
          | .nil, _, _, h6 => exact absurd h6 (by simp [cEs])
          | .cons _ .nil, [_], _, h6 => exact absurd h6 (by simp [cEs])
          | .cons _ (.cons _ (.cons _ _)), [_], _, h6 => exact absurd h6 (by simp [cEs])
          | _, [], hm, _ => exact absurd hm (by simp [Bm.many])
          | _, _ :: _ :: _, hm, _ => exact absurd hm (by simp [Bm.many])
      · cases h
    refine ⟨hE, ?_⟩
    have hp : ∀ whole, isTrue pe X.env whole = (do let v ← whole; standAt pe.pos; holding [v] (truthy v)) := by
      unfold cE at h
      split at h
      · intro _; rfl
      · cases h
    exact (s_tru hE hp).imp fun σ H Q ⟨ρ, S, Q', X', r, rr, hw, kk, kx⟩ => ⟨ρ, S, Q', X', r, rr, hw, kk, kx⟩
  | .comp own g it cond elt, X, sc, W, hx, pe, h => by
    have hE : PE X pe (tDE X.K W (wE c (.comp own g it cond elt))) := by
      unfold cE at h
      split at h
      · simp only [Bool.and_eq_true] at h
        obtain ⟨⟨⟨⟨⟨⟨⟨⟨h0, h1⟩, h2⟩, h3⟩, h4⟩, h5⟩, h6⟩, h7⟩, h8⟩ := h
        refine s_comp (hx.calm h0) hx.nd (sI k it hx _ h3) (by rw [hx.hN, hx.hsc]; exact blkOk_by h1) (ix := g.ix) (fun i hi => ?_) (fun s H C cl fp => ?_) (fun s H C cl fp => ?_) (fun s H C cl fp => ?_) (nset_fold h2)
        · rw [List.all_eq_true] at h5
          simpa using h5 i hi
        · exact sG k g (sx_blk hx s H _ C cl fp) (fun z => by cases z) _ h6
        · exact sC k cond (sx_blk hx s H _ C cl fp) _ h7
        · exact (sE k elt (sx_blk hx s H _ C cl fp) _ h8).1
      · cases h

    refine ⟨hE, ?_⟩
    exact pt_no
  | .call0 i, X, sc, W, hx, pe, h => by
    have hE : PE X pe (tDE X.K W (wE c (.call0 i))) := by
      unfold cE at h
      split at h
      · simp only [Bool.and_eq_true, decide_eq_true_eq] at h
        obtain ⟨⟨⟨h0, h1⟩, h2⟩, h3⟩ := h
        rw [k.fns] at h1
        obtain ⟨q, e1, e2⟩ := get_map h1
        obtain ⟨_, hr, g⟩ := hx.cfg
        exact s_call0 e1 e2 (gl_of hx h2) (okn_of h3).1 (hr h0) (g.fns q (List.mem_of_getElem? e1)) hx.tk
      · cases h
    refine ⟨hE, ?_⟩
    have hp : ∀ whole, isTrue pe X.env whole = (do let v ← whole; standAt pe.pos; holding [v] (truthy v)) := by
      unfold cE at h
      split at h
      · intro _; rfl
      · cases h
    exact (s_tru hE hp).imp fun σ H Q ⟨ρ, S, Q', X', r, rr, hw, kk, kx⟩ => ⟨ρ, S, Q', X', r, rr, hw, kk, kx⟩
  | .fld o f, X, sc, W, hx, pe, h => by
    have hE : PE X pe (tDE X.K W (wE c (.fld o f))) := by
      unfold cE at h
      split at h
      · simp only [Bool.and_eq_true, decide_eq_true_eq] at h
        obtain ⟨⟨h1, h2⟩, h3⟩ := h
        subst h1
        obtain ⟨_, hr, g⟩ := hx.cfg
        exact s_fld g.flds (sE k o hx _ h3).1 (ab_base h2)
      · cases h
    refine ⟨hE, ?_⟩
    have hp : ∀ whole, isTrue pe X.env whole = (do let v ← whole; standAt pe.pos; holding [v] (truthy v)) := by
      unfold cE at h
      split at h
      · intro _; rfl
      · cases h
    exact (s_tru hE hp).imp fun σ H Q ⟨ρ, S, Q', X', r, rr, hw, kk, kx⟩ => ⟨ρ, S, Q', X', r, rr, hw, kk, kx⟩
  | .mt o m es, X, sc, W, hx, pe, h => by
    have hE : PE X pe (tDE X.K W (wE c (.mt o m es))) := by
      unfold cE at h
      split at h
      · rename_i l g apos ls pos
        simp only [Bool.and_eq_true, decide_eq_true_eq, mtOk] at h
        obtain ⟨⟨⟨⟨h0, h1⟩, ⟨h2, h3⟩, h4⟩, h5⟩, h6⟩ := h
        subst h1
        obtain ⟨_, hr, gg⟩ := hx.cfg
        obtain ⟨r1, r2, r3⟩ := sEs k es hx _ h6
        cases ls with
        | nil =>
          unfold cEs at h6
          cases es with
          | cons _ _ => simp at h6
          | nil => exact (s_mt0 (pl := plainOf l X.env) hx.tk (hr h0) gg.mths (sE k o hx _ h5).1 (mt_eval (ab_base h2) h3 rfl)).imp fun σ H Q q => q
        | cons l0 ls0 =>
          refine s_mt (pl := plainOf l X.env) hx.tk (hr h0) gg.mths (sE k o hx _ h5).1 r1 (r2 _ _ rfl) (r3 _ _ rfl _) (mt_eval (ab_base h2) h3 ?_)
          unfold methodCallForm
          rw [r2 _ _ rfl]
          have r4 := r3 _ _ rfl
          simp only [backTo, List.map_cons, List.all_cons, Bool.not_false, Bool.true_and, Bool.and_eq_true, decide_eq_true_eq]
          refine ⟨⟨?_, rfl⟩, by
            have e : backToKw pos (keywordEach [] X.env) = [] := rfl
            rw [e]
            simp at h4 ⊢
            omega⟩
          have r5 := r4 pos
          unfold backTo at r5
          rw [List.any_eq_false] at r5
          rw [List.all_eq_true]
          intro z hz
          have := r5 z hz
          simpa using this
      · cases h
    refine ⟨hE, ?_⟩
    have hp : ∀ whole, isTrue pe X.env whole = (do let v ← whole; standAt pe.pos; holding [v] (truthy v)) := by
      unfold cE at h
      split at h
      · intro _; rfl
      · cases h
    exact (s_tru hE hp).imp fun σ H Q ⟨ρ, S, Q', X', r, rr, hw, kk, kx⟩ => ⟨ρ, S, Q', X', r, rr, hw, kk, kx⟩
  | .mk i es, X, sc, W, hx, pe, h => by
    have hE : PE X pe (tDE X.K W (wE c (.mk i es))) := by
      unfold cE at h
      split at h
      · rename_i x _ ls _
        simp only [Bool.and_eq_true, decide_eq_true_eq] at h
        obtain ⟨⟨⟨⟨h0, h1⟩, h2⟩, h3⟩, h4⟩ := h
        rw [k.mks] at h1
        obtain ⟨q, e1, e2⟩ := get_map h1
        obtain ⟨_, hr, g⟩ := hx.cfg
        obtain ⟨r1, r2, r3⟩ := sEs k es hx _ h4
        cases ls with
        | nil =>
          unfold cEs at h4
          cases es with
          | cons _ _ => simp at h4
          | nil => exact (s_mk0 hx.tk (hr h0) e1 e2 (gl_of hx h2) (okn_of h3).1 (g.mks q (List.mem_of_getElem? e1))).imp fun σ H Q q => q
        | cons l0 ls0 => exact s_mk hx.tk (hr h0) e1 e2 (gl_of hx h2) (okn_of h3).1 (g.mks q (List.mem_of_getElem? e1)) r1 (r2 _ _ rfl) (r3 _ _ rfl _)
      · cases h
    refine ⟨hE, ?_⟩
    exact pt_no
  | .dcomp own g it cond ke ve, X, sc, W, hx, pe, h => by
    have hE : PE X pe (tDE X.K W (wE c (.dcomp own g it cond ke ve))) := by
      unfold cE at h
      split at h
      · simp only [Bool.and_eq_true] at h
        obtain ⟨⟨⟨⟨⟨⟨⟨⟨⟨h0, h1⟩, h2⟩, h3⟩, h4⟩, h5⟩, h6⟩, h7⟩, h8⟩, h9⟩ := h
        refine s_dcomp (hx.calm h0) hx.nd (sI k it hx _ h3) (by rw [hx.hN, hx.hsc]; exact blkOk_by h1) (ix := g.ix) (fun i hi => ?_) (fun s H C cl fp => ?_) (fun s H C cl fp => ?_) (fun s H C cl fp => ?_) (fun s H C cl fp => ?_) (nset_fold h2)
        · rw [List.all_eq_true] at h5
          simpa using h5 i hi
        · exact sG k g (sx_blk hx s H _ C cl fp) (fun z => by cases z) _ h6
        · exact sC k cond (sx_blk hx s H _ C cl fp) _ h7
        · exact (sE k ke (sx_blk hx s H _ C cl fp) _ h8).1
        · exact (sE k ve (sx_blk hx s H _ C cl fp) _ h9).1
      · cases h
    refine ⟨hE, ?_⟩
    exact pt_no
  | .dic0, X, sc, W, hx, pe, h => by
    have hE : PE X pe (tDE X.K W (wE c .dic0)) := by
      unfold cE at h
      split at h
      · exact s_dic0
      · cases h
    refine ⟨hE, ?_⟩
    exact pt_no
  | .dic kvs, X, sc, W, hx, pe, h => by
    have hE : PE X pe (tDE X.K W (wE c (.dic kvs))) := by
      unfold cE at h
      split at h
      · simp only [Bool.and_eq_true, decide_eq_true_eq] at h
        obtain ⟨h1, h2⟩ := h
        obtain ⟨trs, g1, g2, g3, g4⟩ := sPr k kvs hx _ _ _ h2
        exact s_dic g1 g3 g4 (fun z => by cases z) h1 g2
      · cases h
    refine ⟨hE, ?_⟩
    exact pt_no
  | .lock e, X, sc, W, hx, pe, h => by
    have hE : PE X pe (tDE X.K W (wE c (.lock e))) := by
      unfold cE at h
      rw [Bool.and_eq_true] at h
      exact s_lock (sE k e ⟨hx.hN, hx.nd, hx.hsc, hx.calm, hx.hu, hx.cfg, takes0⟩ _ h.2).1
    refine ⟨hE, ?_⟩
    exact pt_no
theorem sPr (k : NmOk c n) : ∀ (kvs : Es) {X : Cx} {sc : Scope} {W : WX}, Sx X c n.N sc W n.cm → ∀ (pos : Pos) (ks : List (Option Expr)) (vs : List Expr), cPr n kvs sc ks vs = true →
    ∃ trs, PPs X pos ks vs trs ∧ PrOk X.K W (wPr c kvs) trs ∧ ks.all (·.isSome) = true ∧ ks.length = vs.length
  | .nil, X, sc, W, hx, pos, ks, vs, h => by
    unfold cPr at h
    split at h
    · exact ⟨[], pps_nil, pr_nil, rfl, rfl⟩
    · cases h
  | .cons _ .nil, X, sc, W, hx, pos, ks, vs, h => by
    unfold cPr at h
    cases h
  | .cons a (.cons b r), X, sc, W, hx, pos, ks, vs, h => by
    unfold cPr at h
    split at h
    · simp only [Bool.and_eq_true] at h
      obtain ⟨⟨h1, h2⟩, h3⟩ := h
      obtain ⟨trs, g1, g2, g3, g4⟩ := sPr k r hx pos _ _ h3
      exact ⟨_, pps_cons (sE k a hx _ h1).1 (sE k b hx _ h2).1 g1, pr_cons g2, by rw [List.all_cons, g3]; rfl, by rw [List.length_cons, List.length_cons, g4]⟩
    · cases h
theorem sAnd (k : NmOk c n) : ∀ (es : Es) {X : Cx} {sc : Scope} {W : WX}, Sx X c n.N sc W n.cm → ∀ (ls : List Expr) (pos : Pos), cEs n es sc ls = true → PE X (.BoolOp .And ls pos) (tDE X.K W (wAnd c es))
  | .nil, X, sc, W, hx, ls, pos, h => pe_no
  | .cons e .nil, X, sc, W, hx, ls, pos, h => by
    unfold cEs at h
    split at h
    · simp only [Bool.and_eq_true] at h
      obtain ⟨h1, h2⟩ := h
      unfold cEs at h2
      split at h2
      · exact pe_one (sE k e hx _ h1.2).1
      · cases h2
    · cases h
  | .cons e (.cons e2 r), X, sc, W, hx, ls, pos, h => by
    unfold cEs at h
    split at h
    · simp only [Bool.and_eq_true] at h
      obtain ⟨h1, h2⟩ := h
      rename_i l ls
      cases ls with
      | nil => unfold cEs at h2; cases h2
      | cons l2 ls => exact s_and (sE k e hx _ h1.2).1 (sAnd k (.cons e2 r) hx _ pos h2)
    · cases h
theorem sOr (k : NmOk c n) : ∀ (es : Es) {X : Cx} {sc : Scope} {W : WX}, Sx X c n.N sc W n.cm → ∀ (ls : List Expr) (pos : Pos), cEs n es sc ls = true → PE X (.BoolOp .Or ls pos) (tDE X.K W (wOr c es))
  | .nil, X, sc, W, hx, ls, pos, h => pe_no
  | .cons e .nil, X, sc, W, hx, ls, pos, h => by
    unfold cEs at h
    split at h
    · simp only [Bool.and_eq_true] at h
      obtain ⟨h1, h2⟩ := h
      unfold cEs at h2
      split at h2
      · exact pe_one (sE k e hx _ h1.2).1
      · cases h2
    · cases h
  | .cons e (.cons e2 r), X, sc, W, hx, ls, pos, h => by
    unfold cEs at h
    split at h
    · simp only [Bool.and_eq_true] at h
      obtain ⟨h1, h2⟩ := h
      rename_i l ls
      cases ls with
      | nil => unfold cEs at h2; cases h2
      | cons l2 ls => exact s_or (sE k e hx _ h1.2).1 (sOr k (.cons e2 r) hx _ pos h2)
    · cases h
theorem sBAnd (k : NmOk c n) : ∀ (es : Es) {X : Cx} {sc : Scope} {W : WX}, Sx X c n.N sc W n.cm → ∀ (ls : List Expr) (pos : Pos), cEs n es sc ls = true → PW X (.BoolOp .And ls pos) (tDB X.K W (wBAnd c es))
  | .nil, X, sc, W, hx, ls, pos, h => pw_no
  | .cons e .nil, X, sc, W, hx, ls, pos, h => by
    unfold cEs at h
    split at h
    · simp only [Bool.and_eq_true] at h
      obtain ⟨h1, h2⟩ := h
      unfold cEs at h2
      split at h2
      · exact pw_and1 (sE k e hx _ h1.2).2
      · cases h2
    · cases h
  | .cons e (.cons e2 r), X, sc, W, hx, ls, pos, h => by
    unfold cEs at h
    split at h
    · simp only [Bool.and_eq_true] at h
      obtain ⟨h1, h2⟩ := h
      rename_i l ls
      cases ls with
      | nil => unfold cEs at h2; cases h2
      | cons l2 ls => exact t_and (sE k e hx _ h1.2).2 (sBAnd k (.cons e2 r) hx _ pos h2)
    · cases h
theorem sBOr (k : NmOk c n) : ∀ (es : Es) {X : Cx} {sc : Scope} {W : WX}, Sx X c n.N sc W n.cm → ∀ (ls : List Expr) (pos : Pos), cEs n es sc ls = true → PW X (.BoolOp .Or ls pos) (tDB X.K W (wBOr c es))
  | .nil, X, sc, W, hx, ls, pos, h => pw_no
  | .cons e .nil, X, sc, W, hx, ls, pos, h => by
    unfold cEs at h
    split at h
    · simp only [Bool.and_eq_true] at h
      obtain ⟨h1, h2⟩ := h
      unfold cEs at h2
      split at h2
      · exact pw_or1 (sE k e hx _ h1.2).2
      · cases h2
    · cases h
  | .cons e (.cons e2 r), X, sc, W, hx, ls, pos, h => by
    unfold cEs at h
    split at h
    · simp only [Bool.and_eq_true] at h
      obtain ⟨h1, h2⟩ := h
      rename_i l ls
      cases ls with
      | nil => unfold cEs at h2; cases h2
      | cons l2 ls => exact t_or (sE k e hx _ h1.2).2 (sBOr k (.cons e2 r) hx _ pos h2)
    · cases h
theorem sEs (k : NmOk c n) : ∀ (es : Es) {X : Cx} {sc : Scope} {W : WX}, Sx X c n.N sc W n.cm → ∀ ls : List Expr, cEs n es sc ls = true → PA X ls (tDA X.K W (wEs c es)) ∧
    (∀ l t, ls = l :: t → starEach (l :: t) X.env = (false, eval l X.env) :: starEach t X.env) ∧ (∀ l t, ls = l :: t → ∀ pos, (backTo pos (starEach t X.env)).any (·.1) = false)
  | .nil, X, sc, W, hx, ls, h => by
    unfold cEs at h
    split at h
    · exact ⟨s_nil, fun l t e => (by cases e), fun l t e => (by cases e)⟩
    · cases h
  | .cons e r, X, sc, W, hx, ls, h => by
    unfold cEs at h
    split at h
    · simp only [Bool.and_eq_true] at h
      obtain ⟨⟨h1, h2⟩, h3⟩ := h
      obtain ⟨r1, r2, r3⟩ := sEs k r hx _ h3
      refine ⟨s_cons (sE k e hx _ h2).1 r1 (nst_star h1), fun l t e => (by cases e; exact nst_star h1), fun l t e pos => ?_⟩
      have e2 := (List.cons.inj e).2
      subst e2
      rename_i t0
      cases t0 with
      | nil => rfl
      | cons l2 t2 =>
        rw [r2 l2 t2 rfl]
        show (false || (backTo pos (starEach t2 X.env)).any (·.1)) = false
        rw [r3 l2 t2 rfl pos]
        rfl
    · cases h
theorem sC (k : NmOk c n) : ∀ (es : Es) {X : Cx} {sc : Scope} {W : WX}, Sx X c n.N sc W n.cm → ∀ ls : List Expr, cC n es sc ls = true → PTs X ls (tDB X.K W (wC c es))
  | .nil, X, sc, W, hx, ls, h => by
    unfold cC at h
    split at h
    · exact pts_nil.imp fun σ H Q ⟨ρ, S, Q', X', r, rr, hw, kk, kx⟩ => kk true H S r (Fr.refl S H) hw
    · cases h
  | .cons e .nil, X, sc, W, hx, ls, h => by
    unfold cC at h
    split at h
    · exact pts_one (sE k e hx _ h).2
    · cases h
  | .cons e (.cons _ _), X, sc, W, hx, ls, h => by
    unfold cC at h
    split at h
    · exact (pts_one (sE k e hx _ h).2).imp fun σ H Q ⟨ρ, S, Q', X', r, rr, hw, kk, kx⟩ => (show False from hw).elim
    · cases h
theorem sO (k : NmOk c n) : ∀ (o : O) {X : Cx} {sc : Scope} {W : WX}, Sx X c n.N sc W n.cm → ∀ l : Option Expr, cO n o sc l = true → PO X l (tDO X.K W (wO c o))
  | .no, X, sc, W, hx, l, h => by
    unfold cO at h
    split at h
    · exact s_no
    · cases h
  | .yes e, X, sc, W, hx, l, h => by
    unfold cO at h
    split at h
    · exact s_yes (sE k e hx _ h).1
    · cases h
theorem sG (k : NmOk c n) : ∀ (g : G) {X : Cx} {sc : Scope} {W : WX} {blk : Bool}, Sx X c n.N sc W n.cm → (blk = false → ∀ x, X.fn x = true) → ∀ pe : Expr, cG n g blk sc pe = true → PG X pe (tDG X.K W g.ix (wG c g))
  | .name i, X, sc, W, blk, hx, hf, pe, h => by
    unfold cG at h
    split at h
    · simp only [Bool.and_eq_true, decide_eq_true_eq, Bool.or_eq_true, Bool.not_eq_true'] at h
      obtain ⟨h1, h2⟩ := h
      rcases h2 with h2 | ⟨h2, h3⟩
      · exact g_name hx.nd (by rw [hx.hN]; exact h1) (.inl (by rw [hx.hsc]; exact loc_of h2)) (.inr (by rw [hx.hsc]; exact loc_of h2))
      · exact g_name hx.nd (by rw [hx.hN]; exact h1) (.inr (by rw [hx.hsc]; exact cel_of h3)) (.inl (hf h2 _))
    · cases h
  | .tup gs, X, sc, W, blk, hx, hf, pe, h => by
    unfold cG at h
    split at h
    · simp only [Bool.and_eq_true] at h
      obtain ⟨r1, r2, r3⟩ := sGs k gs hx hf _ h.2 h.1.2
      exact g_tup (hx.calm h.1.1) r1 r2 r3
    · cases h
  | .sub o i, X, sc, W, blk, hx, hf, pe, h => by
    unfold cG at h
    split at h
    · simp only [Bool.and_eq_true, Bool.not_eq_true'] at h
      exact g_sub hx.hu h.1.1 (sE k o hx _ h.1.2).1 (sE k i hx _ h.2).1
    · cases h
theorem sGs (k : NmOk c n) : ∀ (gs : Gs) {X : Cx} {sc : Scope} {W : WX} {blk : Bool}, Sx X c n.N sc W n.cm → (blk = false → ∀ x, X.fn x = true) → ∀ ls : List Expr, cGs n gs blk sc ls = true → gs.pure = true → PGs X ls (tDGs X.K W gs.ix (wGs c gs)) ∧
    (assignEach ls X.env).findIdx? (·.1) = none ∧ (assignEach ls X.env).length = gs.len
  | .nil, X, sc, W, blk, hx, hf, ls, h, hp => by
    unfold cGs at h
    split at h
    · exact ⟨gs_nil, rfl, rfl⟩
    · cases h
  | .cons g r, X, sc, W, blk, hx, hf, ls, h, hp => by
    unfold cGs at h
    split at h
    · simp only [Bool.and_eq_true] at h
      obtain ⟨⟨h1, h2⟩, h3⟩ := h
      unfold Gs.pure at hp
      rw [Bool.and_eq_true] at hp
      obtain ⟨r1, r2, r3⟩ := sGs k r hx hf _ h3 hp.2
      refine ⟨gs_cons (sG k g hx hf _ h2) r1 (by rw [nst_assign h1]; rfl) (fun q => pure_wG g hp.1 q), ?_, ?_⟩
      · rw [nst_assign h1, List.findIdx?_cons, r2]
        rfl
      · rw [nst_assign h1, List.length_cons, r3]
        rfl
    · cases h
theorem sI (k : NmOk c n) : ∀ (it : It) {X : Cx} {sc : Scope} {W : WX} {tg : Expr}, Sx X c n.N sc W n.cm → ∀ pe : Expr, cI n it sc tg pe = true → PI X tg pe (tDI X.K W (wI c it))
  | .seq e, X, sc, W, tg, hx, pe, h => by
    unfold cI at h
    exact i_seq (sE k e hx _ h).1
  | .enum e, X, sc, W, tg, hx, pe, h => by
    unfold cI at h
    rw [Bool.and_eq_true] at h
    obtain ⟨h0, h⟩ := h
    split at h
    · simp only [Bool.and_eq_true, decide_eq_true_eq] at h
      obtain ⟨⟨⟨⟨h1, h2⟩, h3⟩, h4⟩, h5⟩ := h
      subst h1
      cases tg <;> first
        | cases h0
        | skip
      exact i_enum (gl_of hx h2) (nob_of k hx h3) (sE k e hx _ h5).1 (nst_star h4)
    · cases h
  | .rng es, X, sc, W, tg, hx, pe, h => by
    unfold cI at h
    split at h
    · simp only [Bool.and_eq_true, decide_eq_true_eq, Bool.or_eq_true, beq_iff_eq] at h
      obtain ⟨⟨⟨⟨h1, h2⟩, h3⟩, h4⟩, h5⟩ := h
      subst h1
      have hn := nob_of k hx h3
      match es, h5 with
      | .nil, h5 =>
        unfold cEs at h5
        split at h5
        · simp at h4
        · cases h5
      | .cons e .nil, h5 =>
        unfold cEs at h5
        split at h5
        · simp only [Bool.and_eq_true] at h5
          obtain ⟨⟨q1, q2⟩, q3⟩ := h5
          unfold cEs at q3
          split at q3
          · exact i_rng1 (gl_of hx h2) hn (sE k e hx _ q2).1 (nst_star q1)
          · cases q3
        · cases h5
      | .cons e (.cons e2 .nil), h5 =>
        unfold cEs at h5
        split at h5
        · simp only [Bool.and_eq_true] at h5
          obtain ⟨⟨q1, q2⟩, q3⟩ := h5
          unfold cEs at q3
          split at q3
          · simp only [Bool.and_eq_true] at q3
            obtain ⟨⟨q4, q5⟩, q6⟩ := q3
            unfold cEs at q6
            split at q6
            · exact i_rng2 (gl_of hx h2) hn (sE k e hx _ q2).1 (sE k e2 hx _ q5).1 (nst_star q1) (nst_star q4)
            · cases q6
          · cases q3
        · cases h5
      | .cons e (.cons e2 (.cons e3 r)), h5 =>
        have hl := cEs_len h5
        simp only [Es.len] at hl
        omega
    · cases h
  | .items e, X, sc, W, tg, hx, pe, h => by
    unfold cI at h
    rw [Bool.and_eq_true] at h
    obtain ⟨h0, h⟩ := h
    split at h
    · simp only [Bool.and_eq_true, decide_eq_true_eq] at h
      obtain ⟨⟨⟨h1, h2⟩, h3⟩, h4⟩ := h
      subst h1
      cases tg <;> first
        | exact i_items (sE k e hx _ h4).1 (ab_base h2) h3
        | (simp [ntupT] at h0)
    · cases h
end
end
end Dz
namespace Dz
open PySem PySem.Spec PyProof.Rows L2
section
variable {c : Cfg} {n : Nm} {X : Cx} {sc : Scope} {W : WX}
theorem sCompT (hcm : n.cm = true) (k : NmOk c n) {own : List (Str × Nat)} {g : G} {it : It} {cond : Es} {elt : E} (hx : Sx X c n.N sc W n.cm) {i : Nat} {y : Str} {py spos : Pos} {v : Expr}
    (hy : n.N[i]? = some y) (hl : locB sc y = true) (hk : X.env.scope.kind = .function)
    (hv : (match v with
      | .ListComp _ [_] scope pos => (py.line == pos.line) && !(scope.names.any fun (m, k) => m == y && (k == .local || k == .cell))
      | _ => false) = true) (h : cE n (.comp own g it cond elt) sc v = true) :
    PS X (.Assign [.Name y py] v spos) (tDT X.K W (wT c (.setc i (.comp own g it cond elt)))) := by
  unfold cE at h
  split at h
  · simp only [Bool.and_eq_true] at h
    obtain ⟨⟨⟨⟨⟨⟨⟨⟨h0, h1⟩, h2⟩, h3⟩, h4⟩, h5⟩, h6⟩, h7⟩, h8⟩ := h
    simp only [Bool.and_eq_true, Bool.not_eq_true'] at hv
    have hyl : X.env.scope.names.lookup y = some .local := by rw [hx.hsc]; exact loc_of hl
    refine s_setc (hx.calm hcm) hx.nd (by rw [hx.hN]; exact hy) hyl (sw_true hk hyl hv.1 hv.2) (sI k it hx _ h3) (by rw [hx.hN, hx.hsc]; exact blkOk_by h1) (ix := g.ix) (fun i hi => ?_) (fun s H C cl fp => ?_) (fun s H C cl fp => ?_) (fun s H C cl fp => ?_) (nset_fold h2)
    · rw [List.all_eq_true] at h5
      simpa using h5 i hi
    · exact sG k g (sx_blk hx s H _ C cl fp) (fun z => by cases z) _ h6
    · exact sC k cond (sx_blk hx s H _ C cl fp) _ h7
    · exact (sE k elt (sx_blk hx s H _ C cl fp) _ h8).1
  · cases h
theorem sl_aug {b : Expr} (h : isSl b = false) : ∀ ov iv new, augStore b ov iv new = (do holding [new, ov, iv] (setItem ov iv new); release [new, ov, iv] []; pure .next) := by
  intro ov iv new
  cases b <;> first | rfl | cases h
theorem st_try1 {X : Cx} {W : WX} {c : Cfg} {C : Addr} {x : Str} {j : Nat} {body suite : List Stmt} {b₀ : Stmt} {np pos pos' : Pos} {wb ws : WT} (hj : c.excs[j]? = some (x, C)) (hs : X.stack = X.env :: X.outer) (hf : X.env.frame = some X.env.locals) (hc : Names X x (.ref C)) (tk : Takes X W)
    (hm : ∀ p ∈ c.exm, PySem.W.exmOne X.K (.ref p.1) (.ref p.2.1) = some p.2.2)
    (hb : ∀ (W' : WX) (pn : List (Addr × Obj)) (xe : Value → Shared → Prop), Takes (X.tr pn xe) W' → PassesOwn (model X.prog X.w) X.A X.env xe → PSs (X.tr pn xe) body (tDT X.K W' wb))
    (hsu : ∀ (a : Addr) (oe : Obj) (pn : List (Addr × Obj)), PSs (X.suite a ((a, oe) :: pn)) (b₀ :: suite) (tDT X.K W00 ws)) :
    PS X (.Try body [.ExceptHandler (some (.Name x np)) none (b₀ :: suite) pos'] [] [] pos) (tDT X.K W fun Z ρ S => wb { Z with ex := fun x ρ' S' => ∃ p b, c.excs[j]? = some p ∧ (x.C, p.2, b) ∈ c.exm ∧ (b = true → ws { Z with ex := fun _ _ _ => False } ρ' S') ∧ (b = false → Z.ex x ρ' S') } ρ S) :=
  (ps_try_only (tb := fun W' => tDT X.K W' wb) (ts := fun _ _ _ => tDT X.K W00 ws) hs hf hc tk hb fun a oe cls d pn _ _ => hsu a oe pn).imp fun Z0 σ H h => by
  obtain ⟨ρ, S, Z, r, rr, h, k⟩ := t_un h
  refine t_mk r rr h ⟨k.nx, k.bk, k.ct, k.rt, fun cls dx σ' H' x ρ' S' r' f' rr' z ⟨p, b, e, m, q1, q2⟩ => ?_⟩
  rw [hj] at e
  cases e
  obtain ⟨ec, ed⟩ := id z
  subst ec
  have kk := k.fr f'
  exact ⟨b, hm _ m, fun eb a _ => t_mk r' rr' (q1 eb) ⟨kk.nx, kk.bk, kk.ct, kk.rt, fun _ _ _ _ _ _ _ _ _ _ _ q => q.elim⟩, fun eb => k.ex _ _ _ _ _ _ _ r' f' rr' z (q2 eb)⟩
structure Sy (X : Cx) (c : Cfg) (N : List Str) (sc : Scope) (W : WX) (cm : Bool) : Prop extends Sx X c N sc W cm where
  stk : X.stack = X.env :: X.outer
  frm : X.env.frame = some X.env.locals
  po : PassesOwn (model X.prog X.w) X.A X.env X.xe
  fn : ∀ x, X.fn x = true
  kd : X.env.scope.kind = .function
theorem loc_or {x : Str} (hx : Sy X c n.N sc W n.cm) (h : (locB sc x || celB sc x) = true) : Loc X.env.scope x := by
  rw [hx.hsc]
  rw [Bool.or_eq_true] at h
  rcases h with h | h
  · exact .inl (loc_of h)
  · exact .inr (cel_of h)
theorem nst_one {tg : Expr} {env : Env} (h : nst tg = true) : (assignEach [tg] env).map (·.2) = [assign tg env] := by
  rw [nst_assign h]
  rfl
mutual
theorem sT : ∀ (t : T) {n : Nm} {X : Cx} {sc : Scope} {W : WX}, NmOk c n → Sy X c n.N sc W n.cm → ∀ st : Stmt, cT n t sc st = true → PS X st (tDT X.K W (wT c t))
  | .asg g e, n, X, sc, W, k, hx, st, h => by
    unfold cT at h
    split at h
    · simp only [Bool.and_eq_true] at h
      obtain ⟨⟨h1, h2⟩, h3⟩ := h
      unfold swOk at h3
      rw [Bool.and_eq_true, Bool.and_eq_true] at h3
      obtain ⟨⟨h4, h5⟩, h6⟩ := h3
      exact st_asg (sE k e hx.toSx _ h2).1 (sG k g hx.toSx (fun _ => hx.fn) _ h1) (sw_sole hx.kd (by rw [hx.hsc]; exact h4)) (sw_stores h5) (nst_one h6)
    · cases h
  | .setc i e, n, X, sc, W, k, hx, st, h => by
    unfold cT at h
    split at h
    · simp only [Bool.and_eq_true, decide_eq_true_eq] at h
      obtain ⟨⟨⟨⟨⟨h0, h1⟩, h2⟩, h3⟩, h4⟩, h5⟩ := h
      split at h4
      · exact sCompT h0 k hx.toSx h1 h2 hx.kd h3 h5
      · cases h4
    · cases h
  | .aug i o e, n, X, sc, W, k, hx, st, h => by
    unfold cT at h
    split at h
    · simp only [Bool.and_eq_true, decide_eq_true_eq] at h
      obtain ⟨⟨⟨h1, h2⟩, h3⟩, h4⟩ := h
      subst h3
      exact st_aug o hx.nd (by rw [hx.hN]; exact h1) (loc_or hx h2) (.inl (hx.fn _)) (sE k e hx.toSx _ h4).1
    · cases h
  | .ex e, n, X, sc, W, k, hx, st, h => by
    unfold cT at h
    split at h
    · rw [Bool.and_eq_true] at h
      exact st_ex (sE k e hx.toSx _ h.1).1 (sw_none h.2)
    · cases h
  | .ret e, n, X, sc, W, k, hx, st, h => by
    unfold cT at h
    split at h
    · exact st_ret (sE k e hx.toSx _ h).1
    · cases h
  | .retN, n, X, sc, W, k, hx, st, h => by
    unfold cT at h
    split at h
    · exact st_retN
    · cases h
  | .pass, n, X, sc, W, k, hx, st, h => by
    unfold cT at h
    split at h
    · exact st_pass
    · cases h
  | .brk, n, X, sc, W, k, hx, st, h => by
    unfold cT at h
    split at h
    · exact st_brk
    · cases h
  | .cont, n, X, sc, W, k, hx, st, h => by
    unfold cT at h
    split at h
    · exact st_cont
    · cases h
  | .never, n, X, sc, W, k, hx, st, h => st_never
  | .ite t a b, n, X, sc, W, k, hx, st, h => by
    unfold cT at h
    split at h
    · simp only [Bool.and_eq_true] at h
      exact st_ite (sE k t hx.toSx _ h.1.1).2 (sTs a k hx _ h.1.2) (sTs b k hx _ h.2)
    · cases h
  | .for_ g it body, n, X, sc, W, k, hx, st, h => by
    unfold cT at h
    split at h
    · simp only [Bool.and_eq_true] at h
      obtain ⟨⟨⟨⟨h0, h1⟩, h2⟩, h3⟩, h4⟩ := h
      exact st_for hx.po (hx.calm h0) (sI k it hx.toSx _ h2) (sG k g hx.toSx (fun _ => hx.fn) _ h3) (sTs body k hx _ h4) (nset_fold h1)
    · cases h
  | .whil t body, n, X, sc, W, k, hx, st, h => by
    unfold cT at h
    split at h
    · rw [Bool.and_eq_true] at h
      exact st_whil hx.po (sE k t hx.toSx _ h.1).2 (sTs body k hx _ h.2)
    · cases h
  | .fst o f e, n, X, sc, W, k, hx, st, h => by
    unfold cT at h
    split at h
    · simp only [Bool.and_eq_true, decide_eq_true_eq] at h
      obtain ⟨⟨⟨h1, h2⟩, h3⟩, h4⟩ := h
      subst h1
      obtain ⟨_, _, g⟩ := hx.cfg
      exact st_fst g.flds (sE k e hx.toSx _ h3).1 (sE k o hx.toSx _ h2).1 (sw_some h4)
    · cases h
  | .faug o f p e, n, X, sc, W, k, hx, st, h => by
    unfold cT at h
    split at h
    · simp only [Bool.and_eq_true, decide_eq_true_eq] at h
      obtain ⟨⟨⟨h1, h2⟩, h3⟩, h4⟩ := h
      subst h1 h2
      obtain ⟨_, _, g⟩ := hx.cfg
      exact st_faug p g.flds (sE k o hx.toSx _ h3).1 (sE k e hx.toSx _ h4).1
    · cases h
  | .saug o i p e, n, X, sc, W, k, hx, st, h => by
    unfold cT at h
    split at h
    · simp only [Bool.and_eq_true, decide_eq_true_eq, Bool.not_eq_true'] at h
      obtain ⟨⟨⟨⟨h0, h2⟩, h3⟩, h4⟩, h5⟩ := h
      subst h2
      exact st_saug p hx.hu (sE k o hx.toSx _ h3).1 (sE k i hx.toSx _ h4).1 (sE k e hx.toSx _ h5).1 (sl_aug h0)
    · cases h
  | .par2 i j a b, n, X, sc, W, k, hx, st, h => by
    unfold cT at h
    split at h
    · simp only [Bool.and_eq_true, decide_eq_true_eq, Bool.not_eq_true'] at h
      obtain ⟨⟨⟨⟨⟨⟨⟨⟨⟨⟨⟨⟨⟨⟨⟨h0, h1⟩, h2⟩, h3⟩, h4⟩, h5⟩, h6⟩, h7⟩, h8⟩, h9⟩, g1⟩, g2⟩, g3⟩, g4⟩, g5⟩, g6⟩ := h
      have lx := loc_of h8
      have ly := loc_of h9
      rw [← hx.hsc] at lx ly
      exact st_par2 (hx.calm h0) hx.nd (by rw [hx.hN]; exact h1) (by rw [hx.hN]; exact h2) h3 lx ly (sE k a hx.toSx _ g5).1 (sE k b hx.toSx _ g6).1 (nst_star g1) (nst_star g2) (sw_par2 hx.kd lx ly h5 h4 g1 g2 h6 h7) rfl
    · cases h
  | .par3 i j l a b e, n, X, sc, W, k, hx, st, h => by
    unfold cT at h
    split at h
    · simp only [Bool.and_eq_true, decide_eq_true_eq, Bool.not_eq_true'] at h
      obtain ⟨⟨⟨⟨⟨⟨⟨⟨⟨⟨⟨⟨⟨⟨⟨⟨⟨⟨⟨⟨⟨⟨⟨⟨⟨h0, h1⟩, h2⟩, h3⟩, i1⟩, i2⟩, i3⟩, j1⟩, j2⟩, j3⟩, l1⟩, l2⟩, f1⟩, f2⟩, b1⟩, b2⟩, b3⟩, n1⟩, n2⟩, n3⟩, c1⟩, c2⟩, c3⟩, e1⟩, e2⟩, e3⟩ := h
      have lx := loc_of b1
      have ly := loc_of b2
      have lz := loc_of b3
      rw [← hx.hsc] at lx ly lz
      exact st_par3 (hx.calm h0) hx.nd (by rw [hx.hN]; exact h1) (by rw [hx.hN]; exact h2) (by rw [hx.hN]; exact h3) i1 i2 i3 lx ly lz (sE k a hx.toSx _ e1).1 (sE k b hx.toSx _ e2).1 (sE k e hx.toSx _ e3).1 (nst_star n1) (nst_star n2) (nst_star n3) (sw_par3 hx.kd lx ly lz l1 l2 j1 j2 j3 n1 n2 n3 f1 f2) rfl
    · cases h
  | .del o i, n, X, sc, W, k, hx, st, h => by
    unfold cT at h
    split at h
    · simp only [Bool.and_eq_true] at h
      exact st_del (sE k o hx.toSx _ h.1).1 (sE k i hx.toSx _ h.2).1
    · cases h
  | .lock t, n, X, sc, W, k, hx, st, h => by
    unfold cT at h
    rw [Bool.and_eq_true] at h
    exact st_lock (sT t k { hx with tk := takes0 } _ h.2)
  | .rais i, n, X, sc, W, k, hx, st, h => by
    unfold cT at h
    split at h
    · simp only [Bool.and_eq_true, decide_eq_true_eq] at h
      obtain ⟨⟨⟨h0, h1⟩, h2⟩, h3⟩ := h
      rw [k.excs] at h1
      obtain ⟨q, e1, e2⟩ := get_map h1
      obtain ⟨_, _, g⟩ := hx.cfg
      obtain ⟨x, C⟩ := q
      subst e2
      exact st_rais e1 (hx.calm h0) hx.tk (g.excs _ (List.mem_of_getElem? e1)) (gl_of hx.toSx h2) (okn_of h3).1
    · cases h
  | .try1 body i suite, n, X, sc, W, k, hx, st, h => by
    unfold cT at h
    split at h
    · simp only [Bool.and_eq_true, decide_eq_true_eq] at h
      obtain ⟨⟨⟨⟨⟨h0, h1⟩, h2⟩, h3⟩, h4⟩, h5⟩ := h
      rw [k.excs] at h1
      obtain ⟨q, e1, e2⟩ := get_map h1
      obtain ⟨kk, hr, g⟩ := hx.cfg
      obtain ⟨x, C⟩ := q
      subst e2
      refine st_try1 e1 hx.stk hx.frm ⟨gl_of hx.toSx h2, (okn_of h3).1, .inl (g.excs _ (List.mem_of_getElem? e1)).g⟩ hx.tk g.exm (fun W' pn xe tk' po' => ?_) fun a oe pn => ?_
      · exact sTs body (X := X.tr pn xe) k { hN := hx.hN, nd := hx.nd, hsc := hx.hsc, calm := hx.calm, hu := hx.hu, cfg := ⟨kk, hr, g⟩, tk := tk', stk := hx.stk, frm := hx.frm, po := po', fn := hx.fn, kd := hx.kd } _ h4
      · exact sTs suite (n := { n with cm := false }) (X := X.suite a ((a, oe) :: pn)) (W := W00) ⟨k.fns, k.cons, k.nob, k.mks, k.excs⟩
          { hN := hx.hN, nd := hx.nd, hsc := hx.hsc, calm := fun z => (by cases z), hu := hx.hu, cfg := ⟨kk, fun z => (by cases z), g⟩, tk := takes0, stk := hx.stk, frm := hx.frm, po := PassesOwn.never, fn := hx.fn, kd := hx.kd } _ h5
    · cases h
theorem sTs : ∀ (ts : Ts) {n : Nm} {X : Cx} {sc : Scope} {W : WX}, NmOk c n → Sy X c n.N sc W n.cm → ∀ ls : List Stmt, cTs n ts sc ls = true → PSs X ls (tDT X.K W (wTs c ts))
  | .nil, n, X, sc, W, k, hx, ls, h => by
    unfold cTs at h
    split at h
    · exact ss_nil
    · cases h
  | .cons t r, n, X, sc, W, k, hx, ls, h => by
    unfold cTs at h
    split at h
    · rw [Bool.and_eq_true] at h
      exact ss_cons (wt := wT c t) (wu := wTs c r) (sT t k hx _ h.1) (sTs r k hx _ h.2)
    · cases h
end

/-! ### THE RULE for a def -/
def startD (N : List Str) (ds : List D) : Ro := ds.map some ++ List.replicate (N.length - ds.length) none
theorem rr_start {K : PySem.W.Frag} {S : Hs} {H : Hp} {N : List Str} {vs : List V} {ds : List D} (h : DvA K S H vs ds) : Rr K S H (L2.start N vs) (startD N ds) := by
  unfold L2.start startD
  rw [h.len]
  refine ⟨by simp [h.len], fun i d e => ?_⟩
  by_cases hi : i < ds.length
  · rw [List.getElem?_append_left (by simpa using hi), List.getElem?_map] at e
    cases q : ds[i]? with
    | none => rw [q] at e; cases e
    | some d' =>
      rw [q] at e
      cases e
      obtain ⟨v, e1, e2⟩ := h.get q
      exact ⟨v, by rw [List.getElem?_append_left (by rw [List.length_map, h.len]; exact hi), List.getElem?_map, e1]; rfl, e2⟩
  · rw [List.getElem?_append_right (by simpa using hi), List.getElem?_replicate] at e
    split at e <;> cases e
theorem fn_D {P : Program} {w : World} {K : PySem.W.Frag} {mg : Str → Option Value} {base : Heap} {x qual : Str} {st : Stmt} {f : Addr} {fd : FuncData} {ps : List Str} {kk : Nat} {sp : DSp} {body : Ts} {c : Cfg} {n : Nm} (F : Fun K x qual st f fd) (Sc : FnScope n.N ps (defScope st))
    (nk : NmOk c n) (cfg : CfgOk P w K mg base kk c) (hc : cTs n body (defScope st) (defBody st) = true)
    (vc : ∀ ds S Q Y, sp ds S Q Y → ds.length = ps.length ∧ wTs c body { nx := fun _ S' => Q .non S', rt := Q, ex := fun x _ S' => Y x S' } (startD n.N ds) S) : FnOk P w K mg base (L2.CX P w) (kk + 1) f fd ps (toSp K sp) := by
  refine F.okX Sc (fun vs H Q E h => ?_) (fun cdv A outer s H vs Q E hr h => ?_)
  · obtain ⟨ds, S, Q', X', r, da, hs, k, kx⟩ := h
    rw [da.len]
    exact (vc ds S Q' X' hs).1
  · obtain ⟨ds, S, Q', X', r, da, hs, k, kx⟩ := h
    have tk : Takes (cxOf (L2.CX P w) P w K mg base n.N qual (defScope st) f cdv A outer s H E) (fun cls d _ H => E cls d H) := takes_of rfl rfl rfl rfl
    have hx : Sy (cxOf (L2.CX P w) P w K mg base n.N qual (defScope st) f cdv A outer s H E) c n.N (defScope st) (fun cls d _ H => E cls d H) n.cm :=
      { hN := rfl, nd := Sc.nd, hsc := rfl, calm := fun _ => rfl, hu := (by have := hr.un; show (A.deeper _).units + 65 < cLine; omega), cfg := ⟨kk, fun _ => hr, cfg⟩, stk := rfl, frm := rfl, tk := tk, po := passes_of rfl, fn := fun _ => rfl, kd := Sc.kind }
    refine ⟨_, sTs body nk hx _ hc, ?_⟩
    refine ⟨startD n.N ds, S, _, r, rr_start da, (vc ds S Q' X' hs).2, ?_, ?_, ?_, ?_, ?_⟩
    · exact fun σ' H' ρ' S' r' f' rr' q => k _ _ _ _ r' f' .non q
    · exact fun σ' H' ρ' S' r' f' rr' q => q.elim
    · exact fun σ' H' ρ' S' r' f' rr' q => q.elim
    · exact fun v H' d S' r' f' x' q => k _ _ _ _ r' f' x' q
    · exact fun cls dx σ' H' x ρ' S' r' f' rr' z q => kx _ _ _ _ _ r' f' z q
end
end Dz
namespace Dz
open PySem L2
theorem kit_NoneType_int : kitB "NoneType" "int" = some false := by decide +kernel
theorem kit_NoneType_bool : kitB "NoneType" "bool" = some false := by decide +kernel
theorem kit_NoneType_str : kitB "NoneType" "str" = some false := by decide +kernel
theorem kit_NoneType_tuple : kitB "NoneType" "tuple" = some false := by decide +kernel
theorem kit_NoneType_list : kitB "NoneType" "list" = some false := by decide +kernel
theorem kit_NoneType_dict : kitB "NoneType" "dict" = some false := by decide +kernel
theorem kit_bool_int : kitB "bool" "int" = some true := by decide +kernel
theorem kit_bool_bool : kitB "bool" "bool" = some true := by decide +kernel
theorem kit_bool_str : kitB "bool" "str" = some false := by decide +kernel
theorem kit_bool_tuple : kitB "bool" "tuple" = some false := by decide +kernel
theorem kit_bool_list : kitB "bool" "list" = some false := by decide +kernel
theorem kit_bool_dict : kitB "bool" "dict" = some false := by decide +kernel
theorem kit_int_int : kitB "int" "int" = some true := by decide +kernel
theorem kit_int_bool : kitB "int" "bool" = some false := by decide +kernel
theorem kit_int_str : kitB "int" "str" = some false := by decide +kernel
theorem kit_int_tuple : kitB "int" "tuple" = some false := by decide +kernel
theorem kit_int_list : kitB "int" "list" = some false := by decide +kernel
theorem kit_int_dict : kitB "int" "dict" = some false := by decide +kernel
theorem kit_str_int : kitB "str" "int" = some false := by decide +kernel
theorem kit_str_bool : kitB "str" "bool" = some false := by decide +kernel
theorem kit_str_str : kitB "str" "str" = some true := by decide +kernel
theorem kit_str_tuple : kitB "str" "tuple" = some false := by decide +kernel
theorem kit_str_list : kitB "str" "list" = some false := by decide +kernel
theorem kit_str_dict : kitB "str" "dict" = some false := by decide +kernel
theorem kit_list_int : kitB "list" "int" = some false := by decide +kernel
theorem kit_list_bool : kitB "list" "bool" = some false := by decide +kernel
theorem kit_list_str : kitB "list" "str" = some false := by decide +kernel
theorem kit_list_tuple : kitB "list" "tuple" = some false := by decide +kernel
theorem kit_list_list : kitB "list" "list" = some true := by decide +kernel
theorem kit_list_dict : kitB "list" "dict" = some false := by decide +kernel
theorem kit_tuple_int : kitB "tuple" "int" = some false := by decide +kernel
theorem kit_tuple_bool : kitB "tuple" "bool" = some false := by decide +kernel
theorem kit_tuple_str : kitB "tuple" "str" = some false := by decide +kernel
theorem kit_tuple_tuple : kitB "tuple" "tuple" = some true := by decide +kernel
theorem kit_tuple_list : kitB "tuple" "list" = some false := by decide +kernel
theorem kit_tuple_dict : kitB "tuple" "dict" = some false := by decide +kernel
theorem kit_dict_int : kitB "dict" "int" = some false := by decide +kernel
theorem kit_dict_bool : kitB "dict" "bool" = some false := by decide +kernel
theorem kit_dict_str : kitB "dict" "str" = some false := by decide +kernel
theorem kit_dict_tuple : kitB "dict" "tuple" = some false := by decide +kernel
theorem kit_dict_list : kitB "dict" "list" = some false := by decide +kernel
theorem kit_dict_dict : kitB "dict" "dict" = some true := by decide +kernel
theorem isiAny_nil {t : String} : isiAny t [] = some false := rfl
theorem isiAny_cons {t c : String} {cs : List String} : isiAny t (c :: cs) = (match kitB t c with | some true => some true | some false => isiAny t cs | none => none) := rfl

section
variable {S : Hs} {rt : QD} {Q : QD} {a : Addr} {xs ys : List D}
theorem ret_any {d : D} (h : rt d S) : retW d S rt := .inl h
theorem ret_frz (h : S a = some (.lst xs)) (q : rt (.lst xs) (sdel S a)) : retW (.ref a) S rt := .inr ⟨a, xs, rfl, h, q⟩
theorem ret_non : retW .non S rt = rt .non S := propext ⟨fun h => h.elim id fun ⟨_, _, e, _⟩ => (by cases e), .inl⟩
theorem ret_bl {b : Bool} : retW (.bl b) S rt = rt (.bl b) S := propext ⟨fun h => h.elim id fun ⟨_, _, e, _⟩ => (by cases e), .inl⟩
theorem ret_int {b : Int} : retW (.int b) S rt = rt (.int b) S := propext ⟨fun h => h.elim id fun ⟨_, _, e, _⟩ => (by cases e), .inl⟩
theorem ret_str {b : Str} : retW (.str b) S rt = rt (.str b) S := propext ⟨fun h => h.elim id fun ⟨_, _, e, _⟩ => (by cases e), .inl⟩
theorem ret_tup : retW (.tup xs) S rt = rt (.tup xs) S := propext ⟨fun h => h.elim id fun ⟨_, _, e, _⟩ => (by cases e), .inl⟩
theorem ret_lst : retW (.lst xs) S rt = rt (.lst xs) S := propext ⟨fun h => h.elim id fun ⟨_, _, e, _⟩ => (by cases e), .inl⟩
theorem newL_f (h : Q (.lst xs) S) : NewL xs S Q := .inl h
theorem newL_l (h : ∀ p, S p = none → Q (.ref p) (sup S p (.lst xs))) : NewL xs S Q := .inr h
theorem atI_0 {α : Type} {x : α} {xs : List α} : atI (x :: xs) 0 = some x := by
  have := atI_nat (xs := x :: xs) (j := 0) (v := x) rfl
  simpa using this
theorem atI_1 {α : Type} {x y : α} {xs : List α} : atI (x :: y :: xs) 1 = some y := by
  have := atI_nat (xs := x :: y :: xs) (j := 1) (v := y) rfl
  simpa using this
theorem atI_2 {α : Type} {x y z : α} {xs : List α} : atI (x :: y :: z :: xs) 2 = some z := by
  have := atI_nat (xs := x :: y :: z :: xs) (j := 2) (v := z) rfl
  simpa using this
theorem atI_3 {α : Type} {x y z u : α} {xs : List α} : atI (x :: y :: z :: u :: xs) 3 = some u := by
  have := atI_nat (xs := x :: y :: z :: u :: xs) (j := 3) (v := u) rfl
  simpa using this
theorem atI_4 {α : Type} {x y z u w : α} {xs : List α} : atI (x :: y :: z :: u :: w :: xs) 4 = some w := by
  have := atI_nat (xs := x :: y :: z :: u :: w :: xs) (j := 4) (v := w) rfl
  simpa using this
theorem ixN_lit {n : Nat} {i : Nat} (h : i < n) : ixN n (i : Int) = some i := by
  unfold ixN
  rw [if_pos (by omega), if_pos (by omega)]
  simp
theorem lstOf_live (h : S a = some (.lst xs)) : lstOf S (.ref a) = some xs := by
  unfold lstOf
  simp only [h]
theorem lstOf_lst : lstOf S (.lst xs) = some xs := rfl
theorem seqOf_lst : seqOf S (.lst xs) = some xs := rfl
theorem seqOf_tup : seqOf S (.tup xs) = some xs := rfl
theorem seqOf_live (h : S a = some (.lst xs)) : seqOf S (.ref a) = some xs := lstOf_live h
end
/-! ### comprehensions -/
section
variable {vs : List Nat} {wg : D → Ro → Hs → (Ro → Hs → Prop) → XQ → Prop} {wc : WB} {we : WE} {ρ : Ro} {Q : QD} {ds : List D} {Pr : Hs → Prop} {S : Hs}
/-- by an invariant over the live objects without the new list -/
theorem comp_inv (W : Nat → List D → Hs → Prop) (hl : ds.length ≤ sizeLine) (w0 : ∀ L, S L = none → W 0 [] (sup S L (.lst [])))
    (turn : ∀ L, S L = none → ∀ i x acc S2, ds[i]? = some x → acc.length ≤ i → W i acc S2 → S2 L = some (.lst acc) ∧ Pr S2 ∧ wg x (wipeD ρ vs) S2 (fun ρ' S3 =>
        wc ρ' S3 (fun b S4 => if b = true then we ρ' S4 (fun y S5 => S5 L = some (.lst acc) ∧ W (i + 1) (acc ++ [y]) (sup S5 L (.lst (acc ++ [y])))) X0 else W (i + 1) acc S4) X0) X0)
    (done : ∀ L, S L = none → ∀ acc S2, acc.length ≤ ds.length → W ds.length acc S2 → S2 L = some (.lst acc) ∧ Pr S2 ∧ (Q (.lst acc) (sdel S2 L) ∨ Q (.ref L) S2)) : compB vs wg wc we ρ Q ds Pr S :=
  ⟨hl, fun L hL => ⟨W, w0 L hL, turn L hL, done L hL⟩⟩
/-- each item gives by f a value or none; nothing else changes -/
theorem comp_pure (f : D → Option D) (hl : ds.length ≤ sizeLine) (hp : ∀ S2 : Hs, (∀ a o, S a = some o → S2 a = some o) → Pr S2)
    (turn : ∀ (i : Nat) x S2 (K : QD) (K' : Hs → Prop), ds[i]? = some x → (∀ a o, S a = some o → S2 a = some o) → (∀ y, f x = some y → K y S2) → (f x = none → K' S2) → wg x (wipeD ρ vs) S2 (fun ρ' S3 =>
        wc ρ' S3 (fun b S4 => if b = true then we ρ' S4 K X0 else K' S4) X0) X0)
    (q : Q (.lst (ds.filterMap f)) S) : compB vs wg wc we ρ Q ds Pr S := by
  refine ⟨hl, fun L hL => ⟨fun i acc S2 => acc = (ds.take i).filterMap f ∧ S2 = sup S L (.lst acc), ⟨rfl, rfl⟩, ?_, ?_⟩⟩
  · rintro i x acc S2 hi _ ⟨rfl, rfl⟩
    have ext : ∀ a o, S a = some o → (sup S L (.lst ((ds.take i).filterMap f))) a = some o := fun a o h => by rw [sup_ne (sne h hL)]; exact h
    have hlt : i < ds.length := (List.getElem?_eq_some_iff.mp hi).1
    have ht : ds.take (i + 1) = ds.take i ++ [x] := by
      rw [List.take_succ, hi]
      rfl
    refine ⟨sup_same, hp _ ext, turn i x _ _ _ hi ext (fun y hy => ⟨sup_same, ?_, ?_⟩) fun hn => ⟨?_, rfl⟩⟩
    · rw [ht, List.filterMap_append]; simp [hy]
    · rw [sup_sup]
    · rw [ht, List.filterMap_append]; simp [hn]
  · rintro acc S2 _ ⟨rfl, rfl⟩
    rw [List.take_length]
    refine ⟨sup_same, hp _ fun a o h => by rw [sup_ne (sne h hL)]; exact h, .inl ?_⟩
    rw [sdel_sup hL]
    exact q
end
end Dz
namespace Dz
open PySem L2
/-! ### data that can be compared -/
def D.dok (n : Nat) (d : D) : Prop := d.pure = true ∧ d.py.canLay0 = true ∧ d.py.depth ≤ n
theorem dok_int {n : Nat} (i : Int) : D.dok n (.int i) := ⟨rfl, rfl, Nat.zero_le _⟩
theorem dok_bl {n : Nat} (i : Bool) : D.dok n (.bl i) := ⟨rfl, rfl, Nat.zero_le _⟩
theorem dok_non {n : Nat} : D.dok n .non := ⟨rfl, rfl, Nat.zero_le _⟩
theorem dok_str {n : Nat} {x : Str} (h : PyData.canLay0 (.str x) = true) : D.dok n (.str x) := ⟨rfl, h, Nat.zero_le _⟩
theorem dok_all {n : Nat} : ∀ {xs : List D}, (∀ x ∈ xs, D.dok n x) → D.pures xs = true ∧ PyData.canLayAll0 (D.pys xs) = true ∧ PyData.depthAll (D.pys xs) ≤ n
  | [], _ => ⟨rfl, rfl, Nat.zero_le _⟩
  | x :: r, h => by
    obtain ⟨h1, h2, h3⟩ := h x (List.mem_cons_self ..)
    obtain ⟨k1, k2, k3⟩ := dok_all (xs := r) fun y hy => h y (List.mem_cons_of_mem _ hy)
    exact ⟨by simp [D.pures, h1, k1], by simp [D.pys, PyData.canLayAll0, h2, k2], by simp only [D.pys, PyData.depthAll]; omega⟩
theorem dok_tup {n : Nat} {xs : List D} (h : ∀ x ∈ xs, D.dok n x) : D.dok (n + 1) (.tup xs) := by
  obtain ⟨k1, k2, k3⟩ := dok_all h
  exact ⟨k1, k2, by simp only [D.py, PyData.depth]; omega⟩
theorem dok_lst {n : Nat} {xs : List D} (h : ∀ x ∈ xs, D.dok n x) : D.dok (n + 1) (.lst xs) := by
  obtain ⟨k1, k2, k3⟩ := dok_all h
  exact ⟨k1, k2, by simp only [D.py, PyData.depth]; omega⟩
theorem dok_mono {n m : Nat} {d : D} (h : D.dok n d) (l : n ≤ m) : D.dok m d := ⟨h.1, h.2.1, Nat.le_trans h.2.2 l⟩
theorem ok_of {n : Nat} {d : D} (h : D.dok n d) (l : n ≤ 64 := by decide) : d.ok = true := by
  unfold D.ok SeqAt.shaped
  rw [h.1, h.2.1]
  simp only [Bool.true_and, decide_eq_true_eq]
  exact Nat.le_trans h.2.2 l
theorem ok_int {i : Int} : D.ok (.int i) = true := ok_of (n := 0) (dok_int i)
theorem ok_bl {i : Bool} : D.ok (.bl i) = true := ok_of (n := 0) (dok_bl i)
theorem ok_non : D.ok .non = true := ok_of (n := 0) dok_non
/-! ### no bools in it: alike is the same -/
mutual
def D.nb : D → Bool
  | .non => true | .int _ => true | .str _ => true | .tup xs => D.nbs xs | .lst xs => D.nbs xs
  | .bl _ => false | .ref _ => false | .ty _ => false | .ctp _ => false
def D.nbs : List D → Bool
  | [] => true
  | x :: r => x.nb && D.nbs r
end
theorem nbs_all : ∀ {xs : List D}, (∀ x ∈ xs, x.nb = true) → D.nbs xs = true
  | [], _ => rfl
  | x :: r, h => by
    unfold D.nbs
    rw [h x (List.mem_cons_self ..), nbs_all fun y hy => h y (List.mem_cons_of_mem _ hy)]
    rfl
theorem nb_tup {xs : List D} (h : ∀ x ∈ xs, x.nb = true) : (D.tup xs).nb = true := nbs_all h
theorem nb_lst {xs : List D} (h : ∀ x ∈ xs, x.nb = true) : (D.lst xs).nb = true := nbs_all h
mutual
theorem eq_iff : ∀ {d e : D}, d.nb = true → e.nb = true → (D.eq d e = true ↔ d = e)
  | .non, e, _, h => by cases e <;> simp_all [D.eq, D.py, PyData.eqv, D.nb]
  | .int i, e, _, h => by cases e <;> simp_all [D.eq, D.py, PyData.eqv, D.nb]
  | .str x, e, _, h => by cases e <;> simp_all [D.eq, D.py, PyData.eqv, D.nb]
  | .tup xs, e, h', h => by
    cases e with
    | tup ys =>
      have := eqs_iff (xs := xs) (ys := ys) h' h
      simpa [D.eq, D.py, PyData.eqv] using this
    | _ => simp_all [D.eq, D.py, PyData.eqv, D.nb]
  | .lst xs, e, h', h => by
    cases e with
    | lst ys =>
      have := eqs_iff (xs := xs) (ys := ys) h' h
      simpa [D.eq, D.py, PyData.eqv] using this
    | _ => simp_all [D.eq, D.py, PyData.eqv, D.nb]
  | .bl _, _, h, _ => by cases h
  | .ref _, _, h, _ => by cases h
  | .ty _, _, h, _ => by cases h
  | .ctp _, _, h, _ => by cases h
theorem eqs_iff : ∀ {xs ys : List D}, D.nbs xs = true → D.nbs ys = true → (PyData.eqvAll (D.pys xs) (D.pys ys) = true ↔ xs = ys)
  | [], [], _, _ => by simp [D.pys, PyData.eqvAll]
  | [], _ :: _, _, _ => by simp [D.pys, PyData.eqvAll]
  | _ :: _, [], _, _ => by simp [D.pys, PyData.eqvAll]
  | x :: xs, y :: ys, h, k => by
    unfold D.nbs at h k
    rw [Bool.and_eq_true] at h k
    have h1 := eq_iff h.1 k.1
    have h2 := eqs_iff h.2 k.2
    simp only [D.pys, PyData.eqvAll, Bool.and_eq_true]
    rw [show (PyData.eqv x.py y.py = true ↔ x = y) from h1, h2]
    simp
end
theorem eq_dec {d e : D} {p : Prop} [Decidable p] (h : d.nb = true) (k : e.nb = true) (q : d = e ↔ p) : D.eq d e = decide p := by
  have := eq_iff h k
  by_cases hp : p
  · rw [decide_eq_true hp]
    exact this.mpr (q.mpr hp)
  · rw [decide_eq_false hp]
    cases z : D.eq d e
    · rfl
    · exact (hp (q.mp (this.mp z))).elim
theorem eq_self {d : D} (h : d.nb = true) : D.eq d d = true := (eq_iff h h).mpr rfl
theorem eq_int {i j : Int} : D.eq (.int i) (.int j) = decide (i = j) := eq_dec rfl rfl (by simp)
theorem eq_str {i j : Str} : D.eq (.str i) (.str j) = decide (i = j) := eq_dec rfl rfl (by simp)
theorem eq_bl {i j : Bool} : D.eq (.bl i) (.bl j) = decide (i = j) := by cases i <;> cases j <;> rfl
theorem eq_ni {i : Int} : D.eq .non (.int i) = false := rfl
theorem eq_in {i : Int} : D.eq (.int i) .non = false := rfl
theorem any_eq {d : D} {xs : List D} (h : d.nb = true) (k : ∀ x ∈ xs, x.nb = true) : (xs.any fun z => D.eq z d) = true ↔ d ∈ xs := by
  rw [List.any_eq_true]
  constructor
  · rintro ⟨x, hx, q⟩
    rw [(eq_iff (k x hx) h).mp q] at hx
    exact hx
  · intro hx
    exact ⟨d, hx, eq_self h⟩
theorem any_int {i : Int} {ns : List Int} : ((ns.map D.int).any fun z => D.eq z (.int i)) = decide (i ∈ ns) := by
  rw [Bool.eq_iff_iff, any_eq rfl (by simp only [List.mem_map]; rintro x ⟨a, _, rfl⟩; rfl)]
  simp
/-! ### what stays, where something is live besides -/
def Sub (S S' : Hs) : Prop := ∀ a o, S a = some o → S' a = some o
theorem Sub.refl (S : Hs) : Sub S S := fun _ _ h => h
theorem Sub.sup_new {S S' : Hs} {a : Addr} {o : MO} (h : S a = none) (k : Sub S S') : Sub S (sup S' a o) := fun b u e => by
  rw [sup_ne (sne e h)]
  exact k b u e
theorem Sub.sup {S S' : Hs} {a : Addr} {o : MO} (k : Sub S S') : Sub (sup S a o) (sup S' a o) := fun b u e => by
  by_cases z : b = a
  · subst z; rw [sup_same] at e ⊢; exact e
  · rw [sup_ne z] at e ⊢; exact k b u e
section
variable {K : PySem.W.Frag} {S S' : Hs} {H H' : Hp}
theorem fr_sub (k : Sub S' S) : Fr S H S' H := ⟨fun a u e s => ⟨e, by
  cases z : S' a with
  | none => rfl
  | some o => rw [k a o z] at s; cases s⟩, fun _ _ _ e => e⟩
theorem rs_sub (r : Rs K S H) (k : Sub S' S) : Rs K S' H := fun a u e => by
  obtain ⟨w, e1, e2⟩ := r a u (k a u e)
  exact ⟨w, e1, e2.mono (fr_sub k)⟩
end
def dropQ (Q : QD) : QD := fun d S => ∃ S', Sub S' S ∧ Q d S'
def dropX (Q : XQ) : XQ := fun d S => ∃ S', Sub S' S ∧ Q d S'
theorem endQ_drop {K : PySem.W.Frag} {S : Hs} {H : Hp} {Q' : QD} {Q : VK} (k : EndQ K S H Q' Q) : EndQ K S H (dropQ Q') Q := fun v H' d S' r f x q => by
  obtain ⟨S2, hs, q⟩ := q
  exact k v H' d S2 (rs_sub r hs) (f.trans (fr_sub hs)) (x.mono (fr_sub hs)) q
/-- THE RULE, where live objects of the def's own are left behind -/
theorem fn_Dd {P : Program} {w : World} {K : PySem.W.Frag} {mg : Str → Option Value} {base : Heap} {x qual : Str} {st : Stmt} {f : Addr} {fd : FuncData} {ps : List Str} {kk : Nat} {sp : DSp} {body : Ts} {c : Cfg} {n : Nm} (F : Fun K x qual st f fd) (Sc : FnScope n.N ps (defScope st))
    (nk : NmOk c n) (cfg : CfgOk P w K mg base kk c) (hc : cTs n body (defScope st) (defBody st) = true)
    (vc : ∀ ds S Q Y, sp ds S Q Y → ds.length = ps.length ∧ wTs c body { nx := fun _ S' => dropQ Q .non S', rt := dropQ Q, ex := fun x _ S' => Y x S' } (startD n.N ds) S) : FnOk P w K mg base (L2.CX P w) (kk + 1) f fd ps (toSp K sp) := by
  refine (fn_D (sp := fun ds S Q Y => ∃ Q0, sp ds S Q0 Y ∧ Q = dropQ Q0) F Sc nk cfg hc fun ds S Q Y h => ?_).imp ?_
  · obtain ⟨Q0, h, rfl⟩ := h
    exact vc ds S Q0 Y h
  · rintro vs H Q E ⟨ds, S, Q', X', r, da, hs, k, kx⟩
    exact ⟨ds, S, dropQ Q', X', r, da, ⟨Q', hs, rfl⟩, endQ_drop k, kx⟩
end Dz
namespace Dz
open PySem L2
theorem for_inv {wg : D → Ro → Hs → (Ro → Hs → Prop) → XQ → Prop} {wt : WT} {Z : DE} {ρ : Ro} {ds : List D} {Pr : Hs → Prop} {S1 : Hs} (W : Nat → Ro → Hs → Prop) (w0 : W 0 ρ S1)
    (turn : ∀ i x ρ2 S2, ds[i]? = some x → W i ρ2 S2 → Pr S2 ∧ wg x ρ2 S2 (fun ρ3 S3 => wt { nx := W (i + 1), rt := Z.rt, bk := Z.nx, ct := W (i + 1), ex := Z.ex } ρ3 S3) (fun x S' => Z.ex x ρ2 S'))
    (done : ∀ ρ2 S2, W ds.length ρ2 S2 → Pr S2 ∧ Z.nx ρ2 S2) : forB wg wt Z ρ ds Pr S1 := ⟨W, w0, turn, done⟩
theorem drop_of {α : Type} : ∀ {xs : List α} {i : Nat} {x : α}, xs[i]? = some x → xs.drop i = x :: xs.drop (i + 1)
  | [], _, _, h => by simp at h
  | y :: r, 0, x, h => by simp at h; simp [h]
  | y :: r, i + 1, x, h => by
    have := drop_of (xs := r) (i := i) (x := x) (by simpa using h)
    simpa using this
theorem take_of {α : Type} {xs : List α} {i : Nat} {x : α} (h : xs[i]? = some x) : xs.take (i + 1) = xs.take i ++ [x] := by
  rw [List.take_add_one, h]; rfl
theorem map_of {α β : Type} {f : α → β} {xs : List α} {i : Nat} {y : β} (h : (xs.map f)[i]? = some y) : ∃ x, xs[i]? = some x ∧ y = f x := by
  rw [List.getElem?_map] at h
  cases e : xs[i]? with
  | none => rw [e] at h; cases h
  | some x => rw [e] at h; cases h; exact ⟨x, rfl, rfl⟩
theorem lt_of {α : Type} {xs : List α} {i : Nat} {x : α} (h : xs[i]? = some x) : i < xs.length := (List.getElem?_eq_some_iff.mp h).1
theorem mem_of {α : Type} {xs : List α} {i : Nat} {x : α} (h : xs[i]? = some x) : x ∈ xs := List.mem_of_getElem? h
theorem enum_of {xs : List D} {i : Nat} {y : D} (h : (enumD xs)[i]? = some y) : ∃ x, xs[i]? = some x ∧ y = .tup [.int (i : Nat), x] := by
  unfold enumD at h
  rw [List.getElem?_mapIdx] at h
  cases e : xs[i]? with
  | none => rw [e] at h; cases h
  | some x => rw [e] at h; cases h; exact ⟨x, rfl, rfl⟩
theorem enum_len {xs : List D} : (enumD xs).length = xs.length := by unfold enumD; simp
theorem rng_of {lo : Int} {n i : Nat} {y : D} (h : (rngD lo n)[i]? = some y) : i < n ∧ y = .int (lo + (i : Nat)) := by
  unfold rngD at h
  obtain ⟨j, e, rfl⟩ := map_of h
  have := lt_of e
  rw [List.length_range] at this
  rw [List.getElem?_range this] at e
  cases e
  exact ⟨this, rfl⟩
theorem rng_len {lo : Int} {n : Nat} : (rngD lo n).length = n := by unfold rngD; simp
theorem atI_of {α : Type} {xs : List α} {i : Nat} {x : α} (h : xs[i]? = some x) : atI xs (i : Int) = some x := atI_nat h
theorem atI_i {α : Type} {xs : List α} {k : Int} {i : Nat} {x : α} (e : k = (i : Int)) (h : xs[i]? = some x) : atI xs k = some x := by rw [e]; exact atI_nat h
theorem get_lt {α : Type} {xs : List α} {i : Nat} (h : i < xs.length) : ∃ x, xs[i]? = some x := ⟨_, List.getElem?_eq_getElem h⟩
theorem comp_pureM {vs : List Nat} {wg : D → Ro → Hs → (Ro → Hs → Prop) → XQ → Prop} {wc : WB} {we : WE} {ρ : Ro} {Q : QD} {Pr : Hs → Prop} {S : Hs} {α : Type} {xs : List α} {g : α → D} (f : α → Option D) (hl : xs.length ≤ sizeLine) (hp : ∀ S2 : Hs, (∀ a o, S a = some o → S2 a = some o) → Pr S2)
    (turn : ∀ (i : Nat) x S2 (K : QD) (K' : Hs → Prop), xs[i]? = some x → (∀ a o, S a = some o → S2 a = some o) → (∀ y, f x = some y → K y S2) → (f x = none → K' S2) → wg (g x) (wipeD ρ vs) S2 (fun ρ' S3 =>
        wc ρ' S3 (fun b S4 => if b = true then we ρ' S4 K X0 else K' S4) X0) X0)
    (q : Q (.lst (xs.filterMap f)) S) : compB vs wg wc we ρ Q (xs.map g) Pr S := by
  refine ⟨by rw [List.length_map]; exact hl, fun L hL => ⟨fun i acc S2 => acc = (xs.take i).filterMap f ∧ S2 = sup S L (.lst acc), ⟨rfl, rfl⟩, ?_, ?_⟩⟩
  · rintro i x acc S2 hi _ ⟨rfl, rfl⟩
    obtain ⟨x, hi2, rfl⟩ := map_of hi
    clear hi
    have hi := hi2
    have ext : ∀ a o, S a = some o → (sup S L (.lst ((xs.take i).filterMap f))) a = some o := fun a o h => by rw [sup_ne (sne h hL)]; exact h
    have ht := take_of hi
    refine ⟨sup_same, hp _ ext, turn i x _ _ _ hi ext (fun y hy => ⟨sup_same, ?_, ?_⟩) fun hn => ⟨?_, rfl⟩⟩
    · rw [ht, List.filterMap_append]; simp [hy]
    · rw [sup_sup]
    · rw [ht, List.filterMap_append]; simp [hn]
  · rintro acc S2 _ ⟨rfl, rfl⟩
    rw [List.length_map, List.take_length]
    refine ⟨sup_same, hp _ fun a o h => by rw [sup_ne (sne h hL)]; exact h, .inl ?_⟩
    rw [sdel_sup hL]
    exact q
theorem filterMap_if {α β : Type} {p : α → Bool} {f : α → β} {xs : List α} : xs.filterMap (fun x => if p x = true then some (f x) else none) = (xs.filter p).map f := by
  induction xs with
  | nil => rfl
  | cons a r ih => by_cases h : p a = true <;> simp [h, ih]
theorem filterMap_all {α β : Type} {f : α → β} {xs : List α} : xs.filterMap (fun x => some (f x)) = xs.map f := by
  induction xs with
  | nil => rfl
  | cons a r ih => simp [ih]
theorem cut_map {α : Type} {g : α → D} {xs : List α} {lo hi : Option Int} : ∃ ys : List α, cutD (xs.map g) lo hi = ys.map g ∧ ys.length ≤ xs.length ∧ (∀ y ∈ ys, y ∈ xs) := by
  unfold cutD
  rw [List.length_map, ← List.map_drop, ← List.map_take]
  refine ⟨_, rfl, ?_, fun y h => List.mem_of_mem_drop (List.mem_of_mem_take h)⟩
  rw [List.length_take, List.length_drop]
  omega
theorem cut_len {xs : List D} {k : Nat} : (cutD xs none (some (k : Int))).length ≤ k := by
  unfold cutD
  rw [HT.sIx_none, HT.sIx_nat, List.length_take]
  omega
theorem sup_3 {S : Hs} {a b : Addr} {o u v : MO} (h : a ≠ b) : sup (sup (sup S a o) b u) a v = sup (sup S a v) b u := by
  rw [← sup_comm (S := sup S a o) h, sup_sup]
theorem none_sup {S : Hs} {a b : Addr} {o : MO} (h : sup S a o b = none) : b ≠ a ∧ S b = none := by
  unfold sup at h
  by_cases e : b = a
  · rw [if_pos e] at h; cases h
  · rw [if_neg e] at h; exact ⟨e, h⟩
theorem cdw {i j : Int} (h : 0 < j) (h' : j < 2 ^ 64) : CDivW i j := by
  refine ⟨h, ?_⟩
  have : j.natAbs < 2 ^ 64 := by omega
  have := (Nat.log2_lt (by omega)).mpr this
  omega
theorem sort_mem {ns : List Int} {i : Int} : i ∈ sortI ns ↔ i ∈ ns := by unfold sortI; exact List.mem_mergeSort
theorem sort_len {ns : List Int} : (sortI ns).length = ns.length := by unfold sortI; exact List.length_mergeSort ..
theorem sort_le (ns : List Int) : (sortI ns).Pairwise (· ≤ ·) := by
  have := List.pairwise_mergeSort (le := fun a b : Int => decide (a ≤ b)) (by intro a b c; simp; omega) (by intro a b; simp; omega) ns
  unfold sortI
  refine this.imp ?_
  intro a b h; simpa using h
theorem sort_nodup {ns : List Int} (h : ns.Nodup) : (sortI ns).Nodup := by
  unfold sortI
  exact (List.mergeSort_perm ns _).nodup_iff.mpr h
theorem sort_lt {ns : List Int} (h : ns.Nodup) : (sortI ns).Pairwise (· < ·) := by
  have a := sort_le ns
  have b := sort_nodup h
  exact (a.and b).imp fun h => by omega
end Dz
namespace Dz
open PySem L2
def ForK (c : Cfg) (g : G) (body : Ts) (Z : DE) (ρ : Ro) : QI := forB (wG c g) (wTs c body) Z ρ
def WhilK (c : Cfg) (t : E) (body : Ts) (Z : DE) (ρ : Ro) (S : Hs) : Prop := whilB (wB c t) (wTs c body) Z ρ S
def CompK (c : Cfg) (own : List (Str × Nat)) (g : G) (cond : Es) (elt : E) (ρ : Ro) (Q : QD) : QI := compB (own.map (·.2)) (wG c g) (wC c cond) (wE c elt) ρ Q
def DCompK (c : Cfg) (own : List (Str × Nat)) (g : G) (cond : Es) (ke ve : E) (ρ : Ro) (Q : QD) : QI := dcompB (own.map (·.2)) (wG c g) (wC c cond) (wE c ke) (wE c ve) ρ Q
section
variable {c : Cfg}
theorem wE_var {i : Nat} {ρ : Ro} {S : Hs} {X : XQ} {Q : QD} : wE c (E.var i) ρ S Q X = (∃ d, ρ[i]? = some (some d) ∧ Q d S) := by first | rfl | simp only [wE, ForK, WhilK, CompK, DCompK]
theorem wE_int {i : Int} {ρ : Ro} {S : Hs} {X : XQ} {Q : QD} : wE c (E.int i) ρ S Q X = (Q (.int i) S) := by first | rfl | simp only [wE, ForK, WhilK, CompK, DCompK]
theorem wE_str {x : Str} {ρ : Ro} {S : Hs} {X : XQ} {Q : QD} : wE c (E.str x) ρ S Q X = (Q (.str x) S) := by first | rfl | simp only [wE, ForK, WhilK, CompK, DCompK]
theorem wE_bl {b : Bool} {ρ : Ro} {S : Hs} {X : XQ} {Q : QD} : wE c (E.bl b) ρ S Q X = (Q (.bl b) S) := by first | rfl | simp only [wE, ForK, WhilK, CompK, DCompK]
theorem wE_non  {ρ : Ro} {S : Hs} {X : XQ} {Q : QD} : wE c (E.non) ρ S Q X = (Q .non S) := by first | rfl | simp only [wE, ForK, WhilK, CompK, DCompK]
theorem wE_glob {i : Nat} {ρ : Ro} {S : Hs} {X : XQ} {Q : QD} : wE c (E.glob i) ρ S Q X = (∃ p, c.cons[i]? = some p ∧ Q p.2 S) := by first | rfl | simp only [wE, ForK, WhilK, CompK, DCompK]
theorem wE_b2 {o : B2} {a : E} {b : E} {ρ : Ro} {S : Hs} {X : XQ} {Q : QD} : wE c (E.b2 o a b) ρ S Q X = (wE c a ρ S (fun x S1 => wE c b ρ S1 (fun y S2 => o.w x y S2 Q) X) X) := by first | rfl | simp only [wE, ForK, WhilK, CompK, DCompK]
theorem wE_neg {a : E} {ρ : Ro} {S : Hs} {X : XQ} {Q : QD} : wE c (E.neg a) ρ S Q X = (wE c a ρ S (fun x S1 => negW x S1 Q) X) := by first | rfl | simp only [wE, ForK, WhilK, CompK, DCompK]
theorem wE_cm {o : Cm} {a : E} {b : E} {ρ : Ro} {S : Hs} {X : XQ} {Q : QD} : wE c (E.cm o a b) ρ S Q X = (wE c a ρ S (fun x S1 => wE c b ρ S1 (fun y S2 => o.w x y S2 Q) X) X) := by first | rfl | simp only [wE, ForK, WhilK, CompK, DCompK]
theorem wE_ch {o : Cm} {o' : Cm} {a : E} {b : E} {e : E} {ρ : Ro} {S : Hs} {X : XQ} {Q : QD} : wE c (E.ch o o' a b e) ρ S Q X = (wE c a ρ S (fun x S1 => wE c b ρ S1 (fun y S2 => o.w x y S2 fun z S3 => ∃ k, z = .bl k ∧ if k = true then wE c e ρ S3 (fun w S4 => o'.w y w S4 Q) X else Q (.bl false) S3) X) X) := by first | rfl | simp only [wE, ForK, WhilK, CompK, DCompK]
theorem wE_not {a : E} {ρ : Ro} {S : Hs} {X : XQ} {Q : QD} : wE c (E.not a) ρ S Q X = (wE c a ρ S (fun x S1 => ∃ k, x = .bl k ∧ Q (.bl (!k)) S1) X) := by first | rfl | simp only [wE, ForK, WhilK, CompK, DCompK]
theorem wE_and {es : Es} {ρ : Ro} {S : Hs} {X : XQ} {Q : QD} : wE c (E.and es) ρ S Q X = (wAnd c es ρ S Q X) := by first | rfl | simp only [wE, ForK, WhilK, CompK, DCompK]
theorem wE_or {es : Es} {ρ : Ro} {S : Hs} {X : XQ} {Q : QD} : wE c (E.or es) ρ S Q X = (wOr c es ρ S Q X) := by first | rfl | simp only [wE, ForK, WhilK, CompK, DCompK]
theorem wE_ife {t : E} {a : E} {b : E} {ρ : Ro} {S : Hs} {X : XQ} {Q : QD} : wE c (E.ife t a b) ρ S Q X = (wB c t ρ S (fun k S1 => if k = true then wE c a ρ S1 Q X else wE c b ρ S1 Q X) X) := by first | rfl | simp only [wE, ForK, WhilK, CompK, DCompK]
theorem wE_tup {es : Es} {ρ : Ro} {S : Hs} {X : XQ} {Q : QD} : wE c (E.tup es) ρ S Q X = (wEs c es ρ S (fun ds S1 => ds.length ≤ sizeLine ∧ Q (.tup ds) S1) X) := by first | rfl | simp only [wE, ForK, WhilK, CompK, DCompK]
theorem wE_lst {es : Es} {ρ : Ro} {S : Hs} {X : XQ} {Q : QD} : wE c (E.lst es) ρ S Q X = (wEs c es ρ S (fun ds S1 => ds.length ≤ sizeLine ∧ NewL ds S1 Q) X) := by first | rfl | simp only [wE, ForK, WhilK, CompK, DCompK]
theorem wE_ix {a : E} {i : E} {ρ : Ro} {S : Hs} {X : XQ} {Q : QD} : wE c (E.ix a i) ρ S Q X = (wE c a ρ S (fun x S1 => wE c i ρ S1 (fun y S2 => ixW x y S2 Q) X) X) := by first | rfl | simp only [wE, ForK, WhilK, CompK, DCompK]
theorem wE_sl {a : E} {lo : O} {hi : O} {ρ : Ro} {S : Hs} {X : XQ} {Q : QD} : wE c (E.sl a lo hi) ρ S Q X = (wE c a ρ S (fun x S1 => wO c lo ρ S1 (fun l S2 => wO c hi ρ S2 (fun h S3 => slW x l h S3 Q) X) X) X) := by first | rfl | simp only [wE, ForK, WhilK, CompK, DCompK]
theorem wE_rev {a : E} {ρ : Ro} {S : Hs} {X : XQ} {Q : QD} : wE c (E.rev a) ρ S Q X = (wE c a ρ S (fun x S1 => revW x S1 Q) X) := by first | rfl | simp only [wE, ForK, WhilK, CompK, DCompK]
theorem wE_bi {f : Bi} {es : Es} {ρ : Ro} {S : Hs} {X : XQ} {Q : QD} : wE c (E.bi f es) ρ S Q X = (wEs c es ρ S (fun ds S1 => f.w ds S1 Q) X) := by first | rfl | simp only [wE, ForK, WhilK, CompK, DCompK]
theorem wE_isi {a : E} {ts : List String} {ρ : Ro} {S : Hs} {X : XQ} {Q : QD} : wE c (E.isi a ts) ρ S Q X = (wE c a ρ S (fun x S1 => ∃ t b, tyName S1 x = some t ∧ isiAny t ts = some b ∧ Q (.bl b) S1) X) := by first | rfl | simp only [wE, ForK, WhilK, CompK, DCompK]
theorem wE_call {i : Nat} {es : Es} {ρ : Ro} {S : Hs} {X : XQ} {Q : QD} : wE c (E.call i es) ρ S Q X = (wEs c es ρ S (fun ds S1 => ∃ p, c.fns[i]? = some p ∧ p.2 ds S1 Q X) X) := by first | rfl | simp only [wE, ForK, WhilK, CompK, DCompK]
theorem wE_bm {f : Bm} {o : E} {es : Es} {ρ : Ro} {S : Hs} {X : XQ} {Q : QD} : wE c (E.bm f o es) ρ S Q X = (wE c o ρ S (fun x S1 => f.ty S1 x ∧ wEs c es ρ S1 (fun ds S2 => f.w (x :: ds) S2 Q) X) X) := by first | rfl | simp only [wE, ForK, WhilK, CompK, DCompK]
theorem wE_comp {own : List (Str × Nat)} {g : G} {it : It} {cond : Es} {elt : E} {ρ : Ro} {S : Hs} {X : XQ} {Q : QD} : wE c (E.comp own g it cond elt) ρ S Q X = (wI c it ρ S (CompK c own g cond elt ρ Q) X) := by first | rfl | simp only [wE, ForK, WhilK, CompK, DCompK]
theorem wE_call0 {i : Nat} {ρ : Ro} {S : Hs} {X : XQ} {Q : QD} : wE c (E.call0 i) ρ S Q X = (∃ p, c.fns[i]? = some p ∧ p.2 [] S Q X) := by first | rfl | simp only [wE, ForK, WhilK, CompK, DCompK]
theorem wE_fld {o : E} {f : Str} {ρ : Ro} {S : Hs} {X : XQ} {Q : QD} : wE c (E.fld o f) ρ S Q X = (wE c o ρ S (fun x S1 => ∃ a C fs d, x = .ref a ∧ S1 a = some (.ins C fs) ∧ (C, f) ∈ c.flds ∧ fs.lookup f = some d ∧ Q d S1) X) := by first | rfl | simp only [wE, ForK, WhilK, CompK, DCompK]
theorem wE_mt {o : E} {m : Str} {es : Es} {ρ : Ro} {S : Hs} {X : XQ} {Q : QD} : wE c (E.mt o m es) ρ S Q X = (wE c o ρ S (fun x S1 => ∃ a fs p, x = .ref a ∧ p ∈ c.mths ∧ p.name = m ∧ S1 a = some (.ins p.C fs) ∧ fs.lookup m = none ∧ wEs c es ρ S1 (fun ds S2 => p.sp (x :: ds) S2 Q X) X) X) := by first | rfl | simp only [wE, ForK, WhilK, CompK, DCompK]
theorem wE_mk {i : Nat} {es : Es} {ρ : Ro} {S : Hs} {X : XQ} {Q : QD} : wE c (E.mk i es) ρ S Q X = (wEs c es ρ S (fun ds S1 => ∃ p, c.mks[i]? = some p ∧ ∀ y, S1 y = none → p.sp (.ref y :: ds) (sup S1 y (.ins p.C [])) (fun d S2 => d = .non ∧ Q (.ref y) S2) X) X) := by first | rfl | simp only [wE, ForK, WhilK, CompK, DCompK]
theorem wE_dic {kvs : Es} {ρ : Ro} {S : Hs} {X : XQ} {Q : QD} : wE c (E.dic kvs) ρ S Q X = (∀ y, S y = none → wPr c kvs ρ (sup S y (.dK [])) (fun ps S2 => S2 y = some (.dK []) ∧ ∃ kvs : List (Key × D), ps = kvs.map (fun p => (keyD p.1, p.2)) ∧ kvs.length ≤ 15 ∧ Q (.ref y) (sup S2 y (.dK (mergeD [] kvs)))) X) := by first | rfl | simp only [wE, ForK, WhilK, CompK, DCompK]
theorem wE_dic0  {ρ : Ro} {S : Hs} {X : XQ} {Q : QD} : wE c (E.dic0) ρ S Q X = (NewD S Q) := by first | rfl | simp only [wE, ForK, WhilK, CompK, DCompK]
theorem wE_dcomp {own : List (Str × Nat)} {g : G} {it : It} {cond : Es} {ke : E} {ve : E} {ρ : Ro} {S : Hs} {X : XQ} {Q : QD} : wE c (E.dcomp own g it cond ke ve) ρ S Q X = (wI c it ρ S (DCompK c own g cond ke ve ρ Q) X) := by first | rfl | simp only [wE, ForK, WhilK, CompK, DCompK]
theorem wE_lock {e : E} {ρ : Ro} {S : Hs} {X : XQ} {Q : QD} : wE c (E.lock e) ρ S Q X = (∃ a o z, S a = some o ∧ o.lk = some z ∧ wE c e ρ (sup S a z) (fun d S1 => S1 a = some z ∧ Q d (sup S1 a o)) X0) := by first | rfl | simp only [wE, ForK, WhilK, CompK, DCompK]
theorem wB_not {a : E} {ρ : Ro} {S : Hs} {X : XQ} {Q : Bool → Hs → Prop} : wB c (E.not a) ρ S Q X = (wB c a ρ S (fun k S1 => Q (!k) S1) X) := by first | rfl | simp only [wB, ForK, WhilK, CompK, DCompK]
theorem wB_and {es : Es} {ρ : Ro} {S : Hs} {X : XQ} {Q : Bool → Hs → Prop} : wB c (E.and es) ρ S Q X = (wBAnd c es ρ S Q X) := by first | rfl | simp only [wB, ForK, WhilK, CompK, DCompK]
theorem wB_or {es : Es} {ρ : Ro} {S : Hs} {X : XQ} {Q : Bool → Hs → Prop} : wB c (E.or es) ρ S Q X = (wBOr c es ρ S Q X) := by first | rfl | simp only [wB, ForK, WhilK, CompK, DCompK]
theorem wB_cm {o : Cm} {a : E} {b : E} {ρ : Ro} {S : Hs} {X : XQ} {Q : Bool → Hs → Prop} : wB c (E.cm o a b) ρ S Q X = (wE c a ρ S (fun x S1 => wE c b ρ S1 (fun y S2 => o.w x y S2 fun z S3 => ∃ k, z = .bl k ∧ Q k S3) X) X) := by first | rfl | simp only [wB, ForK, WhilK, CompK, DCompK]
theorem wB_ch {o : Cm} {o' : Cm} {a : E} {b : E} {e : E} {ρ : Ro} {S : Hs} {X : XQ} {Q : Bool → Hs → Prop} : wB c (E.ch o o' a b e) ρ S Q X = (wE c a ρ S (fun x S1 => wE c b ρ S1 (fun y S2 => o.w x y S2 fun z S3 => ∃ k, z = .bl k ∧ if k = true then wE c e ρ S3 (fun w S4 => o'.w y w S4 fun z' S5 => ∃ k', z' = .bl k' ∧ Q k' S5) X else ∃ k', D.bl false = .bl k' ∧ Q k' S3) X) X) := by first | rfl | simp only [wB, ForK, WhilK, CompK, DCompK]
theorem wB_var {i : Nat} {ρ : Ro} {S : Hs} {X : XQ} {Q : Bool → Hs → Prop} : wB c (E.var i) ρ S Q X = (∃ d, ρ[i]? = some (some d) ∧ ∃ k, TruD S d k ∧ Q k S) := by first | rfl | simp only [wB, ForK, WhilK, CompK, DCompK]
theorem wB_ix {a : E} {i : E} {ρ : Ro} {S : Hs} {X : XQ} {Q : Bool → Hs → Prop} : wB c (E.ix a i) ρ S Q X = (wE c a ρ S (fun x S1 => wE c i ρ S1 (fun y S2 => ixW x y S2 fun d S3 => ∃ k, TruD S3 d k ∧ Q k S3) X) X) := by first | rfl | simp only [wB, ForK, WhilK, CompK, DCompK]
theorem wB_bi {f : Bi} {es : Es} {ρ : Ro} {S : Hs} {X : XQ} {Q : Bool → Hs → Prop} : wB c (E.bi f es) ρ S Q X = (wEs c es ρ S (fun ds S1 => f.w ds S1 fun d S3 => ∃ k, TruD S3 d k ∧ Q k S3) X) := by first | rfl | simp only [wB, ForK, WhilK, CompK, DCompK]
theorem wB_isi {a : E} {ts : List String} {ρ : Ro} {S : Hs} {X : XQ} {Q : Bool → Hs → Prop} : wB c (E.isi a ts) ρ S Q X = (wE c a ρ S (fun x S1 => ∃ t b, tyName S1 x = some t ∧ isiAny t ts = some b ∧ Q b S1) X) := by first | rfl | simp only [wB, ForK, WhilK, CompK, DCompK]
theorem wB_call {i : Nat} {es : Es} {ρ : Ro} {S : Hs} {X : XQ} {Q : Bool → Hs → Prop} : wB c (E.call i es) ρ S Q X = (wEs c es ρ S (fun ds S1 => ∃ p, c.fns[i]? = some p ∧ p.2 ds S1 (fun d S3 => ∃ k, TruD S3 d k ∧ Q k S3) X) X) := by first | rfl | simp only [wB, ForK, WhilK, CompK, DCompK]
theorem wB_bm {f : Bm} {o : E} {es : Es} {ρ : Ro} {S : Hs} {X : XQ} {Q : Bool → Hs → Prop} : wB c (E.bm f o es) ρ S Q X = (wE c o ρ S (fun x S1 => f.ty S1 x ∧ wEs c es ρ S1 (fun ds S2 => f.w (x :: ds) S2 fun d S3 => ∃ k, TruD S3 d k ∧ Q k S3) X) X) := by first | rfl | simp only [wB, ForK, WhilK, CompK, DCompK]
theorem wB_call0 {i : Nat} {ρ : Ro} {S : Hs} {X : XQ} {Q : Bool → Hs → Prop} : wB c (E.call0 i) ρ S Q X = (∃ p, c.fns[i]? = some p ∧ p.2 [] S (fun d S3 => ∃ k, TruD S3 d k ∧ Q k S3) X) := by first | rfl | simp only [wB, ForK, WhilK, CompK, DCompK]
theorem wB_fld {o : E} {f : Str} {ρ : Ro} {S : Hs} {X : XQ} {Q : Bool → Hs → Prop} : wB c (E.fld o f) ρ S Q X = (wE c o ρ S (fun x S1 => ∃ a C fs d, x = .ref a ∧ S1 a = some (.ins C fs) ∧ (C, f) ∈ c.flds ∧ fs.lookup f = some d ∧ ∃ k, TruD S1 d k ∧ Q k S1) X) := by first | rfl | simp only [wB, ForK, WhilK, CompK, DCompK]
theorem wB_mt {o : E} {m : Str} {es : Es} {ρ : Ro} {S : Hs} {X : XQ} {Q : Bool → Hs → Prop} : wB c (E.mt o m es) ρ S Q X = (wE c o ρ S (fun x S1 => ∃ a fs p, x = .ref a ∧ p ∈ c.mths ∧ p.name = m ∧ S1 a = some (.ins p.C fs) ∧ fs.lookup m = none ∧ wEs c es ρ S1 (fun ds S2 => p.sp (x :: ds) S2 (fun d S3 => ∃ k, TruD S3 d k ∧ Q k S3) X) X) X) := by first | rfl | simp only [wB, ForK, WhilK, CompK, DCompK]
theorem wAnd_cons1 {e : E} {ρ : Ro} {S : Hs} {X : XQ} {Q : QD} : wAnd c (Es.cons e Es.nil) ρ S Q X = (wE c e ρ S Q X) := by first | rfl | simp only [wAnd, ForK, WhilK, CompK, DCompK]
theorem wAnd_cons {e : E} {e2 : E} {r2 : Es} {ρ : Ro} {S : Hs} {X : XQ} {Q : QD} : wAnd c (Es.cons e (.cons e2 r2)) ρ S Q X = (wE c e ρ S (fun x S1 => ∃ k, x = .bl k ∧ if k = true then wAnd c (Es.cons e2 r2) ρ S1 Q X else Q (.bl false) S1) X) := by first | rfl | simp only [wAnd, ForK, WhilK, CompK, DCompK]
theorem wOr_cons1 {e : E} {ρ : Ro} {S : Hs} {X : XQ} {Q : QD} : wOr c (Es.cons e Es.nil) ρ S Q X = (wE c e ρ S Q X) := by first | rfl | simp only [wOr, ForK, WhilK, CompK, DCompK]
theorem wOr_cons {e : E} {e2 : E} {r2 : Es} {ρ : Ro} {S : Hs} {X : XQ} {Q : QD} : wOr c (Es.cons e (.cons e2 r2)) ρ S Q X = (wE c e ρ S (fun x S1 => ∃ k, x = .bl k ∧ if k = true then Q (.bl true) S1 else wOr c (Es.cons e2 r2) ρ S1 Q X) X) := by first | rfl | simp only [wOr, ForK, WhilK, CompK, DCompK]
theorem wBAnd_cons1 {e : E} {ρ : Ro} {S : Hs} {X : XQ} {Q : Bool → Hs → Prop} : wBAnd c (Es.cons e Es.nil) ρ S Q X = (wB c e ρ S Q X) := by first | rfl | simp only [wBAnd, ForK, WhilK, CompK, DCompK]
theorem wBAnd_cons {e : E} {e2 : E} {r2 : Es} {ρ : Ro} {S : Hs} {X : XQ} {Q : Bool → Hs → Prop} : wBAnd c (Es.cons e (.cons e2 r2)) ρ S Q X = (wB c e ρ S (fun k S1 => if k = true then wBAnd c (Es.cons e2 r2) ρ S1 Q X else Q false S1) X) := by first | rfl | simp only [wBAnd, ForK, WhilK, CompK, DCompK]
theorem wBOr_cons1 {e : E} {ρ : Ro} {S : Hs} {X : XQ} {Q : Bool → Hs → Prop} : wBOr c (Es.cons e Es.nil) ρ S Q X = (wB c e ρ S Q X) := by first | rfl | simp only [wBOr, ForK, WhilK, CompK, DCompK]
theorem wBOr_cons {e : E} {e2 : E} {r2 : Es} {ρ : Ro} {S : Hs} {X : XQ} {Q : Bool → Hs → Prop} : wBOr c (Es.cons e (.cons e2 r2)) ρ S Q X = (wB c e ρ S (fun k S1 => if k = true then Q true S1 else wBOr c (Es.cons e2 r2) ρ S1 Q X) X) := by first | rfl | simp only [wBOr, ForK, WhilK, CompK, DCompK]
theorem wEs_nil  {ρ : Ro} {S : Hs} {X : XQ} {Q : List Dz.D → Hs → Prop} : wEs c (Es.nil) ρ S Q X = (Q [] S) := by first | rfl | simp only [wEs, ForK, WhilK, CompK, DCompK]
theorem wEs_cons {e : E} {r : Es} {ρ : Ro} {S : Hs} {X : XQ} {Q : List Dz.D → Hs → Prop} : wEs c (Es.cons e r) ρ S Q X = (wE c e ρ S (fun x S1 => wEs c r ρ S1 (fun xs S2 => Q (x :: xs) S2) X) X) := by first | rfl | simp only [wEs, ForK, WhilK, CompK, DCompK]
theorem wPr_nil  {ρ : Ro} {S : Hs} {X : XQ} {Q : List (Dz.D × Dz.D) → Hs → Prop} : wPr c (Es.nil) ρ S Q X = (Q [] S) := by first | rfl | simp only [wPr, ForK, WhilK, CompK, DCompK]
theorem wPr_cons {e : E} {e2 : E} {r2 : Es} {ρ : Ro} {S : Hs} {X : XQ} {Q : List (Dz.D × Dz.D) → Hs → Prop} : wPr c (Es.cons e (.cons e2 r2)) ρ S Q X = (wE c e ρ S (fun x S1 => wE c e2 ρ S1 (fun y S2 => wPr c r2 ρ S2 (fun ps S3 => Q ((x, y) :: ps) S3) X) X) X) := by first | rfl | simp only [wPr, ForK, WhilK, CompK, DCompK]
theorem wC_nil  {ρ : Ro} {S : Hs} {X : XQ} {Q : Bool → Hs → Prop} : wC c (Es.nil) ρ S Q X = (Q true S) := by first | rfl | simp only [wC, ForK, WhilK, CompK, DCompK]
theorem wC_cons1 {e : E} {ρ : Ro} {S : Hs} {X : XQ} {Q : Bool → Hs → Prop} : wC c (Es.cons e Es.nil) ρ S Q X = (wB c e ρ S Q X) := by first | rfl | simp only [wC, ForK, WhilK, CompK, DCompK]
theorem wO_no  {ρ : Ro} {S : Hs} {X : XQ} {Q : Option Int → Hs → Prop} : wO c (O.no) ρ S Q X = (Q none S) := by first | rfl | simp only [wO, ForK, WhilK, CompK, DCompK]
theorem wO_yes {e : E} {ρ : Ro} {S : Hs} {X : XQ} {Q : Option Int → Hs → Prop} : wO c (O.yes e) ρ S Q X = (wE c e ρ S (fun x S1 => ∃ i, x = .int i ∧ Q (some i) S1) X) := by first | rfl | simp only [wO, ForK, WhilK, CompK, DCompK]
theorem wG_name {i : Nat} {d : Dz.D} {ρ : Ro} {S : Hs} {X : XQ} {Q : Ro → Hs → Prop} : wG c (G.name i) d ρ S Q X = (Q (ρ.set i (some d)) S) := by first | rfl | simp only [wG, ForK, WhilK, CompK, DCompK]
theorem wG_tup {gs : Gs} {d : Dz.D} {ρ : Ro} {S : Hs} {X : XQ} {Q : Ro → Hs → Prop} : wG c (G.tup gs) d ρ S Q X = (∃ ds, d = .tup ds ∧ ds.length = gs.len ∧ wGs c gs ds ρ S Q X) := by first | rfl | simp only [wG, ForK, WhilK, CompK, DCompK]
theorem wG_sub {o : E} {i : E} {d : Dz.D} {ρ : Ro} {S : Hs} {X : XQ} {Q : Ro → Hs → Prop} : wG c (G.sub o i) d ρ S Q X = (wE c o ρ S (fun x S1 => wE c i ρ S1 (fun y S2 => setW x y d S2 fun S3 => Q ρ S3) X) X) := by first | rfl | simp only [wG, ForK, WhilK, CompK, DCompK]
theorem wGs_nil  {ds : List Dz.D} {ρ : Ro} {S : Hs} {X : XQ} {Q : Ro → Hs → Prop} : wGs c (Gs.nil) ds ρ S Q X = (ds = [] ∧ Q ρ S) := by first | rfl | simp only [wGs, ForK, WhilK, CompK, DCompK]
theorem wGs_cons {g : G} {r : Gs} {ds : List Dz.D} {ρ : Ro} {S : Hs} {X : XQ} {Q : Ro → Hs → Prop} : wGs c (Gs.cons g r) ds ρ S Q X = (∃ d t, ds = d :: t ∧ wG c g d ρ S (fun ρ' S' => wGs c r t ρ' S' Q X) X) := by first | rfl | simp only [wGs, ForK, WhilK, CompK, DCompK]
theorem wI_seq {e : E} {ρ : Ro} {S : Hs} {X : XQ} {Q : QI} : wI c (It.seq e) ρ S Q X = (wE c e ρ S (fun d S1 => seqI d S1 Q) X) := by first | rfl | simp only [wI, ForK, WhilK, CompK, DCompK]
theorem wI_rng {es : Es} {ρ : Ro} {S : Hs} {X : XQ} {Q : QI} : wI c (It.rng es) ρ S Q X = (wEs c es ρ S (fun ds S1 => rngI ds S1 Q) X) := by first | rfl | simp only [wI, ForK, WhilK, CompK, DCompK]
theorem wI_enum {e : E} {ρ : Ro} {S : Hs} {X : XQ} {Q : QI} : wI c (It.enum e) ρ S Q X = (wE c e ρ S (fun d S1 => enumI d S1 Q) X) := by first | rfl | simp only [wI, ForK, WhilK, CompK, DCompK]
theorem wI_items {e : E} {ρ : Ro} {S : Hs} {X : XQ} {Q : QI} : wI c (It.items e) ρ S Q X = (wE c e ρ S (fun d S1 => itemsI d S1 Q) X) := by first | rfl | simp only [wI, ForK, WhilK, CompK, DCompK]
theorem wT_asg {g : G} {e : E} {D : DE} {ρ : Ro} {S : Hs}  : wT c (T.asg g e) D ρ S = (wE c e ρ S (fun d S1 => wG c g d ρ S1 D.nx (fun x S' => D.ex x ρ S')) (fun x S' => D.ex x ρ S')) := by first | rfl | simp only [wT, ForK, WhilK, CompK, DCompK]
theorem wT_setc {i : Nat} {e : E} {D : DE} {ρ : Ro} {S : Hs}  : wT c (T.setc i e) D ρ S = (wE c e ρ S (fun d S1 => D.nx (ρ.set i (some d)) S1) (fun x S' => D.ex x ρ S')) := by first | rfl | simp only [wT, ForK, WhilK, CompK, DCompK]
theorem wT_aug {i : Nat} {o : B2} {e : E} {D : DE} {ρ : Ro} {S : Hs}  : wT c (T.aug i o e) D ρ S = (∃ x, ρ[i]? = some (some x) ∧ wE c e ρ S (fun y S1 => augW o x y S1 fun z S2 => D.nx (ρ.set i (some z)) S2) (fun x S' => D.ex x ρ S')) := by first | rfl | simp only [wT, ForK, WhilK, CompK, DCompK]
theorem wT_ex {e : E} {D : DE} {ρ : Ro} {S : Hs}  : wT c (T.ex e) D ρ S = (wE c e ρ S (fun _ S1 => D.nx ρ S1) (fun x S' => D.ex x ρ S')) := by first | rfl | simp only [wT, ForK, WhilK, CompK, DCompK]
theorem wT_ret {e : E} {D : DE} {ρ : Ro} {S : Hs}  : wT c (T.ret e) D ρ S = (wE c e ρ S (fun d S1 => retW d S1 D.rt) (fun x S' => D.ex x ρ S')) := by first | rfl | simp only [wT, ForK, WhilK, CompK, DCompK]
theorem wT_retN  {D : DE} {ρ : Ro} {S : Hs}  : wT c (T.retN) D ρ S = (D.rt .non S) := by first | rfl | simp only [wT, ForK, WhilK, CompK, DCompK]
theorem wT_pass  {D : DE} {ρ : Ro} {S : Hs}  : wT c (T.pass) D ρ S = (D.nx ρ S) := by first | rfl | simp only [wT, ForK, WhilK, CompK, DCompK]
theorem wT_brk  {D : DE} {ρ : Ro} {S : Hs}  : wT c (T.brk) D ρ S = (D.bk ρ S) := by first | rfl | simp only [wT, ForK, WhilK, CompK, DCompK]
theorem wT_cont  {D : DE} {ρ : Ro} {S : Hs}  : wT c (T.cont) D ρ S = (D.ct ρ S) := by first | rfl | simp only [wT, ForK, WhilK, CompK, DCompK]
theorem wT_ite {t : E} {a : Ts} {b : Ts} {D : DE} {ρ : Ro} {S : Hs}  : wT c (T.ite t a b) D ρ S = (wB c t ρ S (fun k S1 => if k = true then wTs c a D ρ S1 else wTs c b D ρ S1) (fun x S' => D.ex x ρ S')) := by first | rfl | simp only [wT, ForK, WhilK, CompK, DCompK]
theorem wT_for {g : G} {it : It} {body : Ts} {D : DE} {ρ : Ro} {S : Hs}  : wT c (T.for_ g it body) D ρ S = (wI c it ρ S (ForK c g body D ρ) (fun x S' => D.ex x ρ S')) := by first | rfl | simp only [wT, ForK, WhilK, CompK, DCompK]
theorem wT_whil {t : E} {body : Ts} {D : DE} {ρ : Ro} {S : Hs}  : wT c (T.whil t body) D ρ S = (WhilK c t body D ρ S) := by first | rfl | simp only [wT, ForK, WhilK, CompK, DCompK]
theorem wT_fst {o : E} {f : Str} {e : E} {D : DE} {ρ : Ro} {S : Hs}  : wT c (T.fst o f e) D ρ S = (wE c e ρ S (fun d S1 => wE c o ρ S1 (fun x S2 => ∃ a C fs, x = .ref a ∧ S2 a = some (.ins C fs) ∧ (C, f) ∈ c.flds ∧ fs.length < 1000 ∧ D.nx ρ (sup S2 a (.ins C (putFD f d fs)))) (fun x S' => D.ex x ρ S')) (fun x S' => D.ex x ρ S')) := by first | rfl | simp only [wT, ForK, WhilK, CompK, DCompK]
theorem wT_faug {o : E} {f : Str} {p : B2} {e : E} {D : DE} {ρ : Ro} {S : Hs}  : wT c (T.faug o f p e) D ρ S = (wE c o ρ S (fun x S1 => ∃ a C fs d, x = .ref a ∧ S1 a = some (.ins C fs) ∧ (C, f) ∈ c.flds ∧ fs.lookup f = some d ∧ wE c e ρ S1 (fun y S2 => augW p d y S2 fun z S3 => ∃ fs', S3 a = some (.ins C fs') ∧ fs'.length < 1000 ∧ D.nx ρ (sup S3 a (.ins C (putFD f z fs')))) (fun x S' => D.ex x ρ S')) (fun x S' => D.ex x ρ S')) := by first | rfl | simp only [wT, ForK, WhilK, CompK, DCompK]
theorem wT_saug {o : E} {i : E} {p : B2} {e : E} {D : DE} {ρ : Ro} {S : Hs}  : wT c (T.saug o i p e) D ρ S = (wE c o ρ S (fun x S1 => wE c i ρ S1 (fun k S2 => augIx x k S2 fun d S3 => wE c e ρ S3 (fun y S4 => augW p d y S4 fun z S5 => setW x k z S5 fun S6 => D.nx ρ S6) (fun x S' => D.ex x ρ S')) (fun x S' => D.ex x ρ S')) (fun x S' => D.ex x ρ S')) := by first | rfl | simp only [wT, ForK, WhilK, CompK, DCompK]
theorem wT_par2 {i : Nat} {j : Nat} {a : E} {b : E} {D : DE} {ρ : Ro} {S : Hs}  : wT c (T.par2 i j a b) D ρ S = (wE c a ρ S (fun x S1 => wE c b ρ S1 (fun y S2 => D.nx ((ρ.set i (some x)).set j (some y)) S2) (fun x S' => D.ex x ρ S')) (fun x S' => D.ex x ρ S')) := by first | rfl | simp only [wT, ForK, WhilK, CompK, DCompK]
theorem wT_par3 {i : Nat} {j : Nat} {l : Nat} {a : E} {b : E} {e : E} {D : DE} {ρ : Ro} {S : Hs}  : wT c (T.par3 i j l a b e) D ρ S = (wE c a ρ S (fun x S1 => wE c b ρ S1 (fun y S2 => wE c e ρ S2 (fun z S3 => D.nx (((ρ.set i (some x)).set j (some y)).set l (some z)) S3) (fun x S' => D.ex x ρ S')) (fun x S' => D.ex x ρ S')) (fun x S' => D.ex x ρ S')) := by first | rfl | simp only [wT, ForK, WhilK, CompK, DCompK]
theorem wT_del {o : E} {i : E} {D : DE} {ρ : Ro} {S : Hs}  : wT c (T.del o i) D ρ S = (wE c o ρ S (fun x S1 => wE c i ρ S1 (fun y S2 => ∃ a kvs k v, x = .ref a ∧ S2 a = some (.dK kvs) ∧ y.key = some k ∧ valD kvs k = some v ∧ D.nx ρ (sup S2 a (.dK (dropD kvs k)))) (fun x S' => D.ex x ρ S')) (fun x S' => D.ex x ρ S')) := by first | rfl | simp only [wT, ForK, WhilK, CompK, DCompK]
theorem wT_lock {t : T} {D : DE} {ρ : Ro} {S : Hs}  : wT c (T.lock t) D ρ S = (∃ a o z, S a = some o ∧ o.lk = some z ∧ wT c t { nx := fun ρ' S' => S' a = some z ∧ D.nx ρ' (sup S' a o), rt := fun d S' => S' a = some z ∧ D.rt d (sup S' a o), bk := fun ρ' S' => S' a = some z ∧ D.bk ρ' (sup S' a o), ct := fun ρ' S' => S' a = some z ∧ D.ct ρ' (sup S' a o) } ρ (sup S a z)) := by first | rfl | simp only [wT, ForK, WhilK, CompK, DCompK]
theorem wT_rais {i : Nat} {D : DE} {ρ : Ro} {S : Hs}  : wT c (T.rais i) D ρ S = (∃ p, c.excs[i]? = some p ∧ D.ex ⟨p.2, none⟩ ρ S) := by first | rfl | simp only [wT, ForK, WhilK, CompK, DCompK]
theorem wT_try1 {body : Ts} {i : Nat} {suite : Ts} {D : DE} {ρ : Ro} {S : Hs}  : wT c (T.try1 body i suite) D ρ S = (wTs c body { D with ex := fun x ρ' S' => ∃ p b, c.excs[i]? = some p ∧ (x.C, p.2, b) ∈ c.exm ∧ (b = true → wTs c suite { D with ex := fun _ _ _ => False } ρ' S') ∧ (b = false → D.ex x ρ' S') } ρ S) := by first | rfl | simp only [wT, ForK, WhilK, CompK, DCompK]
theorem wTs_nil  {D : DE} {ρ : Ro} {S : Hs}  : wTs c (Ts.nil) D ρ S = (D.nx ρ S) := by first | rfl | simp only [wTs, ForK, WhilK, CompK, DCompK]
theorem wTs_cons {t : T} {r : Ts} {D : DE} {ρ : Ro} {S : Hs}  : wTs c (Ts.cons t r) D ρ S = (wT c t { D with nx := wTs c r D } ρ S) := by first | rfl | simp only [wTs, ForK, WhilK, CompK, DCompK]
end
end Dz
namespace Dz
open PySem L2
theorem addW_int {i j : Int} {S : Hs} {Q : QD} : (addW (.int i) (.int j) S Q) = (Q (.int (i + j)) S) := rfl
theorem addW_str {x y : Str} {S : Hs} {Q : QD} : (addW (.str x) (.str y) S Q) = (x.length + y.length ≤ sizeLine ∧ Q (.str (x ++ y)) S) := rfl
theorem addW_tup {xs ys : List D} {S : Hs} {Q : QD} : (addW (.tup xs) (.tup ys) S Q) = (xs.length + ys.length ≤ sizeLine ∧ Q (.tup (xs ++ ys)) S) := rfl
theorem addW_ll {xs ys : List D} {S : Hs} {Q : QD} : (addW (.lst xs) (.lst ys) S Q) = (xs.length + ys.length ≤ sizeLine ∧ NewL (xs ++ ys) S Q) := by simp only [addW, lstOf_lst, Option.some.injEq, exists_and_left, exists_eq_left']
theorem addW_lr {xs : List D} {b : Addr} {S : Hs} {Q : QD} : (addW (.lst xs) (.ref b) S Q) = (∃ ys, lstOf S (.ref b) = some ys ∧ xs.length + ys.length ≤ sizeLine ∧ NewL (xs ++ ys) S Q) := by simp only [addW, lstOf_lst, Option.some.injEq, exists_and_left, exists_eq_left']
theorem addW_rl {ys : List D} {b : Addr} {S : Hs} {Q : QD} : (addW (.ref b) (.lst ys) S Q) = (∃ xs, lstOf S (.ref b) = some xs ∧ xs.length + ys.length ≤ sizeLine ∧ NewL (xs ++ ys) S Q) := by simp only [addW, lstOf_lst, Option.some.injEq, exists_and_left, exists_eq_left']
theorem addW_rr {a b : Addr} {S : Hs} {Q : QD} : (addW (.ref a) (.ref b) S Q) = (∃ xs, lstOf S (.ref a) = some xs ∧ ∃ ys, lstOf S (.ref b) = some ys ∧ xs.length + ys.length ≤ sizeLine ∧ NewL (xs ++ ys) S Q) := by simp only [addW, exists_and_left]
theorem subW_int {i j : Int} {S : Hs} {Q : QD} : (subW (.int i) (.int j) S Q) = (Q (.int (i - j)) S) := rfl
theorem mulW_int {i j : Int} {S : Hs} {Q : QD} : (mulW (.int i) (.int j) S Q) = ((CMul i j ∨ CMulW i j) ∧ Q (.int (i * j)) S) := rfl
theorem mulW_ref {a : Addr} {k : Int} {S : Hs} {Q : QD} : (mulW (.ref a) (.int k) S Q) = (∃ xs, S a = some (.lst xs) ∧ -(2 ^ 63) ≤ k ∧ k < 2 ^ 63 ∧ xs.length * k.toNat ≤ sizeLine ∧ NewL (List.replicate k.toNat xs).flatten (sdel S a) Q) := rfl
theorem fdivW_int {i j : Int} {S : Hs} {Q : QD} : (fdivW (.int i) (.int j) S Q) = (CDivW i j ∧ Q (.int (i / j)) S) := rfl
theorem modW_int {i j : Int} {S : Hs} {Q : QD} : (modW (.int i) (.int j) S Q) = (0 < j ∧ Q (.int (i % j)) S) := rfl
theorem powW_int {i j : Int} {S : Hs} {Q : QD} : (powW (.int i) (.int j) S Q) = (CPow i j ∧ Q (.int (i ^ j.toNat)) S) := rfl
theorem ltW_int {i j : Int} {S : Hs} {Q : QD} : (ltW (.int i) (.int j) S Q) = (Q (.bl (decide (i < j))) S) := rfl
theorem leW_int {i j : Int} {S : Hs} {Q : QD} : (leW (.int i) (.int j) S Q) = (Q (.bl (decide (i ≤ j))) S) := rfl
theorem gtW_int {i j : Int} {S : Hs} {Q : QD} : (gtW (.int i) (.int j) S Q) = (Q (.bl (decide (j < i))) S) := rfl
theorem geW_int {i j : Int} {S : Hs} {Q : QD} : (geW (.int i) (.int j) S Q) = (Q (.bl (decide (j ≤ i))) S) := rfl
theorem ltW_str {x y : Str} {S : Hs} {Q : QD} : (ltW (.str x) (.str y) S Q) = (Q (.bl (decide (x.cps.toList < y.cps.toList))) S) := rfl
theorem leW_str {x y : Str} {S : Hs} {Q : QD} : (leW (.str x) (.str y) S Q) = (Q (.bl (!decide (y.cps.toList < x.cps.toList))) S) := rfl
theorem gtW_str {x y : Str} {S : Hs} {Q : QD} : (gtW (.str x) (.str y) S Q) = (Q (.bl (decide (y.cps.toList < x.cps.toList))) S) := rfl
theorem geW_str {x y : Str} {S : Hs} {Q : QD} : (geW (.str x) (.str y) S Q) = (Q (.bl (!decide (x.cps.toList < y.cps.toList))) S) := rfl
theorem isNW_n {d : D} {S : Hs} {Q : QD} : (isNW d .non S Q) = (Q (.bl (isNone d)) S) := by cases d <;> rfl
theorem notNW_n {d : D} {S : Hs} {Q : QD} : (notNW d .non S Q) = (Q (.bl (!isNone d)) S) := by cases d <;> rfl
theorem isNone_non  : (isNone .non) = (true) := rfl
theorem isNone_bl {b : Bool} : (isNone (.bl b)) = (false) := rfl
theorem isNone_int {i : Int} : (isNone (.int i)) = (false) := rfl
theorem isNone_str {x : Str} : (isNone (.str x)) = (false) := rfl
theorem isNone_tup {xs : List D} : (isNone (.tup xs)) = (false) := rfl
theorem isNone_lst {xs : List D} : (isNone (.lst xs)) = (false) := rfl
theorem isNone_ref {a : Addr} : (isNone (.ref a)) = (false) := rfl
theorem isNone_ty {n : String} : (isNone (.ty n)) = (false) := rfl
theorem tyName_non  {S : Hs} : (tyName S .non) = (some "NoneType") := rfl
theorem tyName_bl {b : Bool} {S : Hs} : (tyName S (.bl b)) = (some "bool") := rfl
theorem tyName_int {i : Int} {S : Hs} : (tyName S (.int i)) = (some "int") := rfl
theorem tyName_str {x : Str} {S : Hs} : (tyName S (.str x)) = (some "str") := rfl
theorem tyName_tup {xs : List D} {S : Hs} : (tyName S (.tup xs)) = (some "tuple") := rfl
theorem tyName_lst {xs : List D} {S : Hs} : (tyName S (.lst xs)) = (some "list") := rfl
theorem negW_int {i : Int} {S : Hs} {Q : QD} : (negW (.int i) S Q) = (Q (.int (-i)) S) := rfl
theorem intW_int {i : Int} {S : Hs} {Q : QD} : (intW (.int i) S Q) = (Q (.int i) S) := rfl
theorem intW_bl {b : Bool} {S : Hs} {Q : QD} : (intW (.bl b) S Q) = (Q (.int (if b then 1 else 0)) S) := rfl
theorem absW_int {i : Int} {S : Hs} {Q : QD} : (absW (.int i) S Q) = (Q (.int (if i < 0 then -i else i)) S) := rfl
theorem minW_int {i j : Int} {S : Hs} {Q : QD} : (minW (.int i) (.int j) S Q) = (Q (.int (if j < i then j else i)) S) := rfl
theorem maxW_int {i j : Int} {S : Hs} {Q : QD} : (maxW (.int i) (.int j) S Q) = (Q (.int (if j > i then j else i)) S) := rfl
theorem lenW_str {x : Str} {S : Hs} {Q : QD} : (lenW (.str x) S Q) = (x.length ≤ sizeLine ∧ Q (.int x.length) S) := rfl
theorem lenW_lst {xs : List D} {S : Hs} {Q : QD} : (lenW (.lst xs) S Q) = (Q (.int xs.length) S) := by simp only [lenW, seqOf_lst, seqOf_tup, Option.some.injEq, exists_eq_left', exists_and_left]
theorem lenW_tup {xs : List D} {S : Hs} {Q : QD} : (lenW (.tup xs) S Q) = (Q (.int xs.length) S) := by simp only [lenW, seqOf_lst, seqOf_tup, Option.some.injEq, exists_eq_left', exists_and_left]
theorem lenW_ref {a : Addr} {S : Hs} {Q : QD} : (lenW (.ref a) S Q) = (∃ o, S a = some o ∧ ∃ n, o.len = some n ∧ Q (.int (n : Nat)) S) := by simp only [lenW, exists_and_left]
theorem len_lst {xs : List D} : (MO.len (.lst xs)) = (some xs.length) := rfl
theorem len_dK {xs : List (Key × D)} : (MO.len (.dK xs)) = (some xs.length) := rfl
theorem len_dT {xs : List (List Key × D)} : (MO.len (.dT xs)) = (some xs.length) := rfl
theorem tupleW_lst {xs : List D} {S : Hs} {Q : QD} : (tupleW (.lst xs) S Q) = (Q (.tup xs) S) := by simp only [tupleW, seqOf_lst, seqOf_tup, Option.some.injEq, exists_eq_left', exists_and_left]
theorem tupleW_tup {xs : List D} {S : Hs} {Q : QD} : (tupleW (.tup xs) S Q) = (Q (.tup xs) S) := by simp only [tupleW, seqOf_lst, seqOf_tup, Option.some.injEq, exists_eq_left', exists_and_left]
theorem tupleW_ref {a : Addr} {S : Hs} {Q : QD} : (tupleW (.ref a) S Q) = (∃ xs, seqOf S (.ref a) = some xs ∧ Q (.tup xs) S) := rfl
theorem listW_lst {xs : List D} {S : Hs} {Q : QD} : (listW (.lst xs) S Q) = (NewL xs S Q) := by simp only [listW, seqOf_lst, seqOf_tup, Option.some.injEq, exists_eq_left', exists_and_left]
theorem listW_tup {xs : List D} {S : Hs} {Q : QD} : (listW (.tup xs) S Q) = (NewL xs S Q) := by simp only [listW, seqOf_lst, seqOf_tup, Option.some.injEq, exists_eq_left', exists_and_left]
theorem listW_ref {a : Addr} {S : Hs} {Q : QD} : (listW (.ref a) S Q) = (∃ xs, seqOf S (.ref a) = some xs ∧ NewL xs S Q) := rfl
theorem ixW_str {x : Str} {i : Int} {S : Hs} {Q : QD} : (ixW (.str x) (.int i) S Q) = (x.length ≤ sizeLine ∧ ∃ c, atI x.cps.toList i = some c ∧ Q (.str ⟨#[c]⟩) S) := rfl
theorem ixW_lst {xs : List D} {i : Int} {S : Hs} {Q : QD} : (ixW (.lst xs) (.int i) S Q) = (∃ x, atI xs i = some x ∧ Q x S) := by simp only [ixW, seqOf_lst, seqOf_tup, Option.some.injEq, exists_eq_left', exists_and_left]
theorem ixW_tup {xs : List D} {i : Int} {S : Hs} {Q : QD} : (ixW (.tup xs) (.int i) S Q) = (∃ x, atI xs i = some x ∧ Q x S) := by simp only [ixW, seqOf_lst, seqOf_tup, Option.some.injEq, exists_eq_left', exists_and_left]
theorem slW_str {x : Str} {lo hi : Option Int} {S : Hs} {Q : QD} : (slW (.str x) lo hi S Q) = (x.length ≤ sizeLine ∧ Q (.str (cutS x lo hi)) S) := rfl
theorem slW_tup {xs : List D} {lo hi : Option Int} {S : Hs} {Q : QD} : (slW (.tup xs) lo hi S Q) = (Q (.tup (cutD xs lo hi)) S) := rfl
theorem slW_lst {xs : List D} {lo hi : Option Int} {S : Hs} {Q : QD} : (slW (.lst xs) lo hi S Q) = (NewL (cutD xs lo hi) S Q) := by simp only [slW, lstOf_lst, Option.some.injEq, exists_eq_left']
theorem slW_ref {a : Addr} {lo hi : Option Int} {S : Hs} {Q : QD} : (slW (.ref a) lo hi S Q) = (∃ xs, lstOf S (.ref a) = some xs ∧ NewL (cutD xs lo hi) S Q) := rfl
theorem revW_tup {xs : List D} {S : Hs} {Q : QD} : (revW (.tup xs) S Q) = (xs.length ≤ sizeLine ∧ Q (.tup xs.reverse) S) := rfl
theorem revW_lst {xs : List D} {S : Hs} {Q : QD} : (revW (.lst xs) S Q) = (NewL xs.reverse S Q) := by simp only [revW, lstOf_lst, Option.some.injEq, exists_eq_left']
theorem revW_ref {a : Addr} {S : Hs} {Q : QD} : (revW (.ref a) S Q) = (∃ xs, lstOf S (.ref a) = some xs ∧ NewL xs.reverse S Q) := rfl
theorem appW_ref {a : Addr} {y : D} {S : Hs} {Q : QD} : (appendW (.ref a) y S Q) = (∃ xs, S a = some (.lst xs) ∧ xs.length < sizeLine ∧ Q .non (sup S a (.lst (xs ++ [y])))) := rfl
theorem appTy {d : D} {S : Hs} : (Bm.ty S d .append) = (∃ xs, lstOf S d = some xs) := rfl
theorem tru_bl {b k : Bool} {S : Hs} : (TruD S (.bl b) k) = (k = b) := rfl
theorem tru_non {k : Bool} {S : Hs} : (TruD S .non k) = (k = false) := rfl
theorem tru_int {i : Int} {k : Bool} {S : Hs} : (TruD S (.int i) k) = (k = (i != 0)) := rfl
theorem tru_str {y : Str} {b : Bool} {S : Hs} : (TruD S (.str y) b) = (y.length ≤ sizeLine ∧ b = ((y.length : Int) != 0)) := rfl
theorem tru_tup {xs : List D} {k : Bool} {S : Hs} : (TruD S (.tup xs) k) = (k = !xs.isEmpty) := rfl
theorem tru_lst {xs : List D} {k : Bool} {S : Hs} : (TruD S (.lst xs) k) = (k = !xs.isEmpty) := rfl
theorem seqI_lst {xs : List D} {S : Hs} {Q : QI} : (seqI (.lst xs) S Q) = (Q xs (fun _ => True) S) := rfl
theorem seqI_tup {xs : List D} {S : Hs} {Q : QI} : (seqI (.tup xs) S Q) = (Q xs (fun _ => True) S) := rfl
theorem seqI_ref {a : Addr} {S : Hs} {Q : QI} : (seqI (.ref a) S Q) = (∃ o, S a = some o ∧ ∃ xs, o.items = some xs ∧ Q xs (fun S' => S' a = some o) S) := by simp only [seqI, exists_and_left]
theorem seqI_str {z : Str} {S : Hs} {Q : QI} : (seqI (.str z) S Q) = (Q (strD z) (fun _ => True) S) := rfl
theorem seqI_ctp {xs : List D} {S : Hs} {Q : QI} : (seqI (.ctp xs) S Q) = (Q xs (fun _ => True) S) := rfl
theorem items_lst {xs : List D} : (MO.items (.lst xs)) = (some xs) := rfl
theorem items_zK {xs : List (Key × D)} : (MO.items (.zK xs)) = (some (xs.map fun p => keyD p.1)) := rfl
theorem items_zT {xs : List (List Key × D)} : (MO.items (.zT xs)) = (some (xs.map fun p => D.tup (p.1.map keyD))) := rfl
theorem enumI_lst {xs : List D} {S : Hs} {Q : QI} : (enumI (.lst xs) S Q) = (Q (enumD xs) (fun _ => True) S) := rfl
theorem enumI_tup {xs : List D} {S : Hs} {Q : QI} : (enumI (.tup xs) S Q) = (Q (enumD xs) (fun _ => True) S) := rfl
theorem enumI_ref {a : Addr} {S : Hs} {Q : QI} : (enumI (.ref a) S Q) = (∃ xs, S a = some (.lst xs) ∧ Q (enumD xs) (fun S' => S' a = some (.lst xs)) S) := rfl
theorem rngI_1 {j : Int} {S : Hs} {Q : QI} : (rngI [.int j] S Q) = (-(2 ^ 62) ≤ j ∧ j < 2 ^ 62 ∧ Q (rngD 0 j.toNat) (fun _ => True) S) := rfl
theorem rngI_2 {i j : Int} {S : Hs} {Q : QI} : (rngI [.int i, .int j] S Q) = ((-(2 ^ 62) ≤ i ∧ i < 2 ^ 62 ∧ -(2 ^ 62) ≤ j ∧ j < 2 ^ 62) ∧ Q (rngD i (j - i).toNat) (fun _ => True) S) := rfl
theorem inW_e {d e : D} {S : Hs} {Q : QD} : (inW d e S Q) = (∃ b, inR S d e b ∧ Q (.bl b) S) := rfl
theorem notInW_e {d e : D} {S : Hs} {Q : QD} : (notInW d e S Q) = (∃ b, inR S d e b ∧ Q (.bl (!b)) S) := rfl
theorem inR_int {i : Int} {ns : List Int} {b : Bool} {S : Hs} : (inR S (.int i) (.tup (ns.map D.int)) b) = (b = decide (i ∈ ns)) := by simp only [inR, any_int, D.flat, true_and, List.all_map]; simp [Function.comp_def, D.flat]
theorem inR_lst {d : D} {xs : List D} {b : Bool} {S : Hs} : (inR S d (.lst xs) b) = (d.ok = true ∧ D.ok (.lst xs) = true ∧ b = xs.any fun z => D.eq z d) := by cases d <;> rfl
theorem inR_tup {d : D} {xs : List D} {b : Bool} {S : Hs} : (inR S d (.tup xs) b) = (d.flat = true ∧ xs.all D.flat = true ∧ b = xs.any fun z => D.eq z d) := by cases d <;> rfl
theorem flat_int {i : Int} : (D.flat (.int i)) = (true) := rfl
theorem flat_str {i : Str} : (D.flat (.str i)) = (true) := rfl
theorem flat_non  : (D.flat .non) = (true) := rfl
theorem flat_bl {i : Bool} : (D.flat (.bl i)) = (true) := rfl
theorem ixN_1_0  : (ixN 1 0) = (some 0) := by decide
theorem ixN_2_0  : (ixN 2 0) = (some 0) := by decide
theorem ixN_2_1  : (ixN 2 1) = (some 1) := by decide
theorem ixN_3_0  : (ixN 3 0) = (some 0) := by decide
theorem ixN_3_1  : (ixN 3 1) = (some 1) := by decide
theorem ixN_3_2  : (ixN 3 2) = (some 2) := by decide
theorem ixN_4_0  : (ixN 4 0) = (some 0) := by decide
theorem ixN_4_1  : (ixN 4 1) = (some 1) := by decide
theorem ixN_4_2  : (ixN 4 2) = (some 2) := by decide
theorem ixN_4_3  : (ixN 4 3) = (some 3) := by decide
theorem ixN_5_0  : (ixN 5 0) = (some 0) := by decide
theorem ixN_5_1  : (ixN 5 1) = (some 1) := by decide
theorem ixN_5_2  : (ixN 5 2) = (some 2) := by decide
theorem ixN_5_3  : (ixN 5 3) = (some 3) := by decide
theorem ixN_5_4  : (ixN 5 4) = (some 4) := by decide
theorem ixN_6_0  : (ixN 6 0) = (some 0) := by decide
theorem ixN_6_1  : (ixN 6 1) = (some 1) := by decide
theorem ixN_6_2  : (ixN 6 2) = (some 2) := by decide
theorem ixN_6_3  : (ixN 6 3) = (some 3) := by decide
theorem ixN_6_4  : (ixN 6 4) = (some 4) := by decide
theorem ixN_6_5  : (ixN 6 5) = (some 5) := by decide
theorem ixN_7_0  : (ixN 7 0) = (some 0) := by decide
theorem ixN_7_1  : (ixN 7 1) = (some 1) := by decide
theorem ixN_7_2  : (ixN 7 2) = (some 2) := by decide
theorem ixN_7_3  : (ixN 7 3) = (some 3) := by decide
theorem ixN_7_4  : (ixN 7 4) = (some 4) := by decide
theorem ixN_7_5  : (ixN 7 5) = (some 5) := by decide
theorem ixN_7_6  : (ixN 7 6) = (some 6) := by decide
theorem ixN_8_0  : (ixN 8 0) = (some 0) := by decide
theorem ixN_8_1  : (ixN 8 1) = (some 1) := by decide
theorem ixN_8_2  : (ixN 8 2) = (some 2) := by decide
theorem ixN_8_3  : (ixN 8 3) = (some 3) := by decide
theorem ixN_8_4  : (ixN 8 4) = (some 4) := by decide
theorem ixN_8_5  : (ixN 8 5) = (some 5) := by decide
theorem ixN_8_6  : (ixN 8 6) = (some 6) := by decide
theorem ixN_8_7  : (ixN 8 7) = (some 7) := by decide
theorem seqOf_sup {S : Hs} {p : Addr} {xs : List D} : (seqOf (sup S p (.lst xs)) (.ref p)) = (some xs) := seqOf_live sup_same
theorem lstOf_sup {S : Hs} {p : Addr} {xs : List D} : (lstOf (sup S p (.lst xs)) (.ref p)) = (some xs) := lstOf_live sup_same
theorem cp10_1  : (CPow 10 1) = (True) := eq_true (by unfold CPow; decide)
theorem cp2_1  : (CPow 2 1) = (True) := eq_true (by unfold CPow; decide)
theorem cp10_2  : (CPow 10 2) = (True) := eq_true (by unfold CPow; decide)
theorem cp2_2  : (CPow 2 2) = (True) := eq_true (by unfold CPow; decide)
theorem cp10_3  : (CPow 10 3) = (True) := eq_true (by unfold CPow; decide)
theorem cp2_3  : (CPow 2 3) = (True) := eq_true (by unfold CPow; decide)
theorem cp10_4  : (CPow 10 4) = (True) := eq_true (by unfold CPow; decide)
theorem cp2_4  : (CPow 2 4) = (True) := eq_true (by unfold CPow; decide)
theorem cp10_5  : (CPow 10 5) = (True) := eq_true (by unfold CPow; decide)
theorem cp2_5  : (CPow 2 5) = (True) := eq_true (by unfold CPow; decide)
theorem cp10_6  : (CPow 10 6) = (True) := eq_true (by unfold CPow; decide)
theorem cp2_6  : (CPow 2 6) = (True) := eq_true (by unfold CPow; decide)
theorem cp10_7  : (CPow 10 7) = (True) := eq_true (by unfold CPow; decide)
theorem cp2_7  : (CPow 2 7) = (True) := eq_true (by unfold CPow; decide)
theorem cp10_8  : (CPow 10 8) = (True) := eq_true (by unfold CPow; decide)
theorem cp2_8  : (CPow 2 8) = (True) := eq_true (by unfold CPow; decide)
theorem cp10_9  : (CPow 10 9) = (True) := eq_true (by unfold CPow; decide)
theorem cp2_9  : (CPow 2 9) = (True) := eq_true (by unfold CPow; decide)
theorem cp10_10  : (CPow 10 10) = (True) := eq_true (by unfold CPow; decide)
theorem cp2_10  : (CPow 2 10) = (True) := eq_true (by unfold CPow; decide)
theorem cp10_11  : (CPow 10 11) = (True) := eq_true (by unfold CPow; decide)
theorem cp2_11  : (CPow 2 11) = (True) := eq_true (by unfold CPow; decide)
theorem cp10_12  : (CPow 10 12) = (True) := eq_true (by unfold CPow; decide)
theorem cp2_12  : (CPow 2 12) = (True) := eq_true (by unfold CPow; decide)
theorem cp10_13  : (CPow 10 13) = (True) := eq_true (by unfold CPow; decide)
theorem cp2_13  : (CPow 2 13) = (True) := eq_true (by unfold CPow; decide)
theorem cp10_14  : (CPow 10 14) = (True) := eq_true (by unfold CPow; decide)
theorem cp2_14  : (CPow 2 14) = (True) := eq_true (by unfold CPow; decide)
theorem cp10_15  : (CPow 10 15) = (True) := eq_true (by unfold CPow; decide)
theorem cp2_15  : (CPow 2 15) = (True) := eq_true (by unfold CPow; decide)
theorem cp10_16  : (CPow 10 16) = (True) := eq_true (by unfold CPow; decide)
theorem cp2_16  : (CPow 2 16) = (True) := eq_true (by unfold CPow; decide)
theorem cp10_17  : (CPow 10 17) = (True) := eq_true (by unfold CPow; decide)
theorem cp2_17  : (CPow 2 17) = (True) := eq_true (by unfold CPow; decide)
theorem cp10_18  : (CPow 10 18) = (True) := eq_true (by unfold CPow; decide)
theorem cp2_18  : (CPow 2 18) = (True) := eq_true (by unfold CPow; decide)
theorem cp10_19  : (CPow 10 19) = (True) := eq_true (by unfold CPow; decide)
theorem cp2_19  : (CPow 2 19) = (True) := eq_true (by unfold CPow; decide)
theorem cp10_20  : (CPow 10 20) = (True) := eq_true (by unfold CPow; decide)
theorem cp2_20  : (CPow 2 20) = (True) := eq_true (by unfold CPow; decide)
theorem cp10_21  : (CPow 10 21) = (True) := eq_true (by unfold CPow; decide)
theorem cp2_21  : (CPow 2 21) = (True) := eq_true (by unfold CPow; decide)
theorem cp10_22  : (CPow 10 22) = (True) := eq_true (by unfold CPow; decide)
theorem cp2_22  : (CPow 2 22) = (True) := eq_true (by unfold CPow; decide)
theorem cp10_23  : (CPow 10 23) = (True) := eq_true (by unfold CPow; decide)
theorem cp2_23  : (CPow 2 23) = (True) := eq_true (by unfold CPow; decide)
theorem cp10_24  : (CPow 10 24) = (True) := eq_true (by unfold CPow; decide)
theorem cp2_24  : (CPow 2 24) = (True) := eq_true (by unfold CPow; decide)
theorem cp10_25  : (CPow 10 25) = (True) := eq_true (by unfold CPow; decide)
theorem cp2_25  : (CPow 2 25) = (True) := eq_true (by unfold CPow; decide)
theorem cp10_26  : (CPow 10 26) = (True) := eq_true (by unfold CPow; decide)
theorem cp2_26  : (CPow 2 26) = (True) := eq_true (by unfold CPow; decide)
theorem cp10_27  : (CPow 10 27) = (True) := eq_true (by unfold CPow; decide)
theorem cp2_27  : (CPow 2 27) = (True) := eq_true (by unfold CPow; decide)
theorem cp10_28  : (CPow 10 28) = (True) := eq_true (by unfold CPow; decide)
theorem cp2_28  : (CPow 2 28) = (True) := eq_true (by unfold CPow; decide)
theorem cp10_29  : (CPow 10 29) = (True) := eq_true (by unfold CPow; decide)
theorem cp2_29  : (CPow 2 29) = (True) := eq_true (by unfold CPow; decide)
theorem cp10_30  : (CPow 10 30) = (True) := eq_true (by unfold CPow; decide)
theorem cp2_30  : (CPow 2 30) = (True) := eq_true (by unfold CPow; decide)
theorem cp10_31  : (CPow 10 31) = (True) := eq_true (by unfold CPow; decide)
theorem cp2_31  : (CPow 2 31) = (True) := eq_true (by unfold CPow; decide)
theorem cp10_32  : (CPow 10 32) = (True) := eq_true (by unfold CPow; decide)
theorem cp2_32  : (CPow 2 32) = (True) := eq_true (by unfold CPow; decide)
theorem cp10_33  : (CPow 10 33) = (True) := eq_true (by unfold CPow; decide)
theorem cp2_33  : (CPow 2 33) = (True) := eq_true (by unfold CPow; decide)
theorem cp10_34  : (CPow 10 34) = (True) := eq_true (by unfold CPow; decide)
theorem cp2_34  : (CPow 2 34) = (True) := eq_true (by unfold CPow; decide)
theorem cp10_35  : (CPow 10 35) = (True) := eq_true (by unfold CPow; decide)
theorem cp2_35  : (CPow 2 35) = (True) := eq_true (by unfold CPow; decide)
theorem cp10_36  : (CPow 10 36) = (True) := eq_true (by unfold CPow; decide)
theorem cp2_36  : (CPow 2 36) = (True) := eq_true (by unfold CPow; decide)
theorem cp10_37  : (CPow 10 37) = (True) := eq_true (by unfold CPow; decide)
theorem cp2_37  : (CPow 2 37) = (True) := eq_true (by unfold CPow; decide)
theorem cp10_38  : (CPow 10 38) = (True) := eq_true (by unfold CPow; decide)
theorem cp2_38  : (CPow 2 38) = (True) := eq_true (by unfold CPow; decide)
theorem cp10_39  : (CPow 10 39) = (True) := eq_true (by unfold CPow; decide)
theorem cp2_39  : (CPow 2 39) = (True) := eq_true (by unfold CPow; decide)
theorem cp10_40  : (CPow 10 40) = (True) := eq_true (by unfold CPow; decide)
theorem cp2_40  : (CPow 2 40) = (True) := eq_true (by unfold CPow; decide)
theorem lsl_0  : (0 ≤ sizeLine) = (True) := eq_true (by decide)
theorem lsl_1  : (1 ≤ sizeLine) = (True) := eq_true (by decide)
theorem lsl_2  : (2 ≤ sizeLine) = (True) := eq_true (by decide)
theorem lsl_3  : (3 ≤ sizeLine) = (True) := eq_true (by decide)
theorem lsl_4  : (4 ≤ sizeLine) = (True) := eq_true (by decide)
theorem lsl_5  : (5 ≤ sizeLine) = (True) := eq_true (by decide)
theorem lsl_6  : (6 ≤ sizeLine) = (True) := eq_true (by decide)
theorem lsl_7  : (7 ≤ sizeLine) = (True) := eq_true (by decide)
theorem lsl_8  : (8 ≤ sizeLine) = (True) := eq_true (by decide)
theorem lsl_9  : (9 ≤ sizeLine) = (True) := eq_true (by decide)
theorem lsl_10  : (10 ≤ sizeLine) = (True) := eq_true (by decide)
theorem lsl_11  : (11 ≤ sizeLine) = (True) := eq_true (by decide)
theorem lsl_12  : (12 ≤ sizeLine) = (True) := eq_true (by decide)
theorem lsl_13  : (13 ≤ sizeLine) = (True) := eq_true (by decide)
theorem lsl_14  : (14 ≤ sizeLine) = (True) := eq_true (by decide)
theorem lsl_15  : (15 ≤ sizeLine) = (True) := eq_true (by decide)
theorem lsl_16  : (16 ≤ sizeLine) = (True) := eq_true (by decide)
theorem lsl_17  : (17 ≤ sizeLine) = (True) := eq_true (by decide)
theorem lsl_18  : (18 ≤ sizeLine) = (True) := eq_true (by decide)
theorem lsl_19  : (19 ≤ sizeLine) = (True) := eq_true (by decide)
theorem lsl_20  : (20 ≤ sizeLine) = (True) := eq_true (by decide)
theorem isNW_b {a b : Bool} {S : Hs} {Q : QD} : (isNW (.bl a) (.bl b) S Q) = (Q (.bl (decide (a = b))) S) := rfl
theorem notNW_b {a b : Bool} {S : Hs} {Q : QD} : (notNW (.bl a) (.bl b) S Q) = (Q (.bl (!decide (a = b))) S) := rfl
theorem three_c {f : D → D → D → Hs → QD → Prop} {x y z : D} {S : Hs} {Q : QD} : (three f [x, y, z] S Q) = (f x y z S Q) := rfl
theorem isDic_dK {kvs : List (Key × D)} : (isDic (.dK kvs)) = (true) := rfl
theorem isDic_dT {kvs : List (List Key × D)} : (isDic (.dT kvs)) = (true) := rfl
theorem isDic_zK {kvs : List (Key × D)} : (isDic (.zK kvs)) = (true) := rfl
theorem isDic_zT {kvs : List (List Key × D)} : (isDic (.zT kvs)) = (true) := rfl
theorem lk_dK {kvs : List (Key × D)} : (MO.lk (.dK kvs)) = (some (.zK kvs)) := rfl
theorem lk_dT {kvs : List (List Key × D)} : (MO.lk (.dT kvs)) = (some (.zT kvs)) := rfl
theorem key_int {i : Int} : (D.key (.int i)) = (some (Sum.inl i)) := rfl
theorem key_str {i : Str} : (D.key (.str i)) = (some (Sum.inr i)) := rfl
theorem keysOf_nil  : (keysOf []) = (some []) := rfl
theorem augIx_ref {a : Addr} {d : D} {S : Hs} {Q : QD} : (augIx (.ref a) d S Q) = (ixR S a d fun x => Q x S) := rfl
theorem tupleW_ctp {xs : List D} {S : Hs} {Q : QD} : (tupleW (.ctp xs) S Q) = (Q (.ctp xs) S) := rfl
theorem ixW_ctp {xs : List D} {i : Int} {S : Hs} {Q : QD} : (ixW (.ctp xs) (.int i) S Q) = (∃ x, atI xs i = some x ∧ Q x S) := rfl
theorem tyName_ctp {xs : List D} {S : Hs} : (tyName S (.ctp xs)) = (some "tuple") := rfl
theorem tru_ctp {xs : List D} {k : Bool} {S : Hs} : (TruD S (.ctp xs) k) = (k = !xs.isEmpty) := rfl
theorem inR_ctp {d : D} {xs : List D} {b : Bool} {S : Hs} : (inR S d (.ctp xs) b) = (d.flat = true ∧ xs.all D.flat = true ∧ b = xs.any fun z => D.eq z d) := by cases d <;> rfl
theorem seqOf_ctp {S : Hs} {xs : List D} : (seqOf S (.ctp xs)) = (some xs) := rfl
theorem lenW_ctp {xs : List D} {S : Hs} {Q : QD} : (lenW (.ctp xs) S Q) = (Q (.int xs.length) S) := by simp only [lenW, seqOf, Option.some.injEq, exists_eq_left', exists_and_left]
theorem isNone_ctp {xs : List D} : (isNone (.ctp xs)) = (false) := rfl
theorem augW_int {i j : Int} {S : Hs} {Q : QD} : (augW .add (.int i) (.int j) S Q) = (Q (.int (i + j)) S) := rfl
theorem augS_int {i j : Int} {S : Hs} {Q : QD} : (augW .sub (.int i) (.int j) S Q) = (Q (.int (i - j)) S) := rfl
theorem one_c {f : D → Hs → QD → Prop} {x : D} {S : Hs} {Q : QD} : (one f [x] S Q) = (f x S Q) := rfl
theorem two_c {f : D → D → Hs → QD → Prop} {x y : D} {S : Hs} {Q : QD} : (two f [x, y] S Q) = (f x y S Q) := rfl
theorem wGs_c {c : Cfg} {g : G} {r : Gs} {d : D} {t : List D} {ρ : Ro} {S : Hs} {Q : Ro → Hs → Prop} {X : XQ} : (wGs c (.cons g r) (d :: t) ρ S Q X) = (wG c g d ρ S (fun ρ' S' => wGs c r t ρ' S' Q X) X) := by simp only [wGs, List.cons.injEq]; exact propext ⟨fun ⟨_, _, ⟨e1, e2⟩, h⟩ => by subst e1 e2; exact h, fun h => ⟨_, _, ⟨rfl, rfl⟩, h⟩⟩
theorem wGs_n {c : Cfg} {ρ : Ro} {S : Hs} {Q : Ro → Hs → Prop} {X : XQ} : (wGs c .nil [] ρ S Q X) = (Q ρ S) := by simp only [wGs, true_and]
theorem wT_never {c : Cfg} {Z : DE} {ρ : Ro} {S : Hs} : (wT c .never Z ρ S) = (False) := rfl
theorem wG_tup1 {c : Cfg} {gs : Gs} {ds : List D} {ρ : Ro} {S : Hs} {Q : Ro → Hs → Prop} {X : XQ} : (wG c (.tup gs) (.tup ds) ρ S Q X) = (ds.length = gs.len ∧ wGs c gs ds ρ S Q X) := by simp only [wG, D.tup.injEq, exists_eq_left']
theorem ixW_live {S : Hs} {Q : QD} {a : Addr} {xs : List D} {i : Int} : ixW (.ref a) (.int i) (sup S a (.lst xs)) Q = (∃ x, atI xs i = some x ∧ Q x (sup S a (.lst xs))) := propext ⟨fun h => by
  rcases h with ⟨ys, j, x, e, e2, e3, q⟩ | ⟨x, g, q⟩
  · rw [sup_same] at e
    cases e
    cases e2
    exact ⟨x, e3, q⟩
  · rcases g with ⟨k, _, e | e, _⟩ | ⟨k, _, _, e | e, _⟩ <;> (rw [sup_same] at e; cases e), fun ⟨x, e, q⟩ => .inl ⟨xs, i, x, sup_same, rfl, e, q⟩⟩
theorem setW_live {S : Hs} {Q : Hs → Prop} {a : Addr} {xs : List D} {i : Int} {v : D} : setW (.ref a) (.int i) v (sup S a (.lst xs)) Q = (∃ j, ixN xs.length i = some j ∧ Q (sup S a (.lst (xs.set j v)))) := propext ⟨fun h => by
  rcases h with ⟨ys, k, j, e, e2, e3, q⟩ | h
  · rw [sup_same] at e
    cases e
    cases e2
    rw [sup_sup] at q
    exact ⟨j, e3, q⟩
  · rcases h with ⟨k, _, e, _⟩ | ⟨k, _, _, e, _⟩ <;> (rw [sup_same] at e; cases e), fun ⟨j, e, q⟩ => .inl ⟨xs, i, j, sup_same, rfl, e, by rw [sup_sup]; exact q⟩⟩
theorem ixW_dK {S : Hs} {Q : QD} {a : Addr} {kvs : List (Key × D)} {d : D} : ixW (.ref a) d (sup S a (.dK kvs)) Q = (∃ k, d.key = some k ∧ ∃ x, valD kvs k = some x ∧ Q x (sup S a (.dK kvs))) := propext ⟨fun h => by
  rcases h with ⟨ys, j, x, e, _⟩ | ⟨x, g, q⟩
  · rw [sup_same] at e; cases e
  · rcases g with ⟨l, k, e | e, ek, ev⟩ | ⟨l, _, _, e | e, _⟩
    · rw [sup_same] at e; cases e; exact ⟨k, ek, x, ev.symm, q⟩
    all_goals (rw [sup_same] at e; cases e), fun ⟨k, ek, x, ev, q⟩ => .inr ⟨x, .inl ⟨kvs, k, .inl sup_same, ek, ev.symm⟩, q⟩⟩
theorem ixW_zK {S : Hs} {Q : QD} {a : Addr} {kvs : List (Key × D)} {d : D} : ixW (.ref a) d (sup S a (.zK kvs)) Q = (∃ k, d.key = some k ∧ ∃ x, valD kvs k = some x ∧ Q x (sup S a (.zK kvs))) := propext ⟨fun h => by
  rcases h with ⟨ys, j, x, e, _⟩ | ⟨x, g, q⟩
  · rw [sup_same] at e; cases e
  · rcases g with ⟨l, k, e | e, ek, ev⟩ | ⟨l, _, _, e | e, _⟩
    · rw [sup_same] at e; cases e
    · rw [sup_same] at e; cases e; exact ⟨k, ek, x, ev.symm, q⟩
    all_goals (rw [sup_same] at e; cases e), fun ⟨k, ek, x, ev, q⟩ => .inr ⟨x, .inl ⟨kvs, k, .inr sup_same, ek, ev.symm⟩, q⟩⟩
theorem setW_dK {S : Hs} {Q : Hs → Prop} {a : Addr} {kvs : List (Key × D)} {d v : D} : setW (.ref a) d v (sup S a (.dK kvs)) Q = (∃ k, d.key = some k ∧ kvs.length < sizeLine ∧ Q (sup S a (.dK (putD kvs k v)))) := propext ⟨fun h => by
  rcases h with ⟨ys, j, x, e, _⟩ | h
  · rw [sup_same] at e; cases e
  · rcases h with ⟨l, k, e, ek, hl, q⟩ | ⟨l, _, _, e, _⟩
    · rw [sup_same] at e; cases e; rw [sup_sup] at q; exact ⟨k, ek, hl, q⟩
    all_goals (rw [sup_same] at e; cases e), fun ⟨k, ek, hl, q⟩ => .inr (.inl ⟨kvs, k, sup_same, ek, hl, by rw [sup_sup]; exact q⟩)⟩
theorem inR_live {S : Hs} {a : Addr} {xs : List D} {d : D} {b : Bool} : inR (sup S a (.lst xs)) d (.ref a) b = (d.flat = true ∧ xs.all D.flat = true ∧ b = xs.any fun z => D.eq z d) := propext ⟨fun h => by
  have h : (∃ ys, sup S a (.lst xs) a = some (.lst ys) ∧ d.flat = true ∧ ys.all D.flat = true ∧ b = ys.any fun z => D.eq z d) ∨ ∃ o, dgetR (sup S a (.lst xs)) a d o ∧ b = o.isSome := by cases d <;> exact h
  rcases h with ⟨ys, e, h⟩ | ⟨o, g, _⟩
  · rw [sup_same] at e; cases e; exact h
  · rcases g with ⟨k, _, e | e, _⟩ | ⟨k, _, _, e | e, _⟩ <;> (rw [sup_same] at e; cases e), fun h => by
  have : (∃ ys, sup S a (.lst xs) a = some (.lst ys) ∧ d.flat = true ∧ ys.all D.flat = true ∧ b = ys.any fun z => D.eq z d) ∨ ∃ o, dgetR (sup S a (.lst xs)) a d o ∧ b = o.isSome := .inl ⟨xs, sup_same, h⟩
  cases d <;> exact this⟩
theorem dget_dK {S : Hs} {a : Addr} {kvs : List (Key × D)} {d : D} {o : Option D} : dgetR (sup S a (.dK kvs)) a d o = (∃ k, d.key = some k ∧ o = valD kvs k) := propext ⟨fun h => by
  rcases h with ⟨l, k, e | e, ek, ev⟩ | ⟨l, _, _, e | e, _⟩
  · rw [sup_same] at e; cases e; exact ⟨k, ek, ev⟩
  all_goals (rw [sup_same] at e; cases e), fun ⟨k, ek, ev⟩ => .inl ⟨kvs, k, .inl sup_same, ek, ev⟩⟩
theorem inR_dK {S : Hs} {a : Addr} {kvs : List (Key × D)} {d : D} {b : Bool} : inR (sup S a (.dK kvs)) d (.ref a) b = (∃ k, d.key = some k ∧ b = (valD kvs k).isSome) := propext ⟨fun h => by
  have h : (∃ ys, sup S a (.dK kvs) a = some (.lst ys) ∧ d.flat = true ∧ ys.all D.flat = true ∧ b = ys.any fun z => D.eq z d) ∨ ∃ o, dgetR (sup S a (.dK kvs)) a d o ∧ b = o.isSome := by cases d <;> exact h
  rcases h with ⟨ys, e, h⟩ | ⟨o, g, e⟩
  · rw [sup_same] at e; cases e
  · rw [dget_dK] at g
    obtain ⟨k, ek, rfl⟩ := g
    exact ⟨k, ek, e⟩, fun ⟨k, ek, e⟩ => by
  have : (∃ ys, sup S a (.dK kvs) a = some (.lst ys) ∧ d.flat = true ∧ ys.all D.flat = true ∧ b = ys.any fun z => D.eq z d) ∨ ∃ o, dgetR (sup S a (.dK kvs)) a d o ∧ b = o.isSome := .inr ⟨_, by rw [dget_dK]; exact ⟨k, ek, rfl⟩, e⟩
  cases d <;> exact this⟩
end Dz
namespace Dz
open PySem PySem.Spec PyProof.Rows L2
section
variable {P : Program} {w : World} {K : PySem.W.Frag} {mg : Str → Option Value} {base : Heap} {k : Nat}
theorem FnAt.mono {j : Nat} {p : Str × DSp} (h : FnAt P w K mg base j p) (l : j ≤ k) : FnAt P w K mg base k p := by
  obtain ⟨f, fd, ps, h1, h2, h3, h4⟩ := h
  exact ⟨f, fd, ps, h1, h2, h3, h4.mono l⟩
theorem fns_nil : ∀ p ∈ ([] : List (Str × DSp)), FnAt P w K mg base k p := fun _ h => by cases h
theorem fns_cons {j : Nat} {p : Str × DSp} {ps : List (Str × DSp)} (h : FnAt P w K mg base j p) (l : j ≤ k) (t : ∀ q ∈ ps, FnAt P w K mg base k q) : ∀ q ∈ p :: ps, FnAt P w K mg base k q := fun q hq => by
  rcases List.mem_cons.mp hq with rfl | hq
  · exact h.mono l
  · exact t q hq
theorem all_nil {α : Type} {Z : α → Prop} : ∀ p ∈ ([] : List α), Z p := fun _ h => by cases h
theorem all_cons {α : Type} {Z : α → Prop} {a : α} {l : List α} (h : Z a) (t : ∀ p ∈ l, Z p) : ∀ p ∈ a :: l, Z p := fun p hp => by
  rcases List.mem_cons.mp hp with rfl | hp
  · exact h
  · exact t p hp
theorem MthAt.mono {j : Nat} {p : MthD} (h : MthAt P w K base mg j p) (l : j ≤ k) : MthAt P w K base mg k p := by
  obtain ⟨h0, f, fd, ps, h1, h2, h3⟩ := h
  exact ⟨h0, f, fd, ps, h1, h2, h3.mono l⟩
theorem MkAt.mono {j : Nat} {p : MthD} (h : MkAt P w K base mg j p) (l : j ≤ k) : MkAt P w K base mg k p := by
  obtain ⟨h0, f, fd, ps, i, hi, h1, h2, h3⟩ := h
  exact ⟨h0, f, fd, ps, i, Nat.le_trans hi l, h1, h2, h3⟩
theorem con_nil : ∀ p ∈ ([] : List (Str × D)), ∃ v u, mg p.1 = some u ∧ RelV v u ∧ ∀ S H, Dv K S H v p.2 := fun _ h => by cases h
theorem con_int {x : Str} {i : Int} {ps : List (Str × D)} {t0 : Tok} (h : mg x = some (.int i t0)) (t : ∀ p ∈ ps, ∃ v u, mg p.1 = some u ∧ RelV v u ∧ ∀ S H, Dv K S H v p.2) : ∀ p ∈ (x, D.int i) :: ps, ∃ v u, mg p.1 = some u ∧ RelV v u ∧ ∀ S H, Dv K S H v p.2 := fun q hq => by
  rcases List.mem_cons.mp hq with rfl | hq
  · exact ⟨.int i, .int i t0, h, ⟨_, rfl⟩, fun S H => .int i⟩
  · exact t q hq
theorem nob_nil : ∀ x ∈ ([] : List Str), mg x = none := fun _ h => by cases h
theorem nob_cons {x : Str} {xs : List Str} (h : mg x = none) (t : ∀ x ∈ xs, mg x = none) : ∀ y ∈ x :: xs, mg y = none := fun y hy => by
  rcases List.mem_cons.mp hy with rfl | hy
  · exact h
  · exact t y hy
end
theorem dva_iD {K : PySem.W.Frag} {S : Hs} {H : Hp} (ns : List Int) : DvA K S H (ns.map V.int) (ns.map D.int) := DvA.ints ns
/-- the law's own head -/
theorem walk_D {l : PySem.W.OpenLaw} {n k : Nat} {q : Program} {loose : List Str} {XP : (Str → Option Value) → Heap → Prop} {YP : World → Heap → Prop} {d : DefRec} {K : Params → PySem.W.Frag} {sp : DSp} {x : Str}
    (hn : l.most = some n) (hn2 : n ≤ sizeLine) (hdf : d.params.defaults = []) (hr : Room k callerA)
    (hY : ∀ (w : World) (h : Heap), YP w h → (K w.params).In h)
    (F : ∀ (w : World) (mg : Str → Option Value) (h : Heap), (K w.params).In h → h.Ns mainGlobals mg → XP mg h → ∀ fa, mg d.name = some (.ref fa) →
      ∃ fd : FuncData, (∀ (s : Shared) (u : Value), BindsTo s fd ⟨[u], []⟩ [(x, u)]) ∧
        ∀ base : Heap, (K w.params).In base → base.Ns mainGlobals mg → FnOk l.prog w (K w.params) mg base (L2.CX l.prog w) k fa fd [x] (toSp (K w.params) sp))
    (hsp : ∀ (ns : List Int), ns.length ≤ n → (∀ z ∈ ns, Builtin.Int.intBits z ≤ 1048576) → sp [.lst (ns.map D.int)] (fun _ => none) (fun d _ => d = .bl true) X0) :
    PySem.W.WalkO q loose XP YP l.row.toRowW d [] (fun f vs => PySem.call f vs) := by
  refine Att.attach_callB hn hdf fun w s₀ s₁ mg mb fa o pm cd doc a vs ns G Y ho hd hcd hmg hobj hints hlen hbits hg => ?_
  have KX := hY w _ Y
  obtain ⟨fd, hb, hF⟩ := F w mg _ KX G.T.g G.X fa hmg
  refine law_call KX G.T.g G.T.b G.T.builtins G.T.nolimit hg hobj hints (Nat.le_trans hlen hn2) hr hF hb (fun H hO hS => ?_) fun H e s' z => ?_
  · refine ⟨[.lst (ns.map D.int)], fun _ => none, _, X0, fun a o e => (by cases e), .cons ?_ .nil, hsp ns hlen hbits, ?_, EndX.X0⟩
    · rcases hS with h | h
      · exact .lst rfl h (DvA.ints ns)
      · exact .lstK h (DvA.ints ns)
    · intro v H' d S' r f x e
      subst e
      cases x
      rfl
  · obtain ⟨_, _, _, _, _, _, _, _, _, _, _, _, z⟩ := z
    exact z
end Dz
namespace Dz
open PySem L2
theorem mergeD_snoc {κ : Type} [DecidableEq κ] {a b : List (κ × D)} {k : κ} {v : D} : mergeD a (b ++ [(k, v)]) = putD (mergeD a b) k v := by
  unfold mergeD; rw [List.foldl_append]; rfl
theorem dcomp_pureM {vs : List Nat} {wg : D → Ro → Hs → (Ro → Hs → Prop) → XQ → Prop} {wc : WB} {wk wv : WE} {ρ : Ro} {Q : QD} {Pr : Hs → Prop} {S : Hs} {α : Type} {xs : List α} {g : α → D} (f : α → Option (Key × D)) (hl : xs.length < sizeLine) (hp : ∀ S2 : Hs, (∀ a o, S a = some o → S2 a = some o) → Pr S2)
    (turn : ∀ (i : Nat) x S2 (K : D → D → Hs → Prop) (K' : Hs → Prop), xs[i]? = some x → (∀ a o, S a = some o → S2 a = some o) → (∀ k y z, y.key = some k → f x = some (k, z) → K y z S2) → (f x = none → K' S2) → wg (g x) (wipeD ρ vs) S2 (fun ρ' S3 =>
        wc ρ' S3 (fun b S4 => if b = true then wk ρ' S4 (fun y S5 => wv ρ' S5 (fun z S6 => K y z S6) X0) X0 else K' S4) X0) X0)
    (q : ∀ L, S L = none → Q (.ref L) (sup S L (.dK (mergeD [] (xs.filterMap f))))) : dcompB vs wg wc wk wv ρ Q (xs.map g) Pr S := by
  refine ⟨by rw [List.length_map]; exact hl, fun L hL => ⟨fun i acc S2 => acc = mergeD [] ((xs.take i).filterMap f) ∧ S2 = sup S L (.dK acc), ⟨rfl, rfl⟩, ?_, ?_⟩⟩
  · rintro i x acc S2 hi _ ⟨rfl, rfl⟩
    obtain ⟨x, hi2, rfl⟩ := map_of hi
    clear hi
    have hi := hi2
    have ext : ∀ a o, S a = some o → (sup S L (.dK (mergeD [] ((xs.take i).filterMap f)))) a = some o := fun a o h => by rw [sup_ne (sne h hL)]; exact h
    have ht := take_of hi
    refine ⟨sup_same, hp _ ext, turn i x _ (fun y z S6 => S6 L = some (.dK (mergeD [] ((xs.take i).filterMap f))) ∧ ∃ k, y.key = some k ∧ putD (mergeD [] ((xs.take i).filterMap f)) k z = mergeD [] ((xs.take (i + 1)).filterMap f) ∧ sup S6 L (.dK (putD (mergeD [] ((xs.take i).filterMap f)) k z)) = sup S L (.dK (putD (mergeD [] ((xs.take i).filterMap f)) k z))) _ hi ext (fun k y z hk hy => ⟨sup_same, k, hk, ?_, ?_⟩) fun hn => ⟨?_, rfl⟩⟩
    · rw [ht, List.filterMap_append]; simp [hy, mergeD_snoc]
    · rw [sup_sup]
    · rw [ht, List.filterMap_append]; simp [hn]
  · rintro acc S2 _ ⟨rfl, rfl⟩
    rw [List.length_map, List.take_length]
    exact ⟨sup_same, hp _ fun a o h => by rw [sup_ne (sne h hL)]; exact h, q L hL⟩
theorem put_new {κ : Type} [DecidableEq κ] {kvs : List (κ × D)} {k : κ} {v : D} (h : k ∉ kvs.map (·.1)) : putD kvs k v = kvs ++ [(k, v)] := by
  unfold putD
  rw [if_neg]
  rw [List.any_eq_true]
  rintro ⟨p, hp, e⟩
  exact h (List.mem_map.mpr ⟨p, hp, by simpa using e⟩)
theorem put_keys {κ : Type} [DecidableEq κ] {kvs : List (κ × D)} {k : κ} {v : D} (h : k ∈ kvs.map (·.1)) : (putD kvs k v).map (·.1) = kvs.map (·.1) := by
  unfold putD
  rw [if_pos]
  · rw [List.map_map]
    refine List.map_congr_left fun p _ => ?_
    by_cases e : p.1 = k <;> simp [e]
  · obtain ⟨p, hp, e⟩ := List.mem_map.mp h
    exact List.any_eq_true.mpr ⟨p, hp, by simpa using e⟩
theorem put_mem {κ : Type} [DecidableEq κ] {kvs : List (κ × D)} {k j : κ} {v : D} : j ∈ (putD kvs k v).map (·.1) ↔ j ∈ kvs.map (·.1) ∨ j = k := by
  by_cases h : k ∈ kvs.map (·.1)
  · rw [put_keys h]
    constructor
    · exact .inl
    · rintro (x | rfl)
      · exact x
      · exact h
  · rw [put_new h]; simp
/-- as many keys as things: no thing is twice -/
theorem merge_len {κ : Type} [DecidableEq κ] : ∀ (b a : List (κ × D)), (mergeD a b).length ≤ a.length + b.length ∧ ((mergeD a b).length = a.length + b.length ↔ (b.map (·.1)).Nodup ∧ ∀ k ∈ b.map (·.1), k ∉ a.map (·.1))
  | [], a => by simp [mergeD]
  | (k, v) :: r, a => by
    have ih := merge_len r (putD a k v)
    have e : mergeD a ((k, v) :: r) = mergeD (putD a k v) r := rfl
    rw [e]
    rw [List.length_cons]
    by_cases h : k ∈ a.map (·.1)
    · have l : (putD a k v).length = a.length := by have := congrArg List.length (put_keys (v := v) h); simpa using this
      rw [l] at ih
      refine ⟨by omega, ?_⟩
      constructor
      · intro z; omega
      · rintro ⟨_, z⟩; exact (z k (by simp) h).elim
    · have l : (putD a k v).length = a.length + 1 := by rw [put_new h]; simp
      rw [l] at ih
      refine ⟨by omega, ?_⟩
      rw [show a.length + (r.length + 1) = a.length + 1 + r.length by omega, ih.2]
      simp only [List.map_cons, List.nodup_cons, List.mem_cons, forall_eq_or_imp]
      constructor
      · rintro ⟨h1, h2⟩
        refine ⟨⟨fun z => h2 k z (put_mem.mpr (.inr rfl)), h1⟩, h, fun j hj z => h2 j hj (put_mem.mpr (.inl z))⟩
      · rintro ⟨⟨h1, h2⟩, h3, h4⟩
        refine ⟨h2, fun j hj z => ?_⟩
        rcases put_mem.mp z with z | rfl
        · exact h4 j hj z
        · exact h1 hj
theorem merge_int {ns : List Int} {v : D} : (mergeD [] (ns.map fun i => ((Sum.inl i : Key), v))).length ≤ ns.length ∧ ((mergeD [] (ns.map fun i => ((Sum.inl i : Key), v))).length = ns.length ↔ ns.Nodup) := by
  have h := merge_len (ns.map fun i => ((Sum.inl i : Key), v)) []
  simp only [List.length_nil, List.length_map, Nat.zero_add, List.map_map, List.map_nil, List.not_mem_nil, not_false_eq_true, implies_true, and_true] at h
  refine ⟨h.1, h.2.trans ?_⟩
  show (List.map (fun i => (Sum.inl i : Key)) ns).Nodup ↔ _
  unfold List.Nodup
  rw [List.pairwise_map]
  constructor <;> exact fun h => h.imp fun z e => z (by first | exact congrArg _ e | cases e; rfl)
theorem sort_id {ns : List Int} (h : ns.Pairwise (· ≤ ·)) : sortI ns = ns := by
  unfold sortI
  exact List.mergeSort_of_pairwise (h.imp fun z => by simpa using z)
theorem sort_iff {ns : List Int} : ns = sortI ns ↔ ns.Pairwise (· ≤ ·) := ⟨fun h => by rw [h]; exact sort_le _, fun h => (sort_id h).symm⟩
theorem lt_iff {ns : List Int} : ns.Pairwise (· < ·) ↔ ns.Pairwise (· ≤ ·) ∧ ns.Nodup := by
  constructor
  · intro h
    exact ⟨h.imp fun z => Int.le_of_lt z, h.imp fun z e => by omega⟩
  · rintro ⟨h1, h2⟩
    exact List.Pairwise.imp (fun z => by omega) (List.Pairwise.and h1 h2)
theorem compK {c : Cfg} {own : List (Str × Nat)} {gg : G} {cond : Es} {elt : E} {ρ : Ro} {Q : QD} {Pr : Hs → Prop} {S : Hs} {α : Type} {xs : List α} {g : α → D} (f : α → Option D) (hl : xs.length ≤ sizeLine) (hp : ∀ S2 : Hs, (∀ a o, S a = some o → S2 a = some o) → Pr S2)
    (turn : ∀ (i : Nat) x S2 (K : QD) (K' : Hs → Prop), xs[i]? = some x → (∀ a o, S a = some o → S2 a = some o) → (∀ y, f x = some y → K y S2) → (f x = none → K' S2) → wG c gg (g x) (wipeD ρ (own.map (·.2))) S2 (fun ρ' S3 =>
        wC c cond ρ' S3 (fun b S4 => if b = true then wE c elt ρ' S4 K X0 else K' S4) X0) X0)
    (q : Q (.lst (xs.filterMap f)) S) : CompK c own gg cond elt ρ Q (xs.map g) Pr S := comp_pureM f hl hp turn q
theorem dcompK {c : Cfg} {own : List (Str × Nat)} {gg : G} {cond : Es} {ke ve : E} {ρ : Ro} {Q : QD} {Pr : Hs → Prop} {S : Hs} {α : Type} {xs : List α} {g : α → D} (f : α → Option (Key × D)) (hl : xs.length < sizeLine) (hp : ∀ S2 : Hs, (∀ a o, S a = some o → S2 a = some o) → Pr S2)
    (turn : ∀ (i : Nat) x S2 (K : D → D → Hs → Prop) (K' : Hs → Prop), xs[i]? = some x → (∀ a o, S a = some o → S2 a = some o) → (∀ k y z, y.key = some k → f x = some (k, z) → K y z S2) → (f x = none → K' S2) → wG c gg (g x) (wipeD ρ (own.map (·.2))) S2 (fun ρ' S3 =>
        wC c cond ρ' S3 (fun b S4 => if b = true then wE c ke ρ' S4 (fun y S5 => wE c ve ρ' S5 (fun z S6 => K y z S6) X0) X0 else K' S4) X0) X0)
    (q : ∀ L, S L = none → Q (.ref L) (sup S L (.dK (mergeD [] (xs.filterMap f))))) : DCompK c own gg cond ke ve ρ Q (xs.map g) Pr S := dcomp_pureM f hl hp turn q
end Dz
namespace W
open PySem L2 Dz
def top (i : Nat) : Stmt := PySem.Challenge.pw_waysinstep_k42_whole_lots_that_are_enoug.main.body.getD i (.Pass ⟨0, 0, 0, 0⟩)
/-! _law_seen calls [] [] cons [] mks [] excs []  -/
def n_law_seen : Nm := ⟨["versions", "snapshot", "pair"], [], [], [], [], [], true⟩
def b_law_seen : Ts := (.cons (.for_ (.name 2) (.seq (.var 0)) (.cons (.ite (.cm .le (.ix (.var 2) (.int 0)) (.var 1)) (.cons (.ret (.var 2)) .nil) .nil) .nil)) (.cons (.ret .non) .nil))
theorem k_law_seen : cTs n_law_seen b_law_seen (defScope (top 35)) (defBody (top 35)) = true := by decide +kernel
theorem sc_law_seen : FnScope n_law_seen.N ["versions", "snapshot"] (defScope (top 35)) := ⟨rfl, rfl, rfl, by decide +kernel, rfl, by decide +kernel, by decide +kernel⟩
/-! _law_is_lot calls [] [] cons [] mks [] excs []  -/
def n_law_is_lot : Nm := ⟨["thing", "commits", "ahead", "one"], [], [], ["isinstance", "bool", "int", "tuple"], [], [], true⟩
def b_law_is_lot : Ts := (.cons (.ite (.not (.isi (.var 0) ["tuple"])) (.cons (.ret (.bl false)) .nil) .nil) (.cons (.asg (.name 2) (.int 0)) (.cons (.for_ (.name 3) (.seq (.var 0)) (.cons (.ite (.or (.cons (.not (.isi (.var 3) ["int"])) (.cons (.isi (.var 3) ["bool"]) (.cons (.cm .le (.var 3) (.var 2)) (.cons (.cm .notIn (.var 3) (.var 1)) .nil))))) (.cons (.ret (.bl false)) .nil) .nil) (.cons (.asg (.name 2) (.var 3)) .nil))) (.cons (.ret (.bl true)) .nil))))
theorem k_law_is_lot : cTs n_law_is_lot b_law_is_lot (defScope (top 34)) (defBody (top 34)) = true := by decide +kernel
theorem sc_law_is_lot : FnScope n_law_is_lot.N ["thing", "commits"] (defScope (top 34)) := ⟨rfl, rfl, rfl, by decide +kernel, rfl, by decide +kernel, by decide +kernel⟩
/-! _law_is_enough calls ['_law_seen', '_law_is_lot'] [] cons [] mks [] excs []  -/
def n_law_is_enough : Nm := ⟨["versions", "asked", "thing", "kept", "snapshot", "whole", "part", "pair"], ["_law_seen", "_law_is_lot"], [], [], [], [], true⟩
def b_law_is_enough : Ts := (.cons (.ite (.not (.call 1 (.cons (.var 2) (.cons (.comp [("pair", 7)] (.name 7) (.seq (.var 0)) .nil (.ix (.var 7) (.int 0))) .nil)))) (.cons (.ret (.bl false)) .nil) .nil) (.cons (.setc 3 (.comp [("pair", 7)] (.name 7) (.seq (.var 0)) (.cons (.cm .isIn (.ix (.var 7) (.int 0)) (.var 2)) .nil) (.var 7))) (.cons (.for_ (.name 4) (.seq (.var 1)) (.cons (.asg (.name 5) (.call 0 (.cons (.var 0) (.cons (.var 4) .nil)))) (.cons (.asg (.name 6) (.call 0 (.cons (.var 3) (.cons (.var 4) .nil)))) (.cons (.ite (.cm .isN (.var 6) .non) (.cons (.ite (.and (.cons (.cm .notN (.var 5) .non) (.cons (.cm .notN (.ix (.var 5) (.int 1)) .non) .nil))) (.cons (.ret (.bl false)) .nil) .nil) .nil) (.cons (.ite (.cm .ne (.ix (.var 5) (.int 0)) (.ix (.var 6) (.int 0))) (.cons (.ret (.bl false)) .nil) .nil) .nil)) .nil)))) (.cons (.ret (.bl true)) .nil))))
theorem k_law_is_enough : cTs n_law_is_enough b_law_is_enough (defScope (top 36)) (defBody (top 36)) = true := by decide +kernel
theorem sc_law_is_enough : FnScope n_law_is_enough.N ["versions", "asked", "thing"] (defScope (top 36)) := ⟨rfl, rfl, rfl, by decide +kernel, rfl, by decide +kernel, by decide +kernel⟩
/-! asked_of calls [] [] cons [] mks [] excs []  -/
def n_asked_of : Nm := ⟨["open_lot", "last", "snapshot"], [], [], ["tuple"], [], [], true⟩
def b_asked_of : Ts := (.cons (.ret (.b2 .add (.bi .tuple1 (.cons (.comp [("snapshot", 2)] (.name 2) (.seq (.var 0)) (.cons (.cm .lt (.var 2) (.var 1)) .nil) (.var 2)) .nil)) (.tup (.cons (.var 1) .nil)))) .nil)
theorem k_asked_of : cTs n_asked_of b_asked_of (defScope (top 20)) (defBody (top 20)) = true := by decide +kernel
theorem sc_asked_of : FnScope n_asked_of.N ["open_lot", "last"] (defScope (top 20)) := ⟨rfl, rfl, rfl, by decide +kernel, rfl, by decide +kernel, by decide +kernel⟩
/-! seen_of calls [] [] cons [] mks [] excs []  -/
def n_seen_of : Nm := ⟨["versions", "snapshot", "version"], [], [], [], [], [], true⟩
def b_seen_of : Ts := (.cons (.for_ (.name 2) (.seq (.var 0)) (.cons (.ite (.cm .le (.ix (.var 2) (.int 0)) (.var 1)) (.cons (.ret (.var 2)) .nil) .nil) .nil)) (.cons (.ret .non) .nil))
theorem k_seen_of : cTs n_seen_of b_seen_of (defScope (top 19)) (defBody (top 19)) = true := by decide +kernel
theorem sc_seen_of : FnScope n_seen_of.N ["versions", "snapshot"] (defScope (top 19)) := ⟨rfl, rfl, rfl, by decide +kernel, rfl, by decide +kernel, by decide +kernel⟩
/-! is_integer calls [] [] cons [] mks [] excs []  -/
def n_is_integer : Nm := ⟨["thing"], [], [], ["isinstance", "bool", "int"], [], [], true⟩
def b_is_integer : Ts := (.cons (.ret (.and (.cons (.isi (.var 0) ["int"]) (.cons (.not (.isi (.var 0) ["bool"])) .nil)))) .nil)
theorem k_is_integer : cTs n_is_integer b_is_integer (defScope (top 2)) (defBody (top 2)) = true := by decide +kernel
theorem sc_is_integer : FnScope n_is_integer.N ["thing"] (defScope (top 2)) := ⟨rfl, rfl, rfl, by decide +kernel, rfl, by decide +kernel, by decide +kernel⟩
/-! is_within calls ['is_integer'] [] cons [] mks [] excs []  -/
def n_is_within : Nm := ⟨["thing", "least", "most"], ["is_integer"], [], [], [], [], true⟩
def b_is_within : Ts := (.cons (.ret (.and (.cons (.call 0 (.cons (.var 0) .nil)) (.cons (.ch .le .le (.var 1) (.var 0) (.var 2)) .nil)))) .nil)
theorem k_is_within : cTs n_is_within b_is_within (defScope (top 3)) (defBody (top 3)) = true := by decide +kernel
theorem sc_is_within : FnScope n_is_within.N ["thing", "least", "most"] (defScope (top 3)) := ⟨rfl, rfl, rfl, by decide +kernel, rfl, by decide +kernel, by decide +kernel⟩
/-! is_lot calls ['is_within'] [] cons [] mks [] excs []  -/
def n_is_lot : Nm := ⟨["thing", "many", "last", "number"], ["is_within"], [], ["isinstance", "tuple"], [], [], true⟩
def b_is_lot : Ts := (.cons (.ite (.not (.isi (.var 0) ["tuple"])) (.cons (.ret (.bl false)) .nil) .nil) (.cons (.asg (.name 2) (.neg (.int 1))) (.cons (.for_ (.name 3) (.seq (.var 0)) (.cons (.ite (.not (.call 0 (.cons (.var 3) (.cons (.b2 .add (.var 2) (.int 1)) (.cons (.b2 .sub (.var 1) (.int 1)) .nil))))) (.cons (.ret (.bl false)) .nil) .nil) (.cons (.asg (.name 2) (.var 3)) .nil))) (.cons (.ret (.bl true)) .nil))))
theorem k_is_lot : cTs n_is_lot b_is_lot (defScope (top 5)) (defBody (top 5)) = true := by decide +kernel
theorem sc_is_lot : FnScope n_is_lot.N ["thing", "many"] (defScope (top 5)) := ⟨rfl, rfl, rfl, by decide +kernel, rfl, by decide +kernel, by decide +kernel⟩
/-! check_open calls ['is_lot'] [] cons [] mks [] excs [] NEVER line 49: raise -/
def n_check_open : Nm := ⟨["open_lot", "last"], ["is_lot"], [], [], [], [], true⟩
def b_check_open : Ts := (.cons (.ite (.not (.call 0 (.cons (.var 0) (.cons (.b2 .add (.var 1) (.int 1)) .nil)))) (.cons .never .nil) .nil) .nil)
theorem k_check_open : cTs n_check_open b_check_open (defScope (top 17)) (defBody (top 17)) = true := by decide +kernel
theorem sc_check_open : FnScope n_check_open.N ["open_lot", "last"] (defScope (top 17)) := ⟨rfl, rfl, rfl, by decide +kernel, rfl, by decide +kernel, by decide +kernel⟩
/-! check_last calls ['is_within'] [] cons ['MOST_WORTH'] mks [] excs [] NEVER line 46: raise -/
def n_check_last : Nm := ⟨["last", "least"], ["is_within"], ["MOST_WORTH"], [], [], [], true⟩
def b_check_last : Ts := (.cons (.ite (.not (.call 0 (.cons (.var 0) (.cons (.var 1) (.cons (.glob 0) .nil))))) (.cons .never .nil) .nil) .nil)
theorem k_check_last : cTs n_check_last b_check_last (defScope (top 16)) (defBody (top 16)) = true := by decide +kernel
theorem sc_check_last : FnScope n_check_last.N ["last", "least"] (defScope (top 16)) := ⟨rfl, rfl, rfl, by decide +kernel, rfl, by decide +kernel, by decide +kernel⟩
/-! is_worth calls ['is_within'] [] cons ['MOST_WORTH'] mks [] excs []  -/
def n_is_worth : Nm := ⟨["thing"], ["is_within"], ["MOST_WORTH"], [], [], [], true⟩
def b_is_worth : Ts := (.cons (.ret (.call 0 (.cons (.var 0) (.cons (.neg (.glob 0)) (.cons (.glob 0) .nil))))) .nil)
theorem k_is_worth : cTs n_is_worth b_is_worth (defScope (top 6)) (defBody (top 6)) = true := by decide +kernel
theorem sc_is_worth : FnScope n_is_worth.N ["thing"] (defScope (top 6)) := ⟨rfl, rfl, rfl, by decide +kernel, rfl, by decide +kernel, by decide +kernel⟩
/-! is_mark calls ['is_worth'] [] cons [] mks [] excs []  -/
def n_is_mark : Nm := ⟨["thing"], ["is_worth"], [], [], [], [], true⟩
def b_is_mark : Ts := (.cons (.ret (.or (.cons (.cm .isN (.var 0) .non) (.cons (.call 0 (.cons (.var 0) .nil)) .nil)))) .nil)
theorem k_is_mark : cTs n_is_mark b_is_mark (defScope (top 7)) (defBody (top 7)) = true := by decide +kernel
theorem sc_is_mark : FnScope n_is_mark.N ["thing"] (defScope (top 7)) := ⟨rfl, rfl, rfl, by decide +kernel, rfl, by decide +kernel, by decide +kernel⟩
/-! is_commit calls ['is_within'] [] cons ['MOST_WORTH'] mks [] excs []  -/
def n_is_commit : Nm := ⟨["thing"], ["is_within"], ["MOST_WORTH"], [], [], [], true⟩
def b_is_commit : Ts := (.cons (.ret (.call 0 (.cons (.var 0) (.cons (.int 1) (.cons (.glob 0) .nil))))) .nil)
theorem k_is_commit : cTs n_is_commit b_is_commit (defScope (top 8)) (defBody (top 8)) = true := by decide +kernel
theorem sc_is_commit : FnScope n_is_commit.N ["thing"] (defScope (top 8)) := ⟨rfl, rfl, rfl, by decide +kernel, rfl, by decide +kernel, by decide +kernel⟩
/-! is_pair calls [] [] cons [] mks [] excs []  -/
def n_is_pair : Nm := ⟨["thing"], [], [], ["len", "isinstance", "tuple"], [], [], true⟩
def b_is_pair : Ts := (.cons (.ret (.and (.cons (.isi (.var 0) ["tuple"]) (.cons (.cm .eq (.bi .len (.cons (.var 0) .nil)) (.int 2)) .nil)))) .nil)
theorem k_is_pair : cTs n_is_pair b_is_pair (defScope (top 4)) (defBody (top 4)) = true := by decide +kernel
theorem sc_is_pair : FnScope n_is_pair.N ["thing"] (defScope (top 4)) := ⟨rfl, rfl, rfl, by decide +kernel, rfl, by decide +kernel, by decide +kernel⟩
/-! check_versions calls ['is_mark', 'is_commit', 'is_pair'] [] cons [] mks [] excs [] NEVER line 43: raise; line 41: raise; line 38: raise -/
def n_check_versions : Nm := ⟨["versions", "index", "version"], ["is_mark", "is_commit", "is_pair"], [], ["enumerate", "isinstance", "list", "tuple"], [], [], true⟩
def b_check_versions : Ts := (.cons (.ite (.not (.isi (.var 0) ["list", "tuple"])) (.cons .never .nil) .nil) (.cons (.for_ (.tup (.cons (.name 1) (.cons (.name 2) .nil))) (.enum (.var 0)) (.cons (.ite (.or (.cons (.not (.call 2 (.cons (.var 2) .nil))) (.cons (.not (.call 1 (.cons (.ix (.var 2) (.int 0)) .nil))) (.cons (.not (.call 0 (.cons (.ix (.var 2) (.int 1)) .nil))) .nil)))) (.cons .never .nil) .nil) (.cons (.ite (.and (.cons (.cm .gt (.var 1) (.int 0)) (.cons (.cm .ge (.ix (.var 2) (.int 0)) (.ix (.ix (.var 0) (.b2 .sub (.var 1) (.int 1))) (.int 0))) .nil))) (.cons .never .nil) .nil) .nil))) .nil))
theorem k_check_versions : cTs n_check_versions b_check_versions (defScope (top 15)) (defBody (top 15)) = true := by decide +kernel
theorem sc_check_versions : FnScope n_check_versions.N ["versions"] (defScope (top 15)) := ⟨rfl, rfl, rfl, by decide +kernel, rfl, by decide +kernel, by decide +kernel⟩
/-! check_asked calls ['check_open', 'check_last', 'check_versions'] [] cons [] mks [] excs []  -/
def n_check_asked : Nm := ⟨["versions", "open_lot", "last"], ["check_open", "check_last", "check_versions"], [], ["len"], [], [], true⟩
def b_check_asked : Ts := (.cons (.ex (.call 2 (.cons (.var 0) .nil))) (.cons (.ex (.call 1 (.cons (.var 2) (.cons (.ife (.cm .gt (.bi .len (.cons (.var 0) .nil)) (.int 0)) (.ix (.ix (.var 0) (.int 0)) (.int 0)) (.int 0)) .nil)))) (.cons (.ex (.call 0 (.cons (.var 1) (.cons (.var 2) .nil)))) .nil)))
theorem k_check_asked : cTs n_check_asked b_check_asked (defScope (top 18)) (defBody (top 18)) = true := by decide +kernel
theorem sc_check_asked : FnScope n_check_asked.N ["versions", "open_lot", "last"] (defScope (top 18)) := ⟨rfl, rfl, rfl, by decide +kernel, rfl, by decide +kernel, by decide +kernel⟩
/-! is_kept_right calls ['asked_of', 'seen_of', 'is_integer', 'check_asked'] [] cons [] mks [] excs []  -/
def n_is_kept_right : Nm := ⟨["versions", "open_lot", "last", "thing", "commits", "kept", "snapshot", "version", "elder", "newer", "commit"], ["asked_of", "seen_of", "is_integer", "check_asked"], [], ["all", "len", "list", "sorted", "isinstance", "tuple"], [], [], true⟩
def b_is_kept_right : Ts := (.cons (.ex (.call 3 (.cons (.var 0) (.cons (.var 1) (.cons (.var 2) .nil))))) (.cons (.ite (.or (.cons (.not (.isi (.var 3) ["tuple"])) (.cons (.not (.bi .all (.cons (.comp [("commit", 10)] (.name 10) (.seq (.var 3)) .nil (.call 2 (.cons (.var 10) .nil))) .nil))) .nil))) (.cons (.ret (.bl false)) .nil) .nil) (.cons (.asg (.name 4) (.comp [("version", 7)] (.name 7) (.seq (.var 0)) .nil (.ix (.var 7) (.int 0)))) (.cons (.ite (.or (.cons (.cm .ne (.bi .list1 (.cons (.var 3) .nil)) (.bi .sorted (.cons (.var 3) .nil))) (.cons (.cm .lt (.bi .len (.cons (.dcomp [("commit", 10)] (.name 10) (.seq (.var 3)) .nil (.var 10) (.bl true)) .nil)) (.bi .len (.cons (.var 3) .nil))) .nil))) (.cons (.ret (.bl false)) .nil) .nil) (.cons (.ite (.not (.bi .all (.cons (.comp [("commit", 10)] (.name 10) (.seq (.var 3)) .nil (.cm .isIn (.var 10) (.var 4))) .nil))) (.cons (.ret (.bl false)) .nil) .nil) (.cons (.setc 5 (.comp [("version", 7)] (.name 7) (.seq (.var 0)) (.cons (.cm .isIn (.ix (.var 7) (.int 0)) (.var 3)) .nil) (.var 7))) (.cons (.for_ (.name 6) (.seq (.call 0 (.cons (.var 1) (.cons (.var 2) .nil)))) (.cons (.par2 8 9 (.call 1 (.cons (.var 0) (.cons (.var 6) .nil))) (.call 1 (.cons (.var 5) (.cons (.var 6) .nil)))) (.cons (.ite (.and (.cons (.cm .ne (.var 9) (.var 8)) (.cons (.not (.and (.cons (.cm .isN (.var 9) .non) (.cons (.cm .isN (.ix (.var 8) (.int 1)) .non) .nil)))) .nil))) (.cons (.ret (.bl false)) .nil) .nil) .nil))) (.cons (.ret (.bl true)) .nil))))))))
theorem k_is_kept_right : cTs n_is_kept_right b_is_kept_right (defScope (top 23)) (defBody (top 23)) = true := by decide +kernel
theorem sc_is_kept_right : FnScope n_is_kept_right.N ["versions", "open_lot", "last", "thing"] (defScope (top 23)) := ⟨rfl, rfl, rfl, by decide +kernel, rfl, by decide +kernel, by decide +kernel⟩
/-! _law_mixed calls [] [] cons [] mks [] excs []  -/
def n_law_mixed : Nm := ⟨["cell", "turn", "number"], [], [], ["int"], [], [], true⟩
def b_law_mixed : Ts := (.cons (.asg (.name 2) (.b2 .mod (.b2 .mul (.b2 .add (.b2 .add (.b2 .mod (.bi .int1 (.cons (.var 0) .nil)) (.int 2147483647)) (.b2 .mul (.int 7919) (.var 1))) (.int 1)) (.int 48271)) (.int 2147483647))) (.cons (.asg (.name 2) (.b2 .mod (.b2 .mul (.var 2) (.b2 .add (.b2 .fdiv (.var 2) (.int 1009)) (.int 69621))) (.int 2147483647))) (.cons (.ret (.b2 .fdiv (.b2 .mod (.b2 .mul (.var 2) (.b2 .add (.b2 .fdiv (.var 2) (.int 2003)) (.int 40692))) (.int 2147483399)) (.int 16))) .nil)))
theorem k_law_mixed : cTs n_law_mixed b_law_mixed (defScope (top 25)) (defBody (top 25)) = true := by decide +kernel
theorem sc_law_mixed : FnScope n_law_mixed.N ["cell", "turn"] (defScope (top 25)) := ⟨rfl, rfl, rfl, by decide +kernel, rfl, by decide +kernel, by decide +kernel⟩
/-! _law_draw calls ['_law_mixed'] [] cons [] mks [] excs []  -/
def n_law_draw : Nm := ⟨["bag", "many", "cells", "at", "cell", "found"], ["_law_mixed"], [], ["abs", "len", "int"], [], [], true⟩
def b_law_draw : Ts := (.cons (.asg (.sub (.var 0) (.int 3)) (.b2 .add (.ix (.var 0) (.int 3)) (.int 1))) (.cons (.ite (.cm .gt (.ix (.var 0) (.int 2)) (.int 0)) (.cons (.asg (.name 5) (.b2 .mod (.bi .int1 (.cons (.ix (.var 0) (.int 2)) .nil)) (.var 1))) (.cons (.asg (.sub (.var 0) (.int 2)) (.b2 .fdiv (.ix (.var 0) (.int 2)) (.var 1))) (.cons (.ret (.var 5)) .nil))) .nil) (.cons (.asg (.name 2) (.ix (.var 0) (.int 0))) (.cons (.ite (.cm .eq (.bi .len (.cons (.var 2) .nil)) (.int 0)) (.cons (.ret (.b2 .mod (.call 0 (.cons (.int 0) (.cons (.ix (.var 0) (.int 3)) .nil))) (.var 1))) .nil) .nil) (.cons (.asg (.name 3) (.ix (.var 0) (.int 1))) (.cons (.asg (.sub (.var 0) (.int 1)) (.b2 .add (.var 3) (.int 1))) (.cons (.asg (.name 4) (.ix (.var 2) (.b2 .mod (.bi .int1 (.cons (.var 3) .nil)) (.bi .len (.cons (.var 2) .nil))))) (.cons (.ite (.and (.cons (.cm .lt (.var 3) (.bi .len (.cons (.var 2) .nil))) (.cons (.cm .ge (.bi .abs (.cons (.var 4) .nil)) (.b2 .pow (.int 10) (.int 18))) .nil))) (.cons (.asg (.sub (.var 0) (.int 2)) (.b2 .fdiv (.bi .abs (.cons (.var 4) .nil)) (.var 1))) (.cons (.ret (.b2 .mod (.bi .int1 (.cons (.bi .abs (.cons (.var 4) .nil)) .nil)) (.var 1))) .nil)) .nil) (.cons (.ret (.b2 .mod (.call 0 (.cons (.var 4) (.cons (.ix (.var 0) (.int 3)) .nil))) (.var 1))) .nil)))))))))
theorem k_law_draw : cTs n_law_draw b_law_draw (defScope (top 27)) (defBody (top 27)) = true := by decide +kernel
theorem sc_law_draw : FnScope n_law_draw.N ["bag", "many"] (defScope (top 27)) := ⟨rfl, rfl, rfl, by decide +kernel, rfl, by decide +kernel, by decide +kernel⟩
/-! _law_no_lot calls ['_law_draw'] [] cons [] mks [] excs []  -/
def n_law_no_lot : Nm := ⟨["bag", "lot", "kind", "at", "strange"], ["_law_draw"], [], ["tuple", "sorted", "list", "max", "len"], [], [], true⟩
def b_law_no_lot : Ts := (.cons (.asg (.name 2) (.call 0 (.cons (.var 0) (.cons (.int 9) .nil)))) (.cons (.asg (.name 3) (.call 0 (.cons (.var 0) (.cons (.b2 .add (.bi .len (.cons (.var 1) .nil)) (.int 1)) .nil)))) (.cons (.ite (.cm .eq (.var 2) (.int 0)) (.cons (.ret (.bi .list1 (.cons (.var 1) .nil))) .nil) .nil) (.cons (.ite (.cm .eq (.var 2) (.int 1)) (.cons (.ret (.rev (.var 1))) .nil) .nil) (.cons (.ite (.cm .eq (.var 2) (.int 2)) (.cons (.ret (.b2 .add (.sl (.var 1) .no (.yes (.var 3))) (.sl (.var 1) (.yes (.bi .max2 (.cons (.int 0) (.cons (.b2 .sub (.var 3) (.int 1)) .nil)))) .no))) .nil) .nil) (.cons (.ite (.cm .eq (.var 2) (.int 3)) (.cons (.asg (.name 4) (.ix (.lst (.cons (.int 0) (.cons (.neg (.int 1)) (.cons (.b2 .pow (.int 10) (.int 18)) (.cons (.b2 .pow (.int 10) (.int 30)) .nil))))) (.call 0 (.cons (.var 0) (.cons (.int 4) .nil))))) (.cons (.ret (.bi .tuple1 (.cons (.bi .sorted (.cons (.b2 .add (.bi .list1 (.cons (.var 1) .nil)) (.lst (.cons (.var 4) .nil))) .nil)) .nil))) .nil)) .nil) (.cons (.ite (.cm .eq (.var 2) (.int 4)) (.cons (.ret (.b2 .add (.tup (.cons (.bl true) .nil)) (.sl (.var 1) (.yes (.int 1)) .no))) .nil) .nil) (.cons (.ite (.cm .eq (.var 2) (.int 5)) (.cons (.ret (.b2 .add (.b2 .add (.sl (.var 1) .no (.yes (.var 3))) (.tup (.cons (.ix (.lst (.cons (.str "1") (.cons .non (.cons (.tup (.cons (.int 1) .nil)) (.cons (.lst (.cons (.int 1) .nil)) (.cons (.tup .nil) .nil)))))) (.call 0 (.cons (.var 0) (.cons (.int 5) .nil)))) .nil))) (.sl (.var 1) (.yes (.var 3)) .no))) .nil) .nil) (.cons (.ite (.cm .eq (.var 2) (.int 6)) (.cons (.ret (.b2 .add (.b2 .add (.sl (.var 1) .no (.yes (.var 3))) (.tup (.cons (.call 0 (.cons (.var 0) (.cons (.int 40) .nil))) .nil))) (.sl (.var 1) (.yes (.b2 .add (.var 3) (.int 1))) .no))) .nil) .nil) (.cons (.ite (.cm .eq (.var 2) (.int 7)) (.cons (.ret (.tup (.cons (.var 1) .nil))) .nil) .nil) (.cons (.ret (.ix (.lst (.cons .non (.cons (.bl true) (.cons (.int 1) (.cons (.str "") (.cons (.str "(1,)") (.cons .dic0 (.cons (.dic (.cons (.int 1) (.cons (.int 1) .nil))) .nil)))))))) (.call 0 (.cons (.var 0) (.cons (.int 7) .nil))))) .nil)))))))))))
theorem k_law_no_lot : cTs n_law_no_lot b_law_no_lot (defScope (top 33)) (defBody (top 33)) = true := by decide +kernel
theorem sc_law_no_lot : FnScope n_law_no_lot.N ["bag", "lot"] (defScope (top 33)) := ⟨rfl, rfl, rfl, by decide +kernel, rfl, by decide +kernel, by decide +kernel⟩
/-! _law_some calls ['_law_draw'] [] cons [] mks [] excs []  -/
def n_law_some : Nm := ⟨["bag", "row", "share", "found", "one"], ["_law_draw"], [], [], [], [], true⟩
def b_law_some : Ts := (.cons (.asg (.name 3) (.lst .nil)) (.cons (.for_ (.name 4) (.seq (.var 1)) (.cons (.ite (.cm .lt (.call 0 (.cons (.var 0) (.cons (.int 4) .nil))) (.var 2)) (.cons (.ex (.bm .append (.var 3) (.cons (.var 4) .nil))) .nil) .nil) .nil)) (.cons (.ret (.var 3)) .nil)))
theorem k_law_some : cTs n_law_some b_law_some (defScope (top 31)) (defBody (top 31)) = true := by decide +kernel
theorem sc_law_some : FnScope n_law_some.N ["bag", "row", "share"] (defScope (top 31)) := ⟨rfl, rfl, rfl, by decide +kernel, rfl, by decide +kernel, by decide +kernel⟩
/-! _law_lot calls ['_law_some', '_law_draw'] [] cons [] mks [] excs []  -/
def n_law_lot : Nm := ⟨["bag", "versions", "due", "kind", "commits", "one", "gone", "pair", "commit"], ["_law_some", "_law_draw"], [], ["tuple", "len", "sorted"], [], [], true⟩
def b_law_lot : Ts := (.cons (.asg (.name 3) (.call 1 (.cons (.var 0) (.cons (.int 6) .nil)))) (.cons (.asg (.name 4) (.bi .sorted (.cons (.comp [("pair", 7)] (.name 7) (.seq (.var 1)) .nil (.ix (.var 7) (.int 0))) .nil))) (.cons (.ite (.or (.cons (.cm .eq (.var 3) (.int 0)) (.cons (.cm .eq (.bi .len (.cons (.var 4) .nil)) (.int 0)) .nil))) (.cons (.ret (.bi .tuple1 (.cons (.var 2) .nil))) .nil) .nil) (.cons (.ite (.cm .eq (.var 3) (.int 1)) (.cons (.ret (.bi .tuple1 (.cons (.call 0 (.cons (.var 0) (.cons (.var 4) (.cons (.b2 .add (.int 1) (.call 1 (.cons (.var 0) (.cons (.int 4) .nil)))) .nil)))) .nil))) .nil) .nil) (.cons (.ite (.cm .eq (.var 3) (.int 2)) (.cons (.asg (.name 5) (.ix (.var 4) (.call 1 (.cons (.var 0) (.cons (.bi .len (.cons (.var 4) .nil)) .nil))))) (.cons (.ret (.bi .tuple1 (.cons (.comp [("commit", 8)] (.name 8) (.seq (.var 4)) (.cons (.or (.cons (.cm .isIn (.var 8) (.var 2)) (.cons (.cm .eq (.var 8) (.var 5)) .nil))) .nil) (.var 8)) .nil))) .nil)) .nil) (.cons (.ite (.cm .eq (.var 3) (.int 3)) (.cons (.asg (.name 5) (.ix (.var 4) (.call 1 (.cons (.var 0) (.cons (.bi .len (.cons (.var 4) .nil)) .nil))))) (.cons (.ret (.bi .tuple1 (.cons (.comp [("commit", 8)] (.name 8) (.seq (.var 2)) (.cons (.cm .ne (.var 8) (.var 5)) .nil) (.var 8)) .nil))) .nil)) .nil) (.cons (.ite (.cm .eq (.var 3) (.int 4)) (.cons (.asg (.name 6) (.call 0 (.cons (.var 0) (.cons (.comp [("pair", 7)] (.name 7) (.seq (.var 1)) (.cons (.cm .isN (.ix (.var 7) (.int 1)) .non) .nil) (.ix (.var 7) (.int 0))) (.cons (.int 2) .nil))))) (.cons (.ret (.bi .tuple1 (.cons (.comp [("commit", 8)] (.name 8) (.seq (.var 4)) (.cons (.or (.cons (.cm .isIn (.var 8) (.var 2)) (.cons (.cm .isIn (.var 8) (.var 6)) .nil))) .nil) (.var 8)) .nil))) .nil)) .nil) (.cons (.ret (.bi .tuple1 (.cons (.var 4) .nil))) .nil))))))))
theorem k_law_lot : cTs n_law_lot b_law_lot (defScope (top 32)) (defBody (top 32)) = true := by decide +kernel
theorem sc_law_lot : FnScope n_law_lot.N ["bag", "versions", "due"] (defScope (top 32)) := ⟨rfl, rfl, rfl, by decide +kernel, rfl, by decide +kernel, by decide +kernel⟩
/-! needed_of calls ['asked_of', 'seen_of'] [] cons [] mks [] excs []  -/
def n_needed_of : Nm := ⟨["versions", "open_lot", "last", "seen", "found", "version", "snapshot"], ["asked_of", "seen_of"], [], ["tuple", "len"], [], [], true⟩
def b_needed_of : Ts := (.cons (.setc 3 (.comp [("snapshot", 6)] (.name 6) (.seq (.call 0 (.cons (.var 1) (.cons (.var 2) .nil)))) .nil (.call 1 (.cons (.var 0) (.cons (.var 6) .nil))))) (.cons (.asg (.name 4) (.lst .nil)) (.cons (.for_ (.name 5) (.seq (.rev (.var 0))) (.cons (.ite (.and (.cons (.cm .isIn (.var 5) (.var 3)) (.cons (.or (.cons (.cm .notN (.ix (.var 5) (.int 1)) .non) (.cons (.cm .gt (.bi .len (.cons (.var 4) .nil)) (.int 0)) .nil))) .nil))) (.cons (.ex (.bm .append (.var 4) (.cons (.ix (.var 5) (.int 0)) .nil))) .nil) .nil) .nil)) (.cons (.ret (.bi .tuple1 (.cons (.var 4) .nil))) .nil))))
theorem k_needed_of : cTs n_needed_of b_needed_of (defScope (top 21)) (defBody (top 21)) = true := by decide +kernel
theorem sc_needed_of : FnScope n_needed_of.N ["versions", "open_lot", "last"] (defScope (top 21)) := ⟨rfl, rfl, rfl, by decide +kernel, rfl, by decide +kernel, by decide +kernel⟩
/-! needed calls ['needed_of', 'check_asked'] [] cons [] mks [] excs []  -/
def n_needed : Nm := ⟨["versions", "open_lot", "last"], ["needed_of", "check_asked"], [], [], [], [], true⟩
def b_needed : Ts := (.cons (.ex (.call 1 (.cons (.var 0) (.cons (.var 1) (.cons (.var 2) .nil))))) (.cons (.ret (.call 0 (.cons (.var 0) (.cons (.var 1) (.cons (.var 2) .nil))))) .nil))
theorem k_needed : cTs n_needed b_needed (defScope (top 22)) (defBody (top 22)) = true := by decide +kernel
theorem sc_needed : FnScope n_needed.N ["versions", "open_lot", "last"] (defScope (top 22)) := ⟨rfl, rfl, rfl, by decide +kernel, rfl, by decide +kernel, by decide +kernel⟩
/-! _law_needed calls [] [] cons [] mks [] excs []  -/
def n_law_needed : Nm := ⟨["versions", "open_lot", "found", "back", "at", "is_seen", "snapshot"], [], [], ["range", "len"], [], [], true⟩
def b_law_needed : Ts := (.cons (.asg (.name 2) (.lst .nil)) (.cons (.for_ (.name 3) (.rng (.cons (.bi .len (.cons (.var 0) .nil)) .nil)) (.cons (.asg (.name 4) (.b2 .sub (.b2 .sub (.bi .len (.cons (.var 0) .nil)) (.int 1)) (.var 3))) (.cons (.asg (.name 5) (.cm .eq (.var 4) (.int 0))) (.cons (.for_ (.name 6) (.seq (.var 1)) (.cons (.ite (.and (.cons (.cm .le (.ix (.ix (.var 0) (.var 4)) (.int 0)) (.var 6)) (.cons (.or (.cons (.cm .eq (.var 4) (.int 0)) (.cons (.cm .lt (.var 6) (.ix (.ix (.var 0) (.b2 .sub (.var 4) (.int 1))) (.int 0))) .nil))) .nil))) (.cons (.asg (.name 5) (.bl true)) .nil) .nil) .nil)) (.cons (.ite (.and (.cons (.var 5) (.cons (.or (.cons (.cm .notN (.ix (.ix (.var 0) (.var 4)) (.int 1)) .non) (.cons (.cm .gt (.bi .len (.cons (.var 2) .nil)) (.int 0)) .nil))) .nil))) (.cons (.ex (.bm .append (.var 2) (.cons (.ix (.ix (.var 0) (.var 4)) (.int 0)) .nil))) .nil) .nil) .nil))))) (.cons (.ret (.var 2)) .nil)))
theorem k_law_needed : cTs n_law_needed b_law_needed (defScope (top 30)) (defBody (top 30)) = true := by decide +kernel
theorem sc_law_needed : FnScope n_law_needed.N ["versions", "open_lot"] (defScope (top 30)) := ⟨rfl, rfl, rfl, by decide +kernel, rfl, by decide +kernel, by decide +kernel⟩
/-! _law_open calls ['_law_draw'] [] cons [] mks [] excs []  -/
def n_law_open : Nm := ⟨["bag", "versions", "last", "found", "k", "number"], ["_law_draw"], [], ["tuple", "sorted", "range", "len", "min"], [], [], true⟩
def b_law_open : Ts := (.cons (.asg (.name 3) (.lst .nil)) (.cons (.for_ (.name 4) (.rng (.cons (.call 0 (.cons (.var 0) (.cons (.int 7) .nil))) .nil)) (.cons (.asg (.name 5) (.call 0 (.cons (.var 0) (.cons (.b2 .add (.var 2) (.int 1)) .nil)))) (.cons (.ite (.and (.cons (.cm .gt (.bi .len (.cons (.var 1) .nil)) (.int 0)) (.cons (.cm .gt (.call 0 (.cons (.var 0) (.cons (.int 4) .nil))) (.int 0)) .nil))) (.cons (.asg (.name 5) (.bi .min2 (.cons (.var 2) (.cons (.b2 .sub (.b2 .add (.ix (.ix (.var 1) (.call 0 (.cons (.var 0) (.cons (.bi .len (.cons (.var 1) .nil)) .nil)))) (.int 0)) (.call 0 (.cons (.var 0) (.cons (.int 3) .nil)))) (.int 1)) .nil)))) .nil) .nil) (.cons (.ite (.cm .notIn (.var 5) (.var 3)) (.cons (.ex (.bm .append (.var 3) (.cons (.var 5) .nil))) .nil) .nil) .nil)))) (.cons (.ret (.bi .tuple1 (.cons (.bi .sorted (.cons (.var 3) .nil)) .nil))) .nil)))
theorem k_law_open : cTs n_law_open b_law_open (defScope (top 29)) (defBody (top 29)) = true := by decide +kernel
theorem sc_law_open : FnScope n_law_open.N ["bag", "versions", "last"] (defScope (top 29)) := ⟨rfl, rfl, rfl, by decide +kernel, rfl, by decide +kernel, by decide +kernel⟩
/-! _law_versions calls ['_law_draw'] [] cons [] mks [] excs []  -/
def n_law_versions : Nm := ⟨["bag", "found", "commit", "k", "worth"], ["_law_draw"], [], ["range"], [], [], true⟩
def b_law_versions : Ts := (.cons (.asg (.name 1) (.lst .nil)) (.cons (.asg (.name 2) (.int 0)) (.cons (.for_ (.name 3) (.rng (.cons (.call 0 (.cons (.var 0) (.cons (.ix (.lst (.cons (.int 5) (.cons (.int 13) .nil))) (.call 0 (.cons (.var 0) (.cons (.int 2) .nil)))) .nil))) .nil)) (.cons (.asg (.name 2) (.b2 .add (.b2 .add (.var 2) (.int 1)) (.call 0 (.cons (.var 0) (.cons (.ix (.lst (.cons (.int 1) (.cons (.int 3) (.cons (.b2 .pow (.int 10) (.int 16)) .nil)))) (.call 0 (.cons (.var 0) (.cons (.int 3) .nil)))) .nil))))) (.cons (.asg (.name 4) .non) (.cons (.ite (.cm .gt (.call 0 (.cons (.var 0) (.cons (.int 3) .nil))) (.int 0)) (.cons (.asg (.name 4) (.b2 .sub (.call 0 (.cons (.var 0) (.cons (.int 5) .nil))) (.int 2))) .nil) .nil) (.cons (.asg (.name 1) (.b2 .add (.lst (.cons (.tup (.cons (.var 2) (.cons (.var 4) .nil))) .nil)) (.var 1))) .nil))))) (.cons (.ret (.var 1)) .nil))))
theorem k_law_versions : cTs n_law_versions b_law_versions (defScope (top 28)) (defBody (top 28)) = true := by decide +kernel
theorem sc_law_versions : FnScope n_law_versions.N ["bag"] (defScope (top 28)) := ⟨rfl, rfl, rfl, by decide +kernel, rfl, by decide +kernel, by decide +kernel⟩
/-! _law_bag calls [] [] cons [] mks [] excs []  -/
def n_law_bag : Nm := ⟨["script", "cell"], [], [], ["int"], [], [], true⟩
def b_law_bag : Ts := (.cons (.ret (.lst (.cons (.comp [("cell", 1)] (.name 1) (.seq (.sl (.var 0) .no (.yes (.int 63)))) .nil (.bi .int1 (.cons (.var 1) .nil))) (.cons (.int 0) (.cons (.int 0) (.cons (.int 0) .nil)))))) .nil)
theorem k_law_bag : cTs n_law_bag b_law_bag (defScope (top 26)) (defBody (top 26)) = true := by decide +kernel
theorem sc_law_bag : FnScope n_law_bag.N ["script"] (defScope (top 26)) := ⟨rfl, rfl, rfl, by decide +kernel, rfl, by decide +kernel, by decide +kernel⟩
/-! law calls ['_law_is_enough', 'is_kept_right', '_law_draw', '_law_no_lot', '_law_lot', 'needed', '_law_needed', '_law_open', '_law_versions', '_law_bag'] [] cons [] mks [] excs []  -/
def n_law : Nm := ⟨["script", "bag", "versions", "last", "open_lot", "due", "asked", "told", "k", "thing", "passed", "answer", "commit"], ["_law_is_enough", "is_kept_right", "_law_draw", "_law_no_lot", "_law_lot", "needed", "_law_needed", "_law_open", "_law_versions", "_law_bag"], [], ["range", "isinstance", "bool", "list", "tuple", "len"], [], [], true⟩
def b_law : Ts := (.cons (.asg (.name 1) (.call 9 (.cons (.var 0) .nil))) (.cons (.asg (.name 2) (.call 8 (.cons (.var 1) .nil))) (.cons (.asg (.name 3) (.int 0)) (.cons (.ite (.cm .gt (.bi .len (.cons (.var 2) .nil)) (.int 0)) (.cons (.asg (.name 3) (.ix (.ix (.var 2) (.int 0)) (.int 0))) .nil) .nil) (.cons (.asg (.name 3) (.b2 .add (.var 3) (.call 2 (.cons (.var 1) (.cons (.int 3) .nil))))) (.cons (.asg (.name 4) (.call 7 (.cons (.var 1) (.cons (.var 2) (.cons (.var 3) .nil))))) (.cons (.asg (.name 5) (.call 6 (.cons (.var 2) (.cons (.var 4) .nil)))) (.cons (.asg (.name 6) (.b2 .add (.bi .list1 (.cons (.var 4) .nil)) (.lst (.cons (.var 3) (.cons (.b2 .add (.b2 .add (.var 3) (.int 1)) (.call 2 (.cons (.var 1) (.cons (.int 9) .nil)))) .nil))))) (.cons (.asg (.name 7) (.call 5 (.cons (.bi .list1 (.cons (.var 2) .nil)) (.cons (.var 4) (.cons (.var 3) .nil))))) (.cons (.ite (.or (.cons (.not (.call 0 (.cons (.var 2) (.cons (.var 6) (.cons (.var 7) .nil))))) (.cons (.cm .notN (.call 1 (.cons (.bi .tuple1 (.cons (.var 2) .nil)) (.cons (.var 4) (.cons (.var 3) (.cons (.var 7) .nil))))) (.bl true)) .nil))) (.cons (.ret (.bl false)) .nil) .nil) (.cons (.for_ (.name 8) (.rng (.cons (.int 8) .nil)) (.cons (.asg (.name 9) (.call 4 (.cons (.var 1) (.cons (.var 2) (.cons (.var 5) .nil))))) (.cons (.ite (.cm .eq (.call 2 (.cons (.var 1) (.cons (.int 3) .nil))) (.int 0)) (.cons (.asg (.name 9) (.call 3 (.cons (.var 1) (.cons (.var 9) .nil)))) .nil) .nil) (.cons (.asg (.name 10) (.bi .list1 (.cons (.var 2) .nil))) (.cons (.asg (.name 11) (.call 1 (.cons (.var 10) (.cons (.var 4) (.cons (.var 3) (.cons (.var 9) .nil)))))) (.cons (.ite (.or (.cons (.cm .ne (.var 10) (.var 2)) (.cons (.not (.isi (.var 11) ["bool"])) (.cons (.cm .ne (.var 11) (.call 0 (.cons (.var 2) (.cons (.var 6) (.cons (.var 9) .nil))))) .nil)))) (.cons (.ret (.bl false)) .nil) .nil) (.cons (.ite (.var 11) (.cons (.for_ (.name 12) (.seq (.var 7)) (.cons (.ite (.cm .notIn (.var 12) (.var 9)) (.cons (.ret (.bl false)) .nil) .nil) .nil)) .nil) .nil) .nil))))))) (.cons (.ret (.bl true)) .nil))))))))))))
theorem k_law : cTs n_law b_law (defScope (top 37)) (defBody (top 37)) = true := by decide +kernel
theorem sc_law : FnScope n_law.N ["script"] (defScope (top 37)) := ⟨rfl, rfl, rfl, by decide +kernel, rfl, by decide +kernel, by decide +kernel⟩
end W
namespace W
open PySem L2 Dz
/-! data -/
abbrev Ver := Int × Option Int
def mD : Option Int → D | none => .non | some i => .int i
def vD (v : Ver) : D := .tup [.int v.1, mD v.2]
def iD (ns : List Int) : List D := ns.map D.int
def vsD (vs : List Ver) : List D := vs.map vD
def BIG : Int := 1000000000000000000
def MOk (m : Option Int) : Prop := ∀ i, m = some i → -BIG ≤ i ∧ i ≤ BIG
def VsOk (vs : List Ver) : Prop := (∀ v ∈ vs, 1 ≤ v.1 ∧ v.1 ≤ BIG ∧ MOk v.2) ∧ vs.Pairwise (fun a b => b.1 < a.1) ∧ vs.length ≤ 41
def OpOk (op : List Int) (last : Int) : Prop := (∀ i ∈ op, 0 ≤ i ∧ i ≤ last) ∧ op.Pairwise (· < ·) ∧ op.length ≤ 10
def LsOk (vs : List Ver) (last : Int) : Prop := 0 ≤ last ∧ last ≤ BIG ∧ ∀ v ∈ vs, v.1 ≤ last
def IsSq (d : D) (xs : List D) : Prop := d = .lst xs ∨ d = .tup xs
def seenB (vs : List Ver) (op : List Int) (v : Ver) : Bool := decide ((∀ u ∈ vs, u.1 ≤ v.1) ∨ ∃ s ∈ op, v.1 ≤ s ∧ ∀ u ∈ vs, u.1 ≤ s → u.1 ≤ v.1)
def stepN (P : Ver → Bool) (f : List Int) (v : Ver) : List Int := if P v && (v.2.isSome || !f.isEmpty) then f ++ [v.1] else f
def need (vs : List Ver) (op : List Int) : List Int := vs.reverse.foldl (stepN (seenB vs op)) []
/-! specs -/
def isIntD : D → Bool
  | .int _ => true
  | _ => false
def Kn (S : Hs) (d : D) : Prop := ∃ t, tyName S d = some t
def sp_is_integer : DSp := fun ds S Q _ => ∃ d, ds = [d] ∧ Kn S d ∧ Q (.bl (isIntD d)) S
def sp_is_within : DSp := fun ds S Q _ => ∃ i l m, ds = [.int i, .int l, .int m] ∧ Q (.bl (decide (l ≤ i) && decide (i ≤ m))) S
def sp_is_pair : DSp := fun ds S Q _ => ∃ a b, ds = [.tup [a, b]] ∧ Q (.bl true) S
def sp_is_lot : DSp := fun ds S Q _ => ∃ op last, ds = [.tup (iD op), .int (last + 1)] ∧ OpOk op last ∧ Q (.bl true) S
def sp_is_worth : DSp := fun ds S Q _ => ∃ i, ds = [.int i] ∧ -BIG ≤ i ∧ i ≤ BIG ∧ Q (.bl true) S
def sp_is_mark : DSp := fun ds S Q _ => ∃ m, ds = [mD m] ∧ MOk m ∧ Q (.bl true) S
def sp_is_commit : DSp := fun ds S Q _ => ∃ i, ds = [.int i] ∧ 1 ≤ i ∧ i ≤ BIG ∧ Q (.bl true) S
def sp_check_versions : DSp := fun ds S Q _ => ∃ d vs, ds = [d] ∧ IsSq d (vsD vs) ∧ VsOk vs ∧ Q .non S
def sp_check_last : DSp := fun ds S Q _ => ∃ i l, ds = [.int i, .int l] ∧ l ≤ i ∧ i ≤ BIG ∧ Q .non S
def sp_check_open : DSp := fun ds S Q _ => ∃ op last, ds = [.tup (iD op), .int last] ∧ OpOk op last ∧ Q .non S
def sp_check_asked : DSp := fun ds S Q _ => ∃ d vs op last, ds = [d, .tup (iD op), .int last] ∧ IsSq d (vsD vs) ∧ VsOk vs ∧ OpOk op last ∧ LsOk vs last ∧ Q .non S
def seenOf (vs : List Ver) (s : Int) : D := ((vs.find? fun v => decide (v.1 ≤ s)).map vD).getD .non
def sp_seen_of : DSp := fun ds S Q _ => ∃ d vs s, ds = [d, .int s] ∧ IsSq d (vsD vs) ∧ Q (seenOf vs s) S
def askedOf (op : List Int) (last : Int) : List Int := op.filter (fun s => decide (s < last)) ++ [last]
def sp_asked_of : DSp := fun ds S Q _ => ∃ op last, ds = [.tup (iD op), .int last] ∧ op.length ≤ 10 ∧ Q (.tup (iD (askedOf op last))) S
def sp_needed_of : DSp := fun ds S Q _ => ∃ d vs op last, ds = [d, .tup (iD op), .int last] ∧ IsSq d (vsD vs) ∧ VsOk vs ∧ OpOk op last ∧ LsOk vs last ∧ Q (.tup (iD (need vs op))) S
local macro_rules | `(tactic| walk_at "vc") => `(tactic| try simp only [wE_var, wE_int, wE_str, wE_bl, wE_non, wE_glob, wE_b2, wE_neg, wE_cm, wE_ch, wE_not, wE_and, wE_or, wE_ife, wE_tup, wE_lst, wE_ix, wE_sl, wE_rev, wE_bi, wE_isi, wE_call, wE_bm, wE_comp, wE_call0, wE_fld, wE_mt, wE_mk, wE_dic, wE_dic0, wE_dcomp, wE_lock, wB_not, wB_and, wB_or, wB_cm, wB_ch, wB_var, wB_ix, wB_bi, wB_isi, wB_call, wB_bm, wB_call0, wB_fld, wB_mt, wAnd_cons1, wAnd_cons, wOr_cons1, wOr_cons, wBAnd_cons1, wBAnd_cons, wBOr_cons1, wBOr_cons, wEs_nil, wEs_cons, wPr_nil, wPr_cons, wC_nil, wC_cons1, wO_no, wO_yes, wG_name, wG_sub, wI_seq, wI_rng, wI_enum, wI_items, wT_asg, wT_setc, wT_aug, wT_ex, wT_ret, wT_retN, wT_pass, wT_brk, wT_cont, wT_ite, wT_for, wT_whil, wT_fst, wT_faug, wT_saug, wT_par2, wT_par3, wT_del, wT_lock, wT_rais, wT_try1, wTs_nil, wTs_cons, ixW_live, setW_live, ixW_dK, ixW_zK, setW_dK, inR_live, dget_dK, inR_dK, addW_int, addW_str, addW_tup, addW_ll, addW_lr, addW_rl, addW_rr, subW_int, mulW_int, mulW_ref, fdivW_int, modW_int, powW_int, ltW_int, leW_int, gtW_int, geW_int, ltW_str, leW_str, gtW_str, geW_str, isNW_n, notNW_n, isNone_non, isNone_bl, isNone_int, isNone_str, isNone_tup, isNone_lst, isNone_ref, isNone_ty, tyName_non, tyName_bl, tyName_int, tyName_str, tyName_tup, tyName_lst, negW_int, intW_int, intW_bl, absW_int, minW_int, maxW_int, lenW_str, lenW_lst, lenW_tup, lenW_ref, len_lst, len_dK, len_dT, tupleW_lst, tupleW_tup, tupleW_ref, listW_lst, listW_tup, listW_ref, ixW_str, ixW_lst, ixW_tup, slW_str, slW_tup, slW_lst, slW_ref, revW_tup, revW_lst, revW_ref, appW_ref, appTy, tru_bl, tru_non, tru_int, tru_str, tru_tup, tru_lst, seqI_lst, seqI_tup, seqI_ref, seqI_str, seqI_ctp, items_lst, items_zK, items_zT, enumI_lst, enumI_tup, enumI_ref, rngI_1, rngI_2, inW_e, notInW_e, inR_int, inR_lst, inR_tup, flat_int, flat_str, flat_non, flat_bl, ixN_1_0, ixN_2_0, ixN_2_1, ixN_3_0, ixN_3_1, ixN_3_2, ixN_4_0, ixN_4_1, ixN_4_2, ixN_4_3, ixN_5_0, ixN_5_1, ixN_5_2, ixN_5_3, ixN_5_4, ixN_6_0, ixN_6_1, ixN_6_2, ixN_6_3, ixN_6_4, ixN_6_5, ixN_7_0, ixN_7_1, ixN_7_2, ixN_7_3, ixN_7_4, ixN_7_5, ixN_7_6, ixN_8_0, ixN_8_1, ixN_8_2, ixN_8_3, ixN_8_4, ixN_8_5, ixN_8_6, ixN_8_7, seqOf_sup, lstOf_sup, cp10_1, cp2_1, cp10_2, cp2_2, cp10_3, cp2_3, cp10_4, cp2_4, cp10_5, cp2_5, cp10_6, cp2_6, cp10_7, cp2_7, cp10_8, cp2_8, cp10_9, cp2_9, cp10_10, cp2_10, cp10_11, cp2_11, cp10_12, cp2_12, cp10_13, cp2_13, cp10_14, cp2_14, cp10_15, cp2_15, cp10_16, cp2_16, cp10_17, cp2_17, cp10_18, cp2_18, cp10_19, cp2_19, cp10_20, cp2_20, cp10_21, cp2_21, cp10_22, cp2_22, cp10_23, cp2_23, cp10_24, cp2_24, cp10_25, cp2_25, cp10_26, cp2_26, cp10_27, cp2_27, cp10_28, cp2_28, cp10_29, cp2_29, cp10_30, cp2_30, cp10_31, cp2_31, cp10_32, cp2_32, cp10_33, cp2_33, cp10_34, cp2_34, cp10_35, cp2_35, cp10_36, cp2_36, cp10_37, cp2_37, cp10_38, cp2_38, cp10_39, cp2_39, cp10_40, cp2_40, lsl_0, lsl_1, lsl_2, lsl_3, lsl_4, lsl_5, lsl_6, lsl_7, lsl_8, lsl_9, lsl_10, lsl_11, lsl_12, lsl_13, lsl_14, lsl_15, lsl_16, lsl_17, lsl_18, lsl_19, lsl_20, isNW_b, notNW_b, three_c, isDic_dK, isDic_dT, isDic_zK, isDic_zT, lk_dK, lk_dT, key_int, key_str, keysOf_nil, augIx_ref, tupleW_ctp, ixW_ctp, tyName_ctp, tru_ctp, inR_ctp, seqOf_ctp, lenW_ctp, isNone_ctp, augW_int, augS_int, one_c, two_c, wGs_c, wGs_n, wT_never, wG_tup1,
  startD, wipeD, List.map_cons, List.map_nil, List.length_cons, List.length_nil, List.cons_append, List.nil_append, List.append_nil,
  List.getElem?_cons_zero, List.getElem?_cons_succ, List.set_cons_zero, List.set_cons_succ, Option.some.injEq, exists_eq_left', exists_eq_left, exists_eq_right, exists_eq_right', exists_and_left, Nat.reduceAdd, Nat.reduceSub, List.replicate, List.replicate_zero, List.replicate_succ, if_true, Bool.false_eq_true, if_false, ite_true, ite_false, D.bl.injEq, D.int.injEq, D.str.injEq, D.tup.injEq, D.lst.injEq, D.ref.injEq,
  B2.w, Cm.w, Bi.w, Bm.w, eqW, neW, List.cons.injEq, and_true, true_and, Bool.not_true, Bool.not_false, Gs.len, Es.len,
  ret_non, ret_bl, ret_int, ret_str, ret_tup, ret_lst, isiAny_nil, isiAny_cons, atI_0, atI_1, atI_2, atI_3, atI_4, lstOf_lst, seqOf_lst, seqOf_tup, sup_same, sup_sup, eq_int, ok_int, ok_non, ok_bl, eq_ni, eq_in, eq_bl, MO.lst.injEq, exists_eq', exists_eq,
  kit_NoneType_int, kit_NoneType_bool, kit_NoneType_str, kit_NoneType_tuple, kit_NoneType_list, kit_NoneType_dict, kit_bool_int, kit_bool_bool, kit_bool_str, kit_bool_tuple, kit_bool_list, kit_bool_dict, kit_int_int, kit_int_bool, kit_int_str, kit_int_tuple, kit_int_list, kit_int_dict,
  kit_str_int, kit_str_bool, kit_str_str, kit_str_tuple, kit_str_list, kit_str_dict, kit_list_int, kit_list_bool, kit_list_str, kit_list_tuple, kit_list_list, kit_list_dict, kit_tuple_int, kit_tuple_bool, kit_tuple_str, kit_tuple_tuple, kit_tuple_list, kit_tuple_dict,
  decide_eq_true_eq, Bool.not_eq_true', decide_eq_false_iff_not, forall_const, implies_true, decide_true, decide_false, reduceCtorEq, Int.cast_ofNat_Int, Int.reducePow, Int.reduceMul, Int.reduceAdd, Int.reduceSub, Int.reduceNeg, Int.reduceToNat, Int.reduceEq, Int.reduceLT, Int.reduceLE, kit_dict_int, kit_dict_bool, kit_dict_str, kit_dict_tuple, kit_dict_list, kit_dict_dict])
/-- what each def must show -/
def VC (n : Nm) (b : Ts) (c : Cfg) (m : Nat) (sp : DSp) : Prop := ∀ ds S Q Y, sp ds S Q Y → ds.length = m ∧ wTs c b { nx := fun _ S' => Q .non S', rt := Q, ex := fun x _ S' => Y x S' } (startD n.N ds) S
def VCd (n : Nm) (b : Ts) (c : Cfg) (m : Nat) (sp : DSp) : Prop := ∀ ds S Q Y, sp ds S Q Y → ds.length = m ∧ wTs c b { nx := fun _ S' => dropQ Q .non S', rt := dropQ Q, ex := fun x _ S' => Y x S' } (startD n.N ds) S
def MW : List (Str × D) := [("MOST_WORTH", .int BIG)]
theorem kn_ref {S : Hs} {a : Addr} {t : String} (h : tyName S (.ref a) = some t) : t = "list" ∨ t = "dict" := by
  unfold tyName at h
  simp only at h
  split at h <;> first
    | (cases h; simp; done)
    | cases h
theorem v_is_integer : VC n_is_integer b_is_integer { fns := [], cons := [], nob := n_is_integer.nob } 1 sp_is_integer := by
  rintro ds S Q Y ⟨d, rfl, ⟨t, ht⟩, q⟩
  refine ⟨rfl, ?_⟩
  unfold b_is_integer n_is_integer
  cases d with
  | ref a =>
    walk_at "vc"
    rcases kn_ref ht with rfl | rfl
    all_goals
      simp only [ht]
      walk_at "vc"
      exact q
  | ty n => cases ht
  | _ =>
    walk_at "vc"
    exact q
theorem v_is_within : VC n_is_within b_is_within { fns := [("is_integer", sp_is_integer)], cons := [], nob := n_is_within.nob } 3 sp_is_within := by
  rintro ds S Q Y ⟨i, l, m, rfl, q⟩
  refine ⟨rfl, ?_⟩
  unfold b_is_within n_is_within
  walk_at "vc"
  refine ⟨_, rfl, ⟨_, rfl⟩, ?_⟩
  unfold isIntD
  walk_at "vc"
  split
  · rename_i h; simpa [h] using q
  · rename_i h; simpa [h] using q
theorem v_is_pair : VC n_is_pair b_is_pair { fns := [], cons := [], nob := n_is_pair.nob } 1 sp_is_pair := by
  rintro ds S Q Y ⟨a, b, rfl, q⟩
  refine ⟨rfl, ?_⟩
  unfold b_is_pair n_is_pair
  walk_at "vc"
  exact q
theorem v_is_worth : VC n_is_worth b_is_worth { fns := [("is_within", sp_is_within)], cons := MW, nob := n_is_worth.nob } 1 sp_is_worth := by
  rintro ds S Q Y ⟨i, rfl, h1, h2, q⟩
  refine ⟨rfl, ?_⟩
  unfold b_is_worth n_is_worth MW
  walk_at "vc"
  refine ⟨_, _, _, rfl, ?_⟩
  simp only [h1, h2]
  walk_at "vc"
  exact q
theorem v_is_mark : VC n_is_mark b_is_mark { fns := [("is_worth", sp_is_worth)], cons := [], nob := n_is_mark.nob } 1 sp_is_mark := by
  rintro ds S Q Y ⟨m, rfl, h, q⟩
  refine ⟨rfl, ?_⟩
  unfold b_is_mark n_is_mark
  cases m <;> unfold mD
  · walk_at "vc"
    exact q
  · walk_at "vc"
    rename_i i
    obtain ⟨h1, h2⟩ := h i rfl
    exact ⟨i, rfl, h1, h2, by walk_at "vc"; exact q⟩
theorem v_is_lot : VC n_is_lot b_is_lot { fns := [("is_within", sp_is_within)], cons := [], nob := n_is_lot.nob } 2 sp_is_lot := by
  rintro ds S Q Y ⟨op, last, rfl, ⟨h1, h2, h3⟩, q⟩
  refine ⟨rfl, ?_⟩
  unfold b_is_lot n_is_lot
  walk_at "vc"
  refine for_inv (fun i ρ S2 => S2 = S ∧ ∃ l x, ρ = [some (D.tup (iD op)), some (D.int (last + 1)), some (D.int l), x] ∧ ∀ j ∈ op.drop i, l + 1 ≤ j) ⟨rfl, _, _, rfl, fun j hj => ?_⟩ ?_ ?_
  · have := h1 j (List.mem_of_mem_drop hj); omega
  · rintro i x ρ S2 hi ⟨rfl, l, y, rfl, hl⟩
    obtain ⟨j, hj, rfl⟩ := map_of hi
    have m := h1 j (mem_of hj)
    rw [drop_of hj] at hl
    have l1 := hl j (List.mem_cons_self ..)
    refine ⟨trivial, ?_⟩
    walk_at "vc"
    refine ⟨_, _, _, rfl, ?_⟩
    have e : (decide (l + 1 ≤ j) && decide (j ≤ last + 1 - 1)) = true := by simp; omega
    walk_at "vc"
    simp only [e]
    walk_at "vc"
    refine ⟨j, _, ⟨rfl, rfl⟩, fun k hk => ?_⟩
    have p := List.Pairwise.sublist (List.drop_sublist i op) h2
    rw [drop_of hj, List.pairwise_cons] at p
    have := p.1 k hk
    omega
  · rintro ρ S2 ⟨rfl, l, y, rfl, hl⟩
    refine ⟨trivial, ?_⟩
    walk_at "vc"
    exact q
theorem v_is_commit : VC n_is_commit b_is_commit { fns := [("is_within", sp_is_within)], cons := MW, nob := n_is_commit.nob } 1 sp_is_commit := by
  rintro ds S Q Y ⟨i, rfl, h1, h2, q⟩
  refine ⟨rfl, ?_⟩
  unfold b_is_commit n_is_commit MW
  walk_at "vc"
  refine ⟨_, _, _, rfl, ?_⟩
  simp only [h1, h2]
  walk_at "vc"
  exact q
theorem v_check_last : VC n_check_last b_check_last { fns := [("is_within", sp_is_within)], cons := MW, nob := n_check_last.nob } 2 sp_check_last := by
  rintro ds S Q Y ⟨i, l, rfl, h1, h2, q⟩
  refine ⟨rfl, ?_⟩
  unfold b_check_last n_check_last MW
  walk_at "vc"
  refine ⟨_, _, _, rfl, ?_⟩
  simp only [h1, h2]
  walk_at "vc"
  exact q
theorem v_check_open : VC n_check_open b_check_open { fns := [("is_lot", sp_is_lot)], cons := [], nob := n_check_open.nob } 2 sp_check_open := by
  rintro ds S Q Y ⟨op, last, rfl, h, q⟩
  refine ⟨rfl, ?_⟩
  unfold b_check_open n_check_open
  walk_at "vc"
  refine ⟨_, _, rfl, h, ?_⟩
  walk_at "vc"
  exact q
theorem v_check_versions : VC n_check_versions b_check_versions { fns := [("is_mark", sp_is_mark), ("is_commit", sp_is_commit), ("is_pair", sp_is_pair)], cons := [], nob := n_check_versions.nob } 1 sp_check_versions := by
  rintro ds S Q Y ⟨d, vs, rfl, hd, ⟨h1, h2, h3⟩, q⟩
  refine ⟨rfl, ?_⟩
  unfold b_check_versions n_check_versions
  rcases hd with rfl | rfl
  all_goals
    walk_at "vc"
    refine for_inv (fun i ρ S2 => S2 = S ∧ ∃ x y d', ρ = [some d', x, y] ∧ d' = _) ⟨rfl, _, _, _, rfl, rfl⟩ ?_ ?_
    · rintro i x ρ S2 hi ⟨rfl, y, z, _, rfl, rfl⟩
      obtain ⟨x', hj, rfl⟩ := enum_of hi
      obtain ⟨v, hv, rfl⟩ := map_of hj
      obtain ⟨m1, m2, m3⟩ := h1 v (mem_of hv)
      refine ⟨trivial, ?_⟩
      unfold vD
      walk_at "vc"
      refine ⟨_, _, rfl, ?_⟩
      walk_at "vc"
      refine ⟨_, rfl, m1, m2, ?_⟩
      walk_at "vc"
      refine ⟨_, rfl, m3, ?_⟩
      walk_at "vc"
      split
      · rename_i h0
        obtain ⟨k, rfl⟩ : ∃ k, i = k + 1 := ⟨i - 1, by omega⟩
        have hk : k < vs.length := by have := lt_of hv; omega
        obtain ⟨u, hu⟩ := get_lt hk
        have p := List.pairwise_iff_getElem.mp h2 k (k + 1) hk (lt_of hv) (by omega)
        rw [(List.getElem?_eq_some_iff.mp hu).2, (List.getElem?_eq_some_iff.mp hv).2] at p
        refine ⟨vD u, atI_i (i := k) (by omega) (by unfold vsD; rw [List.getElem?_map, hu]; rfl), ?_⟩
        unfold vD
        walk_at "vc"
        rw [if_neg (by omega)]
        simp
      · simp
    · rintro ρ S2 ⟨rfl, y, z, _, rfl, rfl⟩
      refine ⟨trivial, ?_⟩
      exact q
theorem v_check_asked : VC n_check_asked b_check_asked { fns := [("check_open", sp_check_open), ("check_last", sp_check_last), ("check_versions", sp_check_versions)], cons := [], nob := n_check_asked.nob } 3 sp_check_asked := by
  rintro ds S Q Y ⟨d, vs, op, last, rfl, hd, hv, ho, hl, q⟩
  refine ⟨rfl, ?_⟩
  unfold b_check_asked n_check_asked
  walk_at "vc"
  refine ⟨d, vs, rfl, hd, hv, ?_⟩
  cases vs with
  | nil =>
    rcases hd with rfl | rfl
    all_goals
      unfold vsD
      walk_at "vc"
      exact ⟨_, _, rfl, hl.1, hl.2.1, _, _, rfl, ho, q⟩
  | cons v r =>
    rcases hd with rfl | rfl
    all_goals
      unfold vsD
      walk_at "vc"
      rw [if_pos (by omega)]
      unfold vD
      walk_at "vc"
      exact ⟨_, _, rfl, hl.2.2 v (List.mem_cons_self ..), hl.2.1, _, _, rfl, ho, q⟩
theorem v_seen_of : VC n_seen_of b_seen_of { fns := [], cons := [], nob := n_seen_of.nob } 2 sp_seen_of := by
  rintro ds S Q Y ⟨d, vs, s, rfl, hd, q⟩
  refine ⟨rfl, ?_⟩
  unfold b_seen_of n_seen_of
  rcases hd with rfl | rfl
  all_goals
    walk_at "vc"
    refine for_inv (fun i ρ S2 => S2 = S ∧ ∃ x d', ρ = [some d', some (.int s), x] ∧ d' = _ ∧ ∀ v ∈ vs.take i, ¬ v.1 ≤ s) ⟨rfl, _, _, rfl, rfl, by simp⟩ ?_ ?_
    · rintro i x ρ S2 hi ⟨rfl, y, _, rfl, rfl, hb⟩
      obtain ⟨v, hv, rfl⟩ := map_of hi
      refine ⟨trivial, ?_⟩
      unfold vD
      walk_at "vc"
      split
      · rename_i h
        have e : vs.find? (fun v => decide (v.1 ≤ s)) = some v := by
          rw [List.find?_eq_some_iff_append]
          refine ⟨by simpa using h, vs.take i, vs.drop (i + 1), ?_, ?_⟩
          · rw [← drop_of hv, List.take_append_drop]
          · intro a ha; simpa using hb a ha
        unfold seenOf at q
        rw [e] at q
        exact q
      · rename_i h
        refine ⟨_, _, ⟨rfl, rfl⟩, rfl, ?_⟩
        rw [take_of hv]
        intro u hu
        rcases List.mem_append.mp hu with hu | hu
        · exact hb u hu
        · rw [List.mem_singleton.mp hu]; exact h
    · rintro ρ S2 ⟨rfl, y, _, rfl, rfl, hb⟩
      refine ⟨trivial, ?_⟩
      walk_at "vc"
      have e : vs.find? (fun v => decide (v.1 ≤ s)) = none := by
        rw [List.find?_eq_none]
        intro v hv
        have := hb v (by unfold vsD; rw [List.length_map, List.take_length]; exact hv)
        simpa using this
      unfold seenOf at q
      rw [e] at q
      exact q
theorem v_asked_of : VC n_asked_of b_asked_of { fns := [], cons := [], nob := n_asked_of.nob } 2 sp_asked_of := by
  rintro ds S Q Y ⟨op, last, rfl, hl, q⟩
  refine ⟨rfl, ?_⟩
  unfold b_asked_of n_asked_of
  walk_at "vc"
  unfold CompK iD
  refine comp_pureM (fun i => if decide (i < last) = true then some (.int i) else none) (by simp [sizeLine]; omega) (fun _ _ => trivial) ?_ ?_
  · intro i v S2 K K' hv _ hy hn
    walk_at "vc"
    split
    · rename_i h; exact hy _ (by simp [h])
    · rename_i h; exact hn (by simp [h])
  · rw [filterMap_if]
    walk_at "vc"
    refine ⟨?_, ?_⟩
    · have := List.length_filter_le (fun s => decide (s < last)) op
      rw [List.length_map]
      unfold sizeLine
      omega
    · unfold askedOf iD at q
      rw [List.map_append] at q
      exact q
end W
namespace W
open PySem L2 Dz
theorem mD_inj {a b : Option Int} (h : mD a = mD b) : a = b := by
  cases a <;> cases b <;> simp [mD] at h ⊢
  exact h
theorem vD_inj {a b : Ver} (h : vD a = vD b) : a = b := by
  unfold vD at h
  simp only [D.tup.injEq, List.cons.injEq, D.int.injEq, and_true] at h
  exact Prod.ext h.1 (mD_inj h.2)
theorem vD_nb (v : Ver) : (vD v).nb = true := by
  unfold vD
  cases v.2 <;> rfl
theorem mD_dok (m : Option Int) : D.dok 0 (mD m) := by
  cases m
  · exact dok_non
  · exact dok_int _
theorem vD_dok (v : Ver) : D.dok 1 (vD v) := dok_tup fun x hx => by
  simp only [List.mem_cons, List.not_mem_nil, or_false] at hx
  rcases hx with rfl | rfl
  · exact dok_int _
  · exact mD_dok _
theorem find_iff {s : Int} {v : Ver} : ∀ {vs : List Ver}, vs.Pairwise (fun a b => b.1 < a.1) → v ∈ vs → (vs.find? (fun v => decide (v.1 ≤ s)) = some v ↔ v.1 ≤ s ∧ ∀ u ∈ vs, u.1 ≤ s → u.1 ≤ v.1)
  | [], _, h => by cases h
  | a :: r, p, h => by
    rw [List.pairwise_cons] at p
    by_cases q : a.1 ≤ s
    · rw [List.find?_cons_of_pos (by simpa using q)]
      rcases List.mem_cons.mp h with rfl | h
      · simp only [true_iff]
        refine ⟨q, fun u hu _ => ?_⟩
        rcases List.mem_cons.mp hu with rfl | hu
        · omega
        · have := p.1 u hu; omega
      · have l := p.1 v h
        constructor
        · intro e; cases e; omega
        · rintro ⟨_, z⟩
          have := z a (List.mem_cons_self ..) q
          omega
    · rw [List.find?_cons_of_neg (by simpa using q)]
      rcases List.mem_cons.mp h with rfl | h
      · constructor
        · intro e
          have := p.1 _ (List.mem_of_find?_eq_some e)
          omega
        · rintro ⟨z, _⟩; exact (q z).elim
      · rw [find_iff p.2 h]
        constructor
        · rintro ⟨h1, h2⟩
          refine ⟨h1, fun u hu l => ?_⟩
          rcases List.mem_cons.mp hu with rfl | hu
          · exact (q l).elim
          · exact h2 u hu l
        · rintro ⟨h1, h2⟩
          exact ⟨h1, fun u hu l => h2 u (List.mem_cons_of_mem _ hu) l⟩
theorem seenOf_iff {vs : List Ver} {s : Int} {v : Ver} (h : vs.Pairwise (fun a b => b.1 < a.1)) (m : v ∈ vs) : seenOf vs s = vD v ↔ v.1 ≤ s ∧ ∀ u ∈ vs, u.1 ≤ s → u.1 ≤ v.1 := by
  rw [← find_iff h m]
  unfold seenOf
  cases e : vs.find? fun v => decide (v.1 ≤ s) with
  | none => simp [vD]
  | some u =>
    simp only [Option.map_some, Option.getD_some, Option.some.injEq]
    exact ⟨vD_inj, fun z => by rw [z]⟩
theorem seenOf_nb (vs : List Ver) (s : Int) : (seenOf vs s).nb = true := by
  unfold seenOf
  cases vs.find? fun v => decide (v.1 ≤ s)
  · rfl
  · exact vD_nb _
theorem seenOf_dok (vs : List Ver) (s : Int) : D.dok 1 (seenOf vs s) := by
  unfold seenOf
  cases vs.find? fun v => decide (v.1 ≤ s)
  · exact dok_non
  · exact vD_dok _
theorem seen_eq {vs : List Ver} {op : List Int} {last : Int} {v : Ver} (hv : VsOk vs) (ho : OpOk op last) (hl : LsOk vs last) (m : v ∈ vs) :
    (((askedOf op last).map (seenOf vs)).any fun z => D.eq z (vD v)) = seenB vs op v := by
  rw [Bool.eq_iff_iff, any_eq (vD_nb v) (by rintro x hx; obtain ⟨s, _, rfl⟩ := List.mem_map.mp hx; exact seenOf_nb ..)]
  unfold seenB askedOf
  rw [decide_eq_true_eq, List.mem_map]
  constructor
  · rintro ⟨s, hs, e⟩
    rw [seenOf_iff hv.2.1 m] at e
    rcases List.mem_append.mp hs with hs | hs
    · exact .inr ⟨s, (List.mem_filter.mp hs).1, e⟩
    · rw [List.mem_singleton] at hs
      subst hs
      exact .inl fun u hu => e.2 u hu (hl.2.2 u hu)
  · rintro (h | ⟨s, hs, e⟩)
    · exact ⟨last, by simp, (seenOf_iff hv.2.1 m).mpr ⟨hl.2.2 v m, fun u hu _ => h u hu⟩⟩
    · refine ⟨s, ?_, (seenOf_iff hv.2.1 m).mpr e⟩
      have := (ho.1 s hs).2
      by_cases q : s < last
      · exact List.mem_append.mpr (.inl (List.mem_filter.mpr ⟨hs, by simpa using q⟩))
      · have : s = last := by omega
        subst this
        simp
/-- by the place -/
theorem head_iff {vs : List Ver} {v : Ver} {j : Nat} (h : vs.Pairwise (fun a b => b.1 < a.1)) (e : vs[j]? = some v) : (∀ u ∈ vs, u.1 ≤ v.1) ↔ j = 0 := by
  have hj := lt_of e
  have p := List.pairwise_iff_getElem.mp h
  have ev := (List.getElem?_eq_some_iff.mp e).2
  constructor
  · intro q
    cases j with
    | zero => rfl
    | succ k =>
      have := p 0 (k + 1) (by omega) hj (by omega)
      have := q _ (List.getElem_mem (show 0 < vs.length by omega))
      rw [ev] at *
      omega
  · rintro rfl u hu
    obtain ⟨k, hk, rfl⟩ := List.getElem_of_mem hu
    by_cases z : k = 0
    · subst z; rw [ev]; exact Int.le_refl _
    · have := p 0 k hj hk (by omega)
      rw [ev] at this; omega
theorem prev_iff {vs : List Ver} {v u : Ver} {j : Nat} {s : Int} (h : vs.Pairwise (fun a b => b.1 < a.1)) (e : vs[j + 1]? = some v) (eu : vs[j]? = some u) (l : v.1 ≤ s) : (∀ u ∈ vs, u.1 ≤ s → u.1 ≤ v.1) ↔ s < u.1 := by
  have hj := lt_of e
  have p := List.pairwise_iff_getElem.mp h
  have ev := (List.getElem?_eq_some_iff.mp e).2
  have eu' := (List.getElem?_eq_some_iff.mp eu).2
  constructor
  · intro q
    have a := q u (mem_of eu)
    have b := p j (j + 1) (by omega) hj (by omega)
    rw [ev, eu'] at b
    by_cases z : u.1 ≤ s
    · have := a z; omega
    · omega
  · rintro q w hw lw
    obtain ⟨k, hk, rfl⟩ := List.getElem_of_mem hw
    by_cases z : k ≤ j
    · by_cases y : k = j
      · subst y; rw [eu'] at lw; omega
      · have b := p k j hk (by omega) (by omega)
        rw [eu'] at b; omega
    · by_cases y : k = j + 1
      · subst y; rw [ev]; exact Int.le_refl _
      · have b := p (j + 1) k hj hk (by omega)
        rw [ev] at b; omega
/-- the kept ones -/
theorem need_mem {P : Ver → Bool} : ∀ (vs : List Ver) (f : List Int) (c : Int), c ∈ vs.foldl (stepN P) f → c ∈ f ∨ ∃ v ∈ vs, v.1 = c ∧ P v = true
  | [], f, c, h => .inl h
  | v :: r, f, c, h => by
    rw [List.foldl_cons] at h
    rcases need_mem r _ c h with h | ⟨u, hu, e⟩
    · unfold stepN at h
      split at h
      · rename_i k
        rw [Bool.and_eq_true] at k
        rcases List.mem_append.mp h with h | h
        · exact .inl h
        · exact .inr ⟨v, List.mem_cons_self .., (List.mem_singleton.mp h).symm, k.1⟩
      · exact .inl h
    · exact .inr ⟨u, List.mem_cons_of_mem _ hu, e⟩
theorem need_keep {P : Ver → Bool} : ∀ (vs : List Ver) (f : List Int) (c : Int), c ∈ f → c ∈ vs.foldl (stepN P) f
  | [], f, c, h => h
  | v :: r, f, c, h => by
    rw [List.foldl_cons]
    refine need_keep r _ c ?_
    unfold stepN
    split
    · exact List.mem_append.mpr (.inl h)
    · exact h
theorem need_filter {P : Ver → Bool} (F : List Int) : ∀ (vs : List Ver) (f : List Int), vs.Pairwise (fun a b => a.1 ≠ b.1) → (∀ v ∈ vs, v.1 ∉ f) → (∀ v ∈ vs, v.1 ∈ F → P v = true) → (F = vs.foldl (stepN P) f) →
    (vs.filter fun v => decide (v.1 ∈ F)).foldl (stepN P) f = F
  | [], f, _, _, _, h => h.symm
  | v :: r, f, pw, nf, hp, h => by
    rw [List.pairwise_cons] at pw
    rw [List.foldl_cons] at h
    have nr : ∀ u ∈ r, u.1 ∉ stepN P f v := fun u hu z => by
      unfold stepN at z
      split at z
      · rcases List.mem_append.mp z with z | z
        · exact nf u (List.mem_cons_of_mem _ hu) z
        · exact pw.1 u hu (List.mem_singleton.mp z).symm
      · exact nf u (List.mem_cons_of_mem _ hu) z
    have ih := need_filter F r (stepN P f v) pw.2 nr (fun u hu => hp u (List.mem_cons_of_mem _ hu)) h
    by_cases q : v.1 ∈ F
    · rw [List.filter_cons_of_pos (by simpa using q), List.foldl_cons]
      exact ih
    · rw [List.filter_cons_of_neg (by simpa using q)]
      have e : stepN P f v = f := by
        unfold stepN
        split
        · rename_i k
          refine (q ?_).elim
          rw [h]
          refine need_keep _ _ _ ?_
          unfold stepN
          rw [if_pos k]
          simp
        · rfl
      rw [e] at ih
      exact ih
theorem fold_congr {P P' : Ver → Bool} : ∀ {vs : List Ver} {f : List Int}, (∀ v ∈ vs, P v = P' v) → vs.foldl (stepN P) f = vs.foldl (stepN P') f
  | [], _, _ => rfl
  | v :: r, f, h => by
    rw [List.foldl_cons, List.foldl_cons]
    have e : stepN P f v = stepN P' f v := by unfold stepN; rw [h v (List.mem_cons_self ..)]
    rw [e]
    exact fold_congr fun u hu => h u (List.mem_cons_of_mem _ hu)
theorem need_kept {vs : List Ver} {op : List Int} (hv : vs.Pairwise (fun a b => b.1 < a.1)) : need (vs.filter fun v => decide (v.1 ∈ need vs op)) op = need vs op := by
  have uniq : ∀ u ∈ vs, ∀ v ∈ vs, u.1 = v.1 → u = v := fun u hu v hw e => by
    obtain ⟨i, hi, rfl⟩ := List.getElem_of_mem hu
    obtain ⟨j, hj, rfl⟩ := List.getElem_of_mem hw
    have p := List.pairwise_iff_getElem.mp hv
    by_cases z : i < j
    · have := p i j hi hj z; omega
    · by_cases y : j < i
      · have := p j i hj hi y; omega
      · have : i = j := by omega
        subst this; rfl
  have key : ∀ v ∈ vs, v.1 ∈ need vs op → seenB vs op v = true := fun v hv' h => by
    rcases need_mem _ _ _ h with h | ⟨u, hu, e, p⟩
    · cases h
    · rw [← uniq u (List.mem_reverse.mp hu) v hv' e]; exact p
  have a := need_filter (P := seenB vs op) (need vs op) vs.reverse [] (by
      rw [List.pairwise_reverse]
      exact hv.imp fun h => by omega) (by simp) (fun v hv' => key v (List.mem_reverse.mp hv')) rfl
  conv => lhs; unfold need
  conv => rhs; rw [← a]
  rw [← List.filter_reverse]
  refine fold_congr fun v hv' => ?_
  obtain ⟨m1, m2⟩ := List.mem_filter.mp hv'
  rw [List.mem_reverse] at m1
  rw [decide_eq_true_eq] at m2
  have k := key v m1 m2
  rw [k]
  unfold seenB at k ⊢
  rw [decide_eq_true_eq] at k ⊢
  rcases k with k | ⟨s, hs, l, k⟩
  · exact .inl fun u hu => k u ((List.mem_filter.mp hu).1)
  · exact .inr ⟨s, hs, l, fun u hu => k u ((List.mem_filter.mp hu).1)⟩
end W
namespace W
open PySem L2 Dz
local macro_rules | `(tactic| walk_at "vc") => `(tactic| try simp only [wE_var, wE_int, wE_str, wE_bl, wE_non, wE_glob, wE_b2, wE_neg, wE_cm, wE_ch, wE_not, wE_and, wE_or, wE_ife, wE_tup, wE_lst, wE_ix, wE_sl, wE_rev, wE_bi, wE_isi, wE_call, wE_bm, wE_comp, wE_call0, wE_fld, wE_mt, wE_mk, wE_dic, wE_dic0, wE_dcomp, wE_lock, wB_not, wB_and, wB_or, wB_cm, wB_ch, wB_var, wB_ix, wB_bi, wB_isi, wB_call, wB_bm, wB_call0, wB_fld, wB_mt, wAnd_cons1, wAnd_cons, wOr_cons1, wOr_cons, wBAnd_cons1, wBAnd_cons, wBOr_cons1, wBOr_cons, wEs_nil, wEs_cons, wPr_nil, wPr_cons, wC_nil, wC_cons1, wO_no, wO_yes, wG_name, wG_sub, wI_seq, wI_rng, wI_enum, wI_items, wT_asg, wT_setc, wT_aug, wT_ex, wT_ret, wT_retN, wT_pass, wT_brk, wT_cont, wT_ite, wT_for, wT_whil, wT_fst, wT_faug, wT_saug, wT_par2, wT_par3, wT_del, wT_lock, wT_rais, wT_try1, wTs_nil, wTs_cons, ixW_live, setW_live, ixW_dK, ixW_zK, setW_dK, inR_live, dget_dK, inR_dK, addW_int, addW_str, addW_tup, addW_ll, addW_lr, addW_rl, addW_rr, subW_int, mulW_int, mulW_ref, fdivW_int, modW_int, powW_int, ltW_int, leW_int, gtW_int, geW_int, ltW_str, leW_str, gtW_str, geW_str, isNW_n, notNW_n, isNone_non, isNone_bl, isNone_int, isNone_str, isNone_tup, isNone_lst, isNone_ref, isNone_ty, tyName_non, tyName_bl, tyName_int, tyName_str, tyName_tup, tyName_lst, negW_int, intW_int, intW_bl, absW_int, minW_int, maxW_int, lenW_str, lenW_lst, lenW_tup, lenW_ref, len_lst, len_dK, len_dT, tupleW_lst, tupleW_tup, tupleW_ref, listW_lst, listW_tup, listW_ref, ixW_str, ixW_lst, ixW_tup, slW_str, slW_tup, slW_lst, slW_ref, revW_tup, revW_lst, revW_ref, appW_ref, appTy, tru_bl, tru_non, tru_int, tru_str, tru_tup, tru_lst, seqI_lst, seqI_tup, seqI_ref, seqI_str, seqI_ctp, items_lst, items_zK, items_zT, enumI_lst, enumI_tup, enumI_ref, rngI_1, rngI_2, inW_e, notInW_e, inR_int, inR_lst, inR_tup, flat_int, flat_str, flat_non, flat_bl, ixN_1_0, ixN_2_0, ixN_2_1, ixN_3_0, ixN_3_1, ixN_3_2, ixN_4_0, ixN_4_1, ixN_4_2, ixN_4_3, ixN_5_0, ixN_5_1, ixN_5_2, ixN_5_3, ixN_5_4, ixN_6_0, ixN_6_1, ixN_6_2, ixN_6_3, ixN_6_4, ixN_6_5, ixN_7_0, ixN_7_1, ixN_7_2, ixN_7_3, ixN_7_4, ixN_7_5, ixN_7_6, ixN_8_0, ixN_8_1, ixN_8_2, ixN_8_3, ixN_8_4, ixN_8_5, ixN_8_6, ixN_8_7, seqOf_sup, lstOf_sup, cp10_1, cp2_1, cp10_2, cp2_2, cp10_3, cp2_3, cp10_4, cp2_4, cp10_5, cp2_5, cp10_6, cp2_6, cp10_7, cp2_7, cp10_8, cp2_8, cp10_9, cp2_9, cp10_10, cp2_10, cp10_11, cp2_11, cp10_12, cp2_12, cp10_13, cp2_13, cp10_14, cp2_14, cp10_15, cp2_15, cp10_16, cp2_16, cp10_17, cp2_17, cp10_18, cp2_18, cp10_19, cp2_19, cp10_20, cp2_20, cp10_21, cp2_21, cp10_22, cp2_22, cp10_23, cp2_23, cp10_24, cp2_24, cp10_25, cp2_25, cp10_26, cp2_26, cp10_27, cp2_27, cp10_28, cp2_28, cp10_29, cp2_29, cp10_30, cp2_30, cp10_31, cp2_31, cp10_32, cp2_32, cp10_33, cp2_33, cp10_34, cp2_34, cp10_35, cp2_35, cp10_36, cp2_36, cp10_37, cp2_37, cp10_38, cp2_38, cp10_39, cp2_39, cp10_40, cp2_40, lsl_0, lsl_1, lsl_2, lsl_3, lsl_4, lsl_5, lsl_6, lsl_7, lsl_8, lsl_9, lsl_10, lsl_11, lsl_12, lsl_13, lsl_14, lsl_15, lsl_16, lsl_17, lsl_18, lsl_19, lsl_20, isNW_b, notNW_b, three_c, isDic_dK, isDic_dT, isDic_zK, isDic_zT, lk_dK, lk_dT, key_int, key_str, keysOf_nil, augIx_ref, tupleW_ctp, ixW_ctp, tyName_ctp, tru_ctp, inR_ctp, seqOf_ctp, lenW_ctp, isNone_ctp, augW_int, augS_int, one_c, two_c, wGs_c, wGs_n, wT_never, wG_tup1,
  startD, wipeD, List.map_cons, List.map_nil, List.length_cons, List.length_nil, List.cons_append, List.nil_append, List.append_nil,
  List.getElem?_cons_zero, List.getElem?_cons_succ, List.set_cons_zero, List.set_cons_succ, Option.some.injEq, exists_eq_left', exists_eq_left, exists_eq_right, exists_eq_right', exists_and_left, Nat.reduceAdd, Nat.reduceSub, List.replicate, List.replicate_zero, List.replicate_succ, if_true, Bool.false_eq_true, if_false, ite_true, ite_false, D.bl.injEq, D.int.injEq, D.str.injEq, D.tup.injEq, D.lst.injEq, D.ref.injEq,
  B2.w, Cm.w, Bi.w, Bm.w, eqW, neW, List.cons.injEq, and_true, true_and, Bool.not_true, Bool.not_false, Gs.len, Es.len,
  ret_non, ret_bl, ret_int, ret_str, ret_tup, ret_lst, isiAny_nil, isiAny_cons, atI_0, atI_1, atI_2, atI_3, atI_4, lstOf_lst, seqOf_lst, seqOf_tup, sup_same, sup_sup, eq_int, ok_int, ok_non, ok_bl, eq_ni, eq_in, eq_bl, MO.lst.injEq, exists_eq', exists_eq,
  kit_NoneType_int, kit_NoneType_bool, kit_NoneType_str, kit_NoneType_tuple, kit_NoneType_list, kit_NoneType_dict, kit_bool_int, kit_bool_bool, kit_bool_str, kit_bool_tuple, kit_bool_list, kit_bool_dict, kit_int_int, kit_int_bool, kit_int_str, kit_int_tuple, kit_int_list, kit_int_dict,
  kit_str_int, kit_str_bool, kit_str_str, kit_str_tuple, kit_str_list, kit_str_dict, kit_list_int, kit_list_bool, kit_list_str, kit_list_tuple, kit_list_list, kit_list_dict, kit_tuple_int, kit_tuple_bool, kit_tuple_str, kit_tuple_tuple, kit_tuple_list, kit_tuple_dict,
  decide_eq_true_eq, Bool.not_eq_true', decide_eq_false_iff_not, forall_const, implies_true, decide_true, decide_false, reduceCtorEq, Int.cast_ofNat_Int, Int.reducePow, Int.reduceMul, Int.reduceAdd, Int.reduceSub, Int.reduceNeg, Int.reduceToNat, Int.reduceEq, Int.reduceLT, Int.reduceLE])
theorem fold_len {P : Ver → Bool} : ∀ (xs : List Ver) (f : List Int), (xs.foldl (stepN P) f).length ≤ f.length + xs.length
  | [], f => by simp
  | v :: r, f => by
    rw [List.foldl_cons]
    have := fold_len (P := P) r (stepN P f v)
    have : (stepN P f v).length ≤ f.length + 1 := by unfold stepN; split <;> simp
    rw [List.length_cons]
    omega
def sp_needed : DSp := sp_needed_of
theorem v_needed_of : VCd n_needed_of b_needed_of { fns := [("asked_of", sp_asked_of), ("seen_of", sp_seen_of)], cons := [], nob := n_needed_of.nob } 3 sp_needed_of := by
  rintro ds S Q Y ⟨d, vs, op, last, rfl, hd, hv, ho, hl, q⟩
  refine ⟨rfl, ?_⟩
  unfold b_needed_of n_needed_of
  have key : forall (Z : DE) (ρ : Ro), True := fun _ _ => trivial
  rcases hd with rfl | rfl
  all_goals
    walk_at "vc"
    refine ⟨op, last, rfl, ho.2.2, ?_⟩
    unfold iD
    walk_at "vc"
    unfold CompK
    refine comp_pureM (fun s => some (seenOf vs s)) ?_ (fun _ _ => trivial) ?_ ?_
    · unfold askedOf
      have := List.length_filter_le (fun s => decide (s < last)) op
      have := ho.2.2
      rw [List.length_append]
      simp only [List.length_cons, List.length_nil, sizeLine]
      omega
    · intro i v S2 K K' hx _ hy hn
      walk_at "vc"
      refine ⟨_, vs, v, rfl, by first | exact .inl rfl | exact .inr rfl, hy _ rfl⟩
    rw [filterMap_all]
    refine newL_l fun p hp => ?_
    walk_at "vc"
    first
      | refine newL_f ?_
      | (refine ⟨by unfold vsD; rw [List.length_map]; have := hv.2.2; unfold sizeLine; omega, ?_⟩)
    walk_at "vc"
    unfold vsD
    rw [← List.map_reverse]
    refine for_inv (fun i ρ S2 => ∃ d0 x, ρ = [some d0, some (D.tup (List.map D.int op)), some (.int last), some (.lst ((askedOf op last).map (seenOf vs))), some (.ref p), x, none] ∧ S2 = sup S p (.lst (iD ((vs.reverse.take i).foldl (stepN (seenB vs op)) [])))) ⟨_, _, rfl, rfl⟩ ?_ ?_
    · rintro i x ρ S2 hi ⟨d0, x', rfl, rfl⟩
      obtain ⟨v, hj, rfl⟩ := map_of hi
      have m : v ∈ vs := List.mem_reverse.mp (mem_of hj)
      refine ⟨trivial, ?_⟩
      walk_at "vc"
      rw [seen_eq hv ho hl m, take_of hj, List.foldl_append]
      refine ⟨_, ⟨ok_of (vD_dok v), ok_of (n := 2) (dok_lst fun x hx => by obtain ⟨s, _, rfl⟩ := List.mem_map.mp hx; exact seenOf_dok _ _), rfl⟩, ?_⟩
      simp only [List.foldl_cons, List.foldl_nil]
      generalize hf : (vs.reverse.take i).foldl (stepN (seenB vs op)) [] = f
      have hfl : f.length ≤ 41 := by rw [← hf]; have := fold_len (P := seenB vs op) (vs.reverse.take i) []; rw [List.length_take, List.length_reverse] at this; have := hv.2.2; simp only [List.length_nil] at *; omega
      unfold stepN
      split
      · rename_i hs
        rw [hs]
        unfold vD
        walk_at "vc"
        have lf : (iD f).length < sizeLine := by unfold iD sizeLine; rw [List.length_map]; omega
        cases hm : v.2 with
        | some i =>
          unfold mD
          walk_at "vc"
          exact ⟨lf, _, _, ⟨rfl, rfl⟩, by simp [iD]⟩
        | none =>
          unfold mD
          walk_at "vc"
          cases f with
          | nil => simp [iD]
          | cons a r =>
            rw [if_pos (by simp [iD])]
            exact ⟨lf, _, _, ⟨rfl, rfl⟩, by simp [iD]⟩
      · rename_i hs
        have hs : seenB vs op v = false := by simpa using hs
        rw [hs]
        simp
    · rintro ρ S2 ⟨d0, x', rfl, rfl⟩
      refine ⟨trivial, ?_⟩
      walk_at "vc"
      refine ⟨S, Sub.sup_new hp (Sub.refl S), ?_⟩
      rw [List.length_map, List.take_length]
      exact q
theorem v_needed : VC n_needed b_needed { fns := [("needed_of", sp_needed_of), ("check_asked", sp_check_asked)], cons := [], nob := n_needed.nob } 3 sp_needed := by
  rintro ds S Q Y ⟨d, vs, op, last, rfl, hd, hv, ho, hl, q⟩
  refine ⟨rfl, ?_⟩
  unfold b_needed n_needed
  walk_at "vc"
  refine ⟨_, _, _, _, rfl, hd, hv, ho, hl, _, _, _, _, rfl, hd, hv, ho, hl, ?_⟩
  walk_at "vc"
  exact q

/-! the kept ones are enough -/
theorem flat_iD {ns : List Int} : ((iD ns).all D.flat = true) = True := eq_true (by unfold iD; rw [List.all_map]; simp [Function.comp_def, D.flat])
theorem any_iD {i : Int} {ns : List Int} : ((iD ns).any fun z => D.eq z (.int i)) = decide (i ∈ ns) := any_int
theorem len_iD {ns : List Int} : (iD ns).length = ns.length := by unfold iD; rw [List.length_map]
theorem len_vsD {ns : List Ver} : (vsD ns).length = ns.length := by unfold vsD; rw [List.length_map]
def seenF (vs : List Ver) (s : Int) : Option Ver := vs.find? fun v => decide (v.1 ≤ s)
def okAt (vs ks : List Ver) (s : Int) : Bool := match seenF ks s with
  | none => match seenF vs s with
    | none => true
    | some w => w.2.isNone
  | some p => match seenF vs s with
    | none => false
    | some w => decide (w.1 = p.1)
def keptOf (vs : List Ver) (ns : List Int) : List Ver := vs.filter fun v => decide (v.1 ∈ ns)
def lotB (vs : List Ver) (ns : List Int) : Bool := decide (ns.Pairwise (· < ·)) && ns.all fun c => decide (c ∈ vs.map Prod.fst)
def enB (vs : List Ver) (asked ns : List Int) : Bool := lotB vs ns && asked.all (okAt vs (keptOf vs ns))
def plain : D → Bool
  | .ref _ => false
  | .ty _ => false
  | _ => true
def notTup : D → Bool
  | .tup _ => false
  | .ctp _ => false
  | _ => true
def NotLot (S : Hs) (d : D) : Prop := (∃ xs, d = .tup xs ∧ xs.all plain = true ∧ xs.length ≤ 1000 ∧ xs.all isIntD = false) ∨ (notTup d = true ∧ Kn S d)
def sp_is_kept_right : DSp := fun ds S Q _ => ∃ d vs op last t, ds = [d, .tup (iD op), .int last, t] ∧ IsSq d (vsD vs) ∧ VsOk vs ∧ OpOk op last ∧ LsOk vs last ∧
  ((∃ ns, t = .tup (iD ns) ∧ ns.length ≤ 1000 ∧ Q (.bl (enB vs (askedOf op last) ns)) S) ∨ (NotLot S t ∧ Q (.bl false) S))
theorem isInt_iD {xs : List D} (h : xs.all isIntD = true) : ∃ ns, xs = iD ns := by
  induction xs with
  | nil => exact ⟨[], rfl⟩
  | cons a r ih =>
    simp only [List.all_cons, Bool.and_eq_true] at h
    obtain ⟨ns, e⟩ := ih h.2
    cases a with
    | int i => exact ⟨i :: ns, by rw [e]; rfl⟩
    | _ => simp [isIntD] at h
theorem kn_plain {S : Hs} {d : D} (h : plain d = true) : Kn S d := by
  cases d <;> simp [plain] at h <;> exact ⟨_, rfl⟩
theorem find_kept {vs : List Ver} {ns : List Int} {s : Int} {p : Ver} (h : seenF (keptOf vs ns) s = some p) : p ∈ vs ∧ p.1 ∈ ns ∧ p.1 ≤ s := by
  unfold seenF keptOf at h
  have m := List.mem_of_find?_eq_some h
  have l := List.find?_some h
  rw [List.mem_filter] at m
  exact ⟨m.1, by simpa using m.2, by simpa using l⟩
theorem seen_none {vs : List Ver} {ns : List Int} {s : Int} (h : seenF vs s = none) : seenF (keptOf vs ns) s = none := by
  cases e : seenF (keptOf vs ns) s with
  | none => rfl
  | some p =>
    obtain ⟨a, _, c⟩ := find_kept e
    unfold seenF at h
    rw [List.find?_eq_none] at h
    exact (h p a (by simpa using c)).elim
theorem ver_uniq {vs : List Ver} (hv : vs.Pairwise (fun a b => b.1 < a.1)) : ∀ u ∈ vs, ∀ v ∈ vs, u.1 = v.1 → u = v := fun u hu v hw e => by
  obtain ⟨i, hi, rfl⟩ := List.getElem_of_mem hu
  obtain ⟨j, hj, rfl⟩ := List.getElem_of_mem hw
  have p := List.pairwise_iff_getElem.mp hv
  by_cases z : i < j
  · have := p i j hi hj z; omega
  · by_cases y : j < i
    · have := p j i hj hi y; omega
    · have : i = j := by omega
      subst this; rfl
theorem filterMap_ver {vs : List Ver} {ns : List Int} : vs.filterMap (fun v => if decide (v.1 ∈ ns) = true then some (vD v) else none) = vsD (keptOf vs ns) := filterMap_if
theorem filterMap_fst {vs : List Ver} : vs.filterMap (fun v => some (D.int v.1)) = iD (vs.map Prod.fst) := by
  rw [filterMap_all]; unfold iD; rw [List.map_map]; rfl
theorem iD_inj {a b : List Int} (h : iD a = iD b) : a = b := by
  induction a generalizing b with
  | nil => cases b with
    | nil => rfl
    | cons => cases h
  | cons x r ih => cases b with
    | nil => cases h
    | cons y s =>
      unfold iD at h
      rw [List.map_cons, List.map_cons, List.cons.injEq, D.int.injEq] at h
      rw [h.1, ih h.2]
theorem iD_nb (ns : List Int) : (D.lst (iD ns)).nb = true := nb_lst fun x hx => by obtain ⟨v, _, rfl⟩ := List.mem_map.mp hx; rfl
theorem iD_ok (ns : List Int) : (D.lst (iD ns)).ok = true := ok_of (n := 1) (dok_lst fun x hx => by obtain ⟨v, _, rfl⟩ := List.mem_map.mp hx; exact dok_int _)
theorem iD_sort {ns : List Int} : D.eq (.lst (iD ns)) (.lst (iD (sortI ns))) = decide (ns.Pairwise (· ≤ ·)) := eq_dec (iD_nb _) (iD_nb _) (by
  rw [← sort_iff, D.lst.injEq]
  exact ⟨iD_inj, fun h => by rw [← h]⟩)
theorem bl_of {α : Type} {xs : List α} {p : α → Bool} {S : Hs} : lstOf S (.lst (xs.map fun x => D.bl (p x))) = some ((xs.map p).map D.bl) := by
  rw [List.map_map]; rfl
local macro_rules | `(tactic| walk_at "vc") => `(tactic| try simp only [wE_var, wE_int, wE_str, wE_bl, wE_non, wE_glob, wE_b2, wE_neg, wE_cm, wE_ch, wE_not, wE_and, wE_or, wE_ife, wE_tup, wE_lst, wE_ix, wE_sl, wE_rev, wE_bi, wE_isi, wE_call, wE_bm, wE_comp, wE_call0, wE_fld, wE_mt, wE_mk, wE_dic, wE_dic0, wE_dcomp, wE_lock, wB_not, wB_and, wB_or, wB_cm, wB_ch, wB_var, wB_ix, wB_bi, wB_isi, wB_call, wB_bm, wB_call0, wB_fld, wB_mt, wAnd_cons1, wAnd_cons, wOr_cons1, wOr_cons, wBAnd_cons1, wBAnd_cons, wBOr_cons1, wBOr_cons, wEs_nil, wEs_cons, wPr_nil, wPr_cons, wC_nil, wC_cons1, wO_no, wO_yes, wG_name, wG_sub, wI_seq, wI_rng, wI_enum, wI_items, wT_asg, wT_setc, wT_aug, wT_ex, wT_ret, wT_retN, wT_pass, wT_brk, wT_cont, wT_ite, wT_for, wT_whil, wT_fst, wT_faug, wT_saug, wT_par2, wT_par3, wT_del, wT_lock, wT_rais, wT_try1, wTs_nil, wTs_cons, ixW_live, setW_live, ixW_dK, ixW_zK, setW_dK, inR_live, dget_dK, inR_dK, addW_int, addW_str, addW_tup, addW_ll, addW_lr, addW_rl, addW_rr, subW_int, mulW_int, mulW_ref, fdivW_int, modW_int, powW_int, ltW_int, leW_int, gtW_int, geW_int, ltW_str, leW_str, gtW_str, geW_str, isNW_n, notNW_n, isNone_non, isNone_bl, isNone_int, isNone_str, isNone_tup, isNone_lst, isNone_ref, isNone_ty, tyName_non, tyName_bl, tyName_int, tyName_str, tyName_tup, tyName_lst, negW_int, intW_int, intW_bl, absW_int, minW_int, maxW_int, lenW_str, lenW_lst, lenW_tup, lenW_ref, len_lst, len_dK, len_dT, tupleW_lst, tupleW_tup, tupleW_ref, listW_lst, listW_tup, listW_ref, ixW_str, ixW_lst, ixW_tup, slW_str, slW_tup, slW_lst, slW_ref, revW_tup, revW_lst, revW_ref, appW_ref, appTy, tru_bl, tru_non, tru_int, tru_str, tru_tup, tru_lst, seqI_lst, seqI_tup, seqI_ref, seqI_str, seqI_ctp, items_lst, items_zK, items_zT, enumI_lst, enumI_tup, enumI_ref, rngI_1, rngI_2, inW_e, notInW_e, inR_int, inR_lst, inR_tup, flat_int, flat_str, flat_non, flat_bl, ixN_1_0, ixN_2_0, ixN_2_1, ixN_3_0, ixN_3_1, ixN_3_2, ixN_4_0, ixN_4_1, ixN_4_2, ixN_4_3, ixN_5_0, ixN_5_1, ixN_5_2, ixN_5_3, ixN_5_4, ixN_6_0, ixN_6_1, ixN_6_2, ixN_6_3, ixN_6_4, ixN_6_5, ixN_7_0, ixN_7_1, ixN_7_2, ixN_7_3, ixN_7_4, ixN_7_5, ixN_7_6, ixN_8_0, ixN_8_1, ixN_8_2, ixN_8_3, ixN_8_4, ixN_8_5, ixN_8_6, ixN_8_7, seqOf_sup, lstOf_sup, cp10_1, cp2_1, cp10_2, cp2_2, cp10_3, cp2_3, cp10_4, cp2_4, cp10_5, cp2_5, cp10_6, cp2_6, cp10_7, cp2_7, cp10_8, cp2_8, cp10_9, cp2_9, cp10_10, cp2_10, cp10_11, cp2_11, cp10_12, cp2_12, cp10_13, cp2_13, cp10_14, cp2_14, cp10_15, cp2_15, cp10_16, cp2_16, cp10_17, cp2_17, cp10_18, cp2_18, cp10_19, cp2_19, cp10_20, cp2_20, cp10_21, cp2_21, cp10_22, cp2_22, cp10_23, cp2_23, cp10_24, cp2_24, cp10_25, cp2_25, cp10_26, cp2_26, cp10_27, cp2_27, cp10_28, cp2_28, cp10_29, cp2_29, cp10_30, cp2_30, cp10_31, cp2_31, cp10_32, cp2_32, cp10_33, cp2_33, cp10_34, cp2_34, cp10_35, cp2_35, cp10_36, cp2_36, cp10_37, cp2_37, cp10_38, cp2_38, cp10_39, cp2_39, cp10_40, cp2_40, lsl_0, lsl_1, lsl_2, lsl_3, lsl_4, lsl_5, lsl_6, lsl_7, lsl_8, lsl_9, lsl_10, lsl_11, lsl_12, lsl_13, lsl_14, lsl_15, lsl_16, lsl_17, lsl_18, lsl_19, lsl_20, isNW_b, notNW_b, three_c, isDic_dK, isDic_dT, isDic_zK, isDic_zT, lk_dK, lk_dT, key_int, key_str, keysOf_nil, augIx_ref, tupleW_ctp, ixW_ctp, tyName_ctp, tru_ctp, inR_ctp, seqOf_ctp, lenW_ctp, isNone_ctp, augW_int, augS_int, one_c, two_c, wGs_c, wGs_n, wT_never, wG_tup1,
  startD, wipeD, List.map_cons, List.map_nil, List.length_cons, List.length_nil, List.cons_append, List.nil_append, List.append_nil,
  List.getElem?_cons_zero, List.getElem?_cons_succ, List.set_cons_zero, List.set_cons_succ, Option.some.injEq, exists_eq_left', exists_eq_left, exists_eq_right, exists_eq_right', exists_and_left, Nat.reduceAdd, Nat.reduceSub, List.replicate, List.replicate_zero, List.replicate_succ, if_true, Bool.false_eq_true, if_false, ite_true, ite_false, D.bl.injEq, D.int.injEq, D.str.injEq, D.tup.injEq, D.lst.injEq, D.ref.injEq,
  B2.w, Cm.w, Bi.w, Bm.w, eqW, neW, List.cons.injEq, and_true, true_and, Bool.not_true, Bool.not_false, Gs.len, Es.len,
  ret_non, ret_bl, ret_int, ret_str, ret_tup, ret_lst, isiAny_nil, isiAny_cons, atI_0, atI_1, atI_2, atI_3, atI_4, lstOf_lst, seqOf_lst, seqOf_tup, sup_same, sup_sup, eq_int, ok_int, ok_non, ok_bl, eq_ni, eq_in, eq_bl, MO.lst.injEq, exists_eq', exists_eq,
  kit_NoneType_int, kit_NoneType_bool, kit_NoneType_str, kit_NoneType_tuple, kit_NoneType_list, kit_NoneType_dict, kit_bool_int, kit_bool_bool, kit_bool_str, kit_bool_tuple, kit_bool_list, kit_bool_dict, kit_int_int, kit_int_bool, kit_int_str, kit_int_tuple, kit_int_list, kit_int_dict,
  kit_str_int, kit_str_bool, kit_str_str, kit_str_tuple, kit_str_list, kit_str_dict, kit_list_int, kit_list_bool, kit_list_str, kit_list_tuple, kit_list_list, kit_list_dict, kit_tuple_int, kit_tuple_bool, kit_tuple_str, kit_tuple_tuple, kit_tuple_list, kit_tuple_dict,
  decide_eq_true_eq, Bool.not_eq_true', decide_eq_false_iff_not, forall_const, implies_true, decide_true, decide_false, reduceCtorEq, Int.cast_ofNat_Int, Int.reducePow, Int.reduceMul, Int.reduceAdd, Int.reduceSub, Int.reduceNeg, Int.reduceToNat, Int.reduceEq, Int.reduceLT, Int.reduceLE, len_iD, len_vsD, any_iD, flat_iD, kit_dict_tuple])
theorem flat_map {ns : List Int} : (ns.map D.int).all D.flat = true := by rw [List.all_map]; simp [Function.comp_def, D.flat]
theorem seenOf_F {vs : List Ver} {s : Int} : seenOf vs s = ((seenF vs s).map vD).getD .non := rfl
theorem v_is_kept_right : VCd n_is_kept_right b_is_kept_right { fns := [("asked_of", sp_asked_of), ("seen_of", sp_seen_of), ("is_integer", sp_is_integer), ("check_asked", sp_check_asked)], cons := [], nob := n_is_kept_right.nob } 4 sp_is_kept_right := by
  rintro ds S Q Y ⟨d, vs, op, last, t, rfl, hd, hv, ho, hl, q⟩
  refine ⟨rfl, ?_⟩
  unfold b_is_kept_right n_is_kept_right
  walk_at "vc"
  refine ⟨_, _, _, _, rfl, hd, hv, ho, hl, ?_⟩
  walk_at "vc"
  rcases q with ⟨ns, rfl, hn, q⟩ | ⟨⟨xs, rfl, hp, hn, hi⟩ | ⟨hnt, hk⟩, q⟩
  · walk_at "vc"
    unfold iD
    walk_at "vc"
    refine compK (fun s => some (.bl true)) (by unfold sizeLine; omega) (fun _ _ => trivial) ?_ ?_
    · intro i v S2 K K' hx _ hy hn
      walk_at "vc"
      exact ⟨_, rfl, ⟨_, rfl⟩, hy _ rfl⟩
    rw [filterMap_all]
    walk_at "vc"
    unfold allW
    refine ⟨_, bl_of (p := fun _ => true), ?_⟩
    have e : ((ns.map fun _ => true).all id) = true := by simp
    rw [e]
    walk_at "vc"
    have seq' : ∀ (S : Hs) Q, seqI d S Q = Q (vsD vs) (fun _ => True) S := by rcases hd with rfl | rfl <;> (intro S Q; rfl)
    have h41 := hv.2.2
    rw [seq']
    unfold vsD
    refine compK (fun v : Ver => some (.int v.1)) (by unfold sizeLine; omega) (fun _ _ => trivial) ?_ ?_
    · intro i v S2 K K' hx _ hy hn
      unfold vD
      walk_at "vc"
      exact hy _ rfl
    rw [filterMap_fst]
    refine newL_f ?_
    refine .inl ⟨ns, rfl, newL_f ?_⟩
    refine ⟨iD_ok ns, iD_ok _, ?_⟩
    rw [show D.eq (.lst (ns.map D.int)) (.lst ((sortI ns).map D.int)) = _ from iD_sort]
    split
    · rename_i h
      have h' : ¬ ns.Pairwise (· ≤ ·) := by simpa using h
      have e : enB vs (askedOf op last) ns = false := by
        unfold enB lotB
        rw [decide_eq_false (fun z => h' (lt_iff.mp z).1)]
        rfl
      rw [e] at q
      exact ⟨S, Sub.refl S, q⟩
    · rename_i h
      have h' : ns.Pairwise (· ≤ ·) := by simpa using h
      refine dcompK (fun i => some ((Sum.inl i : Key), D.bl true)) (by unfold sizeLine; omega) (fun _ _ => trivial) ?_ ?_
      · intro i v S2 K K' hx _ hy hn
        walk_at "vc"
        exact hy _ _ _ rfl rfl
      rw [filterMap_all]
      intro L hL
      obtain ⟨m1, m2⟩ := merge_int (ns := ns) (v := .bl true)
      have sb : ∀ o, Sub S (sup S L o) := fun o => Sub.sup_new hL (Sub.refl S)
      walk_at "vc"
      split
      · rename_i h2
        have e : enB vs (askedOf op last) ns = false := by
          unfold enB lotB
          rw [decide_eq_false (fun z => by have := m2.mpr (lt_iff.mp z).2; omega)]
          rfl
        rw [e] at q
        exact ⟨S, sb _, q⟩
      · rename_i h2
        have hlt : ns.Pairwise (· < ·) := lt_iff.mpr ⟨h', m2.mp (by omega)⟩
        refine compK (fun c => some (.bl (decide (c ∈ vs.map Prod.fst)))) (by unfold sizeLine; omega) (fun _ _ => trivial) ?_ ?_
        · intro i v S2 K K' hx _ hy hn
          walk_at "vc"
          exact ⟨_, ⟨iD_ok _, rfl⟩, hy _ rfl⟩
        rw [filterMap_all]
        refine ⟨_, bl_of (p := fun c => decide (c ∈ vs.map Prod.fst)), ?_⟩
        have el : lotB vs ns = (ns.map fun c => decide (c ∈ vs.map Prod.fst)).all id := by
          unfold lotB
          rw [decide_eq_true hlt, List.all_map]
          rfl
        rw [← el]
        split
        · rename_i h3
          have e : enB vs (askedOf op last) ns = false := by
            unfold enB
            rw [h3]
            rfl
          rw [e] at q
          exact ⟨S, sb _, q⟩
        · rename_i h3
          have h3 : lotB vs ns = true := by simpa using h3
          have e : enB vs (askedOf op last) ns = (askedOf op last).all (okAt vs (keptOf vs ns)) := by
            unfold enB
            rw [h3]
            rfl
          rw [e] at q
          rw [seq']
          unfold vsD
          refine compK (fun v : Ver => if decide (v.1 ∈ ns) = true then some (vD v) else none) (by unfold sizeLine; omega) (fun _ _ => trivial) ?_ ?_
          · intro i v S2 K K' hx _ hy hn
            unfold vD
            walk_at "vc"
            refine ⟨_, ⟨flat_map, any_int.symm⟩, ?_⟩
            split
            · rename_i h4
              exact hy _ (by rw [h4]; rfl)
            · rename_i h4
              exact hn (if_neg h4)
          rw [filterMap_ver]
          refine ⟨op, last, rfl, ho.2.2, ?_⟩
          walk_at "vc"
          unfold iD
          generalize hdk : MO.dK (mergeD [] (List.map (fun i => (Sum.inl i, D.bl true)) ns)) = dk
          refine for_inv (fun i ρ S2 => S2 = sup S L dk ∧ (∃ a b c e f, ρ = [some d, some (D.tup (List.map D.int op)), some (D.int last), some (D.tup (List.map D.int ns)), some (D.lst (List.map D.int (List.map Prod.fst vs))), some (D.lst (vsD (keptOf vs ns))), a, b, c, e, f]) ∧ ∀ s ∈ (askedOf op last).take i, okAt vs (keptOf vs ns) s = true) ⟨rfl, ⟨_, _, _, _, _, rfl⟩, by simp⟩ ?_ ?_
          · rintro i x ρ S2 hi ⟨rfl, ⟨a, b, c, e, f, rfl⟩, hall⟩
            obtain ⟨s, hs, rfl⟩ := map_of hi
            refine ⟨trivial, ?_⟩
            walk_at "vc"
            refine ⟨d, vs, s, rfl, hd, _, _, s, rfl, .inl rfl, ?_⟩
            have okS : ∀ vs : List Ver, (seenOf vs s).ok = true := fun vs => ok_of (seenOf_dok vs s)
            refine ⟨okS _, okS _, ?_⟩
            have step : okAt vs (keptOf vs ns) s = true → ∀ t ∈ (askedOf op last).take (i + 1), okAt vs (keptOf vs ns) t = true := fun z t ht => by
              rw [take_of hs] at ht
              rcases List.mem_append.mp ht with ht | ht
              · exact hall t ht
              · rw [List.mem_singleton.mp ht]; exact z
            have bad : okAt vs (keptOf vs ns) s = false → dropQ Q (D.bl false) (sup S L dk) := fun z => by
              have : (askedOf op last).all (okAt vs (keptOf vs ns)) = false := by
                rw [List.all_eq_false]
                exact ⟨s, mem_of hs, by simp [z]⟩
              rw [this] at q
              exact ⟨S, sb _, q⟩
            rw [seenOf_F, seenOf_F]
            unfold okAt at step bad
            cases e1 : seenF (keptOf vs ns) s with
            | none =>
              cases e2 : seenF vs s with
              | none =>
                rw [e1, e2] at step
                simp only [Option.map_none, Option.getD_none]
                rw [show D.eq .non .non = true from rfl, if_neg (by decide)]
                exact ⟨trivial, step rfl⟩
              | some w =>
                rw [e1, e2] at step bad
                simp only [Option.map_none, Option.getD_none, Option.map_some, Option.getD_some]
                rw [show D.eq .non (vD w) = false from rfl, if_pos rfl]
                unfold vD
                walk_at "vc"
                obtain ⟨w1, w2⟩ := w
                cases w2 with
                | none =>
                  unfold mD
                  walk_at "vc"
                  exact step rfl
                | some x =>
                  unfold mD
                  walk_at "vc"
                  exact bad rfl
            | some p =>
              cases e2 : seenF vs s with
              | none => rw [seen_none e2] at e1; cases e1
              | some w =>
                rw [e1, e2] at step bad
                simp only [Option.map_some, Option.getD_some]
                have mw : w ∈ vs := List.mem_of_find?_eq_some e2
                rw [eq_dec (d := vD p) (e := vD w) (p := w.1 = p.1) (vD_nb _) (vD_nb _) ⟨fun z => by rw [vD_inj z], fun z => by rw [ver_uniq hv.2.1 w mw p (find_kept e1).1 z]⟩]
                simp only at step bad
                split
                · rename_i z
                  rw [z] at bad
                  unfold vD
                  walk_at "vc"
                  exact bad rfl
                · rename_i z
                  exact ⟨trivial, step (by simpa using z)⟩
          · rintro ρ S2 ⟨rfl, ⟨a, b, c, e, f, rfl⟩, hall⟩
            refine ⟨trivial, ?_⟩
            walk_at "vc"
            rw [List.length_map, List.take_length] at hall
            rw [List.all_eq_true.mpr hall] at q
            exact ⟨S, sb _, q⟩
  · walk_at "vc"
    have ex : xs.map (fun x => x) = xs := List.map_id' xs
    have goal : ∀ (Z : QI), Z (xs.map fun x => x) (fun _ => True) S → Z xs (fun _ => True) S := fun Z h => by rw [ex] at h; exact h
    refine goal _ (compK (fun x => some (.bl (isIntD x))) (by unfold sizeLine; omega) (fun _ _ => trivial) ?_ ?_)
    · intro i v S2 K K' hx _ hy hn
      walk_at "vc"
      exact ⟨_, rfl, kn_plain (List.all_eq_true.mp hp v (mem_of hx)), hy _ rfl⟩
    rw [filterMap_all]
    refine ⟨_, bl_of (p := fun x => isIntD x), ?_⟩
    rw [show (xs.map fun x => isIntD x).all id = false by rw [List.all_map]; exact hi]
    walk_at "vc"
    exact ⟨S, Sub.refl S, q⟩
  · obtain ⟨tt, ht⟩ := hk
    cases t with
    | ref a =>
      refine ⟨_, ht, ?_⟩
      rcases kn_ref ht with rfl | rfl
      all_goals
        walk_at "vc"
        exact ⟨S, Sub.refl S, q⟩
    | ty n => cases ht
    | tup xs => cases hnt
    | ctp xs => cases hnt
    | _ =>
      walk_at "vc"
      exact ⟨S, Sub.refl S, q⟩
end W
namespace W
open PySem L2 Dz
local macro_rules | `(tactic| walk_at "vc") => `(tactic| try simp only [wE_var, wE_int, wE_str, wE_bl, wE_non, wE_glob, wE_b2, wE_neg, wE_cm, wE_ch, wE_not, wE_and, wE_or, wE_ife, wE_tup, wE_lst, wE_ix, wE_sl, wE_rev, wE_bi, wE_isi, wE_call, wE_bm, wE_comp, wE_call0, wE_fld, wE_mt, wE_mk, wE_dic, wE_dic0, wE_dcomp, wE_lock, wB_not, wB_and, wB_or, wB_cm, wB_ch, wB_var, wB_ix, wB_bi, wB_isi, wB_call, wB_bm, wB_call0, wB_fld, wB_mt, wAnd_cons1, wAnd_cons, wOr_cons1, wOr_cons, wBAnd_cons1, wBAnd_cons, wBOr_cons1, wBOr_cons, wEs_nil, wEs_cons, wPr_nil, wPr_cons, wC_nil, wC_cons1, wO_no, wO_yes, wG_name, wG_sub, wI_seq, wI_rng, wI_enum, wI_items, wT_asg, wT_setc, wT_aug, wT_ex, wT_ret, wT_retN, wT_pass, wT_brk, wT_cont, wT_ite, wT_for, wT_whil, wT_fst, wT_faug, wT_saug, wT_par2, wT_par3, wT_del, wT_lock, wT_rais, wT_try1, wTs_nil, wTs_cons, ixW_live, setW_live, ixW_dK, ixW_zK, setW_dK, inR_live, dget_dK, inR_dK, addW_int, addW_str, addW_tup, addW_ll, addW_lr, addW_rl, addW_rr, subW_int, mulW_int, mulW_ref, fdivW_int, modW_int, powW_int, ltW_int, leW_int, gtW_int, geW_int, ltW_str, leW_str, gtW_str, geW_str, isNW_n, notNW_n, isNone_non, isNone_bl, isNone_int, isNone_str, isNone_tup, isNone_lst, isNone_ref, isNone_ty, tyName_non, tyName_bl, tyName_int, tyName_str, tyName_tup, tyName_lst, negW_int, intW_int, intW_bl, absW_int, minW_int, maxW_int, lenW_str, lenW_lst, lenW_tup, lenW_ref, len_lst, len_dK, len_dT, tupleW_lst, tupleW_tup, tupleW_ref, listW_lst, listW_tup, listW_ref, ixW_str, ixW_lst, ixW_tup, slW_str, slW_tup, slW_lst, slW_ref, revW_tup, revW_lst, revW_ref, appW_ref, appTy, tru_bl, tru_non, tru_int, tru_str, tru_tup, tru_lst, seqI_lst, seqI_tup, seqI_ref, seqI_str, seqI_ctp, items_lst, items_zK, items_zT, enumI_lst, enumI_tup, enumI_ref, rngI_1, rngI_2, inW_e, notInW_e, inR_int, inR_lst, inR_tup, flat_int, flat_str, flat_non, flat_bl, ixN_1_0, ixN_2_0, ixN_2_1, ixN_3_0, ixN_3_1, ixN_3_2, ixN_4_0, ixN_4_1, ixN_4_2, ixN_4_3, ixN_5_0, ixN_5_1, ixN_5_2, ixN_5_3, ixN_5_4, ixN_6_0, ixN_6_1, ixN_6_2, ixN_6_3, ixN_6_4, ixN_6_5, ixN_7_0, ixN_7_1, ixN_7_2, ixN_7_3, ixN_7_4, ixN_7_5, ixN_7_6, ixN_8_0, ixN_8_1, ixN_8_2, ixN_8_3, ixN_8_4, ixN_8_5, ixN_8_6, ixN_8_7, seqOf_sup, lstOf_sup, cp10_1, cp2_1, cp10_2, cp2_2, cp10_3, cp2_3, cp10_4, cp2_4, cp10_5, cp2_5, cp10_6, cp2_6, cp10_7, cp2_7, cp10_8, cp2_8, cp10_9, cp2_9, cp10_10, cp2_10, cp10_11, cp2_11, cp10_12, cp2_12, cp10_13, cp2_13, cp10_14, cp2_14, cp10_15, cp2_15, cp10_16, cp2_16, cp10_17, cp2_17, cp10_18, cp2_18, cp10_19, cp2_19, cp10_20, cp2_20, cp10_21, cp2_21, cp10_22, cp2_22, cp10_23, cp2_23, cp10_24, cp2_24, cp10_25, cp2_25, cp10_26, cp2_26, cp10_27, cp2_27, cp10_28, cp2_28, cp10_29, cp2_29, cp10_30, cp2_30, cp10_31, cp2_31, cp10_32, cp2_32, cp10_33, cp2_33, cp10_34, cp2_34, cp10_35, cp2_35, cp10_36, cp2_36, cp10_37, cp2_37, cp10_38, cp2_38, cp10_39, cp2_39, cp10_40, cp2_40, lsl_0, lsl_1, lsl_2, lsl_3, lsl_4, lsl_5, lsl_6, lsl_7, lsl_8, lsl_9, lsl_10, lsl_11, lsl_12, lsl_13, lsl_14, lsl_15, lsl_16, lsl_17, lsl_18, lsl_19, lsl_20, isNW_b, notNW_b, three_c, isDic_dK, isDic_dT, isDic_zK, isDic_zT, lk_dK, lk_dT, key_int, key_str, keysOf_nil, augIx_ref, tupleW_ctp, ixW_ctp, tyName_ctp, tru_ctp, inR_ctp, seqOf_ctp, lenW_ctp, isNone_ctp, augW_int, augS_int, one_c, two_c, wGs_c, wGs_n, wT_never, wG_tup1,
  startD, wipeD, List.map_cons, List.map_nil, List.length_cons, List.length_nil, List.cons_append, List.nil_append, List.append_nil,
  List.getElem?_cons_zero, List.getElem?_cons_succ, List.set_cons_zero, List.set_cons_succ, Option.some.injEq, exists_eq_left', exists_eq_left, exists_eq_right, exists_eq_right', exists_and_left, Nat.reduceAdd, Nat.reduceSub, List.replicate, List.replicate_zero, List.replicate_succ, if_true, Bool.false_eq_true, if_false, ite_true, ite_false, D.bl.injEq, D.int.injEq, D.str.injEq, D.tup.injEq, D.lst.injEq, D.ref.injEq,
  B2.w, Cm.w, Bi.w, Bm.w, eqW, neW, List.cons.injEq, and_true, true_and, Bool.not_true, Bool.not_false, Gs.len, Es.len,
  ret_non, ret_bl, ret_int, ret_str, ret_tup, ret_lst, isiAny_nil, isiAny_cons, atI_0, atI_1, atI_2, atI_3, atI_4, lstOf_lst, seqOf_lst, seqOf_tup, sup_same, sup_sup, eq_int, ok_int, ok_non, ok_bl, eq_ni, eq_in, eq_bl, MO.lst.injEq, exists_eq', exists_eq,
  kit_NoneType_int, kit_NoneType_bool, kit_NoneType_str, kit_NoneType_tuple, kit_NoneType_list, kit_NoneType_dict, kit_bool_int, kit_bool_bool, kit_bool_str, kit_bool_tuple, kit_bool_list, kit_bool_dict, kit_int_int, kit_int_bool, kit_int_str, kit_int_tuple, kit_int_list, kit_int_dict,
  kit_str_int, kit_str_bool, kit_str_str, kit_str_tuple, kit_str_list, kit_str_dict, kit_list_int, kit_list_bool, kit_list_str, kit_list_tuple, kit_list_list, kit_list_dict, kit_tuple_int, kit_tuple_bool, kit_tuple_str, kit_tuple_tuple, kit_tuple_list, kit_tuple_dict,
  decide_eq_true_eq, Bool.not_eq_true', decide_eq_false_iff_not, forall_const, implies_true, decide_true, decide_false, reduceCtorEq, Int.cast_ofNat_Int, Int.reducePow, Int.reduceMul, Int.reduceAdd, Int.reduceSub, Int.reduceNeg, Int.reduceToNat, Int.reduceEq, Int.reduceLT, Int.reduceLE, len_iD, len_vsD, any_iD, flat_iD])
def BagO (o : MO) : Prop := ∃ ns a r t, o = .lst [.lst (iD ns), .int a, .int r, .int t]
def sp_mixed : DSp := fun ds S Q _ => ∃ a b, ds = [.int a, .int b] ∧ ∀ r, Q (.int r) S
def sp_bag : DSp := fun ds S Q _ => ∃ ns, ds = [.lst (iD ns)] ∧ ∀ h o, S h = none → BagO o → Q (.ref h) (sup S h o)
def sp_draw : DSp := fun ds S Q _ => ∃ h m o, ds = [.ref h, .int m] ∧ S h = some o ∧ BagO o ∧ 0 < m ∧ m < 2 ^ 64 ∧ ∀ k o', 0 ≤ k → k < m → BagO o' → Q (.int k) (sup S h o')
theorem v_law_mixed : VC n_law_mixed b_law_mixed { fns := [], cons := [], nob := n_law_mixed.nob } 2 sp_mixed := by
  rintro ds S Q Y ⟨a, b, rfl, q⟩
  refine ⟨rfl, ?_⟩
  unfold b_law_mixed n_law_mixed
  walk_at "vc"
  refine ⟨.inl (.inl (by decide)), .inl (.inr (by decide)), cdw (by decide) (by decide), .inl (.inl ?_), cdw (by decide) (by decide), .inl (.inl ?_), cdw (by decide) (by decide), q _⟩
  · omega
  · omega
theorem v_law_bag : VC n_law_bag b_law_bag { fns := [], cons := [], nob := n_law_bag.nob } 1 sp_bag := by
  rintro ds S Q Y ⟨ns, rfl, q⟩
  refine ⟨rfl, ?_⟩
  unfold b_law_bag n_law_bag
  walk_at "vc"
  refine newL_f ?_
  obtain ⟨ys, e, hy, _⟩ := cut_map (g := D.int) (xs := ns) (lo := none) (hi := some 63)
  have hl := cut_len (xs := iD ns) (k := 63)
  unfold iD at hl ⊢
  rw [show ((63 : Nat) : Int) = 63 from rfl, e, List.length_map] at hl
  rw [e]
  walk_at "vc"
  unfold CompK
  refine comp_pureM (fun s => some (.int s)) (by unfold sizeLine; omega) (fun _ _ => trivial) ?_ ?_
  · intro i v S2 K K' hx _ hy hn
    walk_at "vc"
    exact hy _ rfl
  · rw [filterMap_all]
    refine newL_l fun p hp => ?_
    exact ret_any (q p _ hp ⟨ys, 0, 0, 0, rfl⟩)
theorem v_law_draw : VC n_law_draw b_law_draw { fns := [("_law_mixed", sp_mixed)], cons := [], nob := n_law_draw.nob } 2 sp_draw := by
  rintro ds S Q Y ⟨h, m, o, rfl, hS, ⟨ns, a, r, t, rfl⟩, h0, h1, q⟩
  refine ⟨rfl, ?_⟩
  unfold b_law_draw n_law_draw
  obtain ⟨S, rfl⟩ : ∃ S0, S = sup S0 h (.lst [.lst (iD ns), .int a, .int r, .int t]) := ⟨S, (sup_self hS).symm⟩
  simp only [sup_sup] at q
  have hm : ∀ i : Int, 0 ≤ i % m ∧ i % m < m := fun i => ⟨Int.emod_nonneg _ (by omega), Int.emod_lt_of_pos _ h0⟩
  have hd : ∀ i : Int, CDivW i m := fun i => cdw h0 h1
  have ql : ∀ i b c d : Int, Q (.int (i % m)) (sup S h (.lst [.lst (iD ns), .int b, .int c, .int d])) := fun i b c d => q _ _ (hm i).1 (hm i).2 ⟨ns, b, c, d, rfl⟩
  walk_at "vc"
  split
  · exact ⟨h0, hd _, ql ..⟩
  · walk_at "vc"
    split
    · refine ⟨_, _, rfl, fun r => ?_⟩
      walk_at "vc"
      exact ⟨h0, ql ..⟩
    · rename_i hn
      unfold iD
      have hp : (0 : Int) < (ns.length : Int) := by omega
      obtain ⟨z, hz⟩ := get_lt (xs := ns) (i := (a % (ns.length : Int)).toNat) (by
        have := Int.emod_lt_of_pos a hp
        have := Int.emod_nonneg a (show (ns.length : Int) ≠ 0 by omega)
        omega)
      refine ⟨hp, .int z, atI_i (i := (a % (ns.length : Int)).toNat) (by have := Int.emod_nonneg a (show (ns.length : Int) ≠ 0 by omega); omega) (by rw [List.getElem?_map, hz]; rfl), ?_⟩
      walk_at "vc"
      generalize (if z < 0 then -z else z) = y
      split
      · split
        · exact ⟨hd _, h0, ql ..⟩
        · refine ⟨_, _, rfl, fun r => ?_⟩
          walk_at "vc"
          exact ⟨h0, ql ..⟩
      · refine ⟨_, _, rfl, fun r => ?_⟩
        walk_at "vc"
        exact ⟨h0, ql ..⟩

theorem mok_int {i : Int} (h : -BIG ≤ i ∧ i ≤ BIG) : MOk (some i) := fun j e => by cases e; exact h
def VsL (vs : List Ver) : Prop := VsOk vs ∧ ∀ v ∈ vs, v.1 ≤ 130000000000000013
def sp_versions : DSp := fun ds S Q _ => ∃ h o, ds = [.ref h] ∧ S h = some o ∧ BagO o ∧ ∀ vs o', VsL vs → BagO o' → Q (.lst (vsD vs)) (sup S h o')
theorem v_law_versions : VC n_law_versions b_law_versions { fns := [("_law_draw", sp_draw)], cons := [], nob := n_law_versions.nob } 1 sp_versions := by
  rintro ds S Q Y ⟨h, o, rfl, hS, ho, q⟩
  refine ⟨rfl, ?_⟩
  unfold b_law_versions n_law_versions
  walk_at "vc"
  refine newL_f ?_
  refine newL_f ?_
  refine ⟨h, _, o, rfl, hS, ho, by decide, by decide, fun k o hk hk' ho => ?_⟩
  walk_at "vc"
  obtain ⟨m, em, hm0, hm⟩ : ∃ m, atI [D.int 5, D.int 13] k = some (D.int m) ∧ 0 < m ∧ m ≤ 13 := by
    rcases (show k = 0 ∨ k = 1 by omega) with rfl | rfl
    · exact ⟨5, rfl, by decide, by decide⟩
    · exact ⟨13, rfl, by decide, by decide⟩
  refine ⟨_, em, h, _, o, rfl, sup_same, ho, hm0, by omega, fun n o hn hn' ho => ?_⟩
  walk_at "vc"
  refine ⟨by omega, by omega, ?_⟩
  refine for_inv (fun i ρ S2 => ∃ vs c x y o, ρ = [some (D.ref h), some (.lst (vsD vs)), some (.int c), x, y] ∧ S2 = sup S h o ∧ BagO o ∧ vs.length = i ∧ 0 ≤ c ∧ c ≤ (i : Int) * 10000000000000001 ∧ (∀ v ∈ vs, 1 ≤ v.1 ∧ v.1 ≤ c ∧ MOk v.2) ∧ vs.Pairwise (fun a b => b.1 < a.1)) ⟨[], 0, _, _, o, rfl, rfl, ho, rfl, by decide, by decide, by simp, by simp⟩ ?_ ?_
  · rintro i x ρ S2 hi ⟨vs, c, x, y, o, rfl, rfl, ho, hl, hc, hc', hv, hp⟩
    obtain ⟨hi, rfl⟩ := rng_of hi
    refine ⟨trivial, ?_⟩
    have fin : ∀ e m, 0 ≤ e → e < 10000000000000000 → MOk m → ((c + 1 + e, m) :: vs).length = i + 1 ∧ 0 ≤ c + 1 + e ∧ c + 1 + e ≤ ((i + 1 : Nat) : Int) * 10000000000000001 ∧ (∀ v ∈ (c + 1 + e, m) :: vs, 1 ≤ v.1 ∧ v.1 ≤ c + 1 + e ∧ MOk v.2) ∧ ((c + 1 + e, m) :: vs).Pairwise (fun a b => b.1 < a.1) := by
      intro e m he he' hm
      refine ⟨by simp [hl], by omega, by omega, ?_, ?_⟩
      · intro v hw
        rcases List.mem_cons.mp hw with rfl | hw
        · exact ⟨by simp only; omega, Int.le_refl _, hm⟩
        · obtain ⟨a, b, d⟩ := hv v hw
          exact ⟨a, by omega, d⟩
      · rw [List.pairwise_cons]
        exact ⟨fun v hw => by have := (hv v hw).2.1; simp only; omega, hp⟩
    walk_at "vc"
    refine newL_f ?_
    refine ⟨h, _, o, rfl, sup_same, ho, by decide, by decide, fun k o hk hk' ho => ?_⟩
    walk_at "vc"
    obtain ⟨m, em, hm0, hm⟩ : ∃ m, atI [D.int 1, D.int 3, D.int 10000000000000000] k = some (D.int m) ∧ 0 < m ∧ m ≤ 10000000000000000 := by
      rcases (show k = 0 ∨ k = 1 ∨ k = 2 by omega) with rfl | rfl | rfl
      · exact ⟨1, rfl, by decide, by decide⟩
      · exact ⟨3, rfl, by decide, by decide⟩
      · exact ⟨_, rfl, by decide, by decide⟩
    refine ⟨_, em, h, _, o, rfl, sup_same, ho, hm0, by omega, fun e o he he' ho => ?_⟩
    walk_at "vc"
    refine ⟨h, _, o, rfl, sup_same, ho, by decide, by decide, fun j o hj hj' ho => ?_⟩
    walk_at "vc"
    split
    · refine ⟨h, _, o, rfl, sup_same, ho, by decide, by decide, fun u o hu hu' ho => ?_⟩
      walk_at "vc"
      refine newL_f ?_
      walk_at "vc"
      obtain ⟨f1, f2, f3, f4, f5⟩ := fin e (some (u - 2)) he (by omega) (mok_int (by unfold BIG; omega))
      exact ⟨by unfold sizeLine; omega, newL_f ⟨(c + 1 + e, some (u - 2)) :: vs, _, _, _, ⟨rfl, rfl, rfl, rfl⟩, o, rfl, ho, f1, f2, f3, f4, f5⟩⟩
    · refine newL_f ?_
      walk_at "vc"
      obtain ⟨f1, f2, f3, f4, f5⟩ := fin e none he (by omega) (fun i e => by cases e)
      exact ⟨by unfold sizeLine; omega, newL_f ⟨(c + 1 + e, none) :: vs, _, _, _, ⟨rfl, rfl, rfl, rfl⟩, o, rfl, ho, f1, f2, f3, f4, f5⟩⟩
  · rintro ρ S2 ⟨vs, c, x, y, o, rfl, rfl, ho, hl, hc, hc', hv, hp⟩
    refine ⟨trivial, ?_⟩
    walk_at "vc"
    rw [rng_len] at hl hc'
    have : (n.toNat : Int) ≤ 13 := by omega
    exact q vs o ⟨⟨fun v hw => ⟨(hv v hw).1, by have := (hv v hw).2.1; unfold BIG; omega, (hv v hw).2.2⟩, hp, by omega⟩, fun v hw => by have := (hv v hw).2.1; omega⟩ ho
def sp_open : DSp := fun ds S Q _ => ∃ h o vs last, ds = [.ref h, .lst (vsD vs), .int last] ∧ S h = some o ∧ BagO o ∧ VsOk vs ∧ 0 ≤ last ∧ last ≤ BIG ∧ ∀ op o', OpOk op last → op.length ≤ 9 → BagO o' → Q (.tup (iD op)) (sup S h o')
theorem v_law_open : VCd n_law_open b_law_open { fns := [("_law_draw", sp_draw)], cons := [], nob := n_law_open.nob } 3 sp_open := by
  rintro ds S Q Y ⟨h, o, vs, last, rfl, hS, ho, hv, h0, h1, q⟩
  refine ⟨rfl, ?_⟩
  unfold b_law_open n_law_open
  unfold BIG at h1
  walk_at "vc"
  refine newL_l fun p hp => ?_
  have hne : h ≠ p := sne hS hp
  have e3 : ∀ o u v, sup (sup (sup S h o) p u) h v = sup (sup S h v) p u := fun o u v => sup_3 hne
  walk_at "vc"
  refine ⟨h, _, o, rfl, by rw [sup_ne hne]; exact hS, ho, by decide, by decide, fun n o hn hn' ho => ?_⟩
  walk_at "vc"
  refine ⟨by omega, by omega, ?_⟩
  refine for_inv (fun i ρ S2 => ∃ f x y o, ρ = [some (D.ref h), some (.lst (vsD vs)), some (.int last), some (.ref p), x, y] ∧ S2 = sup (sup S h o) p (.lst (iD f)) ∧ BagO o ∧ f.length ≤ i ∧ (∀ j ∈ f, 0 ≤ j ∧ j ≤ last) ∧ f.Nodup) ⟨[], _, _, o, rfl, by rw [← sup_comm (Ne.symm hne)]; rfl, ho, by decide, by simp, by simp⟩ ?_ ?_
  · rintro i x ρ S2 hi ⟨f, x', y', o, rfl, rfl, ho, hl, hf, hd⟩
    obtain ⟨hi, rfl⟩ := rng_of hi
    refine ⟨trivial, ?_⟩
    have hS2 : ∀ o u, sup (sup S h o) p u h = some o := fun o u => by rw [sup_ne hne, sup_same]
    walk_at "vc"
    refine ⟨h, _, o, rfl, hS2 _ _, ho, by omega, by omega, fun k o hk hk' ho => ?_⟩
    rw [e3]
    walk_at "vc"
    replace hk' : k ≤ last := by omega
    split
    · rename_i hpos
      refine ⟨h, _, o, rfl, hS2 _ _, ho, by decide, by decide, fun j o hj hj' ho => ?_⟩
      rw [e3]
      walk_at "vc"
      split
      · refine ⟨h, _, o, rfl, hS2 _ _, ho, by omega, by have := hv.2.2; omega, fun j o hj hj' ho => ?_⟩
        rw [e3]
        walk_at "vc"
        obtain ⟨v, hw⟩ := get_lt (xs := vs) (i := j.toNat) (by omega)
        refine ⟨vD v, atI_i (i := j.toNat) (by omega) (by unfold vsD; rw [List.getElem?_map, hw]; rfl), ?_⟩
        unfold vD
        walk_at "vc"
        refine ⟨h, _, o, rfl, hS2 _ _, ho, by omega, by omega, fun e o he he' ho => ?_⟩
        rw [e3]
        have v1 := (hv.1 v (mem_of hw)).1
        walk_at "vc"
        obtain ⟨k, ek, hk, hk'⟩ : ∃ k, (if v.1 + e - 1 < last then v.1 + e - 1 else last) = k ∧ 0 ≤ k ∧ k ≤ last := ⟨_, rfl, by split <;> omega, by split <;> omega⟩
        rw [ek]
        walk_at "vc"
        split
        · rename_i hm
          refine ⟨by unfold sizeLine; omega, f ++ [k], _, _, ⟨rfl, rfl⟩, o, by simp [iD], ho, by simp; omega, ?_, ?_⟩
          · intro j hj
            rcases List.mem_append.mp hj with hj | hj
            · exact hf j hj
            · rw [List.mem_singleton.mp hj]; exact ⟨hk, hk'⟩
          · rw [List.nodup_append]
            refine ⟨hd, by simp, ?_⟩
            intro a ha b hb
            rw [List.mem_singleton.mp hb]
            intro e
            subst e
            exact hm ha
        · exact ⟨f, _, _, ⟨rfl, rfl⟩, o, rfl, ho, by omega, hf, hd⟩
      · walk_at "vc"
        split
        · rename_i hm
          refine ⟨by unfold sizeLine; omega, f ++ [k], _, _, ⟨rfl, rfl⟩, o, by simp [iD], ho, by simp; omega, ?_, ?_⟩
          · intro j hj
            rcases List.mem_append.mp hj with hj | hj
            · exact hf j hj
            · rw [List.mem_singleton.mp hj]; exact ⟨hk, hk'⟩
          · rw [List.nodup_append]
            refine ⟨hd, by simp, ?_⟩
            intro a ha b hb
            rw [List.mem_singleton.mp hb]
            intro e
            subst e
            exact hm ha
        · exact ⟨f, _, _, ⟨rfl, rfl⟩, o, rfl, ho, by omega, hf, hd⟩
    · split
      · rename_i hm
        refine ⟨by unfold sizeLine; omega, f ++ [k], _, _, ⟨rfl, rfl⟩, o, by simp [iD], ho, by simp; omega, ?_, ?_⟩
        · intro j hj
          rcases List.mem_append.mp hj with hj | hj
          · exact hf j hj
          · rw [List.mem_singleton.mp hj]; exact ⟨hk, hk'⟩
        · rw [List.nodup_append]
          refine ⟨hd, by simp, ?_⟩
          intro a ha b hb
          rw [List.mem_singleton.mp hb]
          intro e
          subst e
          exact hm ha
      · exact ⟨f, _, _, ⟨rfl, rfl⟩, o, rfl, ho, by omega, hf, hd⟩
  · rintro ρ S2 ⟨f, x', y', o, rfl, rfl, ho, hl, hf, hd⟩
    rw [rng_len] at hl
    refine ⟨trivial, ?_⟩
    walk_at "vc"
    refine .inl ⟨f, lstOf_sup, newL_f ?_⟩
    walk_at "vc"
    refine ⟨sup S h o, Sub.sup_new (by rw [sup_ne (Ne.symm hne)]; exact hp) (Sub.refl _), q (sortI f) o ⟨fun j hj => hf j (sort_mem.mp hj), sort_lt hd, by rw [sort_len]; omega⟩ (by rw [sort_len]; omega) ho⟩
def sp_lneeded : DSp := fun ds S Q _ => ∃ vs op, ds = [.lst (vsD vs), .tup (iD op)] ∧ VsOk vs ∧ Q (.lst (iD (need vs op))) S
theorem v_law_needed : VCd n_law_needed b_law_needed { fns := [], cons := [], nob := n_law_needed.nob } 2 sp_lneeded := by
  rintro ds S Q Y ⟨vs, op, rfl, hv, q⟩
  refine ⟨rfl, ?_⟩
  unfold b_law_needed n_law_needed
  walk_at "vc"
  refine newL_l fun p hp => ?_
  walk_at "vc"
  have h41 := hv.2.2
  refine ⟨by omega, by omega, ?_⟩
  refine for_inv (fun i ρ S2 => ∃ a b c d, ρ = [some (.lst (vsD vs)), some (.tup (iD op)), some (.ref p), a, b, c, d] ∧ S2 = sup S p (.lst (iD ((vs.reverse.take i).foldl (stepN (seenB vs op)) [])))) ⟨_, _, _, _, rfl, rfl⟩ ?_ ?_
  · rintro i x ρ S2 hi ⟨a, b, c, d, rfl, rfl⟩
    obtain ⟨hi, rfl⟩ := rng_of hi
    refine ⟨trivial, ?_⟩
    obtain ⟨v, hw⟩ := get_lt (xs := vs) (i := vs.length - 1 - i) (by omega)
    have hw' : vs.reverse[i]? = some v := by rw [List.getElem?_reverse (by omega)]; exact hw
    rw [take_of hw', List.foldl_append]
    simp only [List.foldl_cons, List.foldl_nil]
    generalize hf : (vs.reverse.take i).foldl (stepN (seenB vs op)) [] = f
    have hfl : f.length ≤ 41 := by rw [← hf]; have := fold_len (P := seenB vs op) (vs.reverse.take i) []; rw [List.length_take, List.length_reverse] at this; simp only [List.length_nil] at *; omega
    walk_at "vc"
    have eat : (vs.length : Int) - 1 - (0 + (i : Int)) = ((vs.length - 1 - i : Nat) : Int) := by omega
    rw [eat]
    have ev : atI (vsD vs) ((vs.length - 1 - i : Nat) : Int) = some (.tup [.int v.1, mD v.2]) := atI_of (by unfold vsD; rw [List.getElem?_map, hw]; rfl)
    generalize hj : vs.length - 1 - i = j at *
    have hd : ((∀ u ∈ vs, u.1 ≤ v.1) ↔ j = 0) := head_iff hv.2.1 hw
    refine for_inv (fun k ρ S2 => ∃ y, ρ = [some (D.lst (vsD vs)), some (D.tup (iD op)), some (D.ref p), some (D.int (0 + (i : Int))), some (D.int (j : Int)), some (.bl (seenB vs (op.take k) v)), y] ∧ S2 = sup S p (.lst (iD f))) ⟨d, ?_, rfl⟩ ?_ ?_
    · have : seenB vs (op.take 0) v = decide ((j : Int) = 0) := by
        unfold seenB
        simp only [List.take_zero, List.not_mem_nil, false_and, exists_false, or_false]
        rw [decide_eq_decide, hd]
        omega
      rw [this]
    · rintro k x ρ S2 hk ⟨y, rfl, rfl⟩
      obtain ⟨s, hs, rfl⟩ := map_of hk
      refine ⟨trivial, ?_⟩
      have st : seenB vs (op.take (k + 1)) v = (seenB vs (op.take k) v || decide (v.1 ≤ s ∧ ∀ u ∈ vs, u.1 ≤ s → u.1 ≤ v.1)) := by
        unfold seenB
        rw [take_of hs, Bool.eq_iff_iff]
        simp only [decide_eq_true_eq, Bool.or_eq_true, List.mem_append, List.mem_singleton]
        constructor
        · rintro (h | ⟨z, hz | rfl, h⟩)
          · exact .inl (.inl h)
          · exact .inl (.inr ⟨z, hz, h⟩)
          · exact .inr h
        · rintro ((h | ⟨z, hz, h⟩) | h)
          · exact .inl h
          · exact .inr ⟨z, .inl hz, h⟩
          · exact .inr ⟨s, .inr rfl, h⟩
      rw [st]
      walk_at "vc"
      simp only [ev]
      walk_at "vc"
      split
      · rename_i h1
        split
        · rename_i h2
          have h2 : j = 0 := by omega
          have := hd.mpr h2
          rw [decide_eq_true (show v.1 ≤ s ∧ ∀ u ∈ vs, u.1 ≤ s → u.1 ≤ v.1 from ⟨h1, fun u hu _ => this u hu⟩), Bool.or_true]
        · rename_i h2
          obtain ⟨j', rfl⟩ : ∃ j', j = j' + 1 := ⟨j - 1, by omega⟩
          obtain ⟨u, hu⟩ := get_lt (xs := vs) (i := j') (by have := lt_of hw; omega)
          refine ⟨vD u, atI_i (i := j') (by omega) (by unfold vsD; rw [List.getElem?_map, hu]; rfl), ?_⟩
          unfold vD
          have pi := prev_iff hv.2.1 hw hu h1
          walk_at "vc"
          split
          · rename_i h3
            rw [decide_eq_true (show v.1 ≤ s ∧ ∀ u ∈ vs, u.1 ≤ s → u.1 ≤ v.1 from ⟨h1, pi.mpr h3⟩), Bool.or_true]
          · rename_i h3
            rw [decide_eq_false (show ¬ (v.1 ≤ s ∧ ∀ u ∈ vs, u.1 ≤ s → u.1 ≤ v.1) from fun z => h3 (pi.mp z.2)), Bool.or_false]
      · rename_i h1
        rw [decide_eq_false (show ¬ (v.1 ≤ s ∧ ∀ u ∈ vs, u.1 ≤ s → u.1 ≤ v.1) from fun z => h1 z.1), Bool.or_false]
    · rintro ρ S2 ⟨y, rfl, rfl⟩
      refine ⟨trivial, ?_⟩
      have e : op.take (iD op).length = op := List.take_of_length_le (by unfold iD; rw [List.length_map]; omega)
      rw [e]
      have lf : f.length < sizeLine := by unfold sizeLine; omega
      walk_at "vc"
      simp only [ev]
      walk_at "vc"
      unfold stepN
      split
      · rename_i hs
        rw [hs]
        cases hm : v.2 with
        | some i =>
          unfold mD
          walk_at "vc"
          exact ⟨lf, _, _, _, _, ⟨rfl, rfl, rfl, rfl⟩, by simp [iD]⟩
        | none =>
          unfold mD
          walk_at "vc"
          cases f with
          | nil => simp [iD]
          | cons a r =>
            rw [if_pos (by simp)]
            exact ⟨lf, _, _, _, _, ⟨rfl, rfl, rfl, rfl⟩, by simp [iD]⟩
      · rename_i hs
        have hs : seenB vs op v = false := by simpa using hs
        rw [hs]
        simp
  · rintro ρ S2 ⟨a, b, c, d, rfl, rfl⟩
    refine ⟨trivial, ?_⟩
    walk_at "vc"
    rw [rng_len]
    have e : vs.reverse.take (vs.length : Int).toNat = vs.reverse := List.take_of_length_le (by rw [List.length_reverse]; omega)
    rw [e]
    exact .inr ⟨p, _, rfl, sup_same, by rw [sdel_sup hp]; exact ⟨S, Sub.refl S, q⟩⟩
end W
namespace W
open PySem L2 Dz
local macro_rules | `(tactic| walk_at "vc") => `(tactic| try simp only [wE_var, wE_int, wE_str, wE_bl, wE_non, wE_glob, wE_b2, wE_neg, wE_cm, wE_ch, wE_not, wE_and, wE_or, wE_ife, wE_tup, wE_lst, wE_ix, wE_sl, wE_rev, wE_bi, wE_isi, wE_call, wE_bm, wE_comp, wE_call0, wE_fld, wE_mt, wE_mk, wE_dic, wE_dic0, wE_dcomp, wE_lock, wB_not, wB_and, wB_or, wB_cm, wB_ch, wB_var, wB_ix, wB_bi, wB_isi, wB_call, wB_bm, wB_call0, wB_fld, wB_mt, wAnd_cons1, wAnd_cons, wOr_cons1, wOr_cons, wBAnd_cons1, wBAnd_cons, wBOr_cons1, wBOr_cons, wEs_nil, wEs_cons, wPr_nil, wPr_cons, wC_nil, wC_cons1, wO_no, wO_yes, wG_name, wG_sub, wI_seq, wI_rng, wI_enum, wI_items, wT_asg, wT_setc, wT_aug, wT_ex, wT_ret, wT_retN, wT_pass, wT_brk, wT_cont, wT_ite, wT_for, wT_whil, wT_fst, wT_faug, wT_saug, wT_par2, wT_par3, wT_del, wT_lock, wT_rais, wT_try1, wTs_nil, wTs_cons, ixW_live, setW_live, ixW_dK, ixW_zK, setW_dK, inR_live, dget_dK, inR_dK, addW_int, addW_str, addW_tup, addW_ll, addW_lr, addW_rl, addW_rr, subW_int, mulW_int, mulW_ref, fdivW_int, modW_int, powW_int, ltW_int, leW_int, gtW_int, geW_int, ltW_str, leW_str, gtW_str, geW_str, isNW_n, notNW_n, isNone_non, isNone_bl, isNone_int, isNone_str, isNone_tup, isNone_lst, isNone_ref, isNone_ty, tyName_non, tyName_bl, tyName_int, tyName_str, tyName_tup, tyName_lst, negW_int, intW_int, intW_bl, absW_int, minW_int, maxW_int, lenW_str, lenW_lst, lenW_tup, lenW_ref, len_lst, len_dK, len_dT, tupleW_lst, tupleW_tup, tupleW_ref, listW_lst, listW_tup, listW_ref, ixW_str, ixW_lst, ixW_tup, slW_str, slW_tup, slW_lst, slW_ref, revW_tup, revW_lst, revW_ref, appW_ref, appTy, tru_bl, tru_non, tru_int, tru_str, tru_tup, tru_lst, seqI_lst, seqI_tup, seqI_ref, seqI_str, seqI_ctp, items_lst, items_zK, items_zT, enumI_lst, enumI_tup, enumI_ref, rngI_1, rngI_2, inW_e, notInW_e, inR_int, inR_lst, inR_tup, flat_int, flat_str, flat_non, flat_bl, ixN_1_0, ixN_2_0, ixN_2_1, ixN_3_0, ixN_3_1, ixN_3_2, ixN_4_0, ixN_4_1, ixN_4_2, ixN_4_3, ixN_5_0, ixN_5_1, ixN_5_2, ixN_5_3, ixN_5_4, ixN_6_0, ixN_6_1, ixN_6_2, ixN_6_3, ixN_6_4, ixN_6_5, ixN_7_0, ixN_7_1, ixN_7_2, ixN_7_3, ixN_7_4, ixN_7_5, ixN_7_6, ixN_8_0, ixN_8_1, ixN_8_2, ixN_8_3, ixN_8_4, ixN_8_5, ixN_8_6, ixN_8_7, seqOf_sup, lstOf_sup, cp10_1, cp2_1, cp10_2, cp2_2, cp10_3, cp2_3, cp10_4, cp2_4, cp10_5, cp2_5, cp10_6, cp2_6, cp10_7, cp2_7, cp10_8, cp2_8, cp10_9, cp2_9, cp10_10, cp2_10, cp10_11, cp2_11, cp10_12, cp2_12, cp10_13, cp2_13, cp10_14, cp2_14, cp10_15, cp2_15, cp10_16, cp2_16, cp10_17, cp2_17, cp10_18, cp2_18, cp10_19, cp2_19, cp10_20, cp2_20, cp10_21, cp2_21, cp10_22, cp2_22, cp10_23, cp2_23, cp10_24, cp2_24, cp10_25, cp2_25, cp10_26, cp2_26, cp10_27, cp2_27, cp10_28, cp2_28, cp10_29, cp2_29, cp10_30, cp2_30, cp10_31, cp2_31, cp10_32, cp2_32, cp10_33, cp2_33, cp10_34, cp2_34, cp10_35, cp2_35, cp10_36, cp2_36, cp10_37, cp2_37, cp10_38, cp2_38, cp10_39, cp2_39, cp10_40, cp2_40, lsl_0, lsl_1, lsl_2, lsl_3, lsl_4, lsl_5, lsl_6, lsl_7, lsl_8, lsl_9, lsl_10, lsl_11, lsl_12, lsl_13, lsl_14, lsl_15, lsl_16, lsl_17, lsl_18, lsl_19, lsl_20, isNW_b, notNW_b, three_c, isDic_dK, isDic_dT, isDic_zK, isDic_zT, lk_dK, lk_dT, key_int, key_str, keysOf_nil, augIx_ref, tupleW_ctp, ixW_ctp, tyName_ctp, tru_ctp, inR_ctp, seqOf_ctp, lenW_ctp, isNone_ctp, augW_int, augS_int, one_c, two_c, wGs_c, wGs_n, wT_never, wG_tup1,
  startD, wipeD, List.map_cons, List.map_nil, List.length_cons, List.length_nil, List.cons_append, List.nil_append, List.append_nil,
  List.getElem?_cons_zero, List.getElem?_cons_succ, List.set_cons_zero, List.set_cons_succ, Option.some.injEq, exists_eq_left', exists_eq_left, exists_eq_right, exists_eq_right', exists_and_left, Nat.reduceAdd, Nat.reduceSub, List.replicate, List.replicate_zero, List.replicate_succ, if_true, Bool.false_eq_true, if_false, ite_true, ite_false, D.bl.injEq, D.int.injEq, D.str.injEq, D.tup.injEq, D.lst.injEq, D.ref.injEq,
  B2.w, Cm.w, Bi.w, Bm.w, eqW, neW, List.cons.injEq, and_true, true_and, Bool.not_true, Bool.not_false, Gs.len, Es.len,
  ret_non, ret_bl, ret_int, ret_str, ret_tup, ret_lst, isiAny_nil, isiAny_cons, atI_0, atI_1, atI_2, atI_3, atI_4, lstOf_lst, seqOf_lst, seqOf_tup, sup_same, sup_sup, eq_int, ok_int, ok_non, ok_bl, eq_ni, eq_in, eq_bl, MO.lst.injEq, exists_eq', exists_eq,
  kit_NoneType_int, kit_NoneType_bool, kit_NoneType_str, kit_NoneType_tuple, kit_NoneType_list, kit_NoneType_dict, kit_bool_int, kit_bool_bool, kit_bool_str, kit_bool_tuple, kit_bool_list, kit_bool_dict, kit_int_int, kit_int_bool, kit_int_str, kit_int_tuple, kit_int_list, kit_int_dict,
  kit_str_int, kit_str_bool, kit_str_str, kit_str_tuple, kit_str_list, kit_str_dict, kit_list_int, kit_list_bool, kit_list_str, kit_list_tuple, kit_list_list, kit_list_dict, kit_tuple_int, kit_tuple_bool, kit_tuple_str, kit_tuple_tuple, kit_tuple_list, kit_tuple_dict,
  decide_eq_true_eq, Bool.not_eq_true', decide_eq_false_iff_not, forall_const, implies_true, decide_true, decide_false, reduceCtorEq, Int.cast_ofNat_Int, Int.reducePow, Int.reduceMul, Int.reduceAdd, Int.reduceSub, Int.reduceNeg, Int.reduceToNat, Int.reduceEq, Int.reduceLT, Int.reduceLE, len_iD, len_vsD, any_iD, flat_iD, kit_dict_tuple])
def sp_some : DSp := fun ds S Q _ => ∃ h o ns k, ds = [.ref h, .lst (iD ns), .int k] ∧ S h = some o ∧ BagO o ∧ ns.length ≤ 41 ∧ ∀ ms o', ms.length ≤ 41 → BagO o' → Q (.lst (iD ms)) (sup S h o')
theorem v_law_some : VCd n_law_some b_law_some { fns := [("_law_draw", sp_draw)], cons := [], nob := n_law_some.nob } 3 sp_some := by
  rintro ds S Q Y ⟨h, o, ns, sh, rfl, hS, ho, hn, q⟩
  refine ⟨rfl, ?_⟩
  unfold b_law_some n_law_some
  walk_at "vc"
  refine newL_l fun p hp => ?_
  have hne : h ≠ p := sne hS hp
  have e3 : ∀ o u v, sup (sup (sup S h o) p u) h v = sup (sup S h v) p u := fun o u v => sup_3 hne
  have hS2 : ∀ o u, sup (sup S h o) p u h = some o := fun o u => by rw [sup_ne hne, sup_same]
  walk_at "vc"
  refine for_inv (fun i ρ S2 => ∃ f x o, ρ = [some (D.ref h), some (.lst (iD ns)), some (.int sh), some (.ref p), x] ∧ S2 = sup (sup S h o) p (.lst (iD f)) ∧ BagO o ∧ f.length ≤ i) ⟨[], _, o, rfl, by rw [sup_self hS]; rfl, ho, by decide⟩ ?_ ?_
  · rintro i x ρ S2 hi ⟨f, x', o, rfl, rfl, ho, hl⟩
    obtain ⟨c, hc, rfl⟩ := map_of hi
    have := lt_of hc
    refine ⟨trivial, ?_⟩
    walk_at "vc"
    refine ⟨h, _, o, rfl, hS2 _ _, ho, by decide, by decide, fun k o hk hk' ho => ?_⟩
    rw [e3]
    walk_at "vc"
    split
    · exact ⟨by unfold sizeLine; omega, f ++ [c], o, by simp [iD], ho, by simp; omega⟩
    · exact ⟨f, o, rfl, ho, by omega⟩
  · rintro ρ S2 ⟨f, x', o, rfl, rfl, ho, hl⟩
    refine ⟨trivial, ?_⟩
    walk_at "vc"
    rw [len_iD] at hl
    have hp' : ∀ o, sup S h o p = none := fun o => by rw [sup_ne (Ne.symm hne)]; exact hp
    exact .inr ⟨p, _, rfl, sup_same, by rw [sdel_sup (hp' o)]; exact ⟨_, Sub.refl _, q f o (by omega) ho⟩⟩
def sp_lseen : DSp := fun ds S Q _ => ∃ vs s, ds = [.lst (vsD vs), .int s] ∧ Q (seenOf vs s) S
theorem v_law_seen : VC n_law_seen b_law_seen { fns := [], cons := [], nob := n_law_seen.nob } 2 sp_lseen := by
  rintro ds S Q Y ⟨vs, s, rfl, q⟩
  exact v_seen_of _ S Q Y ⟨_, vs, s, rfl, .inl rfl, q⟩
/-! the law's own judge -/
def plainI (S : Hs) (d : D) : Prop := Kn S d
def sp_lis_lot : DSp := fun ds S Q _ => ∃ t cs, ds = [t, .lst (iD cs)] ∧ cs.length ≤ 1000 ∧ (∀ c ∈ cs, 0 < c) ∧
  ((∃ ns, t = .tup (iD ns) ∧ ns.length ≤ 1000 ∧ Q (.bl (decide (ns.Pairwise (· < ·)) && ns.all fun c => decide (c ∈ cs))) S) ∨ (NotLot S t ∧ Q (.bl false) S))
theorem v_law_is_lot : VC n_law_is_lot b_law_is_lot { fns := [], cons := [], nob := n_law_is_lot.nob } 2 sp_lis_lot := by
  rintro ds S Q Y ⟨t, cs, rfl, hc, hc0, q⟩
  refine ⟨rfl, ?_⟩
  unfold b_law_is_lot n_law_is_lot
  rcases q with ⟨ns, rfl, hn, q⟩ | ⟨⟨xs, rfl, hp, hn, hi⟩ | ⟨hnt, hk⟩, q⟩
  · walk_at "vc"
    generalize hB : (decide (ns.Pairwise (· < ·)) && ns.all fun c => decide (c ∈ cs)) = B at q
    have hBt : B = true ↔ ns.Pairwise (· < ·) ∧ ∀ c ∈ ns, c ∈ cs := by rw [← hB]; simp [List.all_eq_true]
    refine for_inv (fun i ρ S2 => S2 = S ∧ ∃ l x, ρ = [some (D.tup (iD ns)), some (D.lst (iD cs)), some (D.int l), x] ∧ ((i = 0 ∧ l = 0) ∨ ∃ k, i = k + 1 ∧ ns[k]? = some l) ∧ (ns.take i).Pairwise (· < ·) ∧ ∀ c ∈ ns.take i, c ∈ cs ∧ c ≤ l) ⟨rfl, _, _, rfl, .inl ⟨rfl, rfl⟩, by simp, by simp⟩ ?_ ?_
    · rintro i x ρ S2 hi ⟨rfl, l, x', rfl, hl, hp, hc2⟩
      obtain ⟨c, hc3, rfl⟩ := map_of hi
      refine ⟨trivial, ?_⟩
      walk_at "vc"
      have bad : B = true → l < c ∧ c ∈ cs := fun z => by
        obtain ⟨b1, b2⟩ := hBt.mp z
        have m := b2 c (mem_of hc3)
        refine ⟨?_, m⟩
        rcases hl with ⟨rfl, rfl⟩ | ⟨k, rfl, hk⟩
        · exact hc0 c m
        · obtain ⟨h1, e1⟩ := List.getElem?_eq_some_iff.mp hk
          obtain ⟨h2, e2⟩ := List.getElem?_eq_some_iff.mp hc3
          rw [← e1, ← e2]
          exact List.pairwise_iff_getElem.mp b1 k (k + 1) h1 h2 (by omega)
      split
      · rename_i h1
        have : B = false := by
          cases B with
          | false => rfl
          | true => have := (bad rfl).1; omega
        rw [this] at q
        exact q
      · rename_i h1
        refine ⟨_, ⟨iD_ok cs, rfl⟩, ?_⟩
        split
        · rename_i h2
          have : B = false := by
            cases B with
            | false => rfl
            | true => exact absurd (bad rfl).2 (by simpa using h2)
          rw [this] at q
          exact q
        · rename_i h2
          have h2 : c ∈ cs := by simpa using h2
          refine ⟨c, _, ⟨rfl, rfl⟩, .inr ⟨i, rfl, hc3⟩, ?_, ?_⟩
          · rw [take_of hc3, List.pairwise_append]
            refine ⟨hp, by simp, fun a ha b hb => ?_⟩
            rw [List.mem_singleton.mp hb]
            have := (hc2 a ha).2
            omega
          · intro a ha
            rw [take_of hc3] at ha
            rcases List.mem_append.mp ha with ha | ha
            · have := hc2 a ha
              exact ⟨this.1, by omega⟩
            · rw [List.mem_singleton.mp ha]; exact ⟨h2, Int.le_refl _⟩
    · rintro ρ S2 ⟨rfl, l, x', rfl, hl, hp, hc2⟩
      refine ⟨trivial, ?_⟩
      walk_at "vc"
      rw [len_iD, List.take_length] at hp hc2
      rw [hBt.mpr ⟨hp, fun c hc => (hc2 c hc).1⟩] at q
      exact q
  · walk_at "vc"
    refine for_inv (fun i ρ S2 => S2 = S ∧ (∃ l x, ρ = [some (D.tup xs), some (D.lst (iD cs)), some (D.int l), x]) ∧ ∀ x ∈ xs.take i, isIntD x = true) ⟨rfl, ⟨_, _, rfl⟩, by simp⟩ ?_ ?_
    · rintro i x ρ S2 hi ⟨rfl, ⟨l, x', rfl⟩, ha⟩
      refine ⟨trivial, ?_⟩
      have px := List.all_eq_true.mp hp x (mem_of hi)
      cases x with
      | ref a => cases px
      | ty a => cases px
      | int c =>
        walk_at "vc"
        split
        · exact q
        · refine ⟨_, ⟨iD_ok cs, rfl⟩, ?_⟩
          split
          · exact q
          · intro y hy
            rw [take_of hi] at hy
            rcases List.mem_append.mp hy with hy | hy
            · exact ha y hy
            · rw [List.mem_singleton.mp hy]; rfl
      | _ =>
        walk_at "vc"
        exact q
    · rintro ρ S2 ⟨rfl, ⟨l, x', rfl⟩, ha⟩
      rw [List.take_length] at ha
      rw [List.all_eq_true.mpr ha] at hi
      cases hi
  · obtain ⟨tt, ht⟩ := hk
    cases t with
    | ref a =>
      rcases kn_ref ht with rfl | rfl
      all_goals
        walk_at "vc"
        refine ⟨_, ht, ?_⟩
        walk_at "vc"
        exact q
    | ty n => cases ht
    | tup xs => cases hnt
    | ctp xs => cases hnt
    | _ =>
      walk_at "vc"
      exact q
def sp_lenough : DSp := fun ds S Q _ => ∃ vs asked t, ds = [.lst (vsD vs), .lst (iD asked), t] ∧ VsOk vs ∧
  ((∃ ns, t = .tup (iD ns) ∧ ns.length ≤ 1000 ∧ Q (.bl (enB vs asked ns)) S) ∨ (NotLot S t ∧ Q (.bl false) S))
theorem v_law_is_enough : VC n_law_is_enough b_law_is_enough { fns := [("_law_seen", sp_lseen), ("_law_is_lot", sp_lis_lot)], cons := [], nob := n_law_is_enough.nob } 3 sp_lenough := by
  rintro ds S Q Y ⟨vs, asked, t, rfl, hv, q⟩
  refine ⟨rfl, ?_⟩
  unfold b_law_is_enough n_law_is_enough
  have h41 := hv.2.2
  walk_at "vc"
  unfold vsD
  refine compK (fun v : Ver => some (.int v.1)) (by unfold sizeLine; omega) (fun _ _ => trivial) ?_ ?_
  · intro i v S2 K K' hx _ hy hn
    unfold vD
    walk_at "vc"
    exact hy _ rfl
  rw [filterMap_fst]
  have hcl : (vs.map Prod.fst).length ≤ 1000 := by rw [List.length_map]; omega
  have hc0 : ∀ c ∈ vs.map Prod.fst, 0 < c := fun c hc => by
    obtain ⟨v, hv', rfl⟩ := List.mem_map.mp hc
    have := (hv.1 v hv').1
    omega
  rcases q with ⟨ns, rfl, hn, q⟩ | ⟨hno, q⟩
  · refine ⟨_, _, rfl, hcl, hc0, .inl ⟨ns, rfl, hn, ?_⟩⟩
    rw [show (decide (ns.Pairwise (· < ·)) && ns.all fun c => decide (c ∈ vs.map Prod.fst)) = lotB vs ns from rfl]
    walk_at "vc"
    split
    · rename_i h
      have e : enB vs asked ns = false := by unfold enB; rw [h]; rfl
      rw [e] at q
      exact q
    rename_i h
    have e : enB vs asked ns = asked.all (okAt vs (keptOf vs ns)) := by unfold enB; rw [show lotB vs ns = true by simpa using h]; rfl
    rw [e] at q
    refine compK (fun v : Ver => if decide (v.1 ∈ ns) = true then some (vD v) else none) (by unfold sizeLine; omega) (fun _ _ => trivial) ?_ ?_
    · intro i v S2 K K' hx _ hy hn
      unfold vD
      walk_at "vc"
      split
      · rename_i h4
        exact hy _ (if_pos (by simpa using h4))
      · rename_i h4
        exact hn (if_neg (by simpa using h4))
    rw [filterMap_ver]
    refine for_inv (fun i ρ S2 => S2 = S ∧ (∃ a b c e, ρ = [some (D.lst (List.map vD vs)), some (D.lst (iD asked)), some (D.tup (iD ns)), some (D.lst (vsD (keptOf vs ns))), a, b, c, e]) ∧ ∀ s ∈ asked.take i, okAt vs (keptOf vs ns) s = true) ⟨rfl, ⟨_, _, _, _, rfl⟩, by simp⟩ ?_ ?_
    · rintro i x ρ S2 hi ⟨rfl, ⟨a, b, c, e, rfl⟩, hall⟩
      obtain ⟨s, hs, rfl⟩ := map_of hi
      refine ⟨trivial, ?_⟩
      have step : okAt vs (keptOf vs ns) s = true → ∀ t ∈ asked.take (i + 1), okAt vs (keptOf vs ns) t = true := fun z t ht => by
        rw [take_of hs] at ht
        rcases List.mem_append.mp ht with ht | ht
        · exact hall t ht
        · rw [List.mem_singleton.mp ht]; exact z
      have bad : okAt vs (keptOf vs ns) s = false → Q (D.bl false) S2 := fun z => by
        have : asked.all (okAt vs (keptOf vs ns)) = false := by
          rw [List.all_eq_false]
          exact ⟨s, mem_of hs, by simp [z]⟩
        rw [this] at q
        exact q
      walk_at "vc"
      refine ⟨vs, s, rfl, ?_⟩
      walk_at "vc"
      refine ⟨_, s, rfl, ?_⟩
      rw [seenOf_F, seenOf_F]
      unfold okAt at step bad
      cases e1 : seenF (keptOf vs ns) s with
      | none =>
        cases e2 : seenF vs s with
        | none =>
          rw [e1, e2] at step
          simp only [Option.map_none, Option.getD_none]
          walk_at "vc"
          exact step rfl
        | some w =>
          rw [e1, e2] at step bad
          simp only [Option.map_none, Option.getD_none, Option.map_some, Option.getD_some]
          unfold vD
          walk_at "vc"
          obtain ⟨w1, w2⟩ := w
          cases w2 with
          | none =>
            unfold mD
            walk_at "vc"
            exact step rfl
          | some x =>
            unfold mD
            walk_at "vc"
            exact bad rfl
      | some p =>
        cases e2 : seenF vs s with
        | none => rw [seen_none e2] at e1; cases e1
        | some w =>
          rw [e1, e2] at step bad
          simp only [Option.map_some, Option.getD_some]
          simp only at step bad
          unfold vD
          walk_at "vc"
          split
          · rename_i z
            exact bad (by simpa using z)
          · rename_i z
            exact step (by simpa using z)
    · rintro ρ S2 ⟨rfl, ⟨a, b, c, e, rfl⟩, hall⟩
      refine ⟨trivial, ?_⟩
      walk_at "vc"
      rw [len_iD, List.take_length] at hall
      rw [List.all_eq_true.mpr hall] at q
      exact q
  · refine ⟨_, _, rfl, hcl, hc0, .inr ⟨hno, ?_⟩⟩
    walk_at "vc"
    exact q
end W
namespace W
open PySem L2 Dz
theorem fold_sub {P : Ver → Bool} : ∀ (xs : List Ver) (f : List Int), ∃ ys : List Ver, ys.Sublist xs ∧ xs.foldl (stepN P) f = f ++ ys.map Prod.fst
  | [], f => ⟨[], List.Sublist.refl _, by simp⟩
  | v :: r, f => by
    obtain ⟨ys, h1, h2⟩ := fold_sub (P := P) r (stepN P f v)
    rw [List.foldl_cons, h2]
    unfold stepN
    split
    · exact ⟨v :: ys, h1.cons₂ v, by simp⟩
    · exact ⟨ys, h1.cons v, rfl⟩
theorem asc_rev {vs : List Ver} (h : vs.Pairwise (fun a b => b.1 < a.1)) : vs.reverse.Pairwise (fun a b => a.1 < b.1) := by
  rw [List.pairwise_reverse]
  exact h
theorem need_lot {vs : List Ver} {op : List Int} (h : vs.Pairwise (fun a b => b.1 < a.1)) : lotB vs (need vs op) = true := by
  obtain ⟨ys, h1, h2⟩ := fold_sub (P := seenB vs op) vs.reverse []
  unfold lotB need
  rw [h2, List.nil_append]
  have a := (asc_rev h).sublist h1
  rw [Bool.and_eq_true, decide_eq_true_eq, List.all_eq_true]
  refine ⟨by rw [List.pairwise_map]; exact a, fun c hc => ?_⟩
  obtain ⟨v, hv, rfl⟩ := List.mem_map.mp hc
  rw [decide_eq_true_eq]
  exact List.mem_map.mpr ⟨v, List.mem_reverse.mp (h1.subset hv), rfl⟩
theorem step_nil {P : Ver → Bool} {f : List Int} {a : Ver} (h : stepN P f a = []) : f = [] := by
  unfold stepN at h
  split at h
  · simp at h
  · exact h
theorem need_skip {P : Ver → Bool} {v : Ver} (hp : P v = true) : ∀ (xs : List Ver) (f : List Int), xs.Pairwise (fun a b => a.1 < b.1) → v ∈ xs → v.1 ∉ xs.foldl (stepN P) f → v.2 = none ∧ f = [] ∧ ∀ c ∈ xs.foldl (stepN P) f, v.1 < c
  | [], _, _, h, _ => by cases h
  | a :: r, f, pw, h, hn => by
    rw [List.pairwise_cons] at pw
    rw [List.foldl_cons] at hn ⊢
    rcases List.mem_cons.mp h with rfl | h
    · by_cases k : (P v && (v.2.isSome || !f.isEmpty)) = true
      · exfalso
        apply hn
        refine need_keep _ _ _ ?_
        unfold stepN
        rw [if_pos k]
        simp
      · have e : stepN P f v = f := by unfold stepN; rw [if_neg k]
        rw [hp] at k
        simp only [Bool.true_and, Bool.or_eq_true, Bool.not_eq_true', not_or] at k
        have f0 : f = [] := by
          cases f with
          | nil => rfl
          | cons => simp at k
        refine ⟨by cases h2 : v.2 with
          | none => rfl
          | some _ => simp [h2] at k, f0, fun c hc => ?_⟩
        rw [e, f0] at hc
        rcases need_mem _ _ _ hc with z | ⟨u, hu, e, _⟩
        · cases z
        · rw [← e]; exact pw.1 u hu
    · obtain ⟨h1, h2, h3⟩ := need_skip hp r (stepN P f a) pw.2 h hn
      exact ⟨h1, step_nil h2, h3⟩
theorem need_in {P : Ver → Bool} {N : List Int} : ∀ (xs : List Ver) (f : List Int), xs.Pairwise (fun a b => a.1 < b.1) → (∀ c ∈ f, c ∈ N) → (∀ v ∈ xs, ∀ c ∈ f, c < v.1) → (∀ v ∈ xs, P v = true → v.1 ∈ N ∨ (v.2 = none ∧ ∀ c ∈ N, v.1 < c)) → ∀ c ∈ xs.foldl (stepN P) f, c ∈ N
  | [], f, _, h, _, _ => h
  | a :: r, f, pw, hf, hl, hk => by
    rw [List.pairwise_cons] at pw
    rw [List.foldl_cons]
    have hk' := fun v hv => hk v (List.mem_cons_of_mem _ hv)
    by_cases k : (P a && (a.2.isSome || !f.isEmpty)) = true
    · have e : stepN P f a = f ++ [a.1] := by unfold stepN; rw [if_pos k]
      rw [Bool.and_eq_true] at k
      have ha : a.1 ∈ N := by
        rcases hk a (List.mem_cons_self ..) k.1 with z | ⟨z1, z2⟩
        · exact z
        · rw [z1] at k
          cases f with
          | nil => simp at k
          | cons c f =>
            have h1 := z2 c (hf c (List.mem_cons_self ..))
            have h2 := hl a (List.mem_cons_self ..) c (List.mem_cons_self ..)
            omega
      rw [e]
      refine need_in r _ pw.2 (fun c hc => ?_) (fun v hv c hc => ?_) hk'
      · rcases List.mem_append.mp hc with hc | hc
        · exact hf c hc
        · rw [List.mem_singleton.mp hc]; exact ha
      · rcases List.mem_append.mp hc with hc | hc
        · exact hl v (List.mem_cons_of_mem _ hv) c hc
        · rw [List.mem_singleton.mp hc]; exact pw.1 v hv
    · have e : stepN P f a = f := by unfold stepN; rw [if_neg k]
      rw [e]
      exact need_in r f pw.2 hf (fun v hv c hc => hl v (List.mem_cons_of_mem _ hv) c hc) hk'
theorem asked_sub {op : List Int} {last s : Int} (ho : OpOk op last) (h : s ∈ op ∨ s = last) : s ∈ askedOf op last := by
  unfold askedOf
  rcases h with h | rfl
  · have := (ho.1 s h).2
    by_cases q : s < last
    · exact List.mem_append.mpr (.inl (List.mem_filter.mpr ⟨h, by simpa using q⟩))
    · have : s = last := by omega
      subst this
      simp
  · simp
theorem asked_of {op : List Int} {last s : Int} (h : s ∈ askedOf op last) : s ∈ op ∨ s = last := by
  unfold askedOf at h
  rcases List.mem_append.mp h with h | h
  · exact .inl (List.mem_filter.mp h).1
  · exact .inr (List.mem_singleton.mp h)
theorem seenB_of {vs : List Ver} {op : List Int} {last s : Int} {w : Ver} (hv : VsOk vs) (hl : LsOk vs last) (hs : s ∈ op ∨ s = last) (h : seenF vs s = some w) : w ∈ vs ∧ seenB vs op w = true := by
  have m := List.mem_of_find?_eq_some h
  obtain ⟨h1, h2⟩ := (find_iff hv.2.1 m).mp h
  refine ⟨m, ?_⟩
  unfold seenB
  rw [decide_eq_true_eq]
  rcases hs with hs | rfl
  · exact .inr ⟨s, hs, h1, h2⟩
  · exact .inl fun u hu => h2 u hu (hl.2.2 u hu)
theorem seen_asked {vs : List Ver} {op : List Int} {last : Int} {w : Ver} (hv : VsOk vs) (hl : LsOk vs last) (m : w ∈ vs) (h : seenB vs op w = true) : ∃ s, (s ∈ op ∨ s = last) ∧ seenF vs s = some w := by
  unfold seenB at h
  rw [decide_eq_true_eq] at h
  rcases h with h | ⟨s, hs, h⟩
  · exact ⟨last, .inr rfl, (find_iff hv.2.1 m).mpr ⟨hl.2.2 w m, fun u hu _ => h u hu⟩⟩
  · exact ⟨s, .inl hs, (find_iff hv.2.1 m).mpr h⟩
theorem kept_pw {vs : List Ver} {ns : List Int} (h : vs.Pairwise (fun a b => b.1 < a.1)) : (keptOf vs ns).Pairwise (fun a b => b.1 < a.1) := h.sublist List.filter_sublist
theorem need_enough {vs : List Ver} {op : List Int} {last : Int} (hv : VsOk vs) (ho : OpOk op last) (hl : LsOk vs last) : enB vs (askedOf op last) (need vs op) = true := by
  unfold enB
  rw [need_lot hv.2.1, Bool.true_and, List.all_eq_true]
  intro s hs
  unfold okAt
  cases e : seenF vs s with
  | none => rw [seen_none e]
  | some w =>
    obtain ⟨m, sb⟩ := seenB_of hv hl (asked_of hs) e
    obtain ⟨h1, h2⟩ := (find_iff hv.2.1 m).mp e
    by_cases k : w.1 ∈ need vs op
    · have mk : w ∈ keptOf vs (need vs op) := List.mem_filter.mpr ⟨m, by simpa using k⟩
      have : seenF (keptOf vs (need vs op)) s = some w := (find_iff (kept_pw hv.2.1) mk).mpr ⟨h1, fun u hu => h2 u (List.mem_filter.mp hu).1⟩
      rw [this]
      simp
    · obtain ⟨g1, _, g3⟩ := need_skip sb vs.reverse [] (asc_rev hv.2.1) (List.mem_reverse.mpr m) k
      have : seenF (keptOf vs (need vs op)) s = none := by
        cases e2 : seenF (keptOf vs (need vs op)) s with
        | none => rfl
        | some p =>
          obtain ⟨a, b, c⟩ := find_kept e2
          have := g3 _ b
          have := h2 p a c
          omega
      rw [this]
      simp [g1]
theorem enough_need {vs : List Ver} {op ns : List Int} {last : Int} (hv : VsOk vs) (ho : OpOk op last) (hl : LsOk vs last) (h : enB vs (askedOf op last) ns = true) : ∀ c ∈ need vs op, c ∈ ns := by
  unfold enB at h
  rw [Bool.and_eq_true, List.all_eq_true] at h
  obtain ⟨hlot, hok⟩ := h
  unfold lotB at hlot
  rw [Bool.and_eq_true, List.all_eq_true] at hlot
  refine need_in vs.reverse [] (asc_rev hv.2.1) (by simp) (by simp) fun v hv' sb => ?_
  have m := List.mem_reverse.mp hv'
  obtain ⟨s, hs, e⟩ := seen_asked hv hl m sb
  obtain ⟨h1, h2⟩ := (find_iff hv.2.1 m).mp e
  have ok := hok s (asked_sub ho hs)
  unfold okAt at ok
  rw [e] at ok
  cases e2 : seenF (keptOf vs ns) s with
  | some p =>
    rw [e2] at ok
    simp only [decide_eq_true_eq] at ok
    rw [ok]
    exact .inl (find_kept e2).2.1
  | none =>
    rw [e2] at ok
    refine .inr ⟨by simpa using ok, fun c hc => ?_⟩
    have hc2 := hlot.2 c hc
    rw [decide_eq_true_eq] at hc2
    obtain ⟨u, hu, rfl⟩ := List.mem_map.mp hc2
    unfold seenF at e2
    rw [List.find?_eq_none] at e2
    have := e2 u (List.mem_filter.mpr ⟨hu, by simpa using hc⟩)
    simp only [decide_eq_true_eq] at this
    omega
theorem seenF_late {vs : List Ver} {last s : Int} (h : ∀ v ∈ vs, v.1 ≤ last) (hs : last ≤ s) : seenF vs s = seenF vs last := by
  unfold seenF
  cases vs with
  | nil => rfl
  | cons a r =>
    have := h a (List.mem_cons_self ..)
    rw [List.find?_cons_of_pos (by simp; omega), List.find?_cons_of_pos (by simp; omega)]
theorem okAt_late {vs : List Ver} {ns : List Int} {last s : Int} (h : ∀ v ∈ vs, v.1 ≤ last) (hs : last ≤ s) : okAt vs (keptOf vs ns) s = okAt vs (keptOf vs ns) last := by
  unfold okAt
  rw [seenF_late h hs, seenF_late (vs := keptOf vs ns) (fun v hv => h v (List.mem_filter.mp hv).1) hs]
theorem en_asked {vs : List Ver} {op ns : List Int} {last s : Int} (ho : OpOk op last) (hl : LsOk vs last) (hs : last ≤ s) : enB vs (op ++ [last, s]) ns = enB vs (askedOf op last) ns := by
  unfold enB
  congr 1
  rw [Bool.eq_iff_iff, List.all_eq_true, List.all_eq_true]
  constructor
  · intro h x hx
    rcases asked_of hx with z | rfl
    · exact h x (by simp [z])
    · exact h x (by simp)
  · intro h x hx
    rcases List.mem_append.mp hx with z | z
    · exact h x (asked_sub ho (.inl z))
    · simp only [List.mem_cons, List.not_mem_nil, or_false] at z
      rcases z with rfl | rfl
      · exact h x (asked_sub ho (.inr rfl))
      · rw [okAt_late hl.2.2 hs]
        exact h last (asked_sub ho (.inr rfl))
end W
namespace W
open PySem L2 Dz
local macro_rules | `(tactic| walk_at "vc") => `(tactic| try simp only [wE_var, wE_int, wE_str, wE_bl, wE_non, wE_glob, wE_b2, wE_neg, wE_cm, wE_ch, wE_not, wE_and, wE_or, wE_ife, wE_tup, wE_lst, wE_ix, wE_sl, wE_rev, wE_bi, wE_isi, wE_call, wE_bm, wE_comp, wE_call0, wE_fld, wE_mt, wE_mk, wE_dic, wE_dic0, wE_dcomp, wE_lock, wB_not, wB_and, wB_or, wB_cm, wB_ch, wB_var, wB_ix, wB_bi, wB_isi, wB_call, wB_bm, wB_call0, wB_fld, wB_mt, wAnd_cons1, wAnd_cons, wOr_cons1, wOr_cons, wBAnd_cons1, wBAnd_cons, wBOr_cons1, wBOr_cons, wEs_nil, wEs_cons, wPr_nil, wPr_cons, wC_nil, wC_cons1, wO_no, wO_yes, wG_name, wG_sub, wI_seq, wI_rng, wI_enum, wI_items, wT_asg, wT_setc, wT_aug, wT_ex, wT_ret, wT_retN, wT_pass, wT_brk, wT_cont, wT_ite, wT_for, wT_whil, wT_fst, wT_faug, wT_saug, wT_par2, wT_par3, wT_del, wT_lock, wT_rais, wT_try1, wTs_nil, wTs_cons, ixW_live, setW_live, ixW_dK, ixW_zK, setW_dK, inR_live, dget_dK, inR_dK, addW_int, addW_str, addW_tup, addW_ll, addW_lr, addW_rl, addW_rr, subW_int, mulW_int, mulW_ref, fdivW_int, modW_int, powW_int, ltW_int, leW_int, gtW_int, geW_int, ltW_str, leW_str, gtW_str, geW_str, isNW_n, notNW_n, isNone_non, isNone_bl, isNone_int, isNone_str, isNone_tup, isNone_lst, isNone_ref, isNone_ty, tyName_non, tyName_bl, tyName_int, tyName_str, tyName_tup, tyName_lst, negW_int, intW_int, intW_bl, absW_int, minW_int, maxW_int, lenW_str, lenW_lst, lenW_tup, lenW_ref, len_lst, len_dK, len_dT, tupleW_lst, tupleW_tup, tupleW_ref, listW_lst, listW_tup, listW_ref, ixW_str, ixW_lst, ixW_tup, slW_str, slW_tup, slW_lst, slW_ref, revW_tup, revW_lst, revW_ref, appW_ref, appTy, tru_bl, tru_non, tru_int, tru_str, tru_tup, tru_lst, seqI_lst, seqI_tup, seqI_ref, seqI_str, seqI_ctp, items_lst, items_zK, items_zT, enumI_lst, enumI_tup, enumI_ref, rngI_1, rngI_2, inW_e, notInW_e, inR_int, inR_lst, inR_tup, flat_int, flat_str, flat_non, flat_bl, ixN_1_0, ixN_2_0, ixN_2_1, ixN_3_0, ixN_3_1, ixN_3_2, ixN_4_0, ixN_4_1, ixN_4_2, ixN_4_3, ixN_5_0, ixN_5_1, ixN_5_2, ixN_5_3, ixN_5_4, ixN_6_0, ixN_6_1, ixN_6_2, ixN_6_3, ixN_6_4, ixN_6_5, ixN_7_0, ixN_7_1, ixN_7_2, ixN_7_3, ixN_7_4, ixN_7_5, ixN_7_6, ixN_8_0, ixN_8_1, ixN_8_2, ixN_8_3, ixN_8_4, ixN_8_5, ixN_8_6, ixN_8_7, seqOf_sup, lstOf_sup, cp10_1, cp2_1, cp10_2, cp2_2, cp10_3, cp2_3, cp10_4, cp2_4, cp10_5, cp2_5, cp10_6, cp2_6, cp10_7, cp2_7, cp10_8, cp2_8, cp10_9, cp2_9, cp10_10, cp2_10, cp10_11, cp2_11, cp10_12, cp2_12, cp10_13, cp2_13, cp10_14, cp2_14, cp10_15, cp2_15, cp10_16, cp2_16, cp10_17, cp2_17, cp10_18, cp2_18, cp10_19, cp2_19, cp10_20, cp2_20, cp10_21, cp2_21, cp10_22, cp2_22, cp10_23, cp2_23, cp10_24, cp2_24, cp10_25, cp2_25, cp10_26, cp2_26, cp10_27, cp2_27, cp10_28, cp2_28, cp10_29, cp2_29, cp10_30, cp2_30, cp10_31, cp2_31, cp10_32, cp2_32, cp10_33, cp2_33, cp10_34, cp2_34, cp10_35, cp2_35, cp10_36, cp2_36, cp10_37, cp2_37, cp10_38, cp2_38, cp10_39, cp2_39, cp10_40, cp2_40, lsl_0, lsl_1, lsl_2, lsl_3, lsl_4, lsl_5, lsl_6, lsl_7, lsl_8, lsl_9, lsl_10, lsl_11, lsl_12, lsl_13, lsl_14, lsl_15, lsl_16, lsl_17, lsl_18, lsl_19, lsl_20, isNW_b, notNW_b, three_c, isDic_dK, isDic_dT, isDic_zK, isDic_zT, lk_dK, lk_dT, key_int, key_str, keysOf_nil, augIx_ref, tupleW_ctp, ixW_ctp, tyName_ctp, tru_ctp, inR_ctp, seqOf_ctp, lenW_ctp, isNone_ctp, augW_int, augS_int, one_c, two_c, wGs_c, wGs_n, wT_never, wG_tup1,
  startD, wipeD, List.map_cons, List.map_nil, List.length_cons, List.length_nil, List.cons_append, List.nil_append, List.append_nil,
  List.getElem?_cons_zero, List.getElem?_cons_succ, List.set_cons_zero, List.set_cons_succ, Option.some.injEq, exists_eq_left', exists_eq_left, exists_eq_right, exists_eq_right', exists_and_left, Nat.reduceAdd, Nat.reduceSub, List.replicate, List.replicate_zero, List.replicate_succ, if_true, Bool.false_eq_true, if_false, ite_true, ite_false, D.bl.injEq, D.int.injEq, D.str.injEq, D.tup.injEq, D.lst.injEq, D.ref.injEq,
  B2.w, Cm.w, Bi.w, Bm.w, eqW, neW, List.cons.injEq, and_true, true_and, Bool.not_true, Bool.not_false, Gs.len, Es.len,
  ret_non, ret_bl, ret_int, ret_str, ret_tup, ret_lst, isiAny_nil, isiAny_cons, atI_0, atI_1, atI_2, atI_3, atI_4, lstOf_lst, seqOf_lst, seqOf_tup, sup_same, sup_sup, eq_int, ok_int, ok_non, ok_bl, eq_ni, eq_in, eq_bl, MO.lst.injEq, exists_eq', exists_eq,
  kit_NoneType_int, kit_NoneType_bool, kit_NoneType_str, kit_NoneType_tuple, kit_NoneType_list, kit_NoneType_dict, kit_bool_int, kit_bool_bool, kit_bool_str, kit_bool_tuple, kit_bool_list, kit_bool_dict, kit_int_int, kit_int_bool, kit_int_str, kit_int_tuple, kit_int_list, kit_int_dict,
  kit_str_int, kit_str_bool, kit_str_str, kit_str_tuple, kit_str_list, kit_str_dict, kit_list_int, kit_list_bool, kit_list_str, kit_list_tuple, kit_list_list, kit_list_dict, kit_tuple_int, kit_tuple_bool, kit_tuple_str, kit_tuple_tuple, kit_tuple_list, kit_tuple_dict,
  decide_eq_true_eq, Bool.not_eq_true', decide_eq_false_iff_not, forall_const, implies_true, decide_true, decide_false, reduceCtorEq, Int.cast_ofNat_Int, Int.reducePow, Int.reduceMul, Int.reduceAdd, Int.reduceSub, Int.reduceNeg, Int.reduceToNat, Int.reduceEq, Int.reduceLT, Int.reduceLE, len_iD, len_vsD, any_iD, flat_iD, kit_dict_tuple])
theorem filterMap_ifI {p : Int → Bool} : ∀ {ns : List Int}, ns.filterMap (fun i => if p i = true then some (D.int i) else none) = iD (ns.filter p)
  | [] => rfl
  | n :: r => by
    have ih := filterMap_ifI (p := p) (ns := r)
    unfold iD at ih ⊢
    rw [List.filterMap_cons, List.filter_cons]
    by_cases h : p n = true
    · simp only [h, if_true, List.map_cons, ih]
    · simp only [h, if_false, Bool.false_eq_true, ih]
def sp_lot : DSp := fun ds S Q _ => ∃ h o vs due, ds = [.ref h, .lst (vsD vs), .lst (iD due)] ∧ S h = some o ∧ BagO o ∧ VsOk vs ∧ due.length ≤ 41 ∧ ∀ ns o', ns.length ≤ 41 → BagO o' → Q (.tup (iD ns)) (sup S h o')
theorem v_law_lot : VC n_law_lot b_law_lot { fns := [("_law_some", sp_some), ("_law_draw", sp_draw)], cons := [], nob := n_law_lot.nob } 3 sp_lot := by
  rintro ds S Q Y ⟨h, o, vs, due, rfl, hS, ho, hv, hd, q⟩
  refine ⟨rfl, ?_⟩
  unfold b_law_lot n_law_lot
  have h41 := hv.2.2
  walk_at "vc"
  refine ⟨h, _, o, rfl, hS, ho, by decide, by decide, fun k o hk hk' ho => ?_⟩
  walk_at "vc"
  unfold vsD
  refine compK (fun v : Ver => some (.int v.1)) (by unfold sizeLine; omega) (fun _ _ => trivial) ?_ ?_
  · intro i v S2 K K' hx _ hy hn
    unfold vD
    walk_at "vc"
    exact hy _ rfl
  rw [filterMap_fst]
  refine .inl ⟨vs.map Prod.fst, rfl, newL_f ?_⟩
  generalize hcs : sortI (vs.map Prod.fst) = cs
  have hcl : cs.length ≤ 41 := by rw [← hcs, sort_len, List.length_map]; omega
  walk_at "vc"
  rw [show List.map D.int cs = iD cs from rfl]
  split
  · exact q due o hd ho
  · walk_at "vc"
    split
    · exact q due o hd ho
    rename_i hne
    have at_ : ∀ k : Int, 0 ≤ k → k < cs.length → ∃ c, atI (iD cs) k = some (.int c) := fun k h1 h2 => by
      obtain ⟨v, hw⟩ := get_lt (xs := cs) (i := k.toNat) (by omega)
      exact ⟨v, atI_i (i := k.toNat) (by omega) (by unfold iD; rw [List.getElem?_map, hw]; rfl)⟩
    have fl : ∀ (p : Int → Bool) (xs : List Int), xs.length ≤ 41 → (xs.filter p).length ≤ 41 := fun p xs hx => by
      have := List.length_filter_le p xs
      omega
    split
    · refine ⟨h, _, o, rfl, sup_same, ho, by decide, by decide, fun j o hj hj' ho => ?_⟩
      walk_at "vc"
      refine ⟨h, _, cs, _, rfl, sup_same, ho, hcl, fun ms o hm ho => ?_⟩
      walk_at "vc"
      exact q ms o hm ho
    split
    · refine ⟨h, _, o, rfl, sup_same, ho, by omega, by omega, fun j o hj hj' ho => ?_⟩
      walk_at "vc"
      obtain ⟨c, hc⟩ := at_ j hj hj'
      refine ⟨_, hc, ?_⟩
      unfold iD
      refine compK (fun i => if (decide (i ∈ due) || decide (i = c)) = true then some (.int i) else none) (by unfold sizeLine; omega) (fun _ _ => trivial) ?_ ?_
      · intro i v S2 K K' hx _ hy hn
        walk_at "vc"
        refine ⟨_, ⟨iD_ok due, any_iD.symm⟩, ?_⟩
        split
        · rename_i h1
          exact hy _ (if_pos (by simp [h1]))
        · rename_i h1
          split
          · rename_i h2
            exact hy _ (if_pos (by simp [h2]))
          · rename_i h2
            exact hn (if_neg (by simp [h1, h2]))
      rw [filterMap_ifI]
      walk_at "vc"
      exact q _ o (fl _ _ hcl) ho
    split
    · refine ⟨h, _, o, rfl, sup_same, ho, by omega, by omega, fun j o hj hj' ho => ?_⟩
      walk_at "vc"
      obtain ⟨c, hc⟩ := at_ j hj hj'
      refine ⟨_, hc, ?_⟩
      unfold iD
      refine compK (fun i => if decide (i ≠ c) = true then some (.int i) else none) (by unfold sizeLine; omega) (fun _ _ => trivial) ?_ ?_
      · intro i v S2 K K' hx _ hy hn
        walk_at "vc"
        split
        · rename_i h1
          exact hy _ (if_pos (by simp [h1]))
        · rename_i h1
          exact hn (if_neg (by simpa using h1))
      rw [filterMap_ifI]
      walk_at "vc"
      exact q _ o (fl _ _ hd) ho
    split
    · refine compK (fun v : Ver => if v.2.isNone = true then some (.int v.1) else none) (by unfold sizeLine; omega) (fun _ _ => trivial) ?_ ?_
      · intro i v S2 K K' hx _ hy hn
        unfold vD
        obtain ⟨v1, v2⟩ := v
        cases v2 with
        | none =>
          unfold mD
          walk_at "vc"
          exact hy _ rfl
        | some m =>
          unfold mD
          walk_at "vc"
          exact hn rfl
      rw [show vs.filterMap (fun v : Ver => if v.2.isNone = true then some (D.int v.1) else none) = iD ((vs.filter fun v => v.2.isNone).map Prod.fst) by
        unfold iD
        rw [List.map_map]
        exact filterMap_if]
      refine ⟨h, _, _, _, rfl, sup_same, ho, by rw [List.length_map]; have := List.length_filter_le (fun v : Ver => v.2.isNone) vs; omega, fun ms o hm ho => ?_⟩
      walk_at "vc"
      unfold iD
      refine compK (fun i => if (decide (i ∈ due) || decide (i ∈ ms)) = true then some (.int i) else none) (by unfold sizeLine; omega) (fun _ _ => trivial) ?_ ?_
      · intro i v S2 K K' hx _ hy hn
        walk_at "vc"
        refine ⟨_, ⟨iD_ok due, any_iD.symm⟩, ?_⟩
        split
        · rename_i h1
          exact hy _ (if_pos (by simp [h1]))
        · rename_i h1
          refine ⟨_, ⟨iD_ok ms, any_iD.symm⟩, ?_⟩
          split
          · rename_i h2
            exact hy _ (if_pos (by simp [h2]))
          · rename_i h2
            exact hn (if_neg (by simp [h1, h2]))
      rw [filterMap_ifI]
      walk_at "vc"
      exact q _ o (fl _ _ hcl) ho
    · exact q cs o hcl ho
def sp_no_lot : DSp := fun ds S Q _ => ∃ h o ns, ds = [.ref h, .tup (iD ns)] ∧ S h = some o ∧ BagO o ∧ ns.length ≤ 41 ∧ ∀ t S' o', S' h = some o' → BagO o' → ((∃ ms, t = .tup (iD ms) ∧ ms.length ≤ 1000) ∨ NotLot S' t) → Q t S'
theorem v_law_no_lot : VC n_law_no_lot b_law_no_lot { fns := [("_law_draw", sp_draw)], cons := [], nob := n_law_no_lot.nob } 2 sp_no_lot := by
  rintro ds S Q Y ⟨h, o, ns, rfl, hS, ho, hn, q⟩
  refine ⟨rfl, ?_⟩
  unfold b_law_no_lot n_law_no_lot
  walk_at "vc"
  refine ⟨h, _, o, rfl, hS, ho, by decide, by decide, fun k o hk hk' ho => ?_⟩
  walk_at "vc"
  refine ⟨h, _, o, rfl, sup_same, ho, by omega, by omega, fun a o ha ha' ho => ?_⟩
  rw [sup_sup]
  have cut : ∀ lo hi, ∃ ms, cutD (iD ns) lo hi = iD ms ∧ ms.length ≤ 41 := fun lo hi => by
    obtain ⟨ys, e, hy, _⟩ := cut_map (g := D.int) (xs := ns) (lo := lo) (hi := hi)
    exact ⟨ys, e, by omega⟩
  have app : ∀ a b : List Int, iD a ++ iD b = iD (a ++ b) := fun a b => by unfold iD; rw [List.map_append]
  have li : ∀ (ms : List Int) o', BagO o' → ms.length ≤ 1000 → Q (.tup (iD ms)) (sup S h o') := fun ms o' ho' hm => q _ _ o' sup_same ho' (.inl ⟨ms, rfl, hm⟩)
  have no : ∀ (t : D) (S' : Hs) o', S' h = some o' → BagO o' → notTup t = true → Kn S' t → Q t S' := fun t S' o' h1 h2 h3 h4 => q t S' o' h1 h2 (.inr (.inr ⟨h3, h4⟩))
  have pl : ∀ ms : List Int, (iD ms).all plain = true := fun ms => by unfold iD; rw [List.all_map]; simp [Function.comp_def, plain]
  have odd : ∀ (a : List Int) (x : D) (b : List Int) o', BagO o' → plain x = true → isIntD x = false → a.length ≤ 41 → b.length ≤ 41 → Q (.tup (iD a ++ [x] ++ iD b)) (sup S h o') := fun a x b o' ho' h1 h2 h3 h4 =>
    q _ _ o' sup_same ho' (.inr (.inl ⟨_, rfl, by simp [List.all_append, pl, h1], by simp [len_iD]; omega, by simp [List.all_append, h2]⟩))
  have hs : ∀ n : Nat, n ≤ 1000 → n ≤ sizeLine := fun n hn => by unfold sizeLine; omega
  have sh : sup S h o h = some o := sup_same
  walk_at "vc"
  split
  · exact newL_f (ret_any (no _ _ o sup_same ho rfl ⟨_, rfl⟩))
  split
  · refine ⟨hs _ (by omega), ?_⟩
    rw [show (iD ns).reverse = iD ns.reverse by unfold iD; rw [List.map_reverse]]
    exact li _ o ho (by rw [List.length_reverse]; omega)
  split
  · obtain ⟨x, e1, l1⟩ := cut none (some a)
    obtain ⟨y, e2, l2⟩ := cut (some (if a - 1 > 0 then a - 1 else 0)) none
    rw [e1, e2, app, len_iD, len_iD]
    exact ⟨hs _ (by omega), li _ o ho (by rw [List.length_append]; omega)⟩
  split
  · refine newL_f ⟨h, _, o, rfl, sh, ho, by decide, by decide, fun j o hj hj' ho => ?_⟩
    rw [sup_sup]
    walk_at "vc"
    obtain ⟨m, em⟩ : ∃ m, atI [D.int 0, D.int (-1), D.int 1000000000000000000, D.int 1000000000000000000000000000000] j = some (D.int m) := by
      rcases (show j = 0 ∨ j = 1 ∨ j = 2 ∨ j = 3 by omega) with rfl | rfl | rfl | rfl
      · exact ⟨_, rfl⟩
      · exact ⟨_, rfl⟩
      · exact ⟨_, rfl⟩
      · exact ⟨_, rfl⟩
    refine ⟨_, em, newL_f (newL_f ?_)⟩
    walk_at "vc"
    refine ⟨hs _ (by omega), newL_f (.inl ⟨ns ++ [m], by rw [seqOf_lst]; unfold iD; rw [List.map_append]; rfl, newL_f ?_⟩)⟩
    walk_at "vc"
    exact li _ o ho (by rw [sort_len, List.length_append, List.length_singleton]; omega)
  split
  · obtain ⟨x, e1, l1⟩ := cut (some 1) none
    rw [e1, len_iD]
    exact ⟨hs _ (by omega), odd [] (.bl true) x o ho rfl rfl (by decide) l1⟩
  split
  · refine newL_f (newL_f ⟨h, _, o, rfl, sh, ho, by decide, by decide, fun j o hj hj' ho => ?_⟩)
    rw [sup_sup]
    walk_at "vc"
    obtain ⟨m, em, p1, p2⟩ : ∃ m, atI [D.str "1", D.non, D.tup [D.int 1], D.lst [D.int 1], D.tup []] j = some m ∧ plain m = true ∧ isIntD m = false := by
      rcases (show j = 0 ∨ j = 1 ∨ j = 2 ∨ j = 3 ∨ j = 4 by omega) with rfl | rfl | rfl | rfl | rfl
      · exact ⟨_, rfl, rfl, rfl⟩
      · exact ⟨_, rfl, rfl, rfl⟩
      · exact ⟨_, rfl, rfl, rfl⟩
      · exact ⟨_, rfl, rfl, rfl⟩
      · exact ⟨_, rfl, rfl, rfl⟩
    obtain ⟨x, e1, l1⟩ := cut none (some a)
    obtain ⟨y, e2, l2⟩ := cut (some a) none
    rw [e1, e2]
    refine ⟨m, em, hs _ (by rw [len_iD]; omega), hs _ (by rw [List.length_append, len_iD, len_iD, List.length_singleton]; omega), odd x m y o ho p1 p2 l1 l2⟩
  split
  · refine ⟨h, _, o, rfl, sh, ho, by decide, by decide, fun j o hj hj' ho => ?_⟩
    rw [sup_sup]
    obtain ⟨x, e1, l1⟩ := cut none (some a)
    obtain ⟨y, e2, l2⟩ := cut (some (a + 1)) none
    rw [e1, e2]
    refine ⟨hs _ (by rw [len_iD]; omega), hs _ (by rw [List.length_append, len_iD, len_iD, List.length_singleton]; omega), ?_⟩
    rw [show [D.int j] = iD [j] from rfl, app, app]
    exact li _ o ho (by simp; omega)
  split
  · exact q _ _ o sh ho (.inr (.inl ⟨_, rfl, rfl, by simp, rfl⟩))
  · refine .inl fun p hp => ?_
    have n1 := none_sup hp
    intro y hy
    have n2 := none_sup hy
    have n3 := none_sup n2.2
    refine ⟨[(Sum.inl 1, D.int 1)], rfl, by decide, newL_f ?_⟩
    have hh : sup (sup (sup S h o) p (.dK [])) y (.dK (mergeD [] [(Sum.inl 1, D.int 1)])) h = some o := by rw [sup_ne (Ne.symm n3.1), sup_ne (Ne.symm n1.1), sup_same]
    have hpp : sup (sup (sup S h o) p (.dK [])) y (.dK (mergeD [] [(Sum.inl 1, D.int 1)])) p = some (.dK []) := by rw [sup_ne (Ne.symm n2.1), sup_same]
    have hyy : sup (sup (sup S h o) p (.dK [])) y (.dK (mergeD [] [(Sum.inl 1, D.int 1)])) y = some (.dK (mergeD [] [(Sum.inl 1, D.int 1)])) := sup_same
    generalize sup (sup (sup S h o) p (.dK [])) y (.dK (mergeD [] [(Sum.inl 1, D.int 1)])) = S3 at *
    refine ⟨h, _, o, rfl, hh, ho, by decide, by decide, fun j o hj hj' ho => ?_⟩
    walk_at "vc"
    have k1 : ∀ x u, S3 x = some (.dK u) → x ≠ h → Kn (sup S3 h o) (.ref x) := fun x u e n => by
      have e2 : sup S3 h o x = some (.dK u) := by rw [sup_ne n]; exact e
      refine ⟨"dict", ?_⟩
      unfold tyName
      simp only [e2]
    rcases (show j = 0 ∨ j = 1 ∨ j = 2 ∨ j = 3 ∨ j = 4 ∨ j = 5 ∨ j = 6 by omega) with rfl | rfl | rfl | rfl | rfl | rfl | rfl
    · exact ⟨_, rfl, ret_any (no _ _ o sup_same ho rfl ⟨_, rfl⟩)⟩
    · exact ⟨_, rfl, ret_any (no _ _ o sup_same ho rfl ⟨_, rfl⟩)⟩
    · exact ⟨_, rfl, ret_any (no _ _ o sup_same ho rfl ⟨_, rfl⟩)⟩
    · exact ⟨_, rfl, ret_any (no _ _ o sup_same ho rfl ⟨_, rfl⟩)⟩
    · exact ⟨_, rfl, ret_any (no _ _ o sup_same ho rfl ⟨_, rfl⟩)⟩
    · exact ⟨_, rfl, ret_any (no _ _ o sup_same ho rfl (k1 p _ hpp n1.1))⟩
    · exact ⟨_, rfl, ret_any (no _ _ o sup_same ho rfl (k1 y _ hyy n3.1))⟩
end W
namespace W
open PySem L2 Dz
local macro_rules | `(tactic| walk_at "vc") => `(tactic| try simp only [wE_var, wE_int, wE_str, wE_bl, wE_non, wE_glob, wE_b2, wE_neg, wE_cm, wE_ch, wE_not, wE_and, wE_or, wE_ife, wE_tup, wE_lst, wE_ix, wE_sl, wE_rev, wE_bi, wE_isi, wE_call, wE_bm, wE_comp, wE_call0, wE_fld, wE_mt, wE_mk, wE_dic, wE_dic0, wE_dcomp, wE_lock, wB_not, wB_and, wB_or, wB_cm, wB_ch, wB_var, wB_ix, wB_bi, wB_isi, wB_call, wB_bm, wB_call0, wB_fld, wB_mt, wAnd_cons1, wAnd_cons, wOr_cons1, wOr_cons, wBAnd_cons1, wBAnd_cons, wBOr_cons1, wBOr_cons, wEs_nil, wEs_cons, wPr_nil, wPr_cons, wC_nil, wC_cons1, wO_no, wO_yes, wG_name, wG_sub, wI_seq, wI_rng, wI_enum, wI_items, wT_asg, wT_setc, wT_aug, wT_ex, wT_ret, wT_retN, wT_pass, wT_brk, wT_cont, wT_ite, wT_for, wT_whil, wT_fst, wT_faug, wT_saug, wT_par2, wT_par3, wT_del, wT_lock, wT_rais, wT_try1, wTs_nil, wTs_cons, ixW_live, setW_live, ixW_dK, ixW_zK, setW_dK, inR_live, dget_dK, inR_dK, addW_int, addW_str, addW_tup, addW_ll, addW_lr, addW_rl, addW_rr, subW_int, mulW_int, mulW_ref, fdivW_int, modW_int, powW_int, ltW_int, leW_int, gtW_int, geW_int, ltW_str, leW_str, gtW_str, geW_str, isNW_n, notNW_n, isNone_non, isNone_bl, isNone_int, isNone_str, isNone_tup, isNone_lst, isNone_ref, isNone_ty, tyName_non, tyName_bl, tyName_int, tyName_str, tyName_tup, tyName_lst, negW_int, intW_int, intW_bl, absW_int, minW_int, maxW_int, lenW_str, lenW_lst, lenW_tup, lenW_ref, len_lst, len_dK, len_dT, tupleW_lst, tupleW_tup, tupleW_ref, listW_lst, listW_tup, listW_ref, ixW_str, ixW_lst, ixW_tup, slW_str, slW_tup, slW_lst, slW_ref, revW_tup, revW_lst, revW_ref, appW_ref, appTy, tru_bl, tru_non, tru_int, tru_str, tru_tup, tru_lst, seqI_lst, seqI_tup, seqI_ref, seqI_str, seqI_ctp, items_lst, items_zK, items_zT, enumI_lst, enumI_tup, enumI_ref, rngI_1, rngI_2, inW_e, notInW_e, inR_int, inR_lst, inR_tup, flat_int, flat_str, flat_non, flat_bl, ixN_1_0, ixN_2_0, ixN_2_1, ixN_3_0, ixN_3_1, ixN_3_2, ixN_4_0, ixN_4_1, ixN_4_2, ixN_4_3, ixN_5_0, ixN_5_1, ixN_5_2, ixN_5_3, ixN_5_4, ixN_6_0, ixN_6_1, ixN_6_2, ixN_6_3, ixN_6_4, ixN_6_5, ixN_7_0, ixN_7_1, ixN_7_2, ixN_7_3, ixN_7_4, ixN_7_5, ixN_7_6, ixN_8_0, ixN_8_1, ixN_8_2, ixN_8_3, ixN_8_4, ixN_8_5, ixN_8_6, ixN_8_7, seqOf_sup, lstOf_sup, cp10_1, cp2_1, cp10_2, cp2_2, cp10_3, cp2_3, cp10_4, cp2_4, cp10_5, cp2_5, cp10_6, cp2_6, cp10_7, cp2_7, cp10_8, cp2_8, cp10_9, cp2_9, cp10_10, cp2_10, cp10_11, cp2_11, cp10_12, cp2_12, cp10_13, cp2_13, cp10_14, cp2_14, cp10_15, cp2_15, cp10_16, cp2_16, cp10_17, cp2_17, cp10_18, cp2_18, cp10_19, cp2_19, cp10_20, cp2_20, cp10_21, cp2_21, cp10_22, cp2_22, cp10_23, cp2_23, cp10_24, cp2_24, cp10_25, cp2_25, cp10_26, cp2_26, cp10_27, cp2_27, cp10_28, cp2_28, cp10_29, cp2_29, cp10_30, cp2_30, cp10_31, cp2_31, cp10_32, cp2_32, cp10_33, cp2_33, cp10_34, cp2_34, cp10_35, cp2_35, cp10_36, cp2_36, cp10_37, cp2_37, cp10_38, cp2_38, cp10_39, cp2_39, cp10_40, cp2_40, lsl_0, lsl_1, lsl_2, lsl_3, lsl_4, lsl_5, lsl_6, lsl_7, lsl_8, lsl_9, lsl_10, lsl_11, lsl_12, lsl_13, lsl_14, lsl_15, lsl_16, lsl_17, lsl_18, lsl_19, lsl_20, isNW_b, notNW_b, three_c, isDic_dK, isDic_dT, isDic_zK, isDic_zT, lk_dK, lk_dT, key_int, key_str, keysOf_nil, augIx_ref, tupleW_ctp, ixW_ctp, tyName_ctp, tru_ctp, inR_ctp, seqOf_ctp, lenW_ctp, isNone_ctp, augW_int, augS_int, one_c, two_c, wGs_c, wGs_n, wT_never, wG_tup1,
  startD, wipeD, List.map_cons, List.map_nil, List.length_cons, List.length_nil, List.cons_append, List.nil_append, List.append_nil,
  List.getElem?_cons_zero, List.getElem?_cons_succ, List.set_cons_zero, List.set_cons_succ, Option.some.injEq, exists_eq_left', exists_eq_left, exists_eq_right, exists_eq_right', exists_and_left, Nat.reduceAdd, Nat.reduceSub, List.replicate, List.replicate_zero, List.replicate_succ, if_true, Bool.false_eq_true, if_false, ite_true, ite_false, D.bl.injEq, D.int.injEq, D.str.injEq, D.tup.injEq, D.lst.injEq, D.ref.injEq,
  B2.w, Cm.w, Bi.w, Bm.w, eqW, neW, List.cons.injEq, and_true, true_and, Bool.not_true, Bool.not_false, Gs.len, Es.len,
  ret_non, ret_bl, ret_int, ret_str, ret_tup, ret_lst, isiAny_nil, isiAny_cons, atI_0, atI_1, atI_2, atI_3, atI_4, lstOf_lst, seqOf_lst, seqOf_tup, sup_same, sup_sup, eq_int, ok_int, ok_non, ok_bl, eq_ni, eq_in, eq_bl, MO.lst.injEq, exists_eq', exists_eq,
  kit_NoneType_int, kit_NoneType_bool, kit_NoneType_str, kit_NoneType_tuple, kit_NoneType_list, kit_NoneType_dict, kit_bool_int, kit_bool_bool, kit_bool_str, kit_bool_tuple, kit_bool_list, kit_bool_dict, kit_int_int, kit_int_bool, kit_int_str, kit_int_tuple, kit_int_list, kit_int_dict,
  kit_str_int, kit_str_bool, kit_str_str, kit_str_tuple, kit_str_list, kit_str_dict, kit_list_int, kit_list_bool, kit_list_str, kit_list_tuple, kit_list_list, kit_list_dict, kit_tuple_int, kit_tuple_bool, kit_tuple_str, kit_tuple_tuple, kit_tuple_list, kit_tuple_dict,
  decide_eq_true_eq, Bool.not_eq_true', decide_eq_false_iff_not, forall_const, implies_true, decide_true, decide_false, reduceCtorEq, Int.cast_ofNat_Int, Int.reducePow, Int.reduceMul, Int.reduceAdd, Int.reduceSub, Int.reduceNeg, Int.reduceToNat, Int.reduceEq, Int.reduceLT, Int.reduceLE, len_iD, len_vsD, any_iD, flat_iD, kit_dict_tuple])
def sp_law : DSp := fun ds S Q _ => ∃ ns, ds = [.lst (iD ns)] ∧ ∀ S', Q (.bl true) S'
theorem v_law : VC n_law b_law { fns := [("_law_is_enough", sp_lenough), ("is_kept_right", sp_is_kept_right), ("_law_draw", sp_draw), ("_law_no_lot", sp_no_lot), ("_law_lot", sp_lot), ("needed", sp_needed), ("_law_needed", sp_lneeded), ("_law_open", sp_open), ("_law_versions", sp_versions), ("_law_bag", sp_bag)], cons := [], nob := n_law.nob } 1 sp_law := by
  rintro ds S Q Y ⟨ns, rfl, q⟩
  refine ⟨rfl, ?_⟩
  unfold b_law n_law
  walk_at "vc"
  refine ⟨ns, rfl, fun h o hh ho => ?_⟩
  walk_at "vc"
  refine ⟨h, o, rfl, sup_same, ho, fun vs o hv ho => ?_⟩
  walk_at "vc"
  have h41 := hv.1.2.2
  have start : ∀ (Z : D → Prop), (∀ last, LsOk vs last → last < 500000000000000000 → Z (.int last)) → (∀ j, 0 ≤ j → j < 3 → (vs = [] → Z (.int (0 + j))) ∧ (∀ v r, vs = v :: r → Z (.int (v.1 + j)))) := fun Z hz j h1 h2 => by
    refine ⟨fun e => hz _ ⟨by omega, by unfold BIG; omega, by rw [e]; simp⟩ (by omega), fun v r e => ?_⟩
    have v1 := (hv.1.1 v (by rw [e]; exact List.mem_cons_self ..)).1
    have v2 := hv.2 v (by rw [e]; exact List.mem_cons_self ..)
    refine hz _ ⟨by omega, by unfold BIG; omega, fun u hu => ?_⟩ (by omega)
    have p := hv.1.2.1
    rw [e, List.pairwise_cons] at p
    rw [e] at hu
    rcases List.mem_cons.mp hu with rfl | hu
    · omega
    · have := p.1 u hu; omega
  have go : ∀ (Z : D → Hs → Prop), (∀ last o, LsOk vs last → last < 500000000000000000 → BagO o → Z (.int last) (sup S h o)) → if 0 < (vs.length : Int) then ∃ x, atI (vsD vs) 0 = some x ∧ ixW x (.int 0) (sup S h o) fun x S1 => sp_draw [.ref h, .int 3] S1 (fun y S2 => addW x y S2 Z) Y else sp_draw [.ref h, .int 3] (sup S h o) (fun y S2 => addW (.int 0) y S2 Z) Y := fun Z hz => by
    cases hvs : vs with
    | nil =>
      rw [if_neg (by simp)]
      refine ⟨h, _, o, rfl, sup_same, ho, by decide, by decide, fun j o hj hj' ho => ?_⟩
      walk_at "vc"
      exact (start (fun x => Z x (sup S h o)) (fun l a b => hz l o a b ho) j hj hj').1 hvs
    | cons v r =>
      rw [if_pos (by simp)]
      refine ⟨vD v, by unfold vsD; rw [List.map_cons, atI_0], ?_⟩
      unfold vD
      walk_at "vc"
      refine ⟨h, _, o, rfl, sup_same, ho, by decide, by decide, fun j o hj hj' ho => ?_⟩
      walk_at "vc"
      exact (start (fun x => Z x (sup S h o)) (fun l a b => hz l o a b ho) j hj hj').2 v r hvs
  refine go _ fun last o hl hlt ho => ?_
  refine ⟨h, o, vs, last, rfl, sup_same, ho, hv.1, hl.1, hl.2.1, fun op o hop hol ho => ?_⟩
  rw [sup_sup]
  refine ⟨vs, op, rfl, hv.1, ?_⟩
  walk_at "vc"
  refine newL_f ?_
  refine ⟨h, _, o, rfl, sup_same, ho, by decide, by decide, fun j o hj hj' ho => ?_⟩
  walk_at "vc"
  refine newL_f ?_
  walk_at "vc"
  rw [show iD op ++ [D.int last, D.int (last + 1 + j)] = iD (op ++ [last, last + 1 + j]) by unfold iD; rw [List.map_append]; rfl]
  have as_ : ∀ ms, enB vs (op ++ [last, last + 1 + j]) ms = enB vs (askedOf op last) ms := fun ms => en_asked hop hl (by omega)
  have nl : (need vs op).length ≤ 41 := by
    have := fold_len (P := seenB vs op) vs.reverse []
    rw [List.length_reverse] at this
    unfold need
    simp only [List.length_nil] at this
    omega
  have en := need_enough hv.1 hop hl
  refine ⟨by unfold sizeLine; omega, newL_f (newL_f ?_)⟩
  refine ⟨_, vs, op, last, rfl, .inl rfl, hv.1, hop, hl, ?_⟩
  refine ⟨vs, _, _, rfl, hv.1, .inl ⟨_, rfl, by omega, ?_⟩⟩
  rw [as_, en]
  walk_at "vc"
  refine ⟨_, vs, op, last, _, rfl, .inr rfl, hv.1, hop, hl, .inl ⟨_, rfl, by omega, ?_⟩⟩
  rw [en]
  walk_at "vc"
  have vok : (D.lst (vsD vs)).ok = true := ok_of (n := 2) (dok_lst fun x hx => by obtain ⟨v, _, rfl⟩ := List.mem_map.mp hx; exact vD_dok v)
  have vnb : (D.lst (vsD vs)).nb = true := nb_lst fun x hx => by obtain ⟨v, _, rfl⟩ := List.mem_map.mp hx; exact vD_nb v
  have veq : D.eq (.lst (vsD vs)) (.lst (vsD vs)) = true := by
    rw [eq_dec (p := True) vnb vnb (by simp)]
    rfl
  refine for_inv (fun i ρ S2 => ∃ a b c d e o, ρ = [some (D.lst (iD ns)), some (D.ref h), some (D.lst (vsD vs)), some (D.int last), some (D.tup (iD op)), some (D.lst (iD (need vs op))), some (D.lst (iD (op ++ [last, last + 1 + j]))), some (D.tup (iD (need vs op))), a, b, c, d, e] ∧ S2 h = some o ∧ BagO o) ⟨_, _, _, _, _, o, rfl, sup_same, ho⟩ ?_ ?_
  · rintro i x ρ S2 hi ⟨a, b, c, d, e, o, rfl, hS, ho⟩
    obtain ⟨hi, rfl⟩ := rng_of hi
    refine ⟨trivial, ?_⟩
    walk_at "vc"
    refine ⟨h, o, vs, _, rfl, hS, ho, hv.1, nl, fun ms o hm ho => ?_⟩
    walk_at "vc"
    refine ⟨h, _, o, rfl, sup_same, ho, by decide, by decide, fun k o hk hk' ho => ?_⟩
    walk_at "vc"
    split
    case' isTrue =>
      refine ⟨h, o, ms, rfl, sup_same, ho, hm, fun t S3 o hS ho ht => ?_⟩
      walk_at "vc"
    case' isFalse =>
      have hS : sup S2 h o h = some o := sup_same
      have ht : (∃ ns, D.tup (iD ms) = .tup (iD ns) ∧ ns.length ≤ 1000) ∨ NotLot (sup S2 h o) (.tup (iD ms)) := .inl ⟨ms, rfl, by omega⟩
      generalize sup S2 h o = S3 at *
      generalize D.tup (iD ms) = t at *
    all_goals
      refine newL_f ⟨_, vs, op, last, t, rfl, .inl rfl, hv.1, hop, hl, ?_⟩
      rcases ht with ⟨ms, rfl, hm⟩ | ht
      · refine .inl ⟨ms, rfl, hm, vok, vok, ?_⟩
        rw [veq]
        walk_at "vc"
        refine ⟨vs, _, _, rfl, hv.1, .inl ⟨ms, rfl, hm, ?_⟩⟩
        rw [as_]
        have en2 := enough_need hv.1 hop hl (ns := ms)
        generalize enB vs (askedOf op last) ms = B at *
        cases B with
        | false =>
          walk_at "vc"
          exact ⟨_, _, _, _, _, ⟨rfl, rfl, rfl, rfl, rfl⟩, o, hS, ho⟩
        | true =>
          walk_at "vc"
          refine for_inv (fun i ρ S2 => ∃ a b d e, ρ = [some (D.lst (iD ns)), some (D.ref h), some (D.lst (vsD vs)), some (D.int last), some (D.tup (iD op)), some (D.lst (iD (need vs op))), some (D.lst (iD (op ++ [last, last + 1 + j]))), some (D.tup (iD (need vs op))), a, some (D.tup (iD ms)), b, d, e] ∧ S2 h = some o) ⟨_, _, _, _, rfl, hS⟩ ?_ ?_
          · rintro i x ρ S2 hi ⟨a, b, d, e, rfl, hS⟩
            obtain ⟨c, hc, rfl⟩ := map_of hi
            refine ⟨trivial, ?_⟩
            walk_at "vc"
            have := en2 rfl c (mem_of hc)
            rw [if_neg (by simpa using this)]
            exact ⟨_, _, _, _, ⟨rfl, rfl, rfl, rfl⟩, hS⟩
          · rintro ρ S2 ⟨a, b, d, e, rfl, hS⟩
            refine ⟨trivial, ?_⟩
            walk_at "vc"
            exact ⟨_, _, _, _, _, ⟨rfl, rfl, rfl, rfl, rfl⟩, o, hS, ho⟩
      · refine .inr ⟨ht, vok, vok, ?_⟩
        rw [veq]
        walk_at "vc"
        refine ⟨vs, _, _, rfl, hv.1, .inr ⟨ht, ?_⟩⟩
        walk_at "vc"
        exact ⟨_, _, _, _, _, ⟨rfl, rfl, rfl, rfl, rfl⟩, o, hS, ho⟩
  · rintro ρ S2 ⟨a, b, c, d, e, o, rfl, hS, ho⟩
    refine ⟨trivial, ?_⟩
    walk_at "vc"
    exact q _
end W
namespace W
open PySem PySem.Spec PyProof.Rows L2 Dz
theorem hsp : ∀ (ns : List Int), ns.length ≤ 63 → (∀ z ∈ ns, PySem.Builtin.Int.intBits z ≤ 1048576) → sp_law [.lst (ns.map D.int)] (fun _ => none) (fun d _ => d = .bl true) X0 := fun ns _ _ => ⟨ns, rfl, fun _ => rfl⟩
section
open PySem PySem.Spec PyProof.Rows L2 Dz
theorem all_mk {l : PySem.W.OpenLaw} {w : World} {K : PySem.W.Frag} {h : Heap} {mg : Str → Option Value} {fa : Addr} (X : K.In h) (G : h.Ns mainGlobals mg) (hfa : mg "law" = some (.ref fa))
  {f0 : Addr} {od0 an0 : Option Addr} {sl0 : Array (Option Value)} {oc0 kV0 dc0 pm0 cd0 ct0 : Value}
  (a0 : PySem.W.nsIn K mainGlobals "_law_seen" = some (some (.ref f0)))
  (l0 : K.lookup f0 = some ⟨oc0, od0, .func (PySem.W.fnOf "_law_seen" "_law_seen" (defArgs (top 35)) (defBody (top 35)) (defScope (top 35)) .none kV0 dc0 pm0 an0 cd0 ct0), sl0⟩) (c0 : PySem.W.codeIn K cd0 "_law_seen" = true) (k0 : PySem.W.keepIn K (.ref f0) = true)
  {f1 : Addr} {od1 an1 : Option Addr} {sl1 : Array (Option Value)} {oc1 kV1 dc1 pm1 cd1 ct1 : Value}
  (a1 : PySem.W.nsIn K mainGlobals "_law_is_lot" = some (some (.ref f1)))
  (l1 : K.lookup f1 = some ⟨oc1, od1, .func (PySem.W.fnOf "_law_is_lot" "_law_is_lot" (defArgs (top 34)) (defBody (top 34)) (defScope (top 34)) .none kV1 dc1 pm1 an1 cd1 ct1), sl1⟩) (c1 : PySem.W.codeIn K cd1 "_law_is_lot" = true) (k1 : PySem.W.keepIn K (.ref f1) = true)
  {f2 : Addr} {od2 an2 : Option Addr} {sl2 : Array (Option Value)} {oc2 kV2 dc2 pm2 cd2 ct2 : Value}
  (a2 : PySem.W.nsIn K mainGlobals "_law_is_enough" = some (some (.ref f2)))
  (l2 : K.lookup f2 = some ⟨oc2, od2, .func (PySem.W.fnOf "_law_is_enough" "_law_is_enough" (defArgs (top 36)) (defBody (top 36)) (defScope (top 36)) .none kV2 dc2 pm2 an2 cd2 ct2), sl2⟩) (c2 : PySem.W.codeIn K cd2 "_law_is_enough" = true) (k2 : PySem.W.keepIn K (.ref f2) = true)
  {f3 : Addr} {od3 an3 : Option Addr} {sl3 : Array (Option Value)} {oc3 kV3 dc3 pm3 cd3 ct3 : Value}
  (a3 : PySem.W.nsIn K mainGlobals "asked_of" = some (some (.ref f3)))
  (l3 : K.lookup f3 = some ⟨oc3, od3, .func (PySem.W.fnOf "asked_of" "asked_of" (defArgs (top 20)) (defBody (top 20)) (defScope (top 20)) .none kV3 dc3 pm3 an3 cd3 ct3), sl3⟩) (c3 : PySem.W.codeIn K cd3 "asked_of" = true) (k3 : PySem.W.keepIn K (.ref f3) = true)
  {f4 : Addr} {od4 an4 : Option Addr} {sl4 : Array (Option Value)} {oc4 kV4 dc4 pm4 cd4 ct4 : Value}
  (a4 : PySem.W.nsIn K mainGlobals "seen_of" = some (some (.ref f4)))
  (l4 : K.lookup f4 = some ⟨oc4, od4, .func (PySem.W.fnOf "seen_of" "seen_of" (defArgs (top 19)) (defBody (top 19)) (defScope (top 19)) .none kV4 dc4 pm4 an4 cd4 ct4), sl4⟩) (c4 : PySem.W.codeIn K cd4 "seen_of" = true) (k4 : PySem.W.keepIn K (.ref f4) = true)
  {f5 : Addr} {od5 an5 : Option Addr} {sl5 : Array (Option Value)} {oc5 kV5 dc5 pm5 cd5 ct5 : Value}
  (a5 : PySem.W.nsIn K mainGlobals "is_integer" = some (some (.ref f5)))
  (l5 : K.lookup f5 = some ⟨oc5, od5, .func (PySem.W.fnOf "is_integer" "is_integer" (defArgs (top 2)) (defBody (top 2)) (defScope (top 2)) .none kV5 dc5 pm5 an5 cd5 ct5), sl5⟩) (c5 : PySem.W.codeIn K cd5 "is_integer" = true) (k5 : PySem.W.keepIn K (.ref f5) = true)
  {f6 : Addr} {od6 an6 : Option Addr} {sl6 : Array (Option Value)} {oc6 kV6 dc6 pm6 cd6 ct6 : Value}
  (a6 : PySem.W.nsIn K mainGlobals "is_within" = some (some (.ref f6)))
  (l6 : K.lookup f6 = some ⟨oc6, od6, .func (PySem.W.fnOf "is_within" "is_within" (defArgs (top 3)) (defBody (top 3)) (defScope (top 3)) .none kV6 dc6 pm6 an6 cd6 ct6), sl6⟩) (c6 : PySem.W.codeIn K cd6 "is_within" = true) (k6 : PySem.W.keepIn K (.ref f6) = true)
  {f7 : Addr} {od7 an7 : Option Addr} {sl7 : Array (Option Value)} {oc7 kV7 dc7 pm7 cd7 ct7 : Value}
  (a7 : PySem.W.nsIn K mainGlobals "is_lot" = some (some (.ref f7)))
  (l7 : K.lookup f7 = some ⟨oc7, od7, .func (PySem.W.fnOf "is_lot" "is_lot" (defArgs (top 5)) (defBody (top 5)) (defScope (top 5)) .none kV7 dc7 pm7 an7 cd7 ct7), sl7⟩) (c7 : PySem.W.codeIn K cd7 "is_lot" = true) (k7 : PySem.W.keepIn K (.ref f7) = true)
  {f8 : Addr} {od8 an8 : Option Addr} {sl8 : Array (Option Value)} {oc8 kV8 dc8 pm8 cd8 ct8 : Value}
  (a8 : PySem.W.nsIn K mainGlobals "check_open" = some (some (.ref f8)))
  (l8 : K.lookup f8 = some ⟨oc8, od8, .func (PySem.W.fnOf "check_open" "check_open" (defArgs (top 17)) (defBody (top 17)) (defScope (top 17)) .none kV8 dc8 pm8 an8 cd8 ct8), sl8⟩) (c8 : PySem.W.codeIn K cd8 "check_open" = true) (k8 : PySem.W.keepIn K (.ref f8) = true)
  {f9 : Addr} {od9 an9 : Option Addr} {sl9 : Array (Option Value)} {oc9 kV9 dc9 pm9 cd9 ct9 : Value}
  (a9 : PySem.W.nsIn K mainGlobals "check_last" = some (some (.ref f9)))
  (l9 : K.lookup f9 = some ⟨oc9, od9, .func (PySem.W.fnOf "check_last" "check_last" (defArgs (top 16)) (defBody (top 16)) (defScope (top 16)) .none kV9 dc9 pm9 an9 cd9 ct9), sl9⟩) (c9 : PySem.W.codeIn K cd9 "check_last" = true) (k9 : PySem.W.keepIn K (.ref f9) = true)
  {f10 : Addr} {od10 an10 : Option Addr} {sl10 : Array (Option Value)} {oc10 kV10 dc10 pm10 cd10 ct10 : Value}
  (a10 : PySem.W.nsIn K mainGlobals "is_worth" = some (some (.ref f10)))
  (l10 : K.lookup f10 = some ⟨oc10, od10, .func (PySem.W.fnOf "is_worth" "is_worth" (defArgs (top 6)) (defBody (top 6)) (defScope (top 6)) .none kV10 dc10 pm10 an10 cd10 ct10), sl10⟩) (c10 : PySem.W.codeIn K cd10 "is_worth" = true) (k10 : PySem.W.keepIn K (.ref f10) = true)
  {f11 : Addr} {od11 an11 : Option Addr} {sl11 : Array (Option Value)} {oc11 kV11 dc11 pm11 cd11 ct11 : Value}
  (a11 : PySem.W.nsIn K mainGlobals "is_mark" = some (some (.ref f11)))
  (l11 : K.lookup f11 = some ⟨oc11, od11, .func (PySem.W.fnOf "is_mark" "is_mark" (defArgs (top 7)) (defBody (top 7)) (defScope (top 7)) .none kV11 dc11 pm11 an11 cd11 ct11), sl11⟩) (c11 : PySem.W.codeIn K cd11 "is_mark" = true) (k11 : PySem.W.keepIn K (.ref f11) = true)
  {f12 : Addr} {od12 an12 : Option Addr} {sl12 : Array (Option Value)} {oc12 kV12 dc12 pm12 cd12 ct12 : Value}
  (a12 : PySem.W.nsIn K mainGlobals "is_commit" = some (some (.ref f12)))
  (l12 : K.lookup f12 = some ⟨oc12, od12, .func (PySem.W.fnOf "is_commit" "is_commit" (defArgs (top 8)) (defBody (top 8)) (defScope (top 8)) .none kV12 dc12 pm12 an12 cd12 ct12), sl12⟩) (c12 : PySem.W.codeIn K cd12 "is_commit" = true) (k12 : PySem.W.keepIn K (.ref f12) = true)
  {f13 : Addr} {od13 an13 : Option Addr} {sl13 : Array (Option Value)} {oc13 kV13 dc13 pm13 cd13 ct13 : Value}
  (a13 : PySem.W.nsIn K mainGlobals "is_pair" = some (some (.ref f13)))
  (l13 : K.lookup f13 = some ⟨oc13, od13, .func (PySem.W.fnOf "is_pair" "is_pair" (defArgs (top 4)) (defBody (top 4)) (defScope (top 4)) .none kV13 dc13 pm13 an13 cd13 ct13), sl13⟩) (c13 : PySem.W.codeIn K cd13 "is_pair" = true) (k13 : PySem.W.keepIn K (.ref f13) = true)
  {f14 : Addr} {od14 an14 : Option Addr} {sl14 : Array (Option Value)} {oc14 kV14 dc14 pm14 cd14 ct14 : Value}
  (a14 : PySem.W.nsIn K mainGlobals "check_versions" = some (some (.ref f14)))
  (l14 : K.lookup f14 = some ⟨oc14, od14, .func (PySem.W.fnOf "check_versions" "check_versions" (defArgs (top 15)) (defBody (top 15)) (defScope (top 15)) .none kV14 dc14 pm14 an14 cd14 ct14), sl14⟩) (c14 : PySem.W.codeIn K cd14 "check_versions" = true) (k14 : PySem.W.keepIn K (.ref f14) = true)
  {f15 : Addr} {od15 an15 : Option Addr} {sl15 : Array (Option Value)} {oc15 kV15 dc15 pm15 cd15 ct15 : Value}
  (a15 : PySem.W.nsIn K mainGlobals "check_asked" = some (some (.ref f15)))
  (l15 : K.lookup f15 = some ⟨oc15, od15, .func (PySem.W.fnOf "check_asked" "check_asked" (defArgs (top 18)) (defBody (top 18)) (defScope (top 18)) .none kV15 dc15 pm15 an15 cd15 ct15), sl15⟩) (c15 : PySem.W.codeIn K cd15 "check_asked" = true) (k15 : PySem.W.keepIn K (.ref f15) = true)
  {f16 : Addr} {od16 an16 : Option Addr} {sl16 : Array (Option Value)} {oc16 kV16 dc16 pm16 cd16 ct16 : Value}
  (a16 : PySem.W.nsIn K mainGlobals "is_kept_right" = some (some (.ref f16)))
  (l16 : K.lookup f16 = some ⟨oc16, od16, .func (PySem.W.fnOf "is_kept_right" "is_kept_right" (defArgs (top 23)) (defBody (top 23)) (defScope (top 23)) .none kV16 dc16 pm16 an16 cd16 ct16), sl16⟩) (c16 : PySem.W.codeIn K cd16 "is_kept_right" = true) (k16 : PySem.W.keepIn K (.ref f16) = true)
  {f17 : Addr} {od17 an17 : Option Addr} {sl17 : Array (Option Value)} {oc17 kV17 dc17 pm17 cd17 ct17 : Value}
  (a17 : PySem.W.nsIn K mainGlobals "_law_mixed" = some (some (.ref f17)))
  (l17 : K.lookup f17 = some ⟨oc17, od17, .func (PySem.W.fnOf "_law_mixed" "_law_mixed" (defArgs (top 25)) (defBody (top 25)) (defScope (top 25)) .none kV17 dc17 pm17 an17 cd17 ct17), sl17⟩) (c17 : PySem.W.codeIn K cd17 "_law_mixed" = true) (k17 : PySem.W.keepIn K (.ref f17) = true)
  {f18 : Addr} {od18 an18 : Option Addr} {sl18 : Array (Option Value)} {oc18 kV18 dc18 pm18 cd18 ct18 : Value}
  (a18 : PySem.W.nsIn K mainGlobals "_law_draw" = some (some (.ref f18)))
  (l18 : K.lookup f18 = some ⟨oc18, od18, .func (PySem.W.fnOf "_law_draw" "_law_draw" (defArgs (top 27)) (defBody (top 27)) (defScope (top 27)) .none kV18 dc18 pm18 an18 cd18 ct18), sl18⟩) (c18 : PySem.W.codeIn K cd18 "_law_draw" = true) (k18 : PySem.W.keepIn K (.ref f18) = true)
  {f19 : Addr} {od19 an19 : Option Addr} {sl19 : Array (Option Value)} {oc19 kV19 dc19 pm19 cd19 ct19 : Value}
  (a19 : PySem.W.nsIn K mainGlobals "_law_no_lot" = some (some (.ref f19)))
  (l19 : K.lookup f19 = some ⟨oc19, od19, .func (PySem.W.fnOf "_law_no_lot" "_law_no_lot" (defArgs (top 33)) (defBody (top 33)) (defScope (top 33)) .none kV19 dc19 pm19 an19 cd19 ct19), sl19⟩) (c19 : PySem.W.codeIn K cd19 "_law_no_lot" = true) (k19 : PySem.W.keepIn K (.ref f19) = true)
  {f20 : Addr} {od20 an20 : Option Addr} {sl20 : Array (Option Value)} {oc20 kV20 dc20 pm20 cd20 ct20 : Value}
  (a20 : PySem.W.nsIn K mainGlobals "_law_some" = some (some (.ref f20)))
  (l20 : K.lookup f20 = some ⟨oc20, od20, .func (PySem.W.fnOf "_law_some" "_law_some" (defArgs (top 31)) (defBody (top 31)) (defScope (top 31)) .none kV20 dc20 pm20 an20 cd20 ct20), sl20⟩) (c20 : PySem.W.codeIn K cd20 "_law_some" = true) (k20 : PySem.W.keepIn K (.ref f20) = true)
  {f21 : Addr} {od21 an21 : Option Addr} {sl21 : Array (Option Value)} {oc21 kV21 dc21 pm21 cd21 ct21 : Value}
  (a21 : PySem.W.nsIn K mainGlobals "_law_lot" = some (some (.ref f21)))
  (l21 : K.lookup f21 = some ⟨oc21, od21, .func (PySem.W.fnOf "_law_lot" "_law_lot" (defArgs (top 32)) (defBody (top 32)) (defScope (top 32)) .none kV21 dc21 pm21 an21 cd21 ct21), sl21⟩) (c21 : PySem.W.codeIn K cd21 "_law_lot" = true) (k21 : PySem.W.keepIn K (.ref f21) = true)
  {f22 : Addr} {od22 an22 : Option Addr} {sl22 : Array (Option Value)} {oc22 kV22 dc22 pm22 cd22 ct22 : Value}
  (a22 : PySem.W.nsIn K mainGlobals "needed_of" = some (some (.ref f22)))
  (l22 : K.lookup f22 = some ⟨oc22, od22, .func (PySem.W.fnOf "needed_of" "needed_of" (defArgs (top 21)) (defBody (top 21)) (defScope (top 21)) .none kV22 dc22 pm22 an22 cd22 ct22), sl22⟩) (c22 : PySem.W.codeIn K cd22 "needed_of" = true) (k22 : PySem.W.keepIn K (.ref f22) = true)
  {f23 : Addr} {od23 an23 : Option Addr} {sl23 : Array (Option Value)} {oc23 kV23 dc23 pm23 cd23 ct23 : Value}
  (a23 : PySem.W.nsIn K mainGlobals "needed" = some (some (.ref f23)))
  (l23 : K.lookup f23 = some ⟨oc23, od23, .func (PySem.W.fnOf "needed" "needed" (defArgs (top 22)) (defBody (top 22)) (defScope (top 22)) .none kV23 dc23 pm23 an23 cd23 ct23), sl23⟩) (c23 : PySem.W.codeIn K cd23 "needed" = true) (k23 : PySem.W.keepIn K (.ref f23) = true)
  {f24 : Addr} {od24 an24 : Option Addr} {sl24 : Array (Option Value)} {oc24 kV24 dc24 pm24 cd24 ct24 : Value}
  (a24 : PySem.W.nsIn K mainGlobals "_law_needed" = some (some (.ref f24)))
  (l24 : K.lookup f24 = some ⟨oc24, od24, .func (PySem.W.fnOf "_law_needed" "_law_needed" (defArgs (top 30)) (defBody (top 30)) (defScope (top 30)) .none kV24 dc24 pm24 an24 cd24 ct24), sl24⟩) (c24 : PySem.W.codeIn K cd24 "_law_needed" = true) (k24 : PySem.W.keepIn K (.ref f24) = true)
  {f25 : Addr} {od25 an25 : Option Addr} {sl25 : Array (Option Value)} {oc25 kV25 dc25 pm25 cd25 ct25 : Value}
  (a25 : PySem.W.nsIn K mainGlobals "_law_open" = some (some (.ref f25)))
  (l25 : K.lookup f25 = some ⟨oc25, od25, .func (PySem.W.fnOf "_law_open" "_law_open" (defArgs (top 29)) (defBody (top 29)) (defScope (top 29)) .none kV25 dc25 pm25 an25 cd25 ct25), sl25⟩) (c25 : PySem.W.codeIn K cd25 "_law_open" = true) (k25 : PySem.W.keepIn K (.ref f25) = true)
  {f26 : Addr} {od26 an26 : Option Addr} {sl26 : Array (Option Value)} {oc26 kV26 dc26 pm26 cd26 ct26 : Value}
  (a26 : PySem.W.nsIn K mainGlobals "_law_versions" = some (some (.ref f26)))
  (l26 : K.lookup f26 = some ⟨oc26, od26, .func (PySem.W.fnOf "_law_versions" "_law_versions" (defArgs (top 28)) (defBody (top 28)) (defScope (top 28)) .none kV26 dc26 pm26 an26 cd26 ct26), sl26⟩) (c26 : PySem.W.codeIn K cd26 "_law_versions" = true) (k26 : PySem.W.keepIn K (.ref f26) = true)
  {f27 : Addr} {od27 an27 : Option Addr} {sl27 : Array (Option Value)} {oc27 kV27 dc27 pm27 cd27 ct27 : Value}
  (a27 : PySem.W.nsIn K mainGlobals "_law_bag" = some (some (.ref f27)))
  (l27 : K.lookup f27 = some ⟨oc27, od27, .func (PySem.W.fnOf "_law_bag" "_law_bag" (defArgs (top 26)) (defBody (top 26)) (defScope (top 26)) .none kV27 dc27 pm27 an27 cd27 ct27), sl27⟩) (c27 : PySem.W.codeIn K cd27 "_law_bag" = true) (k27 : PySem.W.keepIn K (.ref f27) = true)
  {f28 : Addr} {od28 an28 : Option Addr} {sl28 : Array (Option Value)} {oc28 kV28 dc28 pm28 cd28 ct28 : Value}
  (a28 : PySem.W.nsIn K mainGlobals "law" = some (some (.ref f28)))
  (l28 : K.lookup f28 = some ⟨oc28, od28, .func (PySem.W.fnOf "law" "law" (defArgs (top 37)) (defBody (top 37)) (defScope (top 37)) .none kV28 dc28 pm28 an28 cd28 ct28), sl28⟩) (c28 : PySem.W.codeIn K cd28 "law" = true) (k28 : PySem.W.keepIn K (.ref f28) = true)
  (z0 : PySem.W.nsIn K mainGlobals "isinstance" = some none)
  (z1 : PySem.W.nsIn K mainGlobals "bool" = some none)
  (z2 : PySem.W.nsIn K mainGlobals "int" = some none)
  (z3 : PySem.W.nsIn K mainGlobals "tuple" = some none)
  (z4 : PySem.W.nsIn K mainGlobals "len" = some none)
  (z5 : PySem.W.nsIn K mainGlobals "enumerate" = some none)
  (z6 : PySem.W.nsIn K mainGlobals "list" = some none)
  (z7 : PySem.W.nsIn K mainGlobals "all" = some none)
  (z8 : PySem.W.nsIn K mainGlobals "sorted" = some none)
  (z9 : PySem.W.nsIn K mainGlobals "abs" = some none)
  (z10 : PySem.W.nsIn K mainGlobals "max" = some none)
  (z11 : PySem.W.nsIn K mainGlobals "range" = some none)
  (z12 : PySem.W.nsIn K mainGlobals "min" = some none)
  {t0 : Tok} (m0 : mg "MOST_WORTH" = some (.int 1000000000000000000 t0))
  : ∃ fd : FuncData, (∀ (s : Shared) (u : Value), BindsTo s fd ⟨[u], []⟩ [("script", u)]) ∧ ∀ base : Heap, K.In base → base.Ns mainGlobals mg → FnOk l.prog w K mg base (L2.CX l.prog w) 8 fa fd ["script"] (toSp K (sp_law)) := by
  have e := hfa.symm.trans (PySem.W.mg_of X G a28)
  cases e
  refine ⟨PySem.W.fnOf "law" "law" (defArgs (top 37)) (defBody (top 37)) (defScope (top 37)) .none kV28 dc28 pm28 an28 cd28 ct28, fun s v => .of_eq rfl, fun base _ _ => ?_⟩
  have y0 := PySem.W.mg_none_of X G z0
  have y1 := PySem.W.mg_none_of X G z1
  have y2 := PySem.W.mg_none_of X G z2
  have y3 := PySem.W.mg_none_of X G z3
  have y4 := PySem.W.mg_none_of X G z4
  have y5 := PySem.W.mg_none_of X G z5
  have y6 := PySem.W.mg_none_of X G z6
  have y7 := PySem.W.mg_none_of X G z7
  have y8 := PySem.W.mg_none_of X G z8
  have y9 := PySem.W.mg_none_of X G z9
  have y10 := PySem.W.mg_none_of X G z10
  have y11 := PySem.W.mg_none_of X G z11
  have y12 := PySem.W.mg_none_of X G z12
  have F0 := fun_mk (st := (top 35)) l0 c0 k0
  have h0 : FnOk l.prog w K mg base (L2.CX l.prog w) 1 f0 _ ["versions", "snapshot"] (toSp K (sp_lseen)) := fn_D F0 sc_law_seen ⟨rfl, rfl, rfl, rfl, rfl⟩ ⟨fns_nil, con_nil, nob_nil, all_nil, all_nil, all_nil, all_nil, all_nil⟩ k_law_seen v_law_seen
  have g0 : FnAt l.prog w K mg base 1 ("_law_seen", sp_lseen) := ⟨f0, _, ["versions", "snapshot"], PySem.W.mg_of X G a0, k0, (F0.binds (ps := ["versions", "snapshot"]) fun _ _ _ _ _ _ us hl => match us, hl with | [_, _], _ => rfl), h0⟩
  have F1 := fun_mk (st := (top 34)) l1 c1 k1
  have h1 : FnOk l.prog w K mg base (L2.CX l.prog w) 1 f1 _ ["thing", "commits"] (toSp K (sp_lis_lot)) := fn_D F1 sc_law_is_lot ⟨rfl, rfl, rfl, rfl, rfl⟩ ⟨fns_nil, con_nil, (nob_cons y0 (nob_cons y1 (nob_cons y2 (nob_cons y3 nob_nil)))), all_nil, all_nil, all_nil, all_nil, all_nil⟩ k_law_is_lot v_law_is_lot
  have g1 : FnAt l.prog w K mg base 1 ("_law_is_lot", sp_lis_lot) := ⟨f1, _, ["thing", "commits"], PySem.W.mg_of X G a1, k1, (F1.binds (ps := ["thing", "commits"]) fun _ _ _ _ _ _ us hl => match us, hl with | [_, _], _ => rfl), h1⟩
  have F2 := fun_mk (st := (top 36)) l2 c2 k2
  have h2 : FnOk l.prog w K mg base (L2.CX l.prog w) 2 f2 _ ["versions", "asked", "thing"] (toSp K (sp_lenough)) := fn_D F2 sc_law_is_enough ⟨rfl, rfl, rfl, rfl, rfl⟩ ⟨(fns_cons g0 (by decide) (fns_cons g1 (by decide) fns_nil)), con_nil, nob_nil, all_nil, all_nil, all_nil, all_nil, all_nil⟩ k_law_is_enough v_law_is_enough
  have g2 : FnAt l.prog w K mg base 2 ("_law_is_enough", sp_lenough) := ⟨f2, _, ["versions", "asked", "thing"], PySem.W.mg_of X G a2, k2, (F2.binds (ps := ["versions", "asked", "thing"]) fun _ _ _ _ _ _ us hl => match us, hl with | [_, _, _], _ => rfl), h2⟩
  have F3 := fun_mk (st := (top 20)) l3 c3 k3
  have h3 : FnOk l.prog w K mg base (L2.CX l.prog w) 1 f3 _ ["open_lot", "last"] (toSp K (sp_asked_of)) := fn_D F3 sc_asked_of ⟨rfl, rfl, rfl, rfl, rfl⟩ ⟨fns_nil, con_nil, (nob_cons y3 nob_nil), all_nil, all_nil, all_nil, all_nil, all_nil⟩ k_asked_of v_asked_of
  have g3 : FnAt l.prog w K mg base 1 ("asked_of", sp_asked_of) := ⟨f3, _, ["open_lot", "last"], PySem.W.mg_of X G a3, k3, (F3.binds (ps := ["open_lot", "last"]) fun _ _ _ _ _ _ us hl => match us, hl with | [_, _], _ => rfl), h3⟩
  have F4 := fun_mk (st := (top 19)) l4 c4 k4
  have h4 : FnOk l.prog w K mg base (L2.CX l.prog w) 1 f4 _ ["versions", "snapshot"] (toSp K (sp_seen_of)) := fn_D F4 sc_seen_of ⟨rfl, rfl, rfl, rfl, rfl⟩ ⟨fns_nil, con_nil, nob_nil, all_nil, all_nil, all_nil, all_nil, all_nil⟩ k_seen_of v_seen_of
  have g4 : FnAt l.prog w K mg base 1 ("seen_of", sp_seen_of) := ⟨f4, _, ["versions", "snapshot"], PySem.W.mg_of X G a4, k4, (F4.binds (ps := ["versions", "snapshot"]) fun _ _ _ _ _ _ us hl => match us, hl with | [_, _], _ => rfl), h4⟩
  have F5 := fun_mk (st := (top 2)) l5 c5 k5
  have h5 : FnOk l.prog w K mg base (L2.CX l.prog w) 1 f5 _ ["thing"] (toSp K (sp_is_integer)) := fn_D F5 sc_is_integer ⟨rfl, rfl, rfl, rfl, rfl⟩ ⟨fns_nil, con_nil, (nob_cons y0 (nob_cons y1 (nob_cons y2 nob_nil))), all_nil, all_nil, all_nil, all_nil, all_nil⟩ k_is_integer v_is_integer
  have g5 : FnAt l.prog w K mg base 1 ("is_integer", sp_is_integer) := ⟨f5, _, ["thing"], PySem.W.mg_of X G a5, k5, (F5.binds (ps := ["thing"]) fun _ _ _ _ _ _ us hl => match us, hl with | [_], _ => rfl), h5⟩
  have F6 := fun_mk (st := (top 3)) l6 c6 k6
  have h6 : FnOk l.prog w K mg base (L2.CX l.prog w) 2 f6 _ ["thing", "least", "most"] (toSp K (sp_is_within)) := fn_D F6 sc_is_within ⟨rfl, rfl, rfl, rfl, rfl⟩ ⟨(fns_cons g5 (by decide) fns_nil), con_nil, nob_nil, all_nil, all_nil, all_nil, all_nil, all_nil⟩ k_is_within v_is_within
  have g6 : FnAt l.prog w K mg base 2 ("is_within", sp_is_within) := ⟨f6, _, ["thing", "least", "most"], PySem.W.mg_of X G a6, k6, (F6.binds (ps := ["thing", "least", "most"]) fun _ _ _ _ _ _ us hl => match us, hl with | [_, _, _], _ => rfl), h6⟩
  have F7 := fun_mk (st := (top 5)) l7 c7 k7
  have h7 : FnOk l.prog w K mg base (L2.CX l.prog w) 3 f7 _ ["thing", "many"] (toSp K (sp_is_lot)) := fn_D F7 sc_is_lot ⟨rfl, rfl, rfl, rfl, rfl⟩ ⟨(fns_cons g6 (by decide) fns_nil), con_nil, (nob_cons y0 (nob_cons y3 nob_nil)), all_nil, all_nil, all_nil, all_nil, all_nil⟩ k_is_lot v_is_lot
  have g7 : FnAt l.prog w K mg base 3 ("is_lot", sp_is_lot) := ⟨f7, _, ["thing", "many"], PySem.W.mg_of X G a7, k7, (F7.binds (ps := ["thing", "many"]) fun _ _ _ _ _ _ us hl => match us, hl with | [_, _], _ => rfl), h7⟩
  have F8 := fun_mk (st := (top 17)) l8 c8 k8
  have h8 : FnOk l.prog w K mg base (L2.CX l.prog w) 4 f8 _ ["open_lot", "last"] (toSp K (sp_check_open)) := fn_D F8 sc_check_open ⟨rfl, rfl, rfl, rfl, rfl⟩ ⟨(fns_cons g7 (by decide) fns_nil), con_nil, nob_nil, all_nil, all_nil, all_nil, all_nil, all_nil⟩ k_check_open v_check_open
  have g8 : FnAt l.prog w K mg base 4 ("check_open", sp_check_open) := ⟨f8, _, ["open_lot", "last"], PySem.W.mg_of X G a8, k8, (F8.binds (ps := ["open_lot", "last"]) fun _ _ _ _ _ _ us hl => match us, hl with | [_, _], _ => rfl), h8⟩
  have F9 := fun_mk (st := (top 16)) l9 c9 k9
  have h9 : FnOk l.prog w K mg base (L2.CX l.prog w) 3 f9 _ ["last", "least"] (toSp K (sp_check_last)) := fn_D F9 sc_check_last ⟨rfl, rfl, rfl, rfl, rfl⟩ ⟨(fns_cons g6 (by decide) fns_nil), (con_int m0 con_nil), nob_nil, all_nil, all_nil, all_nil, all_nil, all_nil⟩ k_check_last v_check_last
  have g9 : FnAt l.prog w K mg base 3 ("check_last", sp_check_last) := ⟨f9, _, ["last", "least"], PySem.W.mg_of X G a9, k9, (F9.binds (ps := ["last", "least"]) fun _ _ _ _ _ _ us hl => match us, hl with | [_, _], _ => rfl), h9⟩
  have F10 := fun_mk (st := (top 6)) l10 c10 k10
  have h10 : FnOk l.prog w K mg base (L2.CX l.prog w) 3 f10 _ ["thing"] (toSp K (sp_is_worth)) := fn_D F10 sc_is_worth ⟨rfl, rfl, rfl, rfl, rfl⟩ ⟨(fns_cons g6 (by decide) fns_nil), (con_int m0 con_nil), nob_nil, all_nil, all_nil, all_nil, all_nil, all_nil⟩ k_is_worth v_is_worth
  have g10 : FnAt l.prog w K mg base 3 ("is_worth", sp_is_worth) := ⟨f10, _, ["thing"], PySem.W.mg_of X G a10, k10, (F10.binds (ps := ["thing"]) fun _ _ _ _ _ _ us hl => match us, hl with | [_], _ => rfl), h10⟩
  have F11 := fun_mk (st := (top 7)) l11 c11 k11
  have h11 : FnOk l.prog w K mg base (L2.CX l.prog w) 4 f11 _ ["thing"] (toSp K (sp_is_mark)) := fn_D F11 sc_is_mark ⟨rfl, rfl, rfl, rfl, rfl⟩ ⟨(fns_cons g10 (by decide) fns_nil), con_nil, nob_nil, all_nil, all_nil, all_nil, all_nil, all_nil⟩ k_is_mark v_is_mark
  have g11 : FnAt l.prog w K mg base 4 ("is_mark", sp_is_mark) := ⟨f11, _, ["thing"], PySem.W.mg_of X G a11, k11, (F11.binds (ps := ["thing"]) fun _ _ _ _ _ _ us hl => match us, hl with | [_], _ => rfl), h11⟩
  have F12 := fun_mk (st := (top 8)) l12 c12 k12
  have h12 : FnOk l.prog w K mg base (L2.CX l.prog w) 3 f12 _ ["thing"] (toSp K (sp_is_commit)) := fn_D F12 sc_is_commit ⟨rfl, rfl, rfl, rfl, rfl⟩ ⟨(fns_cons g6 (by decide) fns_nil), (con_int m0 con_nil), nob_nil, all_nil, all_nil, all_nil, all_nil, all_nil⟩ k_is_commit v_is_commit
  have g12 : FnAt l.prog w K mg base 3 ("is_commit", sp_is_commit) := ⟨f12, _, ["thing"], PySem.W.mg_of X G a12, k12, (F12.binds (ps := ["thing"]) fun _ _ _ _ _ _ us hl => match us, hl with | [_], _ => rfl), h12⟩
  have F13 := fun_mk (st := (top 4)) l13 c13 k13
  have h13 : FnOk l.prog w K mg base (L2.CX l.prog w) 1 f13 _ ["thing"] (toSp K (sp_is_pair)) := fn_D F13 sc_is_pair ⟨rfl, rfl, rfl, rfl, rfl⟩ ⟨fns_nil, con_nil, (nob_cons y4 (nob_cons y0 (nob_cons y3 nob_nil))), all_nil, all_nil, all_nil, all_nil, all_nil⟩ k_is_pair v_is_pair
  have g13 : FnAt l.prog w K mg base 1 ("is_pair", sp_is_pair) := ⟨f13, _, ["thing"], PySem.W.mg_of X G a13, k13, (F13.binds (ps := ["thing"]) fun _ _ _ _ _ _ us hl => match us, hl with | [_], _ => rfl), h13⟩
  have F14 := fun_mk (st := (top 15)) l14 c14 k14
  have h14 : FnOk l.prog w K mg base (L2.CX l.prog w) 5 f14 _ ["versions"] (toSp K (sp_check_versions)) := fn_D F14 sc_check_versions ⟨rfl, rfl, rfl, rfl, rfl⟩ ⟨(fns_cons g11 (by decide) (fns_cons g12 (by decide) (fns_cons g13 (by decide) fns_nil))), con_nil, (nob_cons y5 (nob_cons y0 (nob_cons y6 (nob_cons y3 nob_nil)))), all_nil, all_nil, all_nil, all_nil, all_nil⟩ k_check_versions v_check_versions
  have g14 : FnAt l.prog w K mg base 5 ("check_versions", sp_check_versions) := ⟨f14, _, ["versions"], PySem.W.mg_of X G a14, k14, (F14.binds (ps := ["versions"]) fun _ _ _ _ _ _ us hl => match us, hl with | [_], _ => rfl), h14⟩
  have F15 := fun_mk (st := (top 18)) l15 c15 k15
  have h15 : FnOk l.prog w K mg base (L2.CX l.prog w) 6 f15 _ ["versions", "open_lot", "last"] (toSp K (sp_check_asked)) := fn_D F15 sc_check_asked ⟨rfl, rfl, rfl, rfl, rfl⟩ ⟨(fns_cons g8 (by decide) (fns_cons g9 (by decide) (fns_cons g14 (by decide) fns_nil))), con_nil, (nob_cons y4 nob_nil), all_nil, all_nil, all_nil, all_nil, all_nil⟩ k_check_asked v_check_asked
  have g15 : FnAt l.prog w K mg base 6 ("check_asked", sp_check_asked) := ⟨f15, _, ["versions", "open_lot", "last"], PySem.W.mg_of X G a15, k15, (F15.binds (ps := ["versions", "open_lot", "last"]) fun _ _ _ _ _ _ us hl => match us, hl with | [_, _, _], _ => rfl), h15⟩
  have F16 := fun_mk (st := (top 23)) l16 c16 k16
  have h16 : FnOk l.prog w K mg base (L2.CX l.prog w) 7 f16 _ ["versions", "open_lot", "last", "thing"] (toSp K (sp_is_kept_right)) := fn_Dd F16 sc_is_kept_right ⟨rfl, rfl, rfl, rfl, rfl⟩ ⟨(fns_cons g3 (by decide) (fns_cons g4 (by decide) (fns_cons g5 (by decide) (fns_cons g15 (by decide) fns_nil)))), con_nil, (nob_cons y7 (nob_cons y4 (nob_cons y6 (nob_cons y8 (nob_cons y0 (nob_cons y3 nob_nil)))))), all_nil, all_nil, all_nil, all_nil, all_nil⟩ k_is_kept_right v_is_kept_right
  have g16 : FnAt l.prog w K mg base 7 ("is_kept_right", sp_is_kept_right) := ⟨f16, _, ["versions", "open_lot", "last", "thing"], PySem.W.mg_of X G a16, k16, (F16.binds (ps := ["versions", "open_lot", "last", "thing"]) fun _ _ _ _ _ _ us hl => match us, hl with | [_, _, _, _], _ => rfl), h16⟩
  have F17 := fun_mk (st := (top 25)) l17 c17 k17
  have h17 : FnOk l.prog w K mg base (L2.CX l.prog w) 1 f17 _ ["cell", "turn"] (toSp K (sp_mixed)) := fn_D F17 sc_law_mixed ⟨rfl, rfl, rfl, rfl, rfl⟩ ⟨fns_nil, con_nil, (nob_cons y2 nob_nil), all_nil, all_nil, all_nil, all_nil, all_nil⟩ k_law_mixed v_law_mixed
  have g17 : FnAt l.prog w K mg base 1 ("_law_mixed", sp_mixed) := ⟨f17, _, ["cell", "turn"], PySem.W.mg_of X G a17, k17, (F17.binds (ps := ["cell", "turn"]) fun _ _ _ _ _ _ us hl => match us, hl with | [_, _], _ => rfl), h17⟩
  have F18 := fun_mk (st := (top 27)) l18 c18 k18
  have h18 : FnOk l.prog w K mg base (L2.CX l.prog w) 2 f18 _ ["bag", "many"] (toSp K (sp_draw)) := fn_D F18 sc_law_draw ⟨rfl, rfl, rfl, rfl, rfl⟩ ⟨(fns_cons g17 (by decide) fns_nil), con_nil, (nob_cons y9 (nob_cons y4 (nob_cons y2 nob_nil))), all_nil, all_nil, all_nil, all_nil, all_nil⟩ k_law_draw v_law_draw
  have g18 : FnAt l.prog w K mg base 2 ("_law_draw", sp_draw) := ⟨f18, _, ["bag", "many"], PySem.W.mg_of X G a18, k18, (F18.binds (ps := ["bag", "many"]) fun _ _ _ _ _ _ us hl => match us, hl with | [_, _], _ => rfl), h18⟩
  have F19 := fun_mk (st := (top 33)) l19 c19 k19
  have h19 : FnOk l.prog w K mg base (L2.CX l.prog w) 3 f19 _ ["bag", "lot"] (toSp K (sp_no_lot)) := fn_D F19 sc_law_no_lot ⟨rfl, rfl, rfl, rfl, rfl⟩ ⟨(fns_cons g18 (by decide) fns_nil), con_nil, (nob_cons y3 (nob_cons y8 (nob_cons y6 (nob_cons y10 (nob_cons y4 nob_nil))))), all_nil, all_nil, all_nil, all_nil, all_nil⟩ k_law_no_lot v_law_no_lot
  have g19 : FnAt l.prog w K mg base 3 ("_law_no_lot", sp_no_lot) := ⟨f19, _, ["bag", "lot"], PySem.W.mg_of X G a19, k19, (F19.binds (ps := ["bag", "lot"]) fun _ _ _ _ _ _ us hl => match us, hl with | [_, _], _ => rfl), h19⟩
  have F20 := fun_mk (st := (top 31)) l20 c20 k20
  have h20 : FnOk l.prog w K mg base (L2.CX l.prog w) 3 f20 _ ["bag", "row", "share"] (toSp K (sp_some)) := fn_Dd F20 sc_law_some ⟨rfl, rfl, rfl, rfl, rfl⟩ ⟨(fns_cons g18 (by decide) fns_nil), con_nil, nob_nil, all_nil, all_nil, all_nil, all_nil, all_nil⟩ k_law_some v_law_some
  have g20 : FnAt l.prog w K mg base 3 ("_law_some", sp_some) := ⟨f20, _, ["bag", "row", "share"], PySem.W.mg_of X G a20, k20, (F20.binds (ps := ["bag", "row", "share"]) fun _ _ _ _ _ _ us hl => match us, hl with | [_, _, _], _ => rfl), h20⟩
  have F21 := fun_mk (st := (top 32)) l21 c21 k21
  have h21 : FnOk l.prog w K mg base (L2.CX l.prog w) 4 f21 _ ["bag", "versions", "due"] (toSp K (sp_lot)) := fn_D F21 sc_law_lot ⟨rfl, rfl, rfl, rfl, rfl⟩ ⟨(fns_cons g20 (by decide) (fns_cons g18 (by decide) fns_nil)), con_nil, (nob_cons y3 (nob_cons y4 (nob_cons y8 nob_nil))), all_nil, all_nil, all_nil, all_nil, all_nil⟩ k_law_lot v_law_lot
  have g21 : FnAt l.prog w K mg base 4 ("_law_lot", sp_lot) := ⟨f21, _, ["bag", "versions", "due"], PySem.W.mg_of X G a21, k21, (F21.binds (ps := ["bag", "versions", "due"]) fun _ _ _ _ _ _ us hl => match us, hl with | [_, _, _], _ => rfl), h21⟩
  have F22 := fun_mk (st := (top 21)) l22 c22 k22
  have h22 : FnOk l.prog w K mg base (L2.CX l.prog w) 2 f22 _ ["versions", "open_lot", "last"] (toSp K (sp_needed_of)) := fn_Dd F22 sc_needed_of ⟨rfl, rfl, rfl, rfl, rfl⟩ ⟨(fns_cons g3 (by decide) (fns_cons g4 (by decide) fns_nil)), con_nil, (nob_cons y3 (nob_cons y4 nob_nil)), all_nil, all_nil, all_nil, all_nil, all_nil⟩ k_needed_of v_needed_of
  have g22 : FnAt l.prog w K mg base 2 ("needed_of", sp_needed_of) := ⟨f22, _, ["versions", "open_lot", "last"], PySem.W.mg_of X G a22, k22, (F22.binds (ps := ["versions", "open_lot", "last"]) fun _ _ _ _ _ _ us hl => match us, hl with | [_, _, _], _ => rfl), h22⟩
  have F23 := fun_mk (st := (top 22)) l23 c23 k23
  have h23 : FnOk l.prog w K mg base (L2.CX l.prog w) 7 f23 _ ["versions", "open_lot", "last"] (toSp K (sp_needed)) := fn_D F23 sc_needed ⟨rfl, rfl, rfl, rfl, rfl⟩ ⟨(fns_cons g22 (by decide) (fns_cons g15 (by decide) fns_nil)), con_nil, nob_nil, all_nil, all_nil, all_nil, all_nil, all_nil⟩ k_needed v_needed
  have g23 : FnAt l.prog w K mg base 7 ("needed", sp_needed) := ⟨f23, _, ["versions", "open_lot", "last"], PySem.W.mg_of X G a23, k23, (F23.binds (ps := ["versions", "open_lot", "last"]) fun _ _ _ _ _ _ us hl => match us, hl with | [_, _, _], _ => rfl), h23⟩
  have F24 := fun_mk (st := (top 30)) l24 c24 k24
  have h24 : FnOk l.prog w K mg base (L2.CX l.prog w) 1 f24 _ ["versions", "open_lot"] (toSp K (sp_lneeded)) := fn_Dd F24 sc_law_needed ⟨rfl, rfl, rfl, rfl, rfl⟩ ⟨fns_nil, con_nil, (nob_cons y11 (nob_cons y4 nob_nil)), all_nil, all_nil, all_nil, all_nil, all_nil⟩ k_law_needed v_law_needed
  have g24 : FnAt l.prog w K mg base 1 ("_law_needed", sp_lneeded) := ⟨f24, _, ["versions", "open_lot"], PySem.W.mg_of X G a24, k24, (F24.binds (ps := ["versions", "open_lot"]) fun _ _ _ _ _ _ us hl => match us, hl with | [_, _], _ => rfl), h24⟩
  have F25 := fun_mk (st := (top 29)) l25 c25 k25
  have h25 : FnOk l.prog w K mg base (L2.CX l.prog w) 3 f25 _ ["bag", "versions", "last"] (toSp K (sp_open)) := fn_Dd F25 sc_law_open ⟨rfl, rfl, rfl, rfl, rfl⟩ ⟨(fns_cons g18 (by decide) fns_nil), con_nil, (nob_cons y3 (nob_cons y8 (nob_cons y11 (nob_cons y4 (nob_cons y12 nob_nil))))), all_nil, all_nil, all_nil, all_nil, all_nil⟩ k_law_open v_law_open
  have g25 : FnAt l.prog w K mg base 3 ("_law_open", sp_open) := ⟨f25, _, ["bag", "versions", "last"], PySem.W.mg_of X G a25, k25, (F25.binds (ps := ["bag", "versions", "last"]) fun _ _ _ _ _ _ us hl => match us, hl with | [_, _, _], _ => rfl), h25⟩
  have F26 := fun_mk (st := (top 28)) l26 c26 k26
  have h26 : FnOk l.prog w K mg base (L2.CX l.prog w) 3 f26 _ ["bag"] (toSp K (sp_versions)) := fn_D F26 sc_law_versions ⟨rfl, rfl, rfl, rfl, rfl⟩ ⟨(fns_cons g18 (by decide) fns_nil), con_nil, (nob_cons y11 nob_nil), all_nil, all_nil, all_nil, all_nil, all_nil⟩ k_law_versions v_law_versions
  have g26 : FnAt l.prog w K mg base 3 ("_law_versions", sp_versions) := ⟨f26, _, ["bag"], PySem.W.mg_of X G a26, k26, (F26.binds (ps := ["bag"]) fun _ _ _ _ _ _ us hl => match us, hl with | [_], _ => rfl), h26⟩
  have F27 := fun_mk (st := (top 26)) l27 c27 k27
  have h27 : FnOk l.prog w K mg base (L2.CX l.prog w) 1 f27 _ ["script"] (toSp K (sp_bag)) := fn_D F27 sc_law_bag ⟨rfl, rfl, rfl, rfl, rfl⟩ ⟨fns_nil, con_nil, (nob_cons y2 nob_nil), all_nil, all_nil, all_nil, all_nil, all_nil⟩ k_law_bag v_law_bag
  have g27 : FnAt l.prog w K mg base 1 ("_law_bag", sp_bag) := ⟨f27, _, ["script"], PySem.W.mg_of X G a27, k27, (F27.binds (ps := ["script"]) fun _ _ _ _ _ _ us hl => match us, hl with | [_], _ => rfl), h27⟩
  have F28 := fun_mk (st := (top 37)) l28 c28 k28
  have h28 : FnOk l.prog w K mg base (L2.CX l.prog w) 8 _ _ ["script"] (toSp K (sp_law)) := fn_D F28 sc_law ⟨rfl, rfl, rfl, rfl, rfl⟩ ⟨(fns_cons g2 (by decide) (fns_cons g16 (by decide) (fns_cons g18 (by decide) (fns_cons g19 (by decide) (fns_cons g21 (by decide) (fns_cons g23 (by decide) (fns_cons g24 (by decide) (fns_cons g25 (by decide) (fns_cons g26 (by decide) (fns_cons g27 (by decide) fns_nil)))))))))), con_nil, (nob_cons y11 (nob_cons y0 (nob_cons y1 (nob_cons y6 (nob_cons y3 (nob_cons y4 nob_nil)))))), all_nil, all_nil, all_nil, all_nil, all_nil⟩ k_law v_law
  exact h28
end
end W
open PySem PySem.W PyProof.Rows
set_option maxRecDepth 100000 in
set_option maxHeartbeats 0 in
theorem PySem.Challenge.cw_waysinstep_k42_whole_lots_that_are_enoug_holds : PySem.Challenge.rw_waysinstep_k42_whole_lots_that_are_enoug.Holds := by
  w_on; o_law; k_head; (case hw => w_witness2)
  k_fill
  refine Dz.walk_D (l := PySem.Challenge.rw_waysinstep_k42_whole_lots_that_are_enoug) (n := 63) (k := 8) (x := "script") (sp := W.sp_law) rfl (by decide) rfl ⟨rfl, by decide, by decide⟩ (fun w h Y => PySem.W.kIn_of Y) ?F W.hsp
  case F =>
    intro w mg h KX G XP fa hmg
    refine' W.all_mk KX G hmg ?a0 ?l0 ?c0 ?k0 ?a1 ?l1 ?c1 ?k1 ?a2 ?l2 ?c2 ?k2 ?a3 ?l3 ?c3 ?k3 ?a4 ?l4 ?c4 ?k4 ?a5 ?l5 ?c5 ?k5 ?a6 ?l6 ?c6 ?k6 ?a7 ?l7 ?c7 ?k7 ?a8 ?l8 ?c8 ?k8 ?a9 ?l9 ?c9 ?k9 ?a10 ?l10 ?c10 ?k10 ?a11 ?l11 ?c11 ?k11 ?a12 ?l12 ?c12 ?k12 ?a13 ?l13 ?c13 ?k13 ?a14 ?l14 ?c14 ?k14 ?a15 ?l15 ?c15 ?k15 ?a16 ?l16 ?c16 ?k16 ?a17 ?l17 ?c17 ?k17 ?a18 ?l18 ?c18 ?k18 ?a19 ?l19 ?c19 ?k19 ?a20 ?l20 ?c20 ?k20 ?a21 ?l21 ?c21 ?k21 ?a22 ?l22 ?c22 ?k22 ?a23 ?l23 ?c23 ?k23 ?a24 ?l24 ?c24 ?k24 ?a25 ?l25 ?c25 ?k25 ?a26 ?l26 ?c26 ?k26 ?a27 ?l27 ?c27 ?k27 ?a28 ?l28 ?c28 ?k28 ?z0 ?z1 ?z2 ?z3 ?z4 ?z5 ?z6 ?z7 ?z8 ?z9 ?z10 ?z11 ?z12 ?m0
    (case a0 => k_is)
    (case l0 => k_is)
    (case c0 => k_is)
    (case k0 => k_is)
    (case a1 => k_is)
    (case l1 => k_is)
    (case c1 => k_is)
    (case k1 => k_is)
    (case a2 => k_is)
    (case l2 => k_is)
    (case c2 => k_is)
    (case k2 => k_is)
    (case a3 => k_is)
    (case l3 => k_is)
    (case c3 => k_is)
    (case k3 => k_is)
    (case a4 => k_is)
    (case l4 => k_is)
    (case c4 => k_is)
    (case k4 => k_is)
    (case a5 => k_is)
    (case l5 => k_is)
    (case c5 => k_is)
    (case k5 => k_is)
    (case a6 => k_is)
    (case l6 => k_is)
    (case c6 => k_is)
    (case k6 => k_is)
    (case a7 => k_is)
    (case l7 => k_is)
    (case c7 => k_is)
    (case k7 => k_is)
    (case a8 => k_is)
    (case l8 => k_is)
    (case c8 => k_is)
    (case k8 => k_is)
    (case a9 => k_is)
    (case l9 => k_is)
    (case c9 => k_is)
    (case k9 => k_is)
    (case a10 => k_is)
    (case l10 => k_is)
    (case c10 => k_is)
    (case k10 => k_is)
    (case a11 => k_is)
    (case l11 => k_is)
    (case c11 => k_is)
    (case k11 => k_is)
    (case a12 => k_is)
    (case l12 => k_is)
    (case c12 => k_is)
    (case k12 => k_is)
    (case a13 => k_is)
    (case l13 => k_is)
    (case c13 => k_is)
    (case k13 => k_is)
    (case a14 => k_is)
    (case l14 => k_is)
    (case c14 => k_is)
    (case k14 => k_is)
    (case a15 => k_is)
    (case l15 => k_is)
    (case c15 => k_is)
    (case k15 => k_is)
    (case a16 => k_is)
    (case l16 => k_is)
    (case c16 => k_is)
    (case k16 => k_is)
    (case a17 => k_is)
    (case l17 => k_is)
    (case c17 => k_is)
    (case k17 => k_is)
    (case a18 => k_is)
    (case l18 => k_is)
    (case c18 => k_is)
    (case k18 => k_is)
    (case a19 => k_is)
    (case l19 => k_is)
    (case c19 => k_is)
    (case k19 => k_is)
    (case a20 => k_is)
    (case l20 => k_is)
    (case c20 => k_is)
    (case k20 => k_is)
    (case a21 => k_is)
    (case l21 => k_is)
    (case c21 => k_is)
    (case k21 => k_is)
    (case a22 => k_is)
    (case l22 => k_is)
    (case c22 => k_is)
    (case k22 => k_is)
    (case a23 => k_is)
    (case l23 => k_is)
    (case c23 => k_is)
    (case k23 => k_is)
    (case a24 => k_is)
    (case l24 => k_is)
    (case c24 => k_is)
    (case k24 => k_is)
    (case a25 => k_is)
    (case l25 => k_is)
    (case c25 => k_is)
    (case k25 => k_is)
    (case a26 => k_is)
    (case l26 => k_is)
    (case c26 => k_is)
    (case k26 => k_is)
    (case a27 => k_is)
    (case l27 => k_is)
    (case c27 => k_is)
    (case k27 => k_is)
    (case a28 => k_is)
    (case l28 => k_is)
    (case c28 => k_is)
    (case k28 => k_is)
    (case z0 => k_is)
    (case z1 => k_is)
    (case z2 => k_is)
    (case z3 => k_is)
    (case z4 => k_is)
    (case z5 => k_is)
    (case z6 => k_is)
    (case z7 => k_is)
    (case z8 => k_is)
    (case z9 => k_is)
    (case z10 => k_is)
    (case z11 => k_is)
    (case z12 => k_is)
    (case m0 => exact PySem.W.mg_of KX G (by k_is))
