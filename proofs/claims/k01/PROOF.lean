import PyProof.Rows.All
import Wide.All
import OpenK.AllK
import Wide.FinOn
import HandS.ForMost
import HandS.ForExc
import HandS.IsInst
import HandS.Wide
import HandS.EndBits
import HandS.TupAny
import HandS.Deep
import HandS.SortInts
import HandS.Style
import HandS.SetIn
import HandS.CallSlots
import HandS.TryMany
import HandS.ExcInit
import KE.SortData
import HandS.DictComp
import HandS.More
import HandS.Conv
import HandS.Iter
import HandS.Codes
import HandS.SetFor
import HandS.Strs
import KE.GoesEnum
import HandS.Lambda
import HandS.ExcIs
import HandS.ExcField
import HandS.TupMul
import HandS.WordsDict
import HandS.TupLen
import HandS.TryOnly
import HandS.HeadWalk
import HandS.EndTab
import PySem.Challenge.RW_waysinstep_k01_whole_lives_of_disks
set_option Elab.async false
set_option linter.all false
set_option maxRecDepth 100000
set_option maxHeartbeats 4000000
namespace Dz
open PySem L2

/-! ### data -/
inductive D where
  | non | bl (b : Bool) | int (i : Int) | str (x : Str)
  | tup (xs : List D) | lst (xs : List D)
  | ref (a : Addr) | ty (n : String)
  /-- a tuple that the top has made -/
  | ctp (xs : List D)
  /-- a lambda that was handed over: the function, its code object, that one's name; what was frozen then -/
  | fnp (f c : Addr) (q : Str) (fz : Addr → Prop) (H0 : Hp)
inductive MO where
  | lst (xs : List D)
  | dK (kvs : List (Key × D))
  | dT (kvs : List (List Key × D))
  /-- a dict while it is walked -/
  | zK (kvs : List (Key × D))
  | zT (kvs : List (List Key × D))
  | ins (C : Addr) (fs : List (Str × D))
  /-- a table of code objects, each of this name -/
  | tab (q : Str)
  /-- the fields of an exception -/
  | xd (fs : List (Str × D))
abbrev Hs := Addr → Option MO
def sup (S : Hs) (a : Addr) (o : MO) : Hs := fun b => if b = a then some o else S b
def sdel (S : Hs) (a : Addr) : Hs := fun b => if b = a then none else S b
theorem sup_same {S : Hs} {a : Addr} {o : MO} : sup S a o a = some o := by unfold sup; rw [if_pos rfl]
theorem sup_ne {S : Hs} {a b : Addr} {o : MO} (h : b ≠ a) : sup S a o b = S b := by unfold sup; rw [if_neg h]
theorem sup_sup {S : Hs} {a : Addr} {o u : MO} : sup (sup S a o) a u = sup S a u := by
  funext b; unfold sup; split <;> rfl
theorem sdel_sup {S : Hs} {a : Addr} {o : MO} (h : S a = none) : sdel (sup S a o) a = S := by
  funext b; unfold sdel sup
  by_cases e : b = a
  · subst e; simp [h]
  · simp [e]
theorem sup_comm {S : Hs} {a b : Addr} {o u : MO} (h : a ≠ b) : sup (sup S a o) b u = sup (sup S b u) a o := by
  funext c; unfold sup
  by_cases e : c = b
  · subst e
    have : c ≠ a := fun z => h z.symm
    simp [this]
  · simp [e]
theorem sup_self {S : Hs} {a : Addr} {o : MO} (h : S a = some o) : sup S a o = S := by
  funext b; unfold sup
  by_cases e : b = a
  · subst e; simp [h]
  · simp [e]
theorem sne {S : Hs} {a b : Addr} {o : MO} (h : S a = some o) (h' : S b = none) : a ≠ b := by
  intro e; subst e; rw [h] at h'; cases h'

/-! ### what a value is -/
def StL (K : PySem.W.Frag) (a : Addr) (xs : List V) : Prop := ∃ (o : Obj) (its : Array Value) (n : Nat), K.lookup a = some o ∧ o.cls = .type "list" ∧ o.dict = none ∧ o.data = .seq its n ∧ its.size ≤ sizeLine ∧ Vals xs its.toList
def StT (K : PySem.W.Frag) (a : Addr) (xs : List V) : Prop := ∃ (o : Obj) (its : Array Value) (n : Nat), K.lookup a = some o ∧ o.cls = .type "tuple" ∧ o.data = .seq its n ∧ its.size ≤ sizeLine ∧ Vals xs its.toList

section
variable (K : PySem.W.Frag)
mutual
inductive Dv (S : Hs) (H : Hp) : V → D → Prop
  | non : Dv S H .non .non
  | bl (b : Bool) : Dv S H (.bl b) (.bl b)
  | int (i : Int) : Dv S H (.int i) (.int i)
  | str (x : Str) : Dv S H (.str x) (.str x)
  | ty (n : String) : Dv S H (.ty n) (.ty n)
  | ref (a : Addr) : Dv S H (.ref a) (.ref a)
  | lst {a : Addr} {vs : List V} {ds : List D} : S a = none → Rd H a (.lst vs) → DvA S H vs ds → Dv S H (.ref a) (.lst ds)
  | lstK {a : Addr} {vs : List V} {ds : List D} : StL K a vs → DvA S H vs ds → Dv S H (.ref a) (.lst ds)
  | tup {a : Addr} {vs : List V} {ds : List D} : S a = none → H a = some (.tup vs) → DvA S H vs ds → Dv S H (.ref a) (.tup ds)
  | tupK {a : Addr} {vs : List V} {ds : List D} : StT K a vs → DvA S H vs ds → Dv S H (.ref a) (.ctp ds)
  | fnp {f c : Addr} {q : Str} {fz : Addr → Prop} {H0 : Hp} : S c = none → H c = some (LamX.CodeO c q) → (∀ a o, H0 a = some o → fz a → (∀ ps, o ≠ .tbl ps) → H a = some o ∧ S a = none) → Dv S H (.ref f) (.fnp f c q fz H0)
inductive DvA (S : Hs) (H : Hp) : List V → List D → Prop
  | nil : DvA S H [] []
  | cons {v : V} {d : D} {vs : List V} {ds : List D} : Dv S H v d → DvA S H vs ds → DvA S H (v :: vs) (d :: ds)
end
end

section
variable {K : PySem.W.Frag} {S S' S1 S2 S3 : Hs} {H H' H1 H2 H3 : Hp} {a : Addr} {v : V} {d : D} {vs : List V} {ds : List D}
theorem Dv.sql {a : Addr} (h : Dv K S H (.ref a) (.lst ds)) : ∃ vs, SqL K H a vs ∧ DvA K S H vs ds := by
  cases h with
  | lst h1 h2 h3 => exact ⟨_, Or.inl h2, h3⟩
  | lstK h1 h3 => exact ⟨_, Or.inr h1, h3⟩
theorem Dv.sqt {a : Addr} (h : Dv K S H (.ref a) (.tup ds)) : ∃ vs, SqT K H a vs ∧ DvA K S H vs ds := by
  cases h with
  | tup h1 h2 h3 => exact ⟨_, .inl (.inl h2), h3⟩
theorem Dv.of_lst {v : V} (h : Dv K S H v (.lst ds)) : ∃ a vs, v = .ref a ∧ SqL K H a vs ∧ DvA K S H vs ds := by
  cases h with
  | lst h1 h2 h3 => exact ⟨_, _, rfl, Or.inl h2, h3⟩
  | lstK h1 h3 => exact ⟨_, _, rfl, Or.inr h1, h3⟩
theorem Dv.of_tup {v : V} (h : Dv K S H v (.tup ds)) : ∃ a vs, v = .ref a ∧ SqT K H a vs ∧ DvA K S H vs ds := by
  cases h with
  | tup h1 h2 h3 => exact ⟨_, _, rfl, .inl (.inl h2), h3⟩
theorem Dv.made {v : V} (h : Dv K S H v (.tup ds)) : ∃ a vs, v = .ref a ∧ H a = some (.tup vs) ∧ DvA K S H vs ds := by
  cases h with
  | tup h1 h2 h3 => exact ⟨_, _, rfl, h2, h3⟩
theorem Dv.sqc {a : Addr} (h : Dv K S H (.ref a) (.ctp ds)) : ∃ vs, SqT K H a vs ∧ DvA K S H vs ds := by
  cases h with
  | tupK h1 h3 => exact ⟨_, .inr h1, h3⟩
theorem Dv.of_ctp {v : V} (h : Dv K S H v (.ctp ds)) : ∃ a vs, v = .ref a ∧ SqT K H a vs ∧ DvA K S H vs ds := by
  cases h with
  | tupK h1 h3 => exact ⟨_, _, rfl, .inr h1, h3⟩
theorem DvA.len : ∀ {vs : List V} {ds : List D}, DvA K S H vs ds → vs.length = ds.length
  | _, _, .nil => rfl
  | _, _, .cons _ t => congrArg (· + 1) (DvA.len t)
theorem DvA.get : ∀ {vs : List V} {ds : List D} {i : Nat} {d : D}, DvA K S H vs ds → ds[i]? = some d → ∃ v, vs[i]? = some v ∧ Dv K S H v d
  | _, _, _, _, .nil, e => by simp at e
  | _, _, 0, _, .cons r _, e => by simp at e; subst e; exact ⟨_, rfl, r⟩
  | _, _, i + 1, _, .cons _ t, e => by
    obtain ⟨v, h1, h2⟩ := DvA.get (i := i) t (by simpa using e)
    exact ⟨v, by simpa using h1, h2⟩
theorem DvA.get' : ∀ {vs : List V} {ds : List D} {i : Nat} {v : V}, DvA K S H vs ds → vs[i]? = some v → ∃ d, ds[i]? = some d ∧ Dv K S H v d
  | _, _, _, _, .nil, e => by simp at e
  | _, _, 0, _, .cons r _, e => by simp at e; subst e; exact ⟨_, rfl, r⟩
  | _, _, i + 1, _, .cons _ t, e => by
    obtain ⟨v, h1, h2⟩ := DvA.get' (i := i) t (by simpa using e)
    exact ⟨v, by simpa using h1, h2⟩
theorem DvA.append : ∀ {vs ws : List V} {ds es : List D}, DvA K S H vs ds → DvA K S H ws es → DvA K S H (vs ++ ws) (ds ++ es)
  | _, _, _, _, .nil, s => s
  | _, _, _, _, .cons r t, s => .cons r (DvA.append t s)
theorem DvA.take : ∀ (n : Nat) {vs : List V} {ds : List D}, DvA K S H vs ds → DvA K S H (vs.take n) (ds.take n)
  | 0, _, _, _ => by simpa using DvA.nil
  | _ + 1, _, _, .nil => by simpa using DvA.nil
  | n + 1, _, _, .cons r t => by simpa using DvA.cons r (DvA.take n t)
theorem DvA.drop : ∀ (n : Nat) {vs : List V} {ds : List D}, DvA K S H vs ds → DvA K S H (vs.drop n) (ds.drop n)
  | 0, _, _, r => by simpa using r
  | _ + 1, _, _, .nil => by simpa using DvA.nil
  | n + 1, _, _, .cons r t => by simpa using DvA.drop n t
theorem DvA.set {v : V} {d : D} (r : Dv K S H v d) : ∀ (n : Nat) {vs : List V} {ds : List D}, DvA K S H vs ds → DvA K S H (vs.set n v) (ds.set n d)
  | _, _, _, .nil => by simpa using DvA.nil
  | 0, _, _, .cons _ t => by simpa using DvA.cons r t
  | n + 1, _, _, .cons q t => by simpa using DvA.cons q (DvA.set r n t)
theorem DvA.reverse : ∀ {vs : List V} {ds : List D}, DvA K S H vs ds → DvA K S H vs.reverse ds.reverse
  | _, _, .nil => by simpa using DvA.nil
  | _, _, .cons r t => by
    simp only [List.reverse_cons]
    exact (DvA.reverse t).append (.cons r .nil)
theorem DvA.ints : ∀ (ns : List Int), DvA K S H (ns.map V.int) (ns.map D.int)
  | [] => .nil
  | n :: r => .cons (.int n) (DvA.ints r)
theorem DvA.of_ints : ∀ {ns : List Int} {vs : List V}, DvA K S H vs (ns.map D.int) → vs = ns.map V.int
  | [], _, h => by
    cases h
    rfl
  | n :: r, _, h => by
    cases h with
    | cons a b =>
      cases a
      rw [DvA.of_ints b]
      rfl

/-! ### the frame: what is not live stays -/
def Fk (S : Hs) (H : Hp) (S' : Hs) (H' : Hp) : Prop := ∀ a o, H a = some o → S a = none → (∀ ps, o ≠ .tbl ps) → H' a = some o ∧ S' a = none
structure Fr (S : Hs) (H : Hp) (S' : Hs) (H' : Hp) : Prop where
  keep : Fk S H S' H'
  frz : ∀ a o u, H a = some (.frz o u) → H' a = some (.frz o u)
theorem Fr.refl (S : Hs) (H : Hp) : Fr S H S H := ⟨fun _ _ h s _ => ⟨h, s⟩, fun _ _ _ h => h⟩
theorem Fr.trans (f : Fr S1 H1 S2 H2) (g : Fr S2 H2 S3 H3) : Fr S1 H1 S3 H3 := ⟨fun a o h s n => by
  obtain ⟨h2, s2⟩ := f.keep a o h s n
  exact g.keep a o h2 s2 n, fun a o u h => g.frz a o u (f.frz a o u h)⟩
theorem Fk.rd {u : HO} (f : Fk S H S' H') (s : S a = none) (n : ∀ ps, u ≠ .tbl ps) (h : Rd H a u) : Rd H' a u ∧ S' a = none := by
  rcases h with h | ⟨o, h⟩
  · obtain ⟨h2, s2⟩ := f a _ h s n
    exact ⟨.inl h2, s2⟩
  · obtain ⟨h2, s2⟩ := f a _ h s (fun _ z => by cases z)
    exact ⟨.inr ⟨o, h2⟩, s2⟩
mutual
theorem Dv.monoK (f : Fk S H S' H') : ∀ {v : V} {d : D}, Dv K S H v d → Dv K S' H' v d
  | _, _, .non => .non
  | _, _, .bl b => .bl b
  | _, _, .int i => .int i
  | _, _, .str x => .str x
  | _, _, .ty n => .ty n
  | _, _, .ref a => .ref a
  | _, _, .lst s h t => by
    obtain ⟨h2, s2⟩ := f.rd s (fun _ z => by cases z) h
    exact .lst s2 h2 (DvA.monoK f t)
  | _, _, .lstK h t => .lstK h (DvA.monoK f t)
  | _, _, .tup s h t => by
    obtain ⟨h2, s2⟩ := f _ _ h s (fun _ z => by cases z)
    exact .tup s2 h2 (DvA.monoK f t)
  | _, _, .tupK h t => .tupK h (DvA.monoK f t)
  | _, _, .fnp s h k => by
    obtain ⟨h2, s2⟩ := f _ _ h s LamX.codeO_ne
    exact .fnp s2 h2 fun a o e z n => by
      obtain ⟨e2, z2⟩ := k a o e z n
      exact f a o e2 z2 n
theorem DvA.monoK (f : Fk S H S' H') : ∀ {vs : List V} {ds : List D}, DvA K S H vs ds → DvA K S' H' vs ds
  | _, _, .nil => .nil
  | _, _, .cons a b => .cons (Dv.monoK f a) (DvA.monoK f b)
end
theorem Dv.mono (f : Fr S H S' H') {v : V} {d : D} (h : Dv K S H v d) : Dv K S' H' v d := Dv.monoK f.keep h
theorem DvA.mono (f : Fr S H S' H') {vs : List V} {ds : List D} (h : DvA K S H vs ds) : DvA K S' H' vs ds := DvA.monoK f.keep h
end

/-! ### the live objects -/
def KvD {κ : Type} (K : PySem.W.Frag) (S : Hs) (H : Hp) : List (κ × D) → List (κ × V) → Prop := Paired fun p q => p.1 = q.1 ∧ Dv K S H q.2 p.2
def MoOk (K : PySem.W.Frag) (S : Hs) (H : Hp) : MO → HO → Prop
  | .lst ds, .lst vs => DvA K S H vs ds
  | .dK kd, .dK kv => KvD K S H kd kv
  | .dT kd, .dT kv => KvD K S H kd kv
  | .zK kd, .frz _ u => match u with
    | .dK kv => KvD K S H kd kv
    | _ => False
  | .zT kd, .frz _ u => match u with
    | .dT kv => KvD K S H kd kv
    | _ => False
  | .xd fd, .xd fv => KvD K S H fd fv
  | .ins C fd, .ins C' _ fv => C = C' ∧ KvD K S H fd fv
  | .tab q, .tbl ps => TriplesOk ps.toList ∧ ∀ (pos : Pos) (cv : Value), codeAmong pos ps.toList = some cv → ∃ c, cv = .ref c ∧ H c = some (LamX.CodeO c q) ∧ S c = none
  | _, _ => False
def Rs (K : PySem.W.Frag) (S : Hs) (H : Hp) : Prop := ∀ a o, S a = some o → ∃ u, H a = some u ∧ MoOk K S H o u
def Rr (K : PySem.W.Frag) (S : Hs) (H : Hp) (σ : St) (ρ : List (Option D)) : Prop := σ.length = ρ.length ∧ ∀ (i : Nat) (d : D), ρ[i]? = some (some d) → ∃ v, σ[i]? = some (some v) ∧ Dv K S H v d
section
variable {K : PySem.W.Frag} {S S' S1 S2 S3 : Hs} {H H' H1 H2 H3 : Hp} {a : Addr} {v : V} {d : D} {vs : List V} {ds : List D} {σ : St} {ρ : List (Option D)}
theorem KvD.monoK {κ : Type} (f : Fk S H S' H') {kd : List (κ × D)} {kv : List (κ × V)} (h : KvD K S H kd kv) : KvD K S' H' kd kv := Paired.mapP h fun _ _ z => ⟨z.1, z.2.monoK f⟩
theorem MoOk.zk {kd : List (Key × D)} {u : HO} (h : MoOk K S H (.zK kd) u) : ∃ od kv, u = .frz od (.dK kv) ∧ KvD K S H kd kv := by
  cases u with
  | frz od u =>
    cases u with
    | dK kv => exact ⟨od, kv, rfl, h⟩
    | _ => exact (show False from h).elim
  | _ => exact (show False from h).elim
theorem MoOk.zt {kd : List (List Key × D)} {u : HO} (h : MoOk K S H (.zT kd) u) : ∃ od kv, u = .frz od (.dT kv) ∧ KvD K S H kd kv := by
  cases u with
  | frz od u =>
    cases u with
    | dT kv => exact ⟨od, kv, rfl, h⟩
    | _ => exact (show False from h).elim
  | _ => exact (show False from h).elim
theorem MoOk.monoK (f : Fk S H S' H') {o : MO} {u : HO} (h : MoOk K S H o u) : MoOk K S' H' o u := by
  cases o with
  | zK kd => obtain ⟨od, kv, rfl, h⟩ := h.zk; exact KvD.monoK f h
  | zT kd => obtain ⟨od, kv, rfl, h⟩ := h.zt; exact KvD.monoK f h
  | tab q =>
    cases u with
    | tbl ps =>
      refine ⟨(show _ ∧ _ from h).1, fun pos cv hc => ?_⟩
      obtain ⟨c, e1, e2, e3⟩ := (show _ ∧ _ from h).2 pos cv hc
      exact ⟨c, e1, f c _ e2 e3 LamX.codeO_ne⟩
    | _ => exact (show False from h).elim
  | _ => cases u <;> first
    | exact (show False from h).elim
    | exact DvA.monoK f (show DvA K S H _ _ from h)
    | exact KvD.monoK f (show KvD K S H _ _ from h)
    | exact ⟨(show _ = _ ∧ _ from h).1, KvD.monoK f (show _ = _ ∧ _ from h).2⟩
theorem KvD.mono {κ : Type} (f : Fr S H S' H') {kd : List (κ × D)} {kv : List (κ × V)} (h : KvD K S H kd kv) : KvD K S' H' kd kv := KvD.monoK f.keep h
theorem MoOk.mono (f : Fr S H S' H') {o : MO} {u : HO} (h : MoOk K S H o u) : MoOk K S' H' o u := MoOk.monoK f.keep h
theorem Rs.free (r : Rs K S H) (h : H a = none) : S a = none := by
  cases e : S a with
  | none => rfl
  | some o =>
    obtain ⟨u, hu, _⟩ := r a o e
    rw [h] at hu
    cases hu
theorem Rr.mono (f : Fr S H S' H') (h : Rr K S H σ ρ) : Rr K S' H' σ ρ := ⟨h.1, fun i d e => by
  obtain ⟨v, e1, e2⟩ := h.2 i d e
  exact ⟨v, e1, e2.mono f⟩⟩
theorem Rr.monoK (h : Rr K S H σ ρ) (f : Fk S H S' H') : Rr K S' H' σ ρ := ⟨h.1, fun i d e => by
  obtain ⟨v, e1, e2⟩ := h.2 i d e
  exact ⟨v, e1, e2.monoK f⟩⟩
theorem Rr.set (h : Rr K S H σ ρ) (i : Nat) (r : Dv K S H v d) : Rr K S H (σ.set i (some v)) (ρ.set i (some d)) := by
  refine ⟨by simp [h.1], fun j e q => ?_⟩
  by_cases hj : i = j
  · subst hj
    by_cases hl : i < ρ.length
    · rw [List.getElem?_set_self hl] at q
      cases q
      exact ⟨v, by rw [List.getElem?_set_self (by rw [h.1]; exact hl)], r⟩
    · rw [List.getElem?_eq_none (by simpa using hl)] at q
      cases q
  · rw [List.getElem?_set_ne hj] at q ⊢
    exact h.2 j e q
theorem Rr.setN (h : Rr K S H σ ρ) (i : Nat) : Rr K S H (σ.set i none) (ρ.set i none) := by
  refine ⟨by simp [h.1], fun j e q => ?_⟩
  by_cases hj : i = j
  · subst hj
    by_cases hl : i < ρ.length
    · rw [List.getElem?_set_self hl] at q
      cases q
    · rw [List.getElem?_eq_none (by simpa using hl)] at q
      cases q
  · rw [List.getElem?_set_ne hj] at q ⊢
    exact h.2 j e q
/-- a new object that nobody changes -/
theorem fr_new {p : Addr} {o : HO} (h : H p = none) : Fr S H S (upd H p o) := ⟨fun a u e s _ => ⟨by rw [upd_ne (ne_of_none e h)]; exact e, s⟩, fun a u v e => by rw [upd_ne (ne_of_none e h)]; exact e⟩
theorem rs_new {p : Addr} {o : HO} (r : Rs K S H) (h : H p = none) : Rs K S (upd H p o) := fun a u e => by
  obtain ⟨w, e1, e2⟩ := r a u e
  exact ⟨w, by rw [upd_ne (ne_of_none e1 h)]; exact e1, e2.mono (fr_new h)⟩
/-- a new live object -/
theorem fr_live {p : Addr} {o : HO} {m : MO} (h : H p = none) : Fr S H (sup S p m) (upd H p o) := ⟨fun a u e s _ => by
  have n := ne_of_none e h
  exact ⟨by rw [upd_ne n]; exact e, by rw [sup_ne n]; exact s⟩, fun a u v e => by rw [upd_ne (ne_of_none e h)]; exact e⟩
theorem rs_live {p : Addr} {o : HO} {m : MO} (r : Rs K S H) (h : H p = none) (k : MoOk K (sup S p m) (upd H p o) m o) : Rs K (sup S p m) (upd H p o) := fun a u e => by
  by_cases q : a = p
  · subst q
    rw [sup_same] at e
    cases e
    exact ⟨o, upd_same, k⟩
  · rw [sup_ne q] at e
    obtain ⟨w, e1, e2⟩ := r a u e
    exact ⟨w, by rw [upd_ne q]; exact e1, e2.mono (fr_live h)⟩
/-- a live object changes -/
def MO.z : MO → Bool
  | .zK _ => true | .zT _ => true | _ => false
theorem rs_nofrz {p : Addr} {m0 : MO} (r : Rs K S H) (h : S p = some m0) (z : m0.z = false) : ∀ o u, H p ≠ some (.frz o u) := fun o u e => by
  obtain ⟨w, e1, e2⟩ := r p _ h
  rw [e] at e1
  cases e1
  cases m0 <;> first | exact (show False from e2) | cases z
theorem fr_mut {p : Addr} {o : HO} {m m0 : MO} (r : Rs K S H) (h : S p = some m0) (z : m0.z = false := by rfl) : Fr S H (sup S p m) (upd H p o) := ⟨fun a u e s _ => by
  have n : a ≠ p := fun z => by rw [z, h] at s; cases s
  exact ⟨by rw [upd_ne n]; exact e, by rw [sup_ne n]; exact s⟩, fun a u v e => by
  have n : a ≠ p := fun q => rs_nofrz r h z u v (by rw [← q]; exact e)
  rw [upd_ne n]; exact e⟩
theorem rs_mut {p : Addr} {o : HO} {m m0 : MO} (r : Rs K S H) (h : S p = some m0) (k : MoOk K (sup S p m) (upd H p o) m o) (z : m0.z = false := by rfl) : Rs K (sup S p m) (upd H p o) := fun a u e => by
  by_cases q : a = p
  · subst q
    rw [sup_same] at e
    cases e
    exact ⟨o, upd_same, k⟩
  · rw [sup_ne q] at e
    obtain ⟨w, e1, e2⟩ := r a u e
    exact ⟨w, by rw [upd_ne q]; exact e1, e2.mono (fr_mut r h z)⟩
/-- a live object is live no more -/
theorem fr_del {p : Addr} : Fr S H (sdel S p) H := ⟨fun a u e s _ => ⟨e, by unfold sdel; split; rfl; exact s⟩, fun _ _ _ e => e⟩
theorem rs_del {p : Addr} (r : Rs K S H) : Rs K (sdel S p) H := fun a u e => by
  unfold sdel at e
  split at e
  · cases e
  · obtain ⟨w, e1, e2⟩ := r a u e
    exact ⟨w, e1, e2.mono fr_del⟩
theorem sdel_at {p : Addr} : sdel S p p = none := by unfold sdel; rw [if_pos rfl]
/-- .. and read as data -/
theorem dv_frz {p : Addr} (r : Rs K S H) (h : S p = some (.lst ds)) : Dv K (sdel S p) H (.ref p) (.lst ds) := by
  obtain ⟨u, e1, e2⟩ := r p _ h
  cases u with
  | lst vs => exact .lst sdel_at (.inl e1) (DvA.mono fr_del e2)
  | _ => exact (show False from e2).elim
theorem rs_lst {p : Addr} (r : Rs K S H) (h : S p = some (.lst ds)) : ∃ vs, H p = some (.lst vs) ∧ DvA K S H vs ds := by
  obtain ⟨u, e1, e2⟩ := r p _ h
  cases u with
  | lst vs => exact ⟨vs, e1, e2⟩
  | _ => exact (show False from e2).elim
theorem rs_ins {p C : Addr} {fd : List (Str × D)} (r : Rs K S H) (h : S p = some (.ins C fd)) : ∃ dx fv, H p = some (.ins C dx fv) ∧ KvD K S H fd fv := by
  obtain ⟨u, e1, e2⟩ := r p _ h
  cases u with
  | ins C' dx fv =>
    obtain ⟨rfl, e3⟩ : C = C' ∧ _ := e2
    exact ⟨dx, fv, e1, e3⟩
  | _ => exact (show False from e2).elim
end

/-! ### exceptions -/
/-- its class; where its fields lie -/
structure XD where
  C : Addr
  p : Option Addr
def XRel (K : PySem.W.Frag) (S : Hs) (H : Hp) (cls : Value) (dx : Option Addr) (x : XD) : Prop := cls = .ref x.C ∧ dx = x.p

/-! ### wishes -/
abbrev QD := D → Hs → Prop
abbrev XQ := XD → Hs → Prop
def EndQ (K : PySem.W.Frag) (S : Hs) (H : Hp) (Q' : QD) (Q : VK) : Prop := ∀ v H' d S', Rs K S' H' → Fr S H S' H' → Dv K S' H' v d → Q' d S' → Q v H'
def EndX (K : PySem.W.Frag) (S : Hs) (H : Hp) (X' : XQ) (E : XK) : Prop := ∀ cls dx H' x S', Rs K S' H' → Fr S H S' H' → XRel K S' H' cls dx x → X' x S' → E cls dx H'
/-- an expression's wish: by the names, the live objects -/
abbrev WE := List (Option D) → Hs → QD → XQ → Prop
abbrev WB := List (Option D) → Hs → (Bool → Hs → Prop) → XQ → Prop
abbrev WA := List (Option D) → Hs → (List D → Hs → Prop) → XQ → Prop
def tDE (K : PySem.W.Frag) (W : WX) (w : WE) : TE := fun σ H Q => ∃ ρ S Q' X', Rs K S H ∧ Rr K S H σ ρ ∧ w ρ S Q' X' ∧ EndQ K S H Q' Q ∧ EndX K S H X' (fun c d H' => W c d σ H')
def tDB (K : PySem.W.Frag) (W : WX) (w : WB) : TT := fun σ H Q => ∃ ρ S Q' X', Rs K S H ∧ Rr K S H σ ρ ∧ w ρ S Q' X' ∧ (∀ b H' S', Rs K S' H' → Fr S H S' H' → Q' b S' → Q b H') ∧ EndX K S H X' (fun c d H' => W c d σ H')
def tDA (K : PySem.W.Frag) (W : WX) (w : WA) : TA := fun σ H Q => ∃ ρ S Q' X', Rs K S H ∧ Rr K S H σ ρ ∧ w ρ S Q' X' ∧ (∀ vs H' ds S', Rs K S' H' → Fr S H S' H' → DvA K S' H' vs ds → Q' ds S' → Q vs H') ∧ EndX K S H X' (fun c d H' => W c d σ H')
structure DE where
  nx : List (Option D) → Hs → Prop
  rt : QD
  bk : List (Option D) → Hs → Prop := fun _ _ => False
  ct : List (Option D) → Hs → Prop := fun _ _ => False
  ex : XD → List (Option D) → Hs → Prop := fun _ _ _ => False
abbrev WT := DE → List (Option D) → Hs → Prop
def tDT (K : PySem.W.Frag) (W : WX) (w : WT) : TS := fun D0 σ H => ∃ ρ S D', Rs K S H ∧ Rr K S H σ ρ ∧ w D' ρ S ∧
  (∀ σ' H' ρ' S', Rs K S' H' → Fr S H S' H' → Rr K S' H' σ' ρ' → D'.nx ρ' S' → D0.nx σ' H') ∧
  (∀ σ' H' ρ' S', Rs K S' H' → Fr S H S' H' → Rr K S' H' σ' ρ' → D'.bk ρ' S' → D0.bk σ' H') ∧
  (∀ σ' H' ρ' S', Rs K S' H' → Fr S H S' H' → Rr K S' H' σ' ρ' → D'.ct ρ' S' → D0.ct σ' H') ∧
  (∀ v H' d S', Rs K S' H' → Fr S H S' H' → Dv K S' H' v d → D'.rt d S' → D0.rt v H') ∧
  (∀ cls dx σ' H' x ρ' S', Rs K S' H' → Fr S H S' H' → Rr K S' H' σ' ρ' → XRel K S' H' cls dx x → D'.ex x ρ' S' → W cls dx σ' H')

theorem _root_.L2.PE.imp {X : Cx} {e : Expr} {t t' : TE} (h : PE X e t) (k : ∀ σ H Q, t' σ H Q → t σ H Q) : PE X e t' := ⟨fun pins s σ H Q I q => h.run pins s σ H Q I (k _ _ _ q)⟩
theorem _root_.L2.PT.imp {X : Cx} {e : Expr} {t t' : TT} (h : PT X e t) (k : ∀ σ H Q, t' σ H Q → t σ H Q) : PT X e t' := ⟨fun pins s σ H Q I q => h.run pins s σ H Q I (k _ _ _ q)⟩
theorem _root_.L2.PA.imp {X : Cx} {e : List Expr} {t t' : TA} (h : PA X e t) (k : ∀ σ H Q, t' σ H Q → t σ H Q) : PA X e t' := ⟨fun pos pins s σ H Q I q => h.run pos pins s σ H Q I (k _ _ _ q)⟩
theorem _root_.L2.PS.imp {X : Cx} {e : Stmt} {t t' : TS} (h : PS X e t) (k : ∀ σ H Q, t' σ H Q → t σ H Q) : PS X e t' := ⟨fun pins s σ H Q I q => h.run pins s σ H Q I (k _ _ _ q)⟩
theorem _root_.L2.PSs.imp {X : Cx} {e : List Stmt} {t t' : TS} (h : PSs X e t) (k : ∀ σ H Q, t' σ H Q → t σ H Q) : PSs X e t' := ⟨fun pins s σ H Q I q => h.run pins s σ H Q I (k _ _ _ q)⟩
end Dz
namespace Dz
open PySem L2

/-! ### data as the library has it -/
mutual
def D.py : D → PyData
  | .non => .none | .bl b => .bool b | .int i => .int i | .str x => .str x
  | .tup xs => .tuple (D.pys xs) | .lst xs => .list (D.pys xs)
  | .ctp xs => .tuple (D.pys xs)
  | .ref _ => .dict [] | .ty _ => .dict [] | .fnp _ _ _ _ _ => .dict []
def D.pys : List D → List PyData
  | [] => [] | x :: r => x.py :: D.pys r
end
mutual
def D.pure : D → Bool
  | .non => true | .bl _ => true | .int _ => true | .str _ => true
  | .tup xs => D.pures xs | .lst xs => D.pures xs
  | .ctp xs => D.pures xs
  | .ref _ => false | .ty _ => false | .fnp _ _ _ _ _ => false
def D.pures : List D → Bool
  | [] => true | x :: r => x.pure && D.pures r
end
def D.ok (d : D) : Bool := d.pure && SeqAt.shaped d.py
def D.eq (d e : D) : Bool := PyData.eqv d.py e.py
/-- a list, frozen or live -/
def lstOf (S : Hs) : D → Option (List D)
  | .lst xs => some xs
  | .ref a => match S a with | some (.lst xs) => some xs | _ => none
  | _ => none
/-- a list or a tuple -/
def seqOf (S : Hs) : D → Option (List D)
  | .tup xs => some xs
  | .ctp xs => some xs
  | d => lstOf S d
/-! ### dicts, by data -/
def keyD : Key → D
  | .inl i => .int i | .inr x => .str x
def D.key : D → Option Key
  | .int i => some (.inl i) | .str x => some (.inr x) | _ => none
def keysOf : List D → Option (List Key)
  | [] => some []
  | d :: r => match d.key, keysOf r with
    | some k, some ks => some (k :: ks)
    | _, _ => none
section
variable {κ : Type} [DecidableEq κ]
def valD (kvs : List (κ × D)) (k : κ) : Option D := (kvs.find? fun kv => decide (kv.1 = k)).map (·.2)
def putD (kvs : List (κ × D)) (k : κ) (v : D) : List (κ × D) :=
  if (kvs.any fun kv => decide (kv.1 = k)) = true then kvs.map (fun kv => if kv.1 = k then (kv.1, v) else kv) else kvs ++ [(k, v)]
def dropD (kvs : List (κ × D)) (k : κ) : List (κ × D) := kvs.filter fun kv => decide (kv.1 ≠ k)
def mergeD (kvs more : List (κ × D)) : List (κ × D) := more.foldl (fun acc kv => putD acc kv.1 kv.2) kvs
end
/-- what the dict at a holds at the key d -/
def dgetR (S : Hs) (a : Addr) (d : D) (o : Option D) : Prop :=
  (∃ kvs k, (S a = some (.dK kvs) ∨ S a = some (.zK kvs)) ∧ d.key = some k ∧ o = valD kvs k) ∨
  ∃ kvs ds k, (S a = some (.dT kvs) ∨ S a = some (.zT kvs)) ∧ d = .tup ds ∧ keysOf ds = some k ∧ o = valD kvs k
def dputR (S : Hs) (a : Addr) (d v : D) (Q : Hs → Prop) : Prop :=
  (∃ kvs k, S a = some (.dK kvs) ∧ d.key = some k ∧ kvs.length < sizeLine ∧ Q (sup S a (.dK (putD kvs k v)))) ∨
  ∃ kvs ds k, S a = some (.dT kvs) ∧ d = .tup ds ∧ keysOf ds = some k ∧ kvs.length < sizeLine ∧ Q (sup S a (.dT (putD kvs k v)))
section
variable {K : PySem.W.Frag} {S S' : Hs} {H H' : Hp} {v : V} {d : D} {κ : Type} [DecidableEq κ] {kd : List (κ × D)} {kv : List (κ × V)}
theorem key_V {k : Key} (h : Dv K S H v d) (e : d.key = some k) : v = kV k := by
  cases h <;> first | (cases e; rfl) | cases e
theorem keyD_dv (k : Key) : Dv K S H (kV k) (keyD k) := by
  cases k
  · exact .int _
  · exact .str _
theorem keys_V : ∀ {vs : List V} {ds : List D} {ks : List Key}, DvA K S H vs ds → keysOf ds = some ks → vs = ks.map kV
  | _, _, _, .nil, e => by cases e; rfl
  | _, _, _, .cons a b, e => by
    unfold keysOf at e
    split at e
    · rename_i e1 e2
      cases e
      rw [List.map_cons, key_V a e1, keys_V b e2]
    · cases e
theorem kvd_val (h : KvD K S H kd kv) (k : κ) : match valD kd k, valV kv k with
    | some x, some y => Dv K S H y x
    | none, none => True
    | _, _ => False := by
  unfold KvD at h
  induction h with
  | nil => trivial
  | @cons p q ps qs hd tl ih =>
    unfold valD valV at ih ⊢
    rw [List.find?_cons, List.find?_cons]
    rw [← hd.1]
    by_cases e : p.1 = k
    · simp only [e, decide_true]
      exact hd.2
    · simp only [e, decide_false]
      exact ih
theorem kvd_any (h : KvD K S H kd kv) (k : κ) : (kd.any fun x => decide (x.1 = k)) = kv.any fun x => decide (x.1 = k) := by
  unfold KvD at h
  induction h with
  | nil => rfl
  | @cons p q ps qs hd tl ih => rw [List.any_cons, List.any_cons, ih, hd.1]
theorem kvd_append {kd2 : List (κ × D)} {kv2 : List (κ × V)} (h : KvD K S H kd kv) (h2 : KvD K S H kd2 kv2) : KvD K S H (kd ++ kd2) (kv ++ kv2) := by
  unfold KvD at h h2 ⊢
  induction h with
  | nil => exact h2
  | cons hd tl ih => exact .cons hd ih
theorem kvd_map (h : KvD K S H kd kv) (k : κ) {x : D} (hv : Dv K S H v x) : KvD K S H (kd.map fun p => if p.1 = k then (p.1, x) else p) (kv.map fun p => if p.1 = k then (p.1, v) else p) := by
  unfold KvD at h ⊢
  induction h with
  | nil => exact .nil
  | @cons p q ps qs hd tl ih =>
    rw [List.map_cons, List.map_cons]
    refine .cons ?_ ih
    by_cases e : p.1 = k
    · rw [if_pos e, if_pos (hd.1 ▸ e)]
      exact ⟨hd.1, hv⟩
    · rw [if_neg e, if_neg (hd.1 ▸ e)]
      exact hd
theorem kvd_put (h : KvD K S H kd kv) (k : κ) {x : D} (hv : Dv K S H v x) : KvD K S H (putD kd k x) (putK kv k v) := by
  unfold putD putK
  rw [kvd_any h k]
  split
  · exact kvd_map h k hv
  · exact kvd_append h (.cons ⟨rfl, hv⟩ .nil)
theorem kvd_merge {K : PySem.W.Frag} {S : Hs} {H : Hp} {kd : List (Key × D)} {kv : List (Key × V)} (h : KvD K S H kd kv) : ∀ {md : List (Key × D)} {mv : List (Key × V)}, KvD K S H md mv → KvD K S H (mergeD md kd) (mergeK mv kv) := by
  unfold KvD at h
  induction h with
  | nil => intro md mv q; exact q
  | @cons p q ps qs hd tl ih =>
    intro md mv z
    show KvD K S H (mergeD (putD md p.1 p.2) ps) (mergeK (putK mv q.1 q.2) qs)
    rw [← hd.1]
    exact ih (kvd_put z p.1 hd.2)
theorem kvd_drop (h : KvD K S H kd kv) (k : κ) : KvD K S H (dropD kd k) (dropK kv k) := by
  unfold KvD at h ⊢
  unfold dropD dropK
  induction h with
  | nil => exact .nil
  | @cons p q ps qs hd tl ih =>
    rw [List.filter_cons, List.filter_cons, ← hd.1]
    split
    · exact .cons hd ih
    · exact ih
theorem kvd_len (h : KvD K S H kd kv) : kd.length = kv.length := Paired.length h
theorem rs_dk {a : Addr} {kvs : List (Key × D)} (r : Rs K S H) (h : S a = some (.dK kvs)) : ∃ kv, H a = some (.dK kv) ∧ KvD K S H kvs kv := by
  obtain ⟨u, e1, e2⟩ := r a _ h
  cases u with
  | dK kv => exact ⟨kv, e1, e2⟩
  | _ => exact (show False from e2).elim
theorem rs_dt {a : Addr} {kvs : List (List Key × D)} (r : Rs K S H) (h : S a = some (.dT kvs)) : ∃ kv, H a = some (.dT kv) ∧ KvD K S H kvs kv := by
  obtain ⟨u, e1, e2⟩ := r a _ h
  cases u with
  | dT kv => exact ⟨kv, e1, e2⟩
  | _ => exact (show False from e2).elim
theorem rs_zk {a : Addr} {kvs : List (Key × D)} (r : Rs K S H) (h : S a = some (.zK kvs)) : ∃ od kv, H a = some (.frz od (.dK kv)) ∧ KvD K S H kvs kv := by
  obtain ⟨u, e1, e2⟩ := r a _ h
  obtain ⟨od, kv, rfl, e3⟩ := e2.zk
  exact ⟨od, kv, e1, e3⟩
theorem rs_zt {a : Addr} {kvs : List (List Key × D)} (r : Rs K S H) (h : S a = some (.zT kvs)) : ∃ od kv, H a = some (.frz od (.dT kv)) ∧ KvD K S H kvs kv := by
  obtain ⟨u, e1, e2⟩ := r a _ h
  obtain ⟨od, kv, rfl, e3⟩ := e2.zt
  exact ⟨od, kv, e1, e3⟩
theorem rs_kd {a : Addr} {kvs : List (Key × D)} (r : Rs K S H) (h : S a = some (.dK kvs) ∨ S a = some (.zK kvs)) : ∃ kv, Rd H a (.dK kv) ∧ KvD K S H kvs kv := by
  rcases h with h | h
  · obtain ⟨kv, e1, e2⟩ := rs_dk r h
    exact ⟨kv, .inl e1, e2⟩
  · obtain ⟨od, kv, e1, e2⟩ := rs_zk r h
    exact ⟨kv, .inr ⟨od, e1⟩, e2⟩
theorem rs_td {a : Addr} {kvs : List (List Key × D)} (r : Rs K S H) (h : S a = some (.dT kvs) ∨ S a = some (.zT kvs)) : ∃ kv, Rd H a (.dT kv) ∧ KvD K S H kvs kv := by
  rcases h with h | h
  · obtain ⟨kv, e1, e2⟩ := rs_dt r h
    exact ⟨kv, .inl e1, e2⟩
  · obtain ⟨od, kv, e1, e2⟩ := rs_zt r h
    exact ⟨kv, .inr ⟨od, e1⟩, e2⟩
end
section
variable {K : PySem.W.Frag} {S S' : Hs} {H H' : Hp} {v : V} {d : D} {vs : List V} {ds : List D}
mutual
theorem Dv.dp : ∀ {v : V} {d : D}, Dv K S H v d → d.pure = true → Dp K H v d.py
  | _, _, .non, _ => .non
  | _, _, .bl b, _ => .bl b
  | _, _, .int i, _ => .int i
  | _, _, .str x, _ => .str x
  | _, _, .ty n, h => by cases h
  | _, _, .ref a, h => by cases h
  | _, _, .lst s h t, p => .lst (.inl h) (DvA.dp t p)
  | _, _, .lstK h t, p => .lst (.inr h) (DvA.dp t p)
  | _, _, .tup s h t, p => .tup (.inl (.inl h)) (DvA.dp t p)
  | _, _, .tupK h t, p => .tup (.inr h) (DvA.dp t p)
  | _, _, .fnp _ _ _, h => by cases h
theorem DvA.dp : ∀ {vs : List V} {ds : List D}, DvA K S H vs ds → D.pures ds = true → DpAll K H vs (D.pys ds)
  | _, _, .nil, _ => .nil
  | _, _, .cons a b, h => by
    unfold D.pures at h
    rw [Bool.and_eq_true] at h
    exact .cons (Dv.dp a h.1) (DvA.dp b h.2)
end
theorem lstOf_ok (r : Rs K S H) (h : Dv K S H v d) (e : lstOf S d = some ds) : ∃ a vs, v = .ref a ∧ SqL K H a vs ∧ DvA K S H vs ds := by
  cases d with
  | lst xs =>
    cases e
    exact h.of_lst
  | ref a =>
    cases h
    unfold lstOf at e
    simp only at e
    split at e
    · rename_i q
      cases e
      obtain ⟨vs, e1, e2⟩ := rs_lst r q
      exact ⟨a, vs, rfl, .of e1, e2⟩
    · cases e
  | _ => cases e
theorem seqOf_ok (r : Rs K S H) (h : Dv K S H v d) (e : seqOf S d = some ds) : ∃ a vs, v = .ref a ∧ (SqL K H a vs ∨ SqT K H a vs) ∧ DvA K S H vs ds := by
  cases d with
  | tup xs =>
    cases e
    obtain ⟨a, vs, e1, e2, e3⟩ := h.of_tup
    exact ⟨a, vs, e1, .inr e2, e3⟩
  | ctp xs =>
    cases e
    obtain ⟨a, vs, e1, e2, e3⟩ := h.of_ctp
    exact ⟨a, vs, e1, .inr e2, e3⟩
  | lst xs =>
    obtain ⟨a, vs, e1, e2, e3⟩ := lstOf_ok r h (show lstOf S (.lst xs) = some ds from e)
    exact ⟨a, vs, e1, .inl e2, e3⟩
  | ref a =>
    obtain ⟨a, vs, e1, e2, e3⟩ := lstOf_ok r h (show lstOf S (.ref a) = some ds from e)
    exact ⟨a, vs, e1, .inl e2, e3⟩
  | _ => cases e
end
/-- a new list: nobody changes it, or it is live -/
def NewL (xs : List D) (S : Hs) (Q : QD) : Prop := Q (.lst xs) S ∨ ∀ p, S p = none → Q (.ref p) (sup S p (.lst xs))
section
variable {K : PySem.W.Frag} {S S' : Hs} {H H' : Hp} {v : V} {d : D} {vs : List V} {ds : List D} {Q' : QD} {Q : VK}
theorem newL_ok (r : Rs K S H) (a : DvA K S H vs ds) (q : NewL ds S Q') (e : EndQ K S H Q' Q) : ∀ p, H p = none → Q (.ref p) (upd H p (.lst vs)) := fun p hp => by
  rcases q with q | q
  · exact e _ _ _ _ (rs_new r hp) (fr_new hp) (.lst (r.free hp) (.inl upd_same) (a.mono (fr_new hp))) q
  · exact e _ _ _ _ (rs_live (m := .lst ds) (o := .lst vs) r hp (show DvA K _ _ vs ds from a.mono (fr_live hp))) (fr_live hp) (.ref p) (q p (r.free hp))
theorem newT_ok (r : Rs K S H) (a : DvA K S H vs ds) (q : Q' (.tup ds) S) (e : EndQ K S H Q' Q) : ∀ p, H p = none → Q (.ref p) (upd H p (.tup vs)) := fun p hp =>
  e _ _ _ _ (rs_new r hp) (fr_new hp) (.tup (r.free hp) upd_same (a.mono (fr_new hp))) q
/-- a value without an address -/
theorem end_now (r : Rs K S H) (x : Dv K S H v d) (q : Q' d S) (e : EndQ K S H Q' Q) : Q v H := e _ _ _ _ r (Fr.refl S H) x q
end

section
variable {K : PySem.W.Frag} {S S' : Hs} {H H' : Hp} {y v : V} {d e : D} {a : Addr} {o : Option D}
def OD (K : PySem.W.Frag) (S : Hs) (H : Hp) : Option D → Option V → Prop
  | some x, some y => Dv K S H y x
  | none, none => True
  | _, _ => False
theorem od_val {κ : Type} [DecidableEq κ] {kd : List (κ × D)} {kv : List (κ × V)} (h : KvD K S H kd kv) (k : κ) : OD K S H (valD kd k) (valV kv k) := by
  have := kvd_val h k
  unfold OD
  cases e1 : valD kd k <;> cases e2 : valV kv k <;> rw [e1, e2] at this <;> exact this
theorem OD.same {p : Option V} (h : OD K S H o p) : p.isSome = o.isSome := by
  cases o <;> cases p <;> first | rfl | exact h.elim
theorem OD.mono (f : Fr S H S' H') {p : Option V} (h : OD K S H o p) : OD K S' H' o p := by
  cases o <;> cases p <;> first | exact h | exact Dv.mono f h
theorem dget_ok (r : Rs K S H) (hy : Dv K S H y d) (h : dgetR S a d o) : ∃ p, DGet H a y p ∧ OD K S H o p := by
  rcases h with ⟨kvs, k, h, ek, rfl⟩ | ⟨kvs, ds, k, h, rfl, ek, rfl⟩
  · obtain ⟨kv, e1, e2⟩ := rs_kd r h
    exact ⟨_, .inl ⟨kv, k, e1, key_V hy ek, rfl⟩, od_val e2 k⟩
  · obtain ⟨kv, e1, e2⟩ := rs_td r h
    obtain ⟨b, vs, rfl, e3, e4⟩ := hy.made
    rw [keys_V e4 ek] at e3
    exact ⟨_, .inr ⟨kv, k, b, e1, rfl, e3, rfl⟩, od_val e2 k⟩
theorem dput_ok {Q : Hs → Prop} (r : Rs K S H) (hy : Dv K S H y d) (hv : Dv K S H v e) (h : dputR S a d e Q) : ∃ H' S', DPut H a y v H' ∧ Rs K S' H' ∧ Fr S H S' H' ∧ Q S' := by
  rcases h with ⟨kvs, k, h, ek, hl, q⟩ | ⟨kvs, ds, k, h, rfl, ek, hl, q⟩
  · obtain ⟨kv, e1, e2⟩ := rs_dk r h
    refine ⟨_, _, .inl ⟨kv, k, e1, key_V hy ek, by rw [← kvd_len e2]; exact hl, rfl⟩, ?_, fr_mut r h, q⟩
    exact rs_mut r h (show KvD K _ _ _ _ from KvD.mono (fr_mut r h) (kvd_put e2 k hv))
  · obtain ⟨kv, e1, e2⟩ := rs_dt r h
    obtain ⟨b, vs, rfl, e3, e4⟩ := hy.made
    rw [keys_V e4 ek] at e3
    refine ⟨_, _, .inr ⟨kv, k, b, e1, rfl, e3, by rw [← kvd_len e2]; exact hl, rfl⟩, ?_, fr_mut r h, q⟩
    exact rs_mut r h (show KvD K _ _ _ _ from KvD.mono (fr_mut r h) (kvd_put e2 k hv))
end
/-! ### an operation on values: by data -/
abbrev OW := List D → Hs → QD → Prop
def rO (K : PySem.W.Frag) (f : OW) : List V → Hp → VK → Prop := fun vs H Q => ∃ ds S Q', Rs K S H ∧ DvA K S H vs ds ∧ f ds S Q' ∧ EndQ K S H Q' Q

/-! two-place operators -/
def addW : D → D → Hs → QD → Prop
  | .int i, .int j, S, Q => Q (.int (i + j)) S
  | .str x, .str y, S, Q => x.length + y.length ≤ sizeLine ∧ Q (.str (x ++ y)) S
  | .tup xs, .tup ys, S, Q => xs.length + ys.length ≤ sizeLine ∧ Q (.tup (xs ++ ys)) S
  | a, b, S, Q => ∃ xs ys, lstOf S a = some xs ∧ lstOf S b = some ys ∧ xs.length + ys.length ≤ sizeLine ∧ NewL (xs ++ ys) S Q
def subW : D → D → Hs → QD → Prop
  | .int i, .int j, S, Q => Q (.int (i - j)) S
  | _, _, _, _ => False
def mulW : D → D → Hs → QD → Prop
  | .int i, .int j, S, Q => (CMul i j ∨ CMulW i j) ∧ Q (.int (i * j)) S
  | .ref a, .int k, S, Q => ∃ xs, S a = some (.lst xs) ∧ -(2 ^ 63) ≤ k ∧ k < 2 ^ 63 ∧ xs.length * k.toNat ≤ sizeLine ∧ NewL (List.replicate k.toNat xs).flatten (sdel S a) Q
  | .tup xs, .int k, S, Q => xs ≠ [] ∧ k ≠ 1 ∧ -(2 ^ 63) ≤ k ∧ k < 2 ^ 63 ∧ k.toNat * xs.length ≤ 1000000 ∧ Q (.tup (List.replicate k.toNat xs).flatten) S
  | _, _, _, _ => False
def fdivW : D → D → Hs → QD → Prop
  | .int i, .int j, S, Q => CDivW i j ∧ Q (.int (i / j)) S
  | _, _, _, _ => False
def modW : D → D → Hs → QD → Prop
  | .int i, .int j, S, Q => 0 < j ∧ Q (.int (i % j)) S
  | _, _, _, _ => False
def powW : D → D → Hs → QD → Prop
  | .int i, .int j, S, Q => CPow i j ∧ Q (.int (i ^ j.toNat)) S
  | _, _, _, _ => False
def ltW : D → D → Hs → QD → Prop
  | .int i, .int j, S, Q => Q (.bl (decide (i < j))) S
  | .str x, .str y, S, Q => Q (.bl (decide (x.cps.toList < y.cps.toList))) S
  | _, _, _, _ => False
def leW : D → D → Hs → QD → Prop
  | .int i, .int j, S, Q => Q (.bl (decide (i ≤ j))) S
  | .str x, .str y, S, Q => Q (.bl (!decide (y.cps.toList < x.cps.toList))) S
  | _, _, _, _ => False
def gtW : D → D → Hs → QD → Prop
  | .int i, .int j, S, Q => Q (.bl (decide (j < i))) S
  | .str x, .str y, S, Q => Q (.bl (decide (y.cps.toList < x.cps.toList))) S
  | _, _, _, _ => False
def geW : D → D → Hs → QD → Prop
  | .int i, .int j, S, Q => Q (.bl (decide (j ≤ i))) S
  | .str x, .str y, S, Q => Q (.bl (!decide (x.cps.toList < y.cps.toList))) S
  | _, _, _, _ => False
def D.flat : D → Bool
  | .non => true | .bl _ => true | .int _ => true | .str _ => true | _ => false
/-- two dicts that are equal, of plain values -/
def dictEq (S : Hs) (d e : D) : Prop := match d, e with
  | .ref a, .ref b => ∃ ks ls, S a = some (.dK ks) ∧ S b = some (.dK ls) ∧ ks.length = ls.length ∧ ∀ p ∈ ks, valD ls p.1 = some p.2 ∧ p.2.flat = true
  | _, _ => False
def eqDW (d e : D) (S : Hs) (Q : QD) : Prop := dictEq S d e ∧ Q (.bl true) S
def neDW (d e : D) (S : Hs) (Q : QD) : Prop := dictEq S d e ∧ Q (.bl false) S
/-- == of two lists, live or not -/
def eqLW (d e : D) (S : Hs) (Q : QD) : Prop := ∃ xs ys, lstOf S d = some xs ∧ lstOf S e = some ys ∧ (D.lst xs).ok = true ∧ (D.lst ys).ok = true ∧ Q (.bl (D.eq (.lst xs) (.lst ys))) S
def neLW (d e : D) (S : Hs) (Q : QD) : Prop := ∃ xs ys, lstOf S d = some xs ∧ lstOf S e = some ys ∧ (D.lst xs).ok = true ∧ (D.lst ys).ok = true ∧ Q (.bl (!D.eq (.lst xs) (.lst ys))) S
def eqW (d e : D) (S : Hs) (Q : QD) : Prop := d.ok = true ∧ e.ok = true ∧ Q (.bl (D.eq d e)) S
def neW (d e : D) (S : Hs) (Q : QD) : Prop := d.ok = true ∧ e.ok = true ∧ Q (.bl (!D.eq d e)) S
def isNone : D → Bool
  | .non => true
  | _ => false
/-- is None, is True, is False -/
def isNW : D → D → Hs → QD → Prop
  | d, .non, S, Q => Q (.bl (isNone d)) S
  | .bl a, .bl b, S, Q => Q (.bl (decide (a = b))) S
  | _, _, _, _ => False
def notNW : D → D → Hs → QD → Prop
  | d, .non, S, Q => Q (.bl (!isNone d)) S
  | .bl a, .bl b, S, Q => Q (.bl (!decide (a = b))) S
  | _, _, _, _ => False

/-- x in y: a sign in a text; a thing in a frozen list of data; a flat one in a list or a tuple of flat ones -/
def inR (S : Hs) : D → D → Bool → Prop
  | .str x, .str y, b => ∃ c, x = ⟨#[c]⟩ ∧ b = decide (c ∈ y.cps.toList)
  | d, .lst xs, b => (d.ok = true ∧ D.ok (.lst xs) = true ∧ b = xs.any fun z => D.eq z d)
  | d, .tup xs, b => d.flat = true ∧ xs.all D.flat = true ∧ b = xs.any fun z => D.eq z d
  | d, .ctp xs, b => d.flat = true ∧ xs.all D.flat = true ∧ b = xs.any fun z => D.eq z d
  | d, .ref a, b => (∃ xs, S a = some (.lst xs) ∧ d.flat = true ∧ xs.all D.flat = true ∧ b = xs.any fun z => D.eq z d) ∨ ∃ o, dgetR S a d o ∧ b = o.isSome
  | _, _, _ => False
def inW (d e : D) (S : Hs) (Q : QD) : Prop := ∃ b, inR S d e b ∧ Q (.bl b) S
def notInW (d e : D) (S : Hs) (Q : QD) : Prop := ∃ b, inR S d e b ∧ Q (.bl (!b)) S
def two (f : D → D → Hs → QD → Prop) : OW := fun ds S Q => match ds with
  | [a, b] => f a b S Q
  | _ => False
def one (f : D → Hs → QD → Prop) : OW := fun ds S Q => match ds with
  | [a] => f a S Q
  | _ => False

section
variable {X : Cx}
/-- list + list, however they stand -/
def rCatG (K : PySem.W.Frag) : R2 := fun x y H Q => ∃ l b xs zs, x = .ref l ∧ y = .ref b ∧ SqL K H l xs ∧ SqL K H b zs ∧ xs.length + zs.length ≤ sizeLine ∧ ∀ p, H p = none → Q (.ref p) (upd H p (.lst (xs ++ zs)))
theorem op_catG : OpR X (binaryOp .Add) (rCatG X.K) := by
  intro pins s σ H x y v u Q I rx ry h
  obtain ⟨l, b, xs, zs, rfl, rfl, hH, hB, hz, q⟩ := h
  cases rx
  cases ry
  obtain ⟨its, r, ⟨o, n, ho, hc, hd, hdt⟩, z⟩ := I.list hH
  obtain ⟨its2, r2, ⟨o2, n2, ho2, hc2, hd2, hdt2⟩, z2⟩ := I.list hB
  obtain ⟨cls, dd, data, sl⟩ := o
  obtain ⟨cls2, dd2, data2, sl2⟩ := o2
  simp only at hc hd hdt hc2 hd2 hdt2
  subst hc hd hdt hc2 hd2 hdt2
  have e : its.toArray ++ its2.toArray = (its ++ its2).toArray := by simp
  have hl := r.length
  have hl2 := r2.length
  refine concat_meets ⟨_, ho, rfl⟩ ⟨_, ho2, rfl⟩ noFill_list_add seq_list_add PySem.F.slot_list_add PySem.F.entry_list_add (PySem.F.args_list_add_2 _ _) (PyProof.Rows.list_addW l b its.toArray its2.toArray n n2 none none sl sl2 (by simp only [List.size_toArray]; omega)) ⟨ho, ho2, ?_⟩
  rw [e]
  exact ⟨.ref _, _, I.lnew (t' := s.toks) (r.append r2) (by rw [List.length_append]; omega), rfl, q _ I.fresh⟩
/-- by cases on the data -/
theorem op2 {f : Value → Value → Sem Value} {g : D → D → Hs → QD → Prop}
    (h : ∀ (pins : List (Addr × Obj)) (s : Shared) (σ : L2.St) (H : Hp) (x y : V) (v u : Value) (Q : VK) (d e : D) (S : Hs) (Q' : QD), Inv X pins σ H s → RelV x v → RelV y u → Rs X.K S H → Dv X.K S H x d → Dv X.K S H y e → g d e S Q' → EndQ X.K S H Q' Q →
      wpAny (model X.prog X.w) X.A (f v u) (EP X pins σ Q) X.xe s) : OpR X f (fun x y H Q => rO X.K (two g) [x, y] H Q) := by
  intro pins s σ H x y v u Q I rx ry q
  obtain ⟨ds, S, Q', r, da, hg, e⟩ := q
  cases da with
  | cons h1 t1 =>
    cases t1 with
    | cons h2 t2 =>
      cases t2
      exact h pins s σ H x y v u Q _ _ S Q' I rx ry r h1 h2 hg e
theorem o_add : OpR X (binaryOp .Add) (fun x y H Q => rO X.K (two addW) [x, y] H Q) := op2 fun pins s σ H x y v u Q d e S Q' I rx ry r hx hy g k => by
  have lists : ∀ {d e : D}, Dv X.K S H x d → Dv X.K S H y e → (∃ xs ys, lstOf S d = some xs ∧ lstOf S e = some ys ∧ xs.length + ys.length ≤ sizeLine ∧ NewL (xs ++ ys) S Q') → wpAny (model X.prog X.w) X.A (binaryOp .Add v u) (EP X pins σ Q) X.xe s := fun {d e} hx hy ⟨xs, ys, e1, e2, z, n⟩ => by
    obtain ⟨a, vs, rfl, q1, q2⟩ := lstOf_ok r hx e1
    obtain ⟨b, ws, rfl, q3, q4⟩ := lstOf_ok r hy e2
    exact op_catG pins s σ H _ _ v u Q I rx ry ⟨a, b, vs, ws, rfl, rfl, q1, q3, by rw [q2.len, q4.len]; exact z, newL_ok r (q2.append q4) n k⟩
  cases d with
  | int i =>
    cases e with
    | int j =>
      cases hx
      cases hy
      exact op_add pins s σ H _ _ v u Q I rx ry ⟨i, j, rfl, rfl, end_now r (.int _) g k⟩
    | _ => exact lists hx hy g
  | str i =>
    cases e with
    | str j =>
      cases hx
      cases hy
      exact op_add_str pins s σ H _ _ v u Q I rx ry ⟨i, j, rfl, rfl, g.1, end_now r (.str _) g.2 k⟩
    | _ => exact lists hx hy g
  | tup xs =>
    cases e with
    | tup ys =>
      obtain ⟨z, q⟩ : xs.length + ys.length ≤ sizeLine ∧ Q' (.tup (xs ++ ys)) S := g
      obtain ⟨a, vs, rfl, q1, q2⟩ := hx.of_tup
      obtain ⟨b, ws, rfl, q3, q4⟩ := hy.of_tup
      refine op_catA pins s σ H _ _ v u Q I rx ry ⟨a, b, vs, ws, rfl, rfl, q1, q3, by rw [q2.len, q4.len]; exact z, fun e0 => ?_, fun _ e1 => ?_, fun _ _ => newT_ok r (q2.append q4) q k⟩
      · subst e0
        cases q2
        exact end_now r hy q k
      · subst e1
        cases q4
        exact end_now r hx (by rw [List.append_nil] at q; exact q) k
    | _ => exact lists hx hy g
  | _ => exact lists hx hy (by cases e <;> exact g)
theorem o_int {f : Value → Value → Sem Value} {C : Int → Int → Prop} {c : Int → Int → Int} (h : OpR X f (rI C fun i j => .int (c i j))) :
    OpR X f (fun x y H Q => rO X.K (two fun d e S Q => match d, e with | .int i, .int j => C i j ∧ Q (.int (c i j)) S | _, _ => False) [x, y] H Q) := op2 fun pins s σ H x y v u Q d e S Q' I rx ry r hx hy g k => by
  cases d <;> cases e <;> first
    | exact (show False from g).elim
    | skip
  cases hx
  cases hy
  exact h pins s σ H _ _ v u Q I rx ry ⟨_, _, rfl, rfl, g.1, end_now r (.int _) g.2 k⟩
end
end Dz
/-! tuple * int: also for no item of it -/
namespace L2
open PySem PySem.Spec PyProof.Rows
theorem tuple_mul0 (l : Addr) (items : Array Value) (n : Nat) (dd : Option Addr) (sl : Array (Option Value)) (x : Int) (u : Tok) (c0 : (decide (x < -(2 ^ 63)) || decide (x ≥ 2 ^ 63)) = false) (c1 : (items.isEmpty || x == 1) = false) (c2 : (decide (x ≤ 0) || items.isEmpty) = true) :
    Meets (Builtin.«tuple.__mul__» ⟨[.ref l, .int x u], []⟩) (fun _ R s => s.heap.get? l = some { cls := .type "tuple", dict := dd, data := .seq items n, slots := sl } ∧
      R (.ok (.ret (Value.ref s.heap.objs.size))) { s with heap := s.heap.push { cls := Value.type "tuple", data := Data.seq #[] }, toks := s.toks }) :=
  .of_wp fun prog w A R s h => by
    obtain ⟨hp, g, d, tk, os⟩ := s
    obtain ⟨hl, h⟩ := h
    have f1 := AutoSeq1.idx_int
    wp_walk using wpAny_loadPart' hl
    repeat (first
      | (refine wpAny_ite_false (decide_eq_false (by rw [c0]; exact Bool.false_ne_true)) ?_; wp_walk using wpAny_loadPart' hl)
      | (refine wpAny_ite_false (decide_eq_false (by rw [c1]; exact Bool.false_ne_true)) ?_; wp_walk using wpAny_loadPart' hl)
      | (refine wpAny_ite_true (decide_eq_true (by rw [c2])) ?_; wp_walk using wpAny_loadPart' hl))
    exact ⟨_, rfl, h⟩
def rRepG (K : PySem.W.Frag) : R2 := fun x y H Q => ∃ l k xs, x = .ref l ∧ y = .int k ∧ SqT K H l xs ∧ xs ≠ [] ∧ k ≠ 1 ∧ -(2 ^ 63) ≤ k ∧ k < 2 ^ 63 ∧ k.toNat * xs.length ≤ 1000000 ∧ ∀ p, H p = none → Q (.ref p) (upd H p (.tup (List.replicate k.toNat xs).flatten))
section
variable {X : Cx}
theorem op_repG : OpR X (binaryOp .Mult) (rRepG X.K) := by
  intro pins s σ H x y v u Q I rx ry h
  obtain ⟨l, k, xs, rfl, rfl, hT, hne, h1, hlo, hhi, hz, q⟩ := h
  cases rx
  obtain ⟨t, rfl⟩ := ry
  obtain ⟨its, r, ⟨⟨cls, dd, data, sl⟩, ho, hc, n, hd⟩, hs⟩ := I.tuple hT
  simp only at hc hd
  subst hc hd
  have hle : its.length = xs.length := r.length.symm
  have hn : its ≠ [] := fun e => hne (by
    rw [e] at hle
    exact List.eq_nil_of_length_eq_zero hle.symm)
  have hi : its.toArray.isEmpty = false := by
    cases its with
    | nil => exact absurd rfl hn
    | cons a b => rfl
  have hsz0 : its.toArray.size = xs.length := by rw [List.size_toArray, hle]
  have flen : (List.replicate k.toNat its).flatten.length ≤ sizeLine := by
    rw [PyProof.Rows.lm_len_rep_flat, hle, sizeLine_eq]
    omega
  have c0 : (decide (k < -(2 ^ 63)) || decide (k ≥ 2 ^ 63)) = false := by
    rw [decide_eq_false (by omega), decide_eq_false (by omega)] <;> rfl
  have c1 : (its.toArray.isEmpty || k == 1) = false := by
    rw [hi, Bool.false_or]
    exact beq_eq_false_iff_ne.mpr h1
  rcases Int.lt_or_le 0 k with hk | hk
  · have hm : ((its.toArray.size : Nat) : Int) * k ≤ 1000000 := by
      rw [hsz0]
      have a1 : ((k.toNat * xs.length : Nat) : Int) = ((xs.length : Nat) : Int) * k := by
        rw [Int.natCast_mul, Int.toNat_of_nonneg (by omega), Int.mul_comm]
      omega
    have c2 : (decide (k ≤ 0) || its.toArray.isEmpty) = false := by
      rw [hi, Bool.or_false]
      exact decide_eq_false (by omega)
    have c4 : Builtin.Tuple.tupleTooMany (((its.toArray.size : Nat) : Int) * k) = false := by
      unfold Builtin.Tuple.tupleTooMany
      rw [sizeLine_eq]
      exact decide_eq_false (by omega)
    refine wpAny_binaryOp_repeat_ref (T := "tuple") (U := "int") (by decide) ⟨_, ho, rfl⟩ (fun s' => typeIs_int s' k t) noFill_tuple_mul F.fills_int_mul F.slot_int_rmul repeat_tuple F.slot_int_index.lookup
      (call_meets F.slot_int_rmul (typeIs_int s k t) F.entry_int_rmul (F.args_int_rmul_2 _ _) (int_rmul_tuple k t l its.toArray n dd sl)
        ⟨ho, rfl, ⟨_, ho, rfl⟩, call_meets F.slot_tuple_mul ⟨_, ho, rfl⟩ F.entry_tuple_mul (F.args_tuple_mul_2 _ _) (tuple_mulW l its.toArray n dd sl k t c0 c1 c2 (by omega) c4 (by rw [size_rep, List.size_toArray]; exact flen)) ⟨ho, ?_⟩⟩)
    rw [size_rep]
    refine ⟨.ref s.heap.objs.size, _, I.laid (t' := s.toks) (o := .tup (List.replicate k.toNat xs).flatten) (fun b ob q => Heap.get?_push_of_some _ q) (Nat.le_refl _) ?_, rfl, q _ (I.hok.fresh (Nat.le_refl _))⟩
    exact ⟨by rw [PyProof.Rows.lm_len_rep_flat, sizeLine_eq]; omega, _, r.rep k.toNat, IsTup.new _ _⟩
  · have c2 : (decide (k ≤ 0) || its.toArray.isEmpty) = true := by
      rw [decide_eq_true hk]
      rfl
    refine wpAny_binaryOp_repeat_ref (T := "tuple") (U := "int") (by decide) ⟨_, ho, rfl⟩ (fun s' => typeIs_int s' k t) noFill_tuple_mul F.fills_int_mul F.slot_int_rmul repeat_tuple F.slot_int_index.lookup
      (call_meets F.slot_int_rmul (typeIs_int s k t) F.entry_int_rmul (F.args_int_rmul_2 _ _) (int_rmul_tuple k t l its.toArray n dd sl)
        ⟨ho, rfl, ⟨_, ho, rfl⟩, call_meets F.slot_tuple_mul ⟨_, ho, rfl⟩ F.entry_tuple_mul (F.args_tuple_mul_2 _ _) (tuple_mul0 l its.toArray n dd sl k t c0 c1 c2) ⟨ho, ?_⟩⟩)
    rw [show k.toNat = 0 by omega] at q
    refine ⟨.ref s.heap.objs.size, _, I.laid (t' := s.toks) (o := .tup (List.replicate 0 xs).flatten) (fun b ob q => Heap.get?_push_of_some _ q) (Nat.le_refl _) ?_, rfl, q _ (I.hok.fresh (Nat.le_refl _))⟩
    exact ⟨by rw [sizeLine_eq]; simp, _, r.rep 0, IsTup.new _ _⟩
end
end L2
namespace Dz
open PySem L2
theorem Paired.get? {α β : Type} {R : α → β → Prop} : ∀ {xs : List α} {ys : List β} {i : Nat} {x : α} {y : β}, Paired R xs ys → xs[i]? = some x → ys[i]? = some y → R x y
  | _, _, _, _, _, .nil, e, _ => by simp at e
  | _, _, 0, _, _, .cons h _, e, e' => by simp at e e'; subst e e'; exact h
  | _, _, i + 1, _, _, .cons _ t, e, e' => Paired.get? (i := i) t (by simpa using e) (by simpa using e')
section
variable {X : Cx}
theorem o_sub : OpR X (binaryOp .Sub) (fun x y H Q => rO X.K (two subW) [x, y] H Q) := op2 fun pins s σ H x y v u Q d e S Q' I rx ry r hx hy g k => by
  cases d <;> cases e <;> first
    | exact (show False from g).elim
    | skip
  cases hx
  cases hy
  exact op_sub pins s σ H _ _ v u Q I rx ry ⟨_, _, rfl, rfl, end_now r (.int _) g k⟩
theorem o_fdiv : OpR X (binaryOp .FloorDiv) (fun x y H Q => rO X.K (two fdivW) [x, y] H Q) := op2 fun pins s σ H x y v u Q d e S Q' I rx ry r hx hy g k => by
  cases d <;> cases e <;> first
    | exact (show False from g).elim
    | skip
  cases hx
  cases hy
  exact op_fdivW pins s σ H _ _ v u Q I rx ry ⟨_, _, rfl, rfl, g.1, end_now r (.int _) g.2 k⟩
theorem o_mod : OpR X (binaryOp .Mod) (fun x y H Q => rO X.K (two modW) [x, y] H Q) := op2 fun pins s σ H x y v u Q d e S Q' I rx ry r hx hy g k => by
  cases d <;> cases e <;> first
    | exact (show False from g).elim
    | skip
  cases hx
  cases hy
  exact op_mod pins s σ H _ _ v u Q I rx ry ⟨_, _, rfl, rfl, g.1, end_now r (.int _) g.2 k⟩
theorem o_pow : OpR X (binaryOp .Pow) (fun x y H Q => rO X.K (two powW) [x, y] H Q) := op2 fun pins s σ H x y v u Q d e S Q' I rx ry r hx hy g k => by
  cases d <;> cases e <;> first
    | exact (show False from g).elim
    | skip
  cases hx
  cases hy
  exact op_pow pins s σ H _ _ v u Q I rx ry ⟨_, _, rfl, rfl, g.1, end_now r (.int _) g.2 k⟩
/-- live list * int: it is dropped -/
theorem o_mul : OpR X (binaryOp .Mult) (fun x y H Q => rO X.K (two mulW) [x, y] H Q) := op2 fun pins s σ H x y v u Q d e S Q' I rx ry r hx hy g k => by
  cases d <;> cases e <;> first
    | exact (show False from g).elim
    | skip
  · cases hx
    cases hy
    rcases g.1 with g1 | g1
    · exact op_mul pins s σ H _ _ v u Q I rx ry ⟨_, _, rfl, rfl, g1, end_now r (.int _) g.2 k⟩
    · exact op_mulW pins s σ H _ _ v u Q I rx ry ⟨_, _, rfl, rfl, g1, end_now r (.int _) g.2 k⟩
  · rename_i xs j
    obtain ⟨g1, g2, g3, g4, g5, g6⟩ : xs ≠ [] ∧ j ≠ 1 ∧ -(2 ^ 63) ≤ j ∧ j < 2 ^ 63 ∧ j.toNat * xs.length ≤ 1000000 ∧ Q' (.tup (List.replicate j.toNat xs).flatten) S := g
    obtain ⟨a, vs, rfl, q1, q2⟩ := hx.of_tup
    cases hy
    have q3 : DvA X.K S H (List.replicate j.toNat vs).flatten (List.replicate j.toNat xs).flatten := by
      generalize j.toNat = m
      induction m with
      | zero => exact .nil
      | succ m ih => simpa [List.replicate_succ] using q2.append ih
    exact op_repG pins s σ H _ _ v u Q I rx ry ⟨a, j, vs, rfl, rfl, q1, fun e0 => g1 (by subst e0; cases q2; rfl), g2, g3, g4, by rw [q2.len]; exact g5, newT_ok r q3 g6 k⟩
  · rename_i a j
    obtain ⟨xs, e1, h1, h2, z, n⟩ := g
    cases hx
    cases hy
    obtain ⟨vs, q1, q2⟩ := rs_lst r e1
    have q3 : DvA X.K S H (List.replicate j.toNat vs).flatten (List.replicate j.toNat xs).flatten := by
      generalize j.toNat = m
      induction m with
      | zero => exact .nil
      | succ m ih => simpa [List.replicate_succ] using q2.append ih
    exact op_rep pins s σ H _ _ v u Q I rx ry ⟨a, j, vs, rfl, rfl, q1, h1, h2, by rw [q2.len]; exact z, newL_ok (rs_del r) (q3.mono fr_del) n fun v' H' d' S' r' f' x' q' => k v' H' d' S' r' (fr_del.trans f') x' q'⟩

/-! comparisons -/
theorem o_lt : OpR X (compareOp .Lt) (fun x y H Q => rO X.K (two ltW) [x, y] H Q) := op2 fun pins s σ H x y v u Q d e S Q' I rx ry r hx hy g k => by
  cases d <;> cases e <;> first
    | exact (show False from g).elim
    | (cases hx; cases hy; exact op_lt pins s σ H _ _ v u Q I rx ry ⟨_, _, rfl, rfl, end_now r (.bl _) g k⟩)
    | (cases hx; cases hy; exact op_lt_str pins s σ H _ _ v u Q I rx ry ⟨_, _, rfl, rfl, end_now r (.bl _) g k⟩)
theorem o_le : OpR X (compareOp .LtE) (fun x y H Q => rO X.K (two leW) [x, y] H Q) := op2 fun pins s σ H x y v u Q d e S Q' I rx ry r hx hy g k => by
  cases d <;> cases e <;> first
    | exact (show False from g).elim
    | (cases hx; cases hy; exact op_le pins s σ H _ _ v u Q I rx ry ⟨_, _, rfl, rfl, end_now r (.bl _) g k⟩)
    | (cases hx; cases hy; exact op_le_str pins s σ H _ _ v u Q I rx ry ⟨_, _, rfl, rfl, end_now r (.bl _) g k⟩)
theorem o_gt : OpR X (compareOp .Gt) (fun x y H Q => rO X.K (two gtW) [x, y] H Q) := op2 fun pins s σ H x y v u Q d e S Q' I rx ry r hx hy g k => by
  cases d <;> cases e <;> first
    | exact (show False from g).elim
    | (cases hx; cases hy; exact op_gt pins s σ H _ _ v u Q I rx ry ⟨_, _, rfl, rfl, end_now r (.bl _) g k⟩)
    | (cases hx; cases hy; exact op_gt_str pins s σ H _ _ v u Q I rx ry ⟨_, _, rfl, rfl, end_now r (.bl _) g k⟩)
theorem o_ge : OpR X (compareOp .GtE) (fun x y H Q => rO X.K (two geW) [x, y] H Q) := op2 fun pins s σ H x y v u Q d e S Q' I rx ry r hx hy g k => by
  cases d <;> cases e <;> first
    | exact (show False from g).elim
    | (cases hx; cases hy; exact op_ge pins s σ H _ _ v u Q I rx ry ⟨_, _, rfl, rfl, end_now r (.bl _) g k⟩)
    | (cases hx; cases hy; exact op_ge_str pins s σ H _ _ v u Q I rx ry ⟨_, _, rfl, rfl, end_now r (.bl _) g k⟩)
theorem ok_pure {d : D} (h : d.ok = true) : d.pure = true := (Bool.and_eq_true_iff.mp h).1
theorem ok_shape {d : D} (h : d.ok = true) : SeqAt.shaped d.py = true := (Bool.and_eq_true_iff.mp h).2
theorem o_eq (hu : X.A.units + 64 < cLine) : OpR X (compareOp .Eq) (fun x y H Q => rO X.K (two eqW) [x, y] H Q) := op2 fun pins s σ H x y v u Q d e S Q' I rx ry r hx hy g k =>
  op_eqD hu pins s σ H _ _ v u Q I rx ry ⟨d.py, e.py, hx.dp (ok_pure g.1), hy.dp (ok_pure g.2.1), ok_shape g.1, ok_shape g.2.1, end_now r (.bl _) g.2.2 k⟩
theorem o_ne (hu : X.A.units + 64 < cLine) : OpR X (compareOp .NotEq) (fun x y H Q => rO X.K (two neW) [x, y] H Q) := op2 fun pins s σ H x y v u Q d e S Q' I rx ry r hx hy g k =>
  op_neD hu pins s σ H _ _ v u Q I rx ry ⟨d.py, e.py, hx.dp (ok_pure g.1), hy.dp (ok_pure g.2.1), ok_shape g.1, ok_shape g.2.1, end_now r (.bl _) g.2.2 k⟩
theorem isNone_V {S : Hs} {H : Hp} {v : V} {d : D} (h : Dv X.K S H v d) : isNone d = decide (v = .non) := by
  cases h <;> simp [isNone]
theorem o_isN : OpR X (compareOp .Is) (fun x y H Q => rO X.K (two isNW) [x, y] H Q) := op2 fun pins s σ H x y v u Q d e S Q' I rx ry r hx hy g k => by
  cases e with
  | non =>
    cases hy
    refine op_isN pins s σ H _ _ v u Q I rx ry ⟨rfl, ?_⟩
    rw [← isNone_V hx]
    exact end_now r (.bl _) (show Q' (.bl (isNone d)) S by cases d <;> exact g) k
  | bl b =>
    cases d with
    | bl a =>
      cases hx
      cases hy
      exact op_isBl pins s σ H _ _ v u Q I rx ry ⟨a, b, rfl, rfl, end_now r (.bl _) g k⟩
    | _ => exact (show False from g).elim
  | _ => exact (show False by cases d <;> exact g).elim
theorem o_notN : OpR X (compareOp .IsNot) (fun x y H Q => rO X.K (two notNW) [x, y] H Q) := op2 fun pins s σ H x y v u Q d e S Q' I rx ry r hx hy g k => by
  cases e with
  | non =>
    cases hy
    refine op_notN pins s σ H _ _ v u Q I rx ry ⟨rfl, ?_⟩
    rw [← isNone_V hx]
    exact end_now r (.bl _) (show Q' (.bl (!isNone d)) S by cases d <;> exact g) k
  | bl b =>
    cases d with
    | bl a =>
      cases hx
      cases hy
      exact op_notBl pins s σ H _ _ v u Q I rx ry ⟨a, b, rfl, rfl, end_now r (.bl _) g k⟩
    | _ => exact (show False from g).elim
  | _ => exact (show False by cases d <;> exact g).elim

/-! in -/
theorem flat_V {S : Hs} {H : Hp} {v : V} {d : D} (h : Dv X.K S H v d) (f : d.flat = true) : flatV v = true := by
  cases h <;> first | rfl | cases f
theorem flat_eqV {S : Hs} {H : Hp} {v w : V} {d e : D} (h : Dv X.K S H v d) (h' : Dv X.K S H w e) (f : d.flat = true) (f' : e.flat = true) : eqV w v = D.eq e d := by
  cases h <;> cases h' <;> first
    | rfl
    | cases f
    | cases f'
    | (simp [eqV, D.eq, D.py, PyData.eqv])
theorem flat_all {S : Hs} {H : Hp} : ∀ {vs : List V} {ds : List D}, DvA X.K S H vs ds → ds.all D.flat = true → vs.all flatV = true
  | _, _, .nil, _ => rfl
  | _, _, .cons a b, h => by
    rw [List.all_cons, Bool.and_eq_true] at h ⊢
    exact ⟨flat_V a h.1, flat_all b h.2⟩
theorem flat_any {S : Hs} {H : Hp} {v : V} {d : D} (hx : Dv X.K S H v d) (f : d.flat = true) : ∀ {vs : List V} {ds : List D}, DvA X.K S H vs ds → ds.all D.flat = true → inV v vs = ds.any fun z => D.eq z d
  | _, _, .nil, _ => rfl
  | _, _, .cons a b, h => by
    rw [List.all_cons, Bool.and_eq_true] at h
    have ih := flat_any hx f b h.2
    unfold inV at ih ⊢
    rw [List.any_cons, List.any_cons, ih, flat_eqV hx a f h.1]
theorem pys_any {d : D} : ∀ xs : List D, (D.pys xs).any (fun z => PyData.eqv z d.py) = xs.any fun z => D.eq z d
  | [] => rfl
  | x :: r => by
    unfold D.pys
    rw [List.any_cons, List.any_cons, pys_any r]
    rfl
theorem in_list_of {S : Hs} {H : Hp} {x y : V} {d : D} {xs : List D} (hx : Dv X.K S H x d) (hy : Dv X.K S H y (.lst xs)) (h1 : d.ok = true) (h2 : D.ok (.lst xs) = true) {Q : VK} (neg : Bool) (q : Q (.bl (if neg then !xs.any fun z => D.eq z d else xs.any fun z => D.eq z d)) H) :
    if neg then rNotInD X.K x y H Q else rInD X.K x y H Q := by
  cases neg with
  | true => exact ⟨d.py, D.pys xs, hx.dp (ok_pure h1), hy.dp (ok_pure h2), ok_shape h1, ok_shape h2, by rw [pys_any]; exact q⟩
  | false => exact ⟨d.py, D.pys xs, hx.dp (ok_pure h1), hy.dp (ok_pure h2), ok_shape h1, ok_shape h2, by rw [pys_any]; exact q⟩
theorem o_in (hu : X.A.units + 65 < cLine) : OpR X (compareOp .In) (fun x y H Q => rO X.K (two inW) [x, y] H Q) := op2 fun pins s σ H x y v u Q d e S Q' I rx ry r hx hy g k => by
  obtain ⟨b, g, q⟩ := g
  have fin : Q (.bl b) H := end_now r (.bl _) q k
  cases e with
  | str y =>
    cases d with
    | str z =>
      obtain ⟨c, e1, e2⟩ := g
      cases hx
      cases hy
      subst e1 e2
      exact op_in_sign pins s σ H _ _ v u Q I rx ry ⟨c, y, rfl, rfl, fin⟩
    | _ => exact (show False from g).elim
  | lst xs =>
    obtain ⟨h1, h2, e⟩ : d.ok = true ∧ D.ok (.lst xs) = true ∧ b = xs.any fun z => D.eq z d := by cases d <;> exact g
    subst e
    exact op_inD hu pins s σ H _ _ v u Q I rx ry (in_list_of hx hy h1 h2 false fin)
  | tup xs =>
    obtain ⟨h1, h2, e⟩ : d.flat = true ∧ xs.all D.flat = true ∧ b = xs.any fun z => D.eq z d := by cases d <;> exact g
    obtain ⟨a, vs, rfl, q1, q2⟩ := hy.of_tup
    refine op_in_seq pins s σ H _ _ v u Q I rx ry ⟨a, vs, rfl, .inr q1, flat_V hx h1, flat_all q2 h2, ?_⟩
    rw [flat_any hx h1 q2 h2, ← e]
    exact fin
  | ctp xs =>
    obtain ⟨h1, h2, e⟩ : d.flat = true ∧ xs.all D.flat = true ∧ b = xs.any fun z => D.eq z d := by cases d <;> exact g
    obtain ⟨a, vs, rfl, q1, q2⟩ := hy.of_ctp
    refine op_in_seq pins s σ H _ _ v u Q I rx ry ⟨a, vs, rfl, .inr q1, flat_V hx h1, flat_all q2 h2, ?_⟩
    rw [flat_any hx h1 q2 h2, ← e]
    exact fin
  | ref a =>
    have g : (∃ xs, S a = some (.lst xs) ∧ d.flat = true ∧ xs.all D.flat = true ∧ b = xs.any fun z => D.eq z d) ∨ ∃ o, dgetR S a d o ∧ b = o.isSome := by cases d <;> exact g
    rcases g with ⟨xs, e0, h1, h2, e⟩ | ⟨o, g, e⟩
    · obtain ⟨vs, q1, q2⟩ := rs_lst r e0
      cases hy
      refine op_in_seq pins s σ H _ _ v u Q I rx ry ⟨a, vs, rfl, .inl (.of q1), flat_V hx h1, flat_all q2 h2, ?_⟩
      rw [flat_any hx h1 q2 h2, ← e]
      exact fin
    · obtain ⟨p, g1, g2⟩ := dget_ok r hx g
      cases hy
      cases (show u = Value.ref a from ry)
      refine d_in (Nat.lt_of_le_of_lt (Nat.add_le_add_left (by decide) _) hu) I g1 rx fun s' I' => ⟨.bl p.isSome, H, I', rfl, ?_⟩
      rw [g2.same, ← e]
      exact fin
  | _ => exact (show False by cases d <;> exact g).elim
theorem o_notIn (hu : X.A.units + 65 < cLine) : OpR X (compareOp .NotIn) (fun x y H Q => rO X.K (two notInW) [x, y] H Q) := op2 fun pins s σ H x y v u Q d e S Q' I rx ry r hx hy g k => by
  obtain ⟨b, g, q⟩ := g
  have fin : Q (.bl (!b)) H := end_now r (.bl _) q k
  cases e with
  | str y =>
    cases d with
    | str z =>
      obtain ⟨c, e1, e2⟩ := g
      cases hx
      cases hy
      subst e1 e2
      exact op_notIn_sign pins s σ H _ _ v u Q I rx ry ⟨c, y, rfl, rfl, fin⟩
    | _ => exact (show False from g).elim
  | lst xs =>
    obtain ⟨h1, h2, e⟩ : d.ok = true ∧ D.ok (.lst xs) = true ∧ b = xs.any fun z => D.eq z d := by cases d <;> exact g
    subst e
    exact op_notInD hu pins s σ H _ _ v u Q I rx ry (in_list_of hx hy h1 h2 true fin)
  | tup xs =>
    obtain ⟨h1, h2, e⟩ : d.flat = true ∧ xs.all D.flat = true ∧ b = xs.any fun z => D.eq z d := by cases d <;> exact g
    obtain ⟨a, vs, rfl, q1, q2⟩ := hy.of_tup
    refine op_notIn_seq pins s σ H _ _ v u Q I rx ry ⟨a, vs, rfl, .inr q1, flat_V hx h1, flat_all q2 h2, ?_⟩
    rw [flat_any hx h1 q2 h2, ← e]
    exact fin
  | ctp xs =>
    obtain ⟨h1, h2, e⟩ : d.flat = true ∧ xs.all D.flat = true ∧ b = xs.any fun z => D.eq z d := by cases d <;> exact g
    obtain ⟨a, vs, rfl, q1, q2⟩ := hy.of_ctp
    refine op_notIn_seq pins s σ H _ _ v u Q I rx ry ⟨a, vs, rfl, .inr q1, flat_V hx h1, flat_all q2 h2, ?_⟩
    rw [flat_any hx h1 q2 h2, ← e]
    exact fin
  | ref a =>
    have g : (∃ xs, S a = some (.lst xs) ∧ d.flat = true ∧ xs.all D.flat = true ∧ b = xs.any fun z => D.eq z d) ∨ ∃ o, dgetR S a d o ∧ b = o.isSome := by cases d <;> exact g
    rcases g with ⟨xs, e0, h1, h2, e⟩ | ⟨o, g, e⟩
    · obtain ⟨vs, q1, q2⟩ := rs_lst r e0
      cases hy
      refine op_notIn_seq pins s σ H _ _ v u Q I rx ry ⟨a, vs, rfl, .inl (.of q1), flat_V hx h1, flat_all q2 h2, ?_⟩
      rw [flat_any hx h1 q2 h2, ← e]
      exact fin
    · obtain ⟨p, g1, g2⟩ := dget_ok r hx g
      cases hy
      cases (show u = Value.ref a from ry)
      refine d_notIn (Nat.lt_of_le_of_lt (Nat.add_le_add_left (by decide) _) hu) I g1 rx fun s' I' => ⟨.bl (!p.isSome), H, I', rfl, ?_⟩
      rw [g2.same, ← e]
      exact fin
  | _ => exact (show False by cases d <;> exact g).elim
/-- dicts that hold the same -/
theorem flat_uniq {S : Hs} {H : Hp} {v w : V} {d : D} (h : Dv X.K S H v d) (h' : Dv X.K S H w d) (f : d.flat = true) : v = w ∧ flatB v = true := by
  cases h <;> cases h' <;> first | exact ⟨rfl, rfl⟩ | cases f
theorem dict_same {S : Hs} {H : Hp} {x y : V} {d e : D} (r : Rs X.K S H) (hx : Dv X.K S H x d) (hy : Dv X.K S H y e) (g : dictEq S d e) : ∃ a b ks ls, x = .ref a ∧ y = .ref b ∧ H a = some (.dK ks) ∧ H b = some (.dK ls) ∧ ks.length = ls.length ∧ ∀ p ∈ ks, valV ls p.1 = some p.2 ∧ flatB p.2 = true := by
  cases d <;> cases e <;> first
    | exact (show False from g).elim
    | skip
  rename_i a b
  cases hx
  cases hy
  obtain ⟨ks, ls, e1, e2, hl, hp⟩ := g
  obtain ⟨kv, h1, h2⟩ := rs_dk r e1
  obtain ⟨lv, h3, h4⟩ := rs_dk r e2
  refine ⟨a, b, kv, lv, rfl, rfl, h1, h3, by rw [← kvd_len h2, ← kvd_len h4]; exact hl, fun p hpm => ?_⟩
  obtain ⟨i, hi, rfl⟩ := List.getElem_of_mem hpm
  have hi2 : i < ks.length := by rw [kvd_len h2]; exact hi
  have pr := Dz.Paired.get? h2 (List.getElem?_eq_getElem hi2) (List.getElem?_eq_getElem hi)
  obtain ⟨v1, f1⟩ := hp ks[i] (List.getElem_mem hi2)
  have ov := od_val h4 ks[i].1
  rw [v1, pr.1] at ov
  cases q : valV lv kv[i].1 with
  | none => rw [q] at ov; exact ov.elim
  | some w =>
    rw [q] at ov
    obtain ⟨e5, e6⟩ := flat_uniq pr.2 ov f1
    exact ⟨by rw [e5], e6⟩
theorem dv_lst {S : Hs} {H : Hp} {v : V} {d : D} {xs : List D} (r : Rs X.K S H) (h : Dv X.K S H v d) (e : lstOf S d = some xs) : ∃ S', Dv X.K S' H v (.lst xs) := by
  cases d with
  | lst ys => cases e; exact ⟨S, h⟩
  | ref a =>
    cases h
    unfold lstOf at e
    simp only at e
    split at e
    · rename_i ys q
      cases e
      exact ⟨_, dv_frz r q⟩
    · cases e
  | _ => cases e
theorem o_eqL (hu : X.A.units + 64 < cLine) : OpR X (compareOp .Eq) (fun x y H Q => rO X.K (two eqLW) [x, y] H Q) := op2 fun pins s σ H x y v u Q d e S Q' I rx ry r hx hy g k => by
  obtain ⟨xs, ys, e1, e2, g1, g2, q⟩ := g
  obtain ⟨S1, h1⟩ := dv_lst r hx e1
  obtain ⟨S2, h2⟩ := dv_lst r hy e2
  exact op_eqD hu pins s σ H _ _ v u Q I rx ry ⟨_, _, h1.dp (ok_pure g1), h2.dp (ok_pure g2), ok_shape g1, ok_shape g2, end_now r (.bl _) q k⟩
theorem o_neL (hu : X.A.units + 64 < cLine) : OpR X (compareOp .NotEq) (fun x y H Q => rO X.K (two neLW) [x, y] H Q) := op2 fun pins s σ H x y v u Q d e S Q' I rx ry r hx hy g k => by
  obtain ⟨xs, ys, e1, e2, g1, g2, q⟩ := g
  obtain ⟨S1, h1⟩ := dv_lst r hx e1
  obtain ⟨S2, h2⟩ := dv_lst r hy e2
  exact op_neD hu pins s σ H _ _ v u Q I rx ry ⟨_, _, h1.dp (ok_pure g1), h2.dp (ok_pure g2), ok_shape g1, ok_shape g2, end_now r (.bl _) q k⟩
theorem o_eqD (hu : X.A.units + 64 < cLine) : OpR X (compareOp .Eq) (fun x y H Q => rO X.K (two eqDW) [x, y] H Q) := op2 fun pins s σ H x y v u Q d e S Q' I rx ry r hx hy g k => by
  obtain ⟨a, b, ks, ls, e1, e2, h1, h2, h3, h4⟩ := dict_same r hx hy g.1
  exact op_eq_dictA (Nat.lt_of_le_of_lt (Nat.le_add_right _ 64) hu) pins s σ H _ _ v u Q I rx ry ⟨a, b, ks, ls, e1, e2, h1, h2, h3, h4, end_now r (.bl _) g.2 k⟩
theorem o_neD (hu : X.A.units + 64 < cLine) : OpR X (compareOp .NotEq) (fun x y H Q => rO X.K (two neDW) [x, y] H Q) := op2 fun pins s σ H x y v u Q d e S Q' I rx ry r hx hy g k => by
  obtain ⟨a, b, ks, ls, e1, e2, h1, h2, h3, h4⟩ := dict_same r hx hy g.1
  exact op_ne_dictA (Nat.lt_of_le_of_lt (Nat.le_add_right _ 64) hu) pins s σ H _ _ v u Q I rx ry ⟨a, b, ks, ls, e1, e2, h1, h2, h3, h4, end_now r (.bl _) g.2 k⟩
end
end Dz
namespace Dz
open PySem L2

/-! ### the small tree -/
inductive B2 where
  | add | sub | mul | fdiv | mod | pow
  deriving DecidableEq
inductive Cm where
  | lt | le | gt | ge | eq | ne | isN | notN | isIn | notIn | eqD | neD | eqL | neL
  deriving DecidableEq
/-- a built-in that is called by its name -/
inductive Bi where
  | len | int1 | abs | min2 | max2 | tuple1 | list1 | sorted | all | any | sum | dict1
  deriving DecidableEq
/-- a built-in type's method -/
inductive Bm where
  | append | get1 | get2 | pop1 | pop2 | extend | remove
  deriving DecidableEq
/-- forms of a call by the values of its arguments -/
inductive Xt where
  | sset | lrng | isc (i : Nat)
  deriving DecidableEq
mutual
inductive E where
  | var (i : Nat) | int (i : Int) | str (x : Str) | bl (b : Bool) | non
  | glob (i : Nat)
  | b2 (o : B2) (a b : E) | neg (a : E)
  | cm (o : Cm) (a b : E) | ch (o o' : Cm) (a b c : E)
  | not (a : E) | and (es : Es) | or (es : Es) | ife (t a b : E)
  | tup (es : Es) | lst (es : Es)
  | ix (a i : E) | sl (a : E) (lo hi : O) | rev (a : E)
  | bi (f : Bi) (es : Es) | isi (a : E) (ts : List String)
  | call (i : Nat) (es : Es)
  | bm (f : Bm) (o : E) (es : Es)
  | comp (own : List (Str × Nat)) (g : G) (it : It) (cond : Es) (elt : E)
  | call0 (i : Nat)
  | fld (o : E) (f : Str)
  | mt (o : E) (i : Nat) (m : Str) (es : Es)
  | mk (i : Nat) (es : Es)
  | dic (kvs : Es) | dic0
  | dcomp (own : List (Str × Nat)) (g : G) (it : It) (cond : Es) (k v : E)
  | lock (e : E)
  | xt (k : Xt) (es : Es)
  | tcall (i : Nat) (e : E)
  | isE (i k : Nat)
  | fldE (i : Nat) (f : Str)
inductive Es where
  | nil | cons (e : E) (r : Es)
inductive O where
  | no | yes (e : E)
inductive G where
  | name (i : Nat) | tup (gs : Gs) | sub (o i : E)
inductive Gs where
  | nil | cons (g : G) (r : Gs)
inductive It where
  | seq (e : E) | rng (es : Es) | enum (e : E)
  | items (e : E)
end
/-- what becomes of the call of the thunk that was handed over -/
inductive Ak where
  | drop | set (i : Nat) | tupS (i : Nat) (s : Str)
  deriving DecidableEq
mutual
inductive T where
  | asg (g : G) (e : E) | setc (i : Nat) (e : E)
  | aug (i : Nat) (o : B2) (e : E)
  | ex (e : E) | ret (e : E) | retN | pass | brk | cont | never
  | ite (c : E) (a b : Ts)
  | for_ (g : G) (it : It) (body : Ts)
  | whil (c : E) (body : Ts)
  | fst (o : E) (f : Str) (e : E)
  | faug (o : E) (f : Str) (p : B2) (e : E)
  | saug (o i : E) (p : B2) (e : E)
  | par2 (i j : Nat) (a b : E)
  | par3 (i j l : Nat) (a b c : E)
  | del (o i : E)
  | lock (t : T)
  | rais (i : Nat)
  | try1 (body : Ts) (x : Nat) (suite : Ts)
  | tryN (body : Ts) (hs : Hd)
  | ac (k : Ak)
inductive Ts where
  | nil | cons (t : T) (r : Ts)
/-- except clauses: the class, the name behind `as`, the suite -/
inductive Hd where
  | nil | cons (i : Nat) (o : Option Nat) (su : Ts) (r : Hd)
end
def Es.len : Es → Nat
  | .nil => 0 | .cons _ r => r.len + 1
def Gs.len : Gs → Nat
  | .nil => 0 | .cons _ r => r.len + 1

/-! ### what calls mean -/
abbrev DSp := List D → Hs → QD → XQ → Prop
structure MthD where
  name : Str
  C : Addr
  sp : DSp
/-- a def that calls what it gets: what its call means, by what the call of what it gets means -/
abbrev LSp := (Hs → QD → XQ → Prop) → Hs → QD → Prop
structure LamD where
  name : Str
  /-- the maker's table of code objects, the name of those -/
  tab : Addr
  q : Str
  sp : LSp
/-- the thunk that was handed over, what its call means -/
structure ActD where
  d : D
  sp : Hs → QD → XQ → Prop
structure Cfg where
  fns : List (Str × DSp)
  cons : List (Str × D)
  nob : List Str
  /-- the attributes of instances -/
  flds : List (Addr × Str) := []
  /-- methods -/
  mths : List MthD := []
  /-- classes that are made: the name, the class, what __init__ means -/
  mks : List MthD := []
  /-- exceptions that are raised or caught -/
  excs : List (Str × Addr) := []
  /-- is the one an instance of the other -/
  exm : List (Addr × Addr × Bool) := []
  /-- classes that isinstance asks for -/
  clss : List (Str × Addr) := []
  /-- defs that a lambda is handed to -/
  lams : List LamD := []
  /-- what isinstance asks of a caught exception -/
  exn : List (Str × Value) := []
  exis : List (Addr × Nat × Bool) := []
  /-- the fields of exceptions -/
  xfl : List (Addr × Str) := []
  /-- the exception that is caught: its name, its place -/
  exv : Option (Nat × Addr × XD) := none
  act : Option ActD := none
/-- in a lambda -/
def Cfg.inner (c : Cfg) : Cfg := { c with lams := [], exv := none, act := none }
/-- in an except suite -/
def Cfg.suite (c : Cfg) (v : Option (Nat × Addr × XD)) : Cfg := { c with lams := [], exv := v, act := none }

/-! ### operations -/
def B2.w : B2 → D → D → Hs → QD → Prop
  | .add => addW | .sub => subW | .mul => mulW | .fdiv => fdivW | .mod => modW | .pow => powW
def B2.op : B2 → Operator
  | .add => .Add | .sub => .Sub | .mul => .Mult | .fdiv => .FloorDiv | .mod => .Mod | .pow => .Pow
def Cm.w : Cm → D → D → Hs → QD → Prop
  | .eqL => eqLW | .neL => neLW | .eqD => eqDW | .neD => neDW | .lt => ltW | .le => leW | .gt => gtW | .ge => geW | .eq => eqW | .ne => neW | .isN => isNW | .notN => notNW | .isIn => inW | .notIn => notInW
def Cm.op : Cm → CmpOp
  | .eqL => .Eq | .neL => .NotEq | .eqD => .Eq | .neD => .NotEq | .lt => .Lt | .le => .LtE | .gt => .Gt | .ge => .GtE | .eq => .Eq | .ne => .NotEq | .isN => .Is | .notN => .IsNot | .isIn => .In | .notIn => .NotIn
def augW : B2 → D → D → Hs → QD → Prop
  | .add, .int i, .int j, S, Q => Q (.int (i + j)) S
  | .add, .str x, .str y, S, Q => x.length + y.length ≤ sizeLine ∧ Q (.str (x ++ y)) S
  | .sub, .int i, .int j, S, Q => Q (.int (i - j)) S
  | _, _, _, _, _ => False
def negW : D → Hs → QD → Prop
  | .int i, S, Q => Q (.int (-i)) S
  | _, _, _ => False
def ixW : D → D → Hs → QD → Prop
  | .str z, .int i, S, Q => z.length ≤ sizeLine ∧ ∃ c, atI z.cps.toList i = some c ∧ Q (.str ⟨#[c]⟩) S
  | .tup xs, .int i, S, Q => ∃ x, atI xs i = some x ∧ Q x S
  | .ctp xs, .int i, S, Q => ∃ x, atI xs i = some x ∧ Q x S
  | .lst xs, .int i, S, Q => ∃ x, atI xs i = some x ∧ Q x S
  | .ref a, d, S, Q => (∃ xs i x, S a = some (.lst xs) ∧ d = .int i ∧ atI xs i = some x ∧ Q x S) ∨ ∃ x, dgetR S a d (some x) ∧ Q x S
  | _, _, _, _ => False
def cutD (xs : List D) (lo hi : Option Int) : List D := (xs.drop (HT.sIx xs.length 0 lo)).take (HT.sIx xs.length xs.length hi - HT.sIx xs.length 0 lo)
def slW : D → Option Int → Option Int → Hs → QD → Prop
  | .str z, lo, hi, S, Q => z.length ≤ sizeLine ∧ Q (.str (cutS z lo hi)) S
  | .tup xs, lo, hi, S, Q => Q (.tup (cutD xs lo hi)) S
  | d, lo, hi, S, Q => ∃ xs, lstOf S d = some xs ∧ NewL (cutD xs lo hi) S Q
def revW : D → Hs → QD → Prop
  | .tup xs, S, Q => xs.length ≤ sizeLine ∧ Q (.tup xs.reverse) S
  | d, S, Q => ∃ xs, lstOf S d = some xs ∧ NewL xs.reverse S Q
def MO.len : MO → Option Nat
  | .lst xs => some xs.length | .dK kvs => some kvs.length | .dT kvs => some kvs.length | _ => none
def lenW : D → Hs → QD → Prop
  | .str z, S, Q => z.length ≤ sizeLine ∧ Q (.int z.length) S
  | .ref a, S, Q => ∃ o n, S a = some o ∧ o.len = some n ∧ Q (.int (n : Nat)) S
  | d, S, Q => ∃ xs, seqOf S d = some xs ∧ Q (.int xs.length) S
def intW : D → Hs → QD → Prop
  | .int i, S, Q => Q (.int i) S
  | .bl b, S, Q => Q (.int (if b then 1 else 0)) S
  | _, _, _ => False
def absW : D → Hs → QD → Prop
  | .int i, S, Q => Q (.int (if i < 0 then -i else i)) S
  | _, _, _ => False
def minW : D → D → Hs → QD → Prop
  | .int i, .int j, S, Q => Q (.int (if j < i then j else i)) S
  | _, _, _, _ => False
def maxW : D → D → Hs → QD → Prop
  | .int i, .int j, S, Q => Q (.int (if j > i then j else i)) S
  | _, _, _, _ => False
def tupleW : D → Hs → QD → Prop
  | .ctp xs, S, Q => Q (.ctp xs) S
  | d, S, Q => ∃ xs, seqOf S d = some xs ∧ Q (.tup xs) S
def listW : D → Hs → QD → Prop := fun d S Q => ∃ xs, seqOf S d = some xs ∧ NewL xs S Q
def sortI (ns : List Int) : List Int := ns.mergeSort (fun a b => decide (a ≤ b))
def sortedW (d : D) (S : Hs) (Q : QD) : Prop :=
  (∃ ns : List Int, seqOf S d = some (ns.map D.int) ∧ NewL ((sortI ns).map D.int) S Q) ∨
  (∃ xs : List Str, lstOf S d = some (xs.map D.str) ∧ xs.length < 64 ∧ ∀ ys : List Str, ys.Perm xs → PyProof.Rows.sortedS ys = true → NewL (ys.map D.str) S Q) ∨
  (∃ a kvs, ∃ ks : List Str, d = .ref a ∧ (S a = some (.dK kvs) ∨ S a = some (.zK kvs)) ∧ kvs.map (·.1) = ks.map Sum.inr ∧ ks.length < 64 ∧ ∀ ys : List Str, ys.Perm ks → PyProof.Rows.sortedS ys = true → NewL (ys.map D.str) S Q) ∨
  ∃ a kvs, ∃ ks : List Int, d = .ref a ∧ (S a = some (.dK kvs) ∨ S a = some (.zK kvs)) ∧ kvs.map (·.1) = ks.map Sum.inl ∧ ks.length ≤ 1000000 ∧ NewL ((sortI ks).map D.int) S Q
def allW : D → Hs → QD → Prop := fun d S Q => ∃ bs : List Bool, lstOf S d = some (bs.map D.bl) ∧ Q (.bl (bs.all id)) S
def anyW : D → Hs → QD → Prop := fun d S Q => ∃ bs : List Bool, lstOf S d = some (bs.map D.bl) ∧ Q (.bl (bs.any id)) S
def sumW : D → Hs → QD → Prop := fun d S Q => ∃ ns : List Int, lstOf S d = some (ns.map D.int) ∧ Q (.int ns.sum) S
/-- dict(d), dict(pairs) -/
def dictW (d : D) (S : Hs) (Q : QD) : Prop :=
  (∃ a kvs, d = .ref a ∧ (S a = some (.dK kvs) ∨ S a = some (.zK kvs)) ∧ ∀ p, S p = none → Q (.ref p) (sup S p (.dK kvs))) ∨
  ∃ kvs : List (Key × D), lstOf S d = some (kvs.map fun p => D.tup [keyD p.1, p.2]) ∧ ∀ p, S p = none → Q (.ref p) (sup S p (.dK (mergeD [] kvs)))
def Bi.w : Bi → OW
  | .len => one lenW | .int1 => one intW | .abs => one absW | .min2 => two minW | .max2 => two maxW | .tuple1 => one tupleW | .list1 => one listW
  | .sorted => one sortedW | .all => one allW | .any => one anyW | .sum => one sumW | .dict1 => one dictW
/-- by no iterator -/
def Bi.free : Bi → Bool
  | .sorted => false | .dict1 => false | .min2 => false | .max2 => false | .all => false | .any => false | .sum => false | _ => true
def Bi.name : Bi → Str
  | .len => "len" | .int1 => "int" | .abs => "abs" | .min2 => "min" | .max2 => "max" | .tuple1 => "tuple" | .list1 => "list" | .sorted => "sorted" | .all => "all" | .any => "any" | .sum => "sum" | .dict1 => "dict"
def appendW : D → D → Hs → QD → Prop
  | .ref a, y, S, Q => ∃ xs, S a = some (.lst xs) ∧ xs.length < sizeLine ∧ Q .non (sup S a (.lst (xs ++ [y])))
  | _, _, _, _ => False
def get1W : D → D → Hs → QD → Prop
  | .ref a, k, S, Q => ∃ o, dgetR S a k o ∧ Q (o.getD .non) S
  | _, _, _, _ => False
def three (f : D → D → D → Hs → QD → Prop) : OW := fun ds S Q => match ds with
  | [a, b, c] => f a b c S Q
  | _ => False
def get2W : D → D → D → Hs → QD → Prop
  | .ref a, k, x, S, Q => ∃ o, dgetR S a k o ∧ Q (o.getD x) S
  | _, _, _, _, _ => False
def pop1W : D → D → Hs → QD → Prop
  | .ref a, d, S, Q => ∃ kvs k v, S a = some (.dK kvs) ∧ d.key = some k ∧ valD kvs k = some v ∧ Q v (sup S a (.dK (dropD kvs k)))
  | _, _, _, _ => False
def pop2W : D → D → D → Hs → QD → Prop
  | .ref a, d, x, S, Q => ∃ kvs k, S a = some (.dK kvs) ∧ d.key = some k ∧ ∀ o, valD kvs k = o → Q (o.getD x) (match o with | some _ => sup S a (.dK (dropD kvs k)) | none => S)
  | _, _, _, _, _ => False
/-- o.extend(a live list) -/
def extendW : D → D → Hs → QD → Prop
  | .ref a, .ref b, S, Q => ∃ xs ys, S a = some (.lst xs) ∧ S b = some (.lst ys) ∧ xs.length + ys.length ≤ sizeLine ∧ Q .non (sup S a (.lst (xs ++ ys)))
  | _, _, _, _ => False
def removeW : D → D → Hs → QD → Prop
  | .ref a, .int k, S, Q => ∃ ns : List Int, S a = some (.lst (ns.map D.int)) ∧ k ∈ ns ∧ Q .non (sup S a (.lst ((ns.erase k).map D.int)))
  | _, _, _, _ => False
def Bm.w : Bm → OW
  | .extend => two extendW | .remove => two removeW
  | .append => two appendW | .get1 => two get1W | .get2 => three get2W | .pop1 => two pop1W | .pop2 => three pop2W
/-- what the receiver must be, ahead of the arguments -/
def isDic : MO → Bool
  | .dK _ => true | .dT _ => true | .zK _ => true | .zT _ => true | _ => false
def Bm.ty (S : Hs) (d : D) : Bm → Prop
  | .append => ∃ xs, lstOf S d = some xs
  | .extend => ∃ xs, lstOf S d = some xs
  | .remove => ∃ xs, lstOf S d = some xs
  | _ => ∃ a o, d = .ref a ∧ S a = some o ∧ isDic o = true
def Bm.name : Bm → Str
  | .extend => "extend" | .remove => "remove"
  | .append => "append" | .get1 => "get" | .get2 => "get" | .pop1 => "pop" | .pop2 => "pop"
def Bm.many : Bm → Nat
  | .extend => 1 | .remove => 1
  | .append => 1 | .get1 => 1 | .get2 => 2 | .pop1 => 1 | .pop2 => 2
def MO.lk : MO → Option MO
  | .dK kvs => some (.zK kvs) | .dT kvs => some (.zT kvs) | _ => none
/-- o is read of an instance -/
def putFD (f : Str) (d : D) : List (Str × D) → List (Str × D)
  | [] => [(f, d)]
  | p :: r => if p.1 = f then (f, d) :: r else p :: putFD f d r
def tyName (S : Hs) : D → Option String
  | .non => some "NoneType" | .bl _ => some "bool" | .int _ => some "int" | .str _ => some "str" | .tup _ => some "tuple" | .ctp _ => some "tuple" | .lst _ => some "list"
  | .ref a => match S a with
    | some (.lst _) => some "list" | some (.dK _) => some "dict" | some (.dT _) => some "dict" | some (.zK _) => some "dict" | _ => none
  | .ty _ => none
  | .fnp _ _ _ _ _ => none
def isiAny (t : String) : List String → Option Bool
  | [] => some false
  | c :: cs => match kitB t c with
    | some true => some true
    | some false => isiAny t cs
    | none => none
def TruD (S : Hs) : D → Bool → Prop
  | .non, b => b = false
  | .bl c, b => b = c
  | .int i, b => b = (i != 0)
  | .str y, b => y.length ≤ sizeLine ∧ b = ((y.length : Int) != 0)
  | .tup xs, b => b = !xs.isEmpty
  | .ctp xs, b => b = !xs.isEmpty
  | .lst xs, b => b = !xs.isEmpty
  | .ref a, b => (∃ xs, S a = some (.lst xs) ∧ b = !xs.isEmpty) ∨ (∃ kvs, S a = some (.dK kvs) ∧ b = !kvs.isEmpty)
  | .ty _, _ => False
  | .fnp _ _ _ _ _, _ => False
def wipeD (ρ : List (Option D)) : List Nat → List (Option D)
  | [] => ρ
  | v :: vs => (wipeD ρ vs).set v none
/-- what is iterated: the items; what must hold of the live objects at each turn -/
abbrev QI := List D → (Hs → Prop) → Hs → Prop
def MO.items : MO → Option (List D)
  | .lst xs => some xs | .zK kvs => some (kvs.map fun p => keyD p.1) | .zT kvs => some (kvs.map fun p => D.tup (p.1.map keyD)) | _ => none
def strD (z : Str) : List D := z.cps.toList.map fun c => D.str ⟨#[c]⟩
def seqI (d : D) (S : Hs) (Q : QI) : Prop := match d with
  | .ref a => ∃ o xs, S a = some o ∧ o.items = some xs ∧ Q xs (fun S' => S' a = some o) S
  | .lst xs => Q xs (fun _ => True) S
  | .tup xs => Q xs (fun _ => True) S
  | .ctp xs => Q xs (fun _ => True) S
  | .str z => Q (strD z) (fun _ => True) S
  | _ => False
def itemsI (d : D) (S : Hs) (Q : QI) : Prop := match d with
  | .ref a => ∃ kvs, S a = some (.zK kvs) ∧ Q (kvs.map fun p => D.tup [keyD p.1, p.2]) (fun S' => S' a = some (.zK kvs)) S
  | _ => False
def rngD (lo : Int) (n : Nat) : List D := (List.range n).map fun i : Nat => D.int (lo + (i : Int))
def rng3D (lo c : Int) (n : Nat) : List D := (List.range n).map fun i : Nat => D.int (lo + (i : Int) * c)
def rngI : List D → Hs → QI → Prop
  | [.int i, .int j, .int c], S, Q => ∃ n, RgC i j c n ∧ Q (rng3D i c n) (fun _ => True) S
  | [.int j], S, Q => -(2 ^ 62) ≤ j ∧ j < 2 ^ 62 ∧ Q (rngD 0 j.toNat) (fun _ => True) S
  | [.int i, .int j], S, Q => (-(2 ^ 62) ≤ i ∧ i < 2 ^ 62 ∧ -(2 ^ 62) ≤ j ∧ j < 2 ^ 62) ∧ Q (rngD i (j - i).toNat) (fun _ => True) S
  | _, _, _ => False
def enumD (xs : List D) : List D := xs.mapIdx fun i x => D.tup [D.int (i : Nat), x]
def enumI (d : D) (S : Hs) (Q : QI) : Prop := match d with
  | .ref a => ∃ xs, S a = some (.lst xs) ∧ Q (enumD xs) (fun S' => S' a = some (.lst xs)) S
  | .lst xs => Q (enumD xs) (fun _ => True) S
  | .tup xs => Q (enumD xs) (fun _ => True) S
  | _ => False
def setW (o i v : D) (S : Hs) (Q : Hs → Prop) : Prop := match o with
  | .ref a => (∃ xs k j, S a = some (.lst xs) ∧ i = .int k ∧ ixN xs.length k = some j ∧ Q (sup S a (.lst (xs.set j v)))) ∨ dputR S a i v Q
  | _ => False
abbrev Ro := List (Option D)
abbrev X0 : XQ := fun _ _ => False

/-- a comprehension's turns -/
def compB (vs : List Nat) (wg : D → Ro → Hs → (Ro → Hs → Prop) → XQ → Prop) (wc : WB) (we : WE) (ρ : Ro) (Q : QD) : QI := fun ds Pr S1 =>
  ds.length ≤ sizeLine ∧ ∀ L, S1 L = none → ∃ W : Nat → List D → Hs → Prop, W 0 [] (sup S1 L (.lst [])) ∧
      (∀ i x acc S2, ds[i]? = some x → acc.length ≤ i → W i acc S2 → S2 L = some (.lst acc) ∧ Pr S2 ∧ wg x (wipeD ρ vs) S2 (fun ρ' S3 =>
        wc ρ' S3 (fun b S4 => if b = true then we ρ' S4 (fun y S5 => S5 L = some (.lst acc) ∧ W (i + 1) (acc ++ [y]) (sup S5 L (.lst (acc ++ [y])))) X0 else W (i + 1) acc S4) X0) X0) ∧
      (∀ acc S2, acc.length ≤ ds.length → W ds.length acc S2 → S2 L = some (.lst acc) ∧ Pr S2 ∧ (Q (.lst acc) (sdel S2 L) ∨ Q (.ref L) S2))
/-- a dict comprehension's turns -/
def dcompB (vs : List Nat) (wg : D → Ro → Hs → (Ro → Hs → Prop) → XQ → Prop) (wc : WB) (wk wv : WE) (ρ : Ro) (Q : QD) : QI := fun ds Pr S1 =>
  ds.length < sizeLine ∧ ∀ L, S1 L = none → ∃ W : Nat → List (Key × D) → Hs → Prop, W 0 [] (sup S1 L (.dK [])) ∧
      (∀ i x acc S2, ds[i]? = some x → acc.length ≤ i → W i acc S2 → S2 L = some (.dK acc) ∧ Pr S2 ∧ wg x (wipeD ρ vs) S2 (fun ρ' S3 =>
        wc ρ' S3 (fun b S4 => if b = true then wk ρ' S4 (fun y S5 => wv ρ' S5 (fun z S6 => S6 L = some (.dK acc) ∧ ∃ k, y.key = some k ∧ W (i + 1) (putD acc k z) (sup S6 L (.dK (putD acc k z)))) X0) X0 else W (i + 1) acc S4) X0) X0) ∧
      (∀ acc S2, acc.length ≤ ds.length → W ds.length acc S2 → S2 L = some (.dK acc) ∧ Pr S2 ∧ Q (.ref L) S2)
/-- a for's turns -/
def forB (wg : D → Ro → Hs → (Ro → Hs → Prop) → XQ → Prop) (wt : WT) (Z : DE) (ρ : Ro) : QI := fun ds Pr S1 =>
  ∃ W : Nat → Ro → Hs → Prop, W 0 ρ S1 ∧
      (∀ i x ρ2 S2, ds[i]? = some x → W i ρ2 S2 → Pr S2 ∧ wg x ρ2 S2 (fun ρ3 S3 => wt { nx := W (i + 1), rt := Z.rt, bk := Z.nx, ct := W (i + 1), ex := Z.ex } ρ3 S3) (fun x S' => Z.ex x ρ2 S')) ∧
      (∀ ρ2 S2, W ds.length ρ2 S2 → Pr S2 ∧ Z.nx ρ2 S2)
/-- a while's turns -/
def whilB (wc : WB) (wt : WT) (Z : DE) (ρ : Ro) (S : Hs) : Prop :=
  ∃ W : Nat → Ro → Hs → Prop, (∃ m, W m ρ S) ∧ ∀ m ρ2 S2, W m ρ2 S2 →
      wc ρ2 S2 (fun k S3 => if k = true then wt { nx := fun ρ4 S4 => ∃ m', m' < m ∧ W m' ρ4 S4, rt := Z.rt, bk := Z.nx, ct := fun ρ4 S4 => ∃ m', m' < m ∧ W m' ρ4 S4, ex := Z.ex } ρ2 S3 else Z.nx ρ2 S3) (fun x S' => Z.ex x ρ2 S')
/-- what is handed back: a live list may be frozen -/
def retW (d : D) (S : Hs) (rt : QD) : Prop := rt d S ∨ ∃ a xs, d = .ref a ∧ S a = some (.lst xs) ∧ rt (.lst xs) (sdel S a)
/-- .. of a list or a dict -/
def ixR (S : Hs) (a : Addr) (d : D) (Q : D → Prop) : Prop := (∃ xs i x, S a = some (.lst xs) ∧ d = .int i ∧ 0 ≤ i ∧ atI xs i = some x ∧ Q x) ∨ ∃ x, dgetR S a d (some x) ∧ Q x
def augIx : D → D → Hs → QD → Prop
  | .ref a, d, S, Q => ixR S a d fun x => Q x S
  | _, _, _, _ => False
/-- {}: of plain keys, of tuples -/
def NewD (S : Hs) (Q : QD) : Prop := (∀ y, S y = none → Q (.ref y) (sup S y (.dK []))) ∨ ∀ y, S y = none → Q (.ref y) (sup S y (.dT []))
/-- sorted(set(ints)) -/
def ssetW (d : D) (S : Hs) (Q : QD) : Prop := ∃ ns : List Int, seqOf S d = some (ns.map D.int) ∧ ns.length < 64 ∧ ∀ ms : List Int, ms.Pairwise (· < ·) → (∀ k, k ∈ ms ↔ k ∈ ns) → NewL (ms.map D.int) S Q
def lrngW : OW := fun ds S Q => match ds with
  | [.int j] => RgOk 0 j ∧ NewL (rngD 0 j.toNat) S Q
  | [.int i, .int j] => RgOk i j ∧ NewL (rngD i (j - i).toNat) S Q
  | _ => False
def iscW (c : Cfg) (i : Nat) : D → Hs → QD → Prop
  | .ref a, S, Q => ∃ p fs, c.clss[i]? = some p ∧ S a = some (.ins p.2 fs) ∧ Q (.bl true) S
  | _, _, _ => False
def Xt.w (c : Cfg) : Xt → OW
  | .sset => one ssetW | .lrng => lrngW | .isc i => one (iscW c i)
/-- behind `except .. as` the name is gone -/
def goneD (j : Nat) (D : DE) : DE := { nx := fun ρ S => D.nx (ρ.set j none) S, rt := D.rt, bk := fun ρ S => D.bk (ρ.set j none) S, ct := fun ρ S => D.ct (ρ.set j none) S }
def acW : Ak → D → DE → Ro → Hs → Prop
  | .drop, _, Z, ρ, S => Z.nx ρ S
  | .set i, d, Z, ρ, S => Z.nx (ρ.set i (some d)) S
  | .tupS i s, d, Z, ρ, S => [D.str s, d].length ≤ sizeLine ∧ Z.nx (ρ.set i (some (.tup [.str s, d]))) S
/-! ### the wish -/
mutual
def wE (c : Cfg) : E → WE
  | .var i, ρ, S, Q, _ => ∃ d, ρ[i]? = some (some d) ∧ Q d S
  | .int i, _, S, Q, _ => Q (.int i) S
  | .str x, _, S, Q, _ => Q (.str x) S
  | .bl b, _, S, Q, _ => Q (.bl b) S
  | .non, _, S, Q, _ => Q .non S
  | .glob i, _, S, Q, _ => ∃ p, c.cons[i]? = some p ∧ Q p.2 S
  | .b2 o a b, ρ, S, Q, X => wE c a ρ S (fun x S1 => wE c b ρ S1 (fun y S2 => o.w x y S2 Q) X) X
  | .neg a, ρ, S, Q, X => wE c a ρ S (fun x S1 => negW x S1 Q) X
  | .cm o a b, ρ, S, Q, X => wE c a ρ S (fun x S1 => wE c b ρ S1 (fun y S2 => o.w x y S2 Q) X) X
  | .ch o o' a b e, ρ, S, Q, X => wE c a ρ S (fun x S1 => wE c b ρ S1 (fun y S2 => o.w x y S2 fun z S3 => ∃ k, z = .bl k ∧
      if k = true then wE c e ρ S3 (fun w S4 => o'.w y w S4 Q) X else Q (.bl false) S3) X) X
  | .not a, ρ, S, Q, X => wE c a ρ S (fun x S1 => ∃ k, x = .bl k ∧ Q (.bl (!k)) S1) X
  | .and es, ρ, S, Q, X => wAnd c es ρ S Q X
  | .or es, ρ, S, Q, X => wOr c es ρ S Q X
  | .ife t a b, ρ, S, Q, X => wB c t ρ S (fun k S1 => if k = true then wE c a ρ S1 Q X else wE c b ρ S1 Q X) X
  | .tup es, ρ, S, Q, X => wEs c es ρ S (fun ds S1 => ds.length ≤ sizeLine ∧ Q (.tup ds) S1) X
  | .lst es, ρ, S, Q, X => wEs c es ρ S (fun ds S1 => ds.length ≤ sizeLine ∧ NewL ds S1 Q) X
  | .ix a i, ρ, S, Q, X => wE c a ρ S (fun x S1 => wE c i ρ S1 (fun y S2 => ixW x y S2 Q) X) X
  | .sl a lo hi, ρ, S, Q, X => wE c a ρ S (fun x S1 => wO c lo ρ S1 (fun l S2 => wO c hi ρ S2 (fun h S3 => slW x l h S3 Q) X) X) X
  | .rev a, ρ, S, Q, X => wE c a ρ S (fun x S1 => revW x S1 Q) X
  | .bi f es, ρ, S, Q, X => wEs c es ρ S (fun ds S1 => f.w ds S1 Q) X
  | .isi a ts, ρ, S, Q, X => wE c a ρ S (fun x S1 => ∃ t b, tyName S1 x = some t ∧ isiAny t ts = some b ∧ Q (.bl b) S1) X
  | .call i es, ρ, S, Q, X => wEs c es ρ S (fun ds S1 => ∃ p, c.fns[i]? = some p ∧ p.2 ds S1 Q X) X
  | .bm f o es, ρ, S, Q, X => wE c o ρ S (fun x S1 => f.ty S1 x ∧ wEs c es ρ S1 (fun ds S2 => f.w (x :: ds) S2 Q) X) X
  | .comp own g it cond elt, ρ, S, Q, X => wI c it ρ S (compB (own.map (·.2)) (wG c g) (wC c cond) (wE c elt) ρ Q) X
  | .call0 i, _, S, Q, X => ∃ p, c.fns[i]? = some p ∧ p.2 [] S Q X
  | .fld o f, ρ, S, Q, X => wE c o ρ S (fun x S1 => ∃ a C fs d, x = .ref a ∧ S1 a = some (.ins C fs) ∧ (C, f) ∈ c.flds ∧ fs.lookup f = some d ∧ Q d S1) X
  | .mt o i m es, ρ, S, Q, X => wE c o ρ S (fun x S1 => ∃ a fs p, x = .ref a ∧ c.mths[i]? = some p ∧ p.name = m ∧ S1 a = some (.ins p.C fs) ∧ fs.lookup m = none ∧ wEs c es ρ S1 (fun ds S2 => p.sp (x :: ds) S2 Q X) X) X
  | .mk i es, ρ, S, Q, X => wEs c es ρ S (fun ds S1 => ∃ p, c.mks[i]? = some p ∧ ∀ y, S1 y = none → p.sp (.ref y :: ds) (sup S1 y (.ins p.C [])) (fun d S2 => d = .non ∧ Q (.ref y) S2) X) X
  | .dic kvs, ρ, S, Q, X => ∀ y, S y = none → wPr c kvs ρ (sup S y (.dK [])) (fun ps S2 => S2 y = some (.dK []) ∧ ∃ kvs : List (Key × D), ps = kvs.map (fun p => (keyD p.1, p.2)) ∧ kvs.length ≤ 15 ∧ Q (.ref y) (sup S2 y (.dK (mergeD [] kvs)))) X
  | .dic0, _, S, Q, _ => NewD S Q
  | .dcomp own g it cond ke ve, ρ, S, Q, X => wI c it ρ S (dcompB (own.map (·.2)) (wG c g) (wC c cond) (wE c ke) (wE c ve) ρ Q) X
  | .lock e, ρ, S, Q, _ => ∃ a o z, S a = some o ∧ o.lk = some z ∧ wE c e ρ (sup S a z) (fun d S1 => S1 a = some z ∧ Q d (sup S1 a o)) X0
  | .xt k es, ρ, S, Q, X => wEs c es ρ S (fun ds S1 => k.w c ds S1 Q) X
  | .tcall i e, ρ, S, Q, _ => ∃ p, c.lams[i]? = some p ∧ S p.tab = some (.tab p.q) ∧ p.sp (fun S1 Q1 X1 => wE c.inner e ρ S1 Q1 X1) S Q
  | .isE i k, ρ, S, Q, _ => ∃ a C b, c.exv = some (i, a, ⟨C, none⟩) ∧ ρ[i]? = some (some (.ref a)) ∧ (C, k, b) ∈ c.exis ∧ Q (.bl b) S
  | .fldE i f, ρ, S, Q, _ => ∃ a C p fs d, c.exv = some (i, a, ⟨C, some p⟩) ∧ ρ[i]? = some (some (.ref a)) ∧ (C, f) ∈ c.xfl ∧ S p = some (.xd fs) ∧ fs.lookup f = some d ∧ Q d S
def wB (c : Cfg) : E → WB
  | .not a, ρ, S, Q, X => wB c a ρ S (fun k S1 => Q (!k) S1) X
  | .and es, ρ, S, Q, X => wBAnd c es ρ S Q X
  | .or es, ρ, S, Q, X => wBOr c es ρ S Q X
  | .cm o a b, ρ, S, Q, X => wE c a ρ S (fun x S1 => wE c b ρ S1 (fun y S2 => o.w x y S2 fun z S3 => ∃ k, z = .bl k ∧ Q k S3) X) X
  | .ch o o' a b e, ρ, S, Q, X => wE c a ρ S (fun x S1 => wE c b ρ S1 (fun y S2 => o.w x y S2 fun z S3 => ∃ k, z = .bl k ∧
      if k = true then wE c e ρ S3 (fun w S4 => o'.w y w S4 fun z' S5 => ∃ k', z' = .bl k' ∧ Q k' S5) X else ∃ k', D.bl false = .bl k' ∧ Q k' S3) X) X
  | .var i, ρ, S, Q, _ => ∃ d, ρ[i]? = some (some d) ∧ ∃ k, TruD S d k ∧ Q k S
  | .ix a i, ρ, S, Q, X => wE c a ρ S (fun x S1 => wE c i ρ S1 (fun y S2 => ixW x y S2 fun d S3 => ∃ k, TruD S3 d k ∧ Q k S3) X) X
  | .bi f es, ρ, S, Q, X => wEs c es ρ S (fun ds S1 => f.w ds S1 fun d S3 => ∃ k, TruD S3 d k ∧ Q k S3) X
  | .isi a ts, ρ, S, Q, X => wE c a ρ S (fun x S1 => ∃ t b, tyName S1 x = some t ∧ isiAny t ts = some b ∧ Q b S1) X
  | .call i es, ρ, S, Q, X => wEs c es ρ S (fun ds S1 => ∃ p, c.fns[i]? = some p ∧ p.2 ds S1 (fun d S3 => ∃ k, TruD S3 d k ∧ Q k S3) X) X
  | .bm f o es, ρ, S, Q, X => wE c o ρ S (fun x S1 => f.ty S1 x ∧ wEs c es ρ S1 (fun ds S2 => f.w (x :: ds) S2 fun d S3 => ∃ k, TruD S3 d k ∧ Q k S3) X) X
  | .call0 i, _, S, Q, X => ∃ p, c.fns[i]? = some p ∧ p.2 [] S (fun d S3 => ∃ k, TruD S3 d k ∧ Q k S3) X
  | .xt k es, ρ, S, Q, X => wEs c es ρ S (fun ds S1 => k.w c ds S1 fun d S3 => ∃ b, TruD S3 d b ∧ Q b S3) X
  | .isE i k, ρ, S, Q, _ => ∃ a C b, c.exv = some (i, a, ⟨C, none⟩) ∧ ρ[i]? = some (some (.ref a)) ∧ (C, k, b) ∈ c.exis ∧ Q b S
  | .fld o f, ρ, S, Q, X => wE c o ρ S (fun x S1 => ∃ a C fs d, x = .ref a ∧ S1 a = some (.ins C fs) ∧ (C, f) ∈ c.flds ∧ fs.lookup f = some d ∧ ∃ k, TruD S1 d k ∧ Q k S1) X
  | .mt o i m es, ρ, S, Q, X => wE c o ρ S (fun x S1 => ∃ a fs p, x = .ref a ∧ c.mths[i]? = some p ∧ p.name = m ∧ S1 a = some (.ins p.C fs) ∧ fs.lookup m = none ∧ wEs c es ρ S1 (fun ds S2 => p.sp (x :: ds) S2 (fun d S3 => ∃ k, TruD S3 d k ∧ Q k S3) X) X) X
  | _, _, _, _, _ => False
def wAnd (c : Cfg) : Es → WE
  | .nil, _, _, _, _ => False
  | .cons e .nil, ρ, S, Q, X => wE c e ρ S Q X
  | .cons e r, ρ, S, Q, X => wE c e ρ S (fun x S1 => ∃ k, x = .bl k ∧ if k = true then wAnd c r ρ S1 Q X else Q (.bl false) S1) X
def wOr (c : Cfg) : Es → WE
  | .nil, _, _, _, _ => False
  | .cons e .nil, ρ, S, Q, X => wE c e ρ S Q X
  | .cons e r, ρ, S, Q, X => wE c e ρ S (fun x S1 => ∃ k, x = .bl k ∧ if k = true then Q (.bl true) S1 else wOr c r ρ S1 Q X) X
def wBAnd (c : Cfg) : Es → WB
  | .nil, _, _, _, _ => False
  | .cons e .nil, ρ, S, Q, X => wB c e ρ S Q X
  | .cons e r, ρ, S, Q, X => wB c e ρ S (fun k S1 => if k = true then wBAnd c r ρ S1 Q X else Q false S1) X
def wBOr (c : Cfg) : Es → WB
  | .nil, _, _, _, _ => False
  | .cons e .nil, ρ, S, Q, X => wB c e ρ S Q X
  | .cons e r, ρ, S, Q, X => wB c e ρ S (fun k S1 => if k = true then Q true S1 else wBOr c r ρ S1 Q X) X
def wEs (c : Cfg) : Es → WA
  | .nil, _, S, Q, _ => Q [] S
  | .cons e r, ρ, S, Q, X => wE c e ρ S (fun x S1 => wEs c r ρ S1 (fun xs S2 => Q (x :: xs) S2) X) X
def wPr (c : Cfg) : Es → Ro → Hs → (List (D × D) → Hs → Prop) → XQ → Prop
  | .nil, _, S, Q, _ => Q [] S
  | .cons _ .nil, _, _, _, _ => False
  | .cons k (.cons v r), ρ, S, Q, X => wE c k ρ S (fun x S1 => wE c v ρ S1 (fun y S2 => wPr c r ρ S2 (fun ps S3 => Q ((x, y) :: ps) S3) X) X) X
/-- the test of a comprehension -/
def wC (c : Cfg) : Es → WB
  | .nil, _, S, Q, _ => Q true S
  | .cons e .nil, ρ, S, Q, X => wB c e ρ S Q X
  | .cons _ (.cons _ _), _, _, _, _ => False
def wO (c : Cfg) : O → List (Option D) → Hs → (Option Int → Hs → Prop) → XQ → Prop
  | .no, _, S, Q, _ => Q none S
  | .yes e, ρ, S, Q, X => wE c e ρ S (fun x S1 => ∃ i, x = .int i ∧ Q (some i) S1) X
def wG (c : Cfg) : G → D → List (Option D) → Hs → (List (Option D) → Hs → Prop) → XQ → Prop
  | .name i, d, ρ, S, Q, _ => Q (ρ.set i (some d)) S
  | .tup gs, d, ρ, S, Q, X => ∃ ds, d = .tup ds ∧ ds.length = gs.len ∧ wGs c gs ds ρ S Q X
  | .sub o i, d, ρ, S, Q, X => wE c o ρ S (fun x S1 => wE c i ρ S1 (fun y S2 => setW x y d S2 fun S3 => Q ρ S3) X) X
def wGs (c : Cfg) : Gs → List D → List (Option D) → Hs → (List (Option D) → Hs → Prop) → XQ → Prop
  | .nil, ds, ρ, S, Q, _ => ds = [] ∧ Q ρ S
  | .cons g r, ds, ρ, S, Q, X => ∃ d t, ds = d :: t ∧ wG c g d ρ S (fun ρ' S' => wGs c r t ρ' S' Q X) X0
def wI (c : Cfg) : It → List (Option D) → Hs → QI → XQ → Prop
  | .seq e, ρ, S, Q, X => wE c e ρ S (fun d S1 => seqI d S1 Q) X
  | .rng es, ρ, S, Q, X => wEs c es ρ S (fun ds S1 => rngI ds S1 Q) X
  | .enum e, ρ, S, Q, X => wE c e ρ S (fun d S1 => enumI d S1 Q) X
  | .items e, ρ, S, Q, X => wE c e ρ S (fun d S1 => itemsI d S1 Q) X
end
mutual
def wT (c : Cfg) : T → WT
  | .asg g e, D, ρ, S => wE c e ρ S (fun d S1 => wG c g d ρ S1 D.nx (fun x S' => D.ex x ρ S')) (fun x S' => D.ex x ρ S')
  | .setc i e, D, ρ, S => wE c e ρ S (fun d S1 => D.nx (ρ.set i (some d)) S1) (fun x S' => D.ex x ρ S')
  | .aug i o e, D, ρ, S => ∃ x, ρ[i]? = some (some x) ∧ wE c e ρ S (fun y S1 => augW o x y S1 fun z S2 => D.nx (ρ.set i (some z)) S2) (fun x S' => D.ex x ρ S')
  | .ex e, D, ρ, S => wE c e ρ S (fun _ S1 => D.nx ρ S1) (fun x S' => D.ex x ρ S')
  | .ret e, D, ρ, S => wE c e ρ S (fun d S1 => retW d S1 D.rt) (fun x S' => D.ex x ρ S')
  | .retN, D, _, S => D.rt .non S
  | .pass, D, ρ, S => D.nx ρ S
  | .brk, D, ρ, S => D.bk ρ S
  | .cont, D, ρ, S => D.ct ρ S
  | .never, _, _, _ => False
  | .ite t a b, D, ρ, S => wB c t ρ S (fun k S1 => if k = true then wTs c a D ρ S1 else wTs c b D ρ S1) (fun x S' => D.ex x ρ S')
  | .for_ g it body, D, ρ, S => wI c it ρ S (forB (wG c g) (wTs c body) D ρ) (fun x S' => D.ex x ρ S')
  | .whil t body, D, ρ, S => whilB (wB c t) (wTs c body) D ρ S
  | .fst o f e, D, ρ, S => wE c e ρ S (fun d S1 => wE c o ρ S1 (fun x S2 => ∃ a C fs, x = .ref a ∧ S2 a = some (.ins C fs) ∧ (C, f) ∈ c.flds ∧ fs.length < 1000 ∧ D.nx ρ (sup S2 a (.ins C (putFD f d fs)))) (fun x S' => D.ex x ρ S')) (fun x S' => D.ex x ρ S')
  | .faug o f p e, D, ρ, S => wE c o ρ S (fun x S1 => ∃ a C fs d, x = .ref a ∧ S1 a = some (.ins C fs) ∧ (C, f) ∈ c.flds ∧ fs.lookup f = some d ∧
      wE c e ρ S1 (fun y S2 => augW p d y S2 fun z S3 => ∃ fs', S3 a = some (.ins C fs') ∧ fs'.length < 1000 ∧ D.nx ρ (sup S3 a (.ins C (putFD f z fs')))) (fun x S' => D.ex x ρ S')) (fun x S' => D.ex x ρ S')
  | .saug o i p e, D, ρ, S => wE c o ρ S (fun x S1 => wE c i ρ S1 (fun k S2 => augIx x k S2 fun d S3 => wE c e ρ S3 (fun y S4 => augW p d y S4 fun z S5 => setW x k z S5 fun S6 => D.nx ρ S6) (fun x S' => D.ex x ρ S')) (fun x S' => D.ex x ρ S')) (fun x S' => D.ex x ρ S')
  | .par2 i j a b, D, ρ, S => wE c a ρ S (fun x S1 => wE c b ρ S1 (fun y S2 => D.nx ((ρ.set i (some x)).set j (some y)) S2) (fun x S' => D.ex x ρ S')) (fun x S' => D.ex x ρ S')
  | .par3 i j l a b e, D, ρ, S => wE c a ρ S (fun x S1 => wE c b ρ S1 (fun y S2 => wE c e ρ S2 (fun z S3 => D.nx (((ρ.set i (some x)).set j (some y)).set l (some z)) S3) (fun x S' => D.ex x ρ S')) (fun x S' => D.ex x ρ S')) (fun x S' => D.ex x ρ S')
  | .del o i, D, ρ, S => wE c o ρ S (fun x S1 => wE c i ρ S1 (fun y S2 => ∃ a kvs k v, x = .ref a ∧ S2 a = some (.dK kvs) ∧ y.key = some k ∧ valD kvs k = some v ∧ D.nx ρ (sup S2 a (.dK (dropD kvs k)))) (fun x S' => D.ex x ρ S')) (fun x S' => D.ex x ρ S')
  | .lock t, D, ρ, S => ∃ a o z, S a = some o ∧ o.lk = some z ∧
      wT c t { nx := fun ρ' S' => S' a = some z ∧ D.nx ρ' (sup S' a o), rt := fun d S' => S' a = some z ∧ D.rt d (sup S' a o), bk := fun ρ' S' => S' a = some z ∧ D.bk ρ' (sup S' a o), ct := fun ρ' S' => S' a = some z ∧ D.ct ρ' (sup S' a o) } ρ (sup S a z)
  | .rais i, D, ρ, S => ∃ p, c.excs[i]? = some p ∧ D.ex ⟨p.2, none⟩ ρ S
  | .try1 body i suite, D, ρ, S => wTs c body { D with ex := fun x ρ' S' => ∃ p b, c.excs[i]? = some p ∧ (x.C, p.2, b) ∈ c.exm ∧ (b = true → wTs c suite { D with ex := fun _ _ _ => False } ρ' S') ∧ (b = false → D.ex x ρ' S') } ρ S
  | .tryN body hs, D, ρ, S => wTs c body { D with ex := fun x ρ' S' => wH c hs D x (if c.act.isSome then List.replicate ρ'.length none else ρ') S' } ρ S
  | .ac k, D, ρ, S => ∃ p, c.act = some p ∧ ρ[0]? = some (some p.d) ∧ p.sp S (fun d S1 => acW k d D ρ S1) (fun x S1 => D.ex x ρ S1)
def wTs (c : Cfg) : Ts → WT
  | .nil, D, ρ, S => D.nx ρ S
  | .cons t r, D, ρ, S => wT c t { D with nx := wTs c r D } ρ S
def wH (c : Cfg) : Hd → DE → XD → Ro → Hs → Prop
  | .nil, D, x, ρ, S => D.ex x ρ S
  | .cons i o su r, D, x, ρ, S => ∃ p b, c.excs[i]? = some p ∧ (x.C, p.2, b) ∈ c.exm ∧ (b = true → match o with
      | none => wTs (c.suite none) su { D with ex := fun _ _ _ => False } ρ S
      | some j => ∀ a, wTs (c.suite (some (j, a, x))) su (goneD j D) (ρ.set j (some (.ref a))) S) ∧ (b = false → wH c r D x ρ S)
end
end Dz
namespace Dz
open PySem PySem.Spec PyProof.Rows L2
/-! ### sorted of a tuple -/
section
variable {prog : Program} {w : World} {A : Around} {E : Value → Shared → Prop} {s : Shared}
/-- the heap behind collect -/
def heapC (h : Heap) (us : List Value) : Heap := (h.push (seqObj "list" #[] 0)).update h.objs.size (Obj.mapSeq fun x => x ++ us.toArray)
theorem collectT {t : Addr} {us : List Value} {Q : List Value → Shared → Prop} (ht : IsTup s.heap t us.toArray) (h : Q us { s with heap := heapC s.heap us }) (hz : us.length ≤ sizeLine) : wpAny (model prog w) A (collect (.ref t)) Q E s := by
  obtain ⟨ob, h1, h2, k, h3⟩ := id ht
  unfold collect
  refine wpAny_bind (wpAny_runValue (codeAny_builtin entry_proto_collect' ?_))
  show wpAny _ _ (newList [] >>= fun z => again (.builtin "list.__iadd__" ⟨[z, .ref t], []⟩)) _ _ s
  refine wpAny_bind (wpAny_newList (wpAny_pure ⟨Code.quiet_builtin _ (by decide +kernel), codeAny_builtin entry_list_iadd' ?_⟩))
  unfold Builtin.«list.__iadd__»
  have g1 : (s.heap.push (seqObj "list" #[] 0)).get? t = some ob := Heap.get?_push_of_some _ h1
  have g2 : (s.heap.push (seqObj "list" #[] 0)).get? s.heap.objs.size = some (seqObj "list" #[] 0) := Heap.get?_push_size _ rfl
  show wpAny _ _ (Builtin.List.listExtendWith (.ref s.heap.objs.size) (.ref t) (.ref s.heap.objs.size)) _ _ _
  unfold Builtin.List.listExtendWith
  refine wpAny_bind (wpAny_typeOf (T := "tuple") ⟨ob, g1, h2⟩ ?_)
  rw [if_pos (by simp)]
  refine wpAny_bind (listItems_at g1 h3 (wpAny_bind (listItems_at (xs := #[]) (n := 0) g2 rfl ?_)))
  rw [if_neg (by simp)]
  refine wpAny_bind (listUpdate_at (xs := #[]) (n := 0) g2 rfl ?_ (Nat.zero_le _) (by simp; omega))
  refine wpAny_pure ?_
  refine wpAny_bind (wpAny_load (get?_update_seq g2 _) ?_)
  show wpAny _ _ (pure ((#[] : Array Value) ++ us.toArray).toList) Q E _
  have e : ((#[] : Array Value) ++ us.toArray).toList = us := by simp
  rw [e]
  exact wpAny_pure h
theorem sortT_run {t : Addr} {us : List Value} {lt : Value → Value → Bool} {Q : Value → Shared → Prop} (O : SrtO.Swo lt) (ht : IsTup s.heap t us.toArray) (hz : us.length ≤ sizeLine)
    (hS : 2 ≤ us.length → ∀ (g : Heap) (b : Addr), g.get? b = some (seqObj "list" us.toArray 0) → SrtO.SortableO prog w A.in1.in1 { s with heap := g } b us lt)
    (h : ∀ ys : List Value, SrtO.Srtd lt ys → SrtO.Stb lt ys us → Q (.ref (s.heap.objs.size + 1)) { s with heap := sortedAll s.heap us ys.toArray }) :
    wpAny (model prog w) A (call (.builtin "sorted") [.ref t]) Q E s := by
  refine Calls.call_function_entry kind_sorted plain_sorted entry_sorted (args_sorted1 _) ?_
  unfold Builtin.«sorted»
  refine wpAny_bind (m := checkCount "sorted" 1 1 _) (wpAny_pure (wpAny_bind (collectT ht ?_ hz)))
  refine wpAny_bind (wpAny_newList ?_ hz)
  have n1 : (heapC s.heap us).objs.size = s.heap.objs.size + 1 := by
    unfold heapC
    rw [Heap.size_update, size_push']
  have at2 : ((heapC s.heap us).push (seqObj "list" us.toArray 0)).get? (s.heap.objs.size + 1) = some (seqObj "list" us.toArray 0) := by
    rw [← n1]
    exact Heap.get?_push_size _ rfl
  show wpAny _ _ _ _ _ { s with heap := (heapC s.heap us).push (seqObj "list" us.toArray 0) }
  rw [n1]
  have run := SrtO.list_sort_ord (prog := prog) (w := w) (A := A.in1.in1) (E := E) (s := { s with heap := (heapC s.heap us).push (seqObj "list" us.toArray 0) }) (R := fun fin s' => ∃ v, fin = .done (.ret v) ∧ v = .none ∧ Q (.ref (s.heap.objs.size + 1)) s') O at2 hz (fun h2 => hS h2 _ _ at2) fun ys a b => ⟨_, rfl, rfl, h ys a b⟩
  refine wpAny_bind (wpAny_holding (wpAny_call_entry slot_list_sort ⟨_, at2, rfl⟩ entry_list_sort (wpAny_mono run (fun fin s' hq => ?_) fun _ _ z => z) (args_list_sort _)))
  obtain ⟨v, e1, e2, q⟩ := hq
  exact ⟨v, e1, wpAny_pure ⟨_, rfl, q⟩⟩
end
section
variable {X : Cx}
/-- sorted(t), t a tuple of ints -/
theorem cr_sortT : CallR X (.builtin "sorted") (fun vs H Q => ∃ (a : Addr) (ns : List Int), vs = [V.ref a] ∧ SqT X.K H a (ns.map V.int) ∧ ∀ (ms : List Int) (p : Addr), ms.Perm ns → ms.Pairwise (· ≤ ·) → H p = none → Q (.ref p) (upd H p (.lst (ms.map V.int)))) := by
  intro pins s σ H vs us Q I r h
  obtain ⟨a, ns, rfl, hs, q⟩ := h
  obtain ⟨its, rv, hl, hz⟩ := I.tuple hs
  rw [Vals.ref1 r]
  have hi := rv.ints
  refine sortT_run SrtO.swo_int hl (by rw [← rv.length]; exact hz) (fun h2 _ _ _ => SrtO.ints_sortable hi h2) fun ys h1 h2 => ?_
  obtain ⟨k1, k2, k3⟩ := SrtO.ints_out hi h1 h2
  obtain ⟨ep, he⟩ := PyProof.Rows.sortedAll_at s.heap its ys.toArray
  have len : ((ys.map SrtO.iv).map V.int).length ≤ sizeLine := by
    rw [List.length_map, k2.length_eq, ← List.length_map (f := V.int)]
    exact hz
  exact ⟨.ref _, upd H (s.heap.objs.size + 1) (.lst ((ys.map SrtO.iv).map V.int)), I.laid (t' := s.toks) (fun _ _ => PyProof.Rows.sortedAll_old) (Nat.le_succ _) ⟨len, ys, ep, vals_of_ints k1, he⟩, rfl, q _ _ k2 k3 (I.hok.fresh (Nat.le_succ _))⟩
/-- sorted(d) of a dict of ints, of any length -/
theorem cr_sortDI (hcalm : X.calm = true) : CallR X (.builtin "sorted") (fun xs H Q => ∃ (a : Addr) (kvs : List (Key × V)) (ks : List Int), xs = [.ref a] ∧ Rd H a (.dK kvs) ∧ kvs.map (·.1) = ks.map Sum.inl ∧ ks.length ≤ 1000000 ∧
    ∀ (ys : List Int) (p : Addr), ys.Perm ks → ys.Pairwise (· ≤ ·) → H p = none → Q (.ref p) (upd H p (.lst (ys.map V.int)))) := by
  intro pins s σ H xs us Q I r q
  obtain ⟨a, kvs, ks, ex, hd, hks, h64, q⟩ := q
  subst ex
  obtain ⟨u, eu, rx⟩ := vals1 r
  subst eu
  cases rx
  obtain ⟨z, lo, vs, rel, dd⟩ := dk_rd I.hok hd
  obtain ⟨ep, hat⟩ := dd.dictAt
  have hkeys : vs.map (·.1) = ks.map Sum.inl := rel.keys.symm.trans hks
  have hl : vs.length = ks.length := by
    have e := congrArg List.length hkeys
    rw [List.length_map, List.length_map] at e
    exact e
  have h16 : vs.length ≤ sizeLine := by rw [hl, sizeLine_eq]; omega
  refine Calls.call_function_entry PyProof.Rows.kind_sorted PyProof.Rows.plain_sorted PyProof.Rows.entry_sorted (PyProof.Rows.args_sorted1 _) ?_
  unfold Builtin.«sorted»
  refine wpAny_bind (m := checkCount "sorted" 1 1 _) (wpAny_pure ?_)
  refine wpAny_bind (PySem.W.kdu_collect (A := X.A.in1) (PySem.W.kdl_dict (knd := mixKind X.prog X.w) (kvs := vs) (ep := ep) lo) (I.ok.hd hcalm) hat h16 fun h' tk acc hk hacc => ?_)
  have hal : acc.toList.length = ks.length := by rw [Array.length_toList, hacc.1, hl]
  have hS : IntsAre acc.toList ks := ints_each hal fun j v e => by
    obtain ⟨k, x, e1, e2⟩ := hacc.2 j v (by rw [← Array.getElem?_toList]; exact e)
    have e3 : (vs.map (·.1))[j]? = some k := by rw [List.getElem?_map, e1]; rfl
    rw [hkeys, List.getElem?_map] at e3
    cases e4 : ks[j]? with
    | none => rw [e4] at e3; cases e3
    | some y =>
      rw [e4] at e3
      have e5 : Sum.inl y = k := Option.some.inj e3
      subst e5
      rcases keyIs_shape (show keyIs (Sum.inl y) v = true from e2) with ⟨i, t, ek, ev⟩ | ⟨z, t, ek, ev⟩
      · cases ek
        exact ⟨y, t, rfl, ev⟩
      · cases ek
  have I1 : Inv X pins σ H { s with heap := h', toks := tk } := I.kept hk
  refine wpAny_bind (wpAny_newList ?_ (by rw [hal, sizeLine_eq]; omega))
  have hoL : (h'.push (seqObj "list" acc.toList.toArray 0)).get? h'.objs.size = some (seqObj "list" acc.toList.toArray 0) := Heap.get?_push_size _ rfl
  show wpAny _ _ _ _ _ { s with heap := h'.push (seqObj "list" acc.toList.toArray 0), toks := tk }
  refine wpAny_bind (wpAny_holding (wpAny_call_entry PyProof.Rows.slot_list_sort ⟨_, hoL, rfl⟩ PyProof.Rows.entry_list_sort
    (SrtO.list_sort_ord (s := { s with heap := h'.push (seqObj "list" acc.toList.toArray 0), toks := tk }) SrtO.swo_int hoL (by rw [hal, sizeLine_eq]; omega) (fun h2 => SrtO.ints_sortable hS h2) fun out a1 b1 => ⟨_, rfl, ?_⟩) (PyProof.Rows.args_list_sort _)))
  obtain ⟨g1, g2, g3⟩ := SrtO.ints_out hS a1 b1
  obtain ⟨e', he'⟩ := PyProof.Rows.sortedHeap_at (vs := acc.toList) (out := out.toArray) hoL
  have hlen : ((out.map SrtO.iv).map V.int).length ≤ sizeLine := by
    rw [List.length_map, g2.length_eq, sizeLine_eq]
    omega
  refine wpAny_pure ⟨_, rfl, .ref h'.objs.size, upd H h'.objs.size (.lst ((out.map SrtO.iv).map V.int)), I1.laid (t' := tk) (fun b u e => ?_) (Nat.le_refl _)
    (show ObjOk X.prog X.w _ _ _ (.lst ((out.map SrtO.iv).map V.int)) from ⟨hlen, out, e', vals_of_ints g1, he'⟩), rfl, q _ _ g2 g3 (I1.hok.fresh (Nat.le_refl _))⟩
  have hb : b < h'.objs.size := Heap.lt_size e
  rw [PyProof.Rows.sortedHeap_old (Nat.ne_of_lt hb) (by rw [size_push']; exact Nat.lt_succ_of_lt hb)]
  exact Heap.get?_push_of_some _ e
end
end Dz
namespace HT
open PySem PyProof.Rows
section
variable {prog : Program} {w : World} {A : Around} {E : Value → Shared → Prop} {s : Shared}
theorem sliceApplied_rev {sl : Addr} {t : Tok} {n : Nat} {Q : Int × Int × Nat → Shared → Prop} (hs : s.heap.IsSliceOf sl .none .none (.int (-1) t))
    (h : Q ((n : Int) - 1, -1, n) s) : wpAny (model prog w) A (Builtin.Slice.sliceApplied (.ref sl) (pure (n : Int))) Q E s := by
  obtain ⟨os, hos, hcs, hds⟩ := id hs
  unfold Builtin.Slice.sliceApplied Builtin.Slice.sliceFields
  refine wpAny_bind (wpAny_bind (wpAny_field hos hds (x := Value.none) rfl (wpAny_bind (wpAny_field hos hds (x := Value.none) rfl (wpAny_bind (wpAny_field hos hds (x := .int (-1) t) rfl (wpAny_pure ?_)))))))
  refine wpAny_bind (slicePart_int ?_)
  show wpAny _ _ (if ((-1 : Int) == 0) = true then _ else _) _ _ s
  rw [if_neg (by decide)]
  refine wpAny_bind (slicePart_none (wpAny_bind (slicePart_none (wpAny_bind (wpAny_pure ?_)))))
  show wpAny _ _ (pure ((n : Int) - 1, (-1 : Int), Builtin.Slice.slicePlaces ((n : Int) - 1) (-1) (-1))) _ _ s
  have e : Builtin.Slice.slicePlaces ((n : Int) - 1) (-1) (-1) = n := by
    unfold Builtin.Slice.slicePlaces
    rw [if_neg (by decide)]
    by_cases hn : n = 0
    · subst hn; decide
    · rw [if_pos (by omega)]
      have : ((n : Int) - 1 - -1 - 1) / (- -1) + 1 = n := by
        rw [show (- -1 : Int) = 1 by decide, Int.ediv_one]; omega
      rw [this]; omega
  rw [e]
  exact wpAny_pure h
theorem pick_rev (xs : Array Value) : ((List.range xs.size).filterMap fun (m : Nat) => xs[(((xs.size : Int) - 1) + (m : Int) * -1).toNat]?).toArray = xs.toList.reverse.toArray := by
  congr 1
  have e : ∀ n, n ≤ xs.size → ((List.range n).filterMap fun (m : Nat) => xs[(((xs.size : Int) - 1) + (m : Int) * -1).toNat]?) = xs.toList.reverse.take n := by
    intro n hn
    induction n with
    | zero => simp
    | succ n ih =>
      rw [List.range_succ, List.filterMap_append, ih (by omega)]
      have hi : (((xs.size : Int) - 1) + (n : Int) * -1).toNat = xs.size - 1 - n := by omega
      have hl : xs.size - 1 - n < xs.size := by omega
      rw [List.filterMap_cons, List.filterMap_nil, hi, Array.getElem?_eq_getElem hl]
      have hr : n < xs.toList.reverse.length := by simp; omega
      rw [List.take_succ_eq_append_getElem hr]
      congr 1
      rw [List.getElem_reverse]
      simp
  rw [e _ (Nat.le_refl _)]
  rw [List.take_of_length_le (by simp)]
theorem getItem_tuple_rev {t sl : Addr} {items : Array Value} {tk : Tok} {Q : Value → Shared → Prop} (ht : IsTup s.heap t items) (hs : s.heap.IsSliceOf sl .none .none (.int (-1) tk))
    (h : Q (.ref s.heap.objs.size) { s with heap := s.heap.push { cls := .type "tuple", data := .seq items.toList.reverse.toArray } })
    (hsz : items.size ≤ sizeLine) : wpAny (model prog w) A (getItem (.ref t) (.ref sl)) Q E s := by
  have htake : sizeOk (.seq items.toList.reverse.toArray) := by
    show items.toList.reverse.toArray.size ≤ sizeLine
    simpa using hsz
  obtain ⟨os, hos, hcs, hds⟩ := id hs
  have hTs : s.TypeIs (.ref sl) "slice" := ⟨os, hos, hcs⟩
  unfold getItem
  try with_reducible refine wpAny_holding ?_
  first | refine wpAny_bind (wpAny_pure ?_) | skip
  refine wpAny_bind (wpAny_sequenceKey ht.typeIs (by decide) ?_)
  refine wpAny_bind (wpAny_callSpecial?_slot (name := Str.ofString "__getitem__") ht.typeIs PyProof.Rows.slot_tuple_getitem
    (wpAny_call_entry PyProof.Rows.slot_tuple_getitem ht.typeIs entry_tuple_getitem ?_ (args_tuple_getitem _ _)))
  show wpAny _ _ (Builtin.Tuple.tupleItemsOf (.ref t) >>= _) _ _ s
  refine wpAny_bind (tupleItemsOf_ ht ?_)
  refine wpAny_bind (wpAny_typeOf hTs ?_)
  rw [if_pos (by decide)]
  refine wpAny_bind (sliceApplied_rev hs ?_)
  have hno : ¬ ((((items.size : Int) - 1) == 0 && (-1 : Int) == 1 && (items.size == items.size)) = true) := by
    intro q
    rw [Bool.and_eq_true, Bool.and_eq_true] at q
    exact absurd q.1.2 (by decide)
  show wpAny _ _ (if (((items.size : Int) - 1) == 0 && (-1 : Int) == 1 && (items.size == items.size)) = true then _ else _) _ _ s
  rw [if_neg hno, pick_rev]
  first
    | exact wpAny_bind (m := Builtin.Tuple.tupleExact _) (wpAny_newObj_type (wpAny_pure ⟨_, rfl, wpAny_pure h⟩) htake)
    | exact wpAny_bind (m := Builtin.Tuple.tupleExact _) (wpAny_newObj_type (wpAny_bind (wpAny_pure (wpAny_pure ⟨_, rfl, wpAny_pure h⟩))) htake)
    | exact wpAny_bind (wpAny_bind (m := Builtin.Tuple.tupleExact _) (wpAny_newObj_type (wpAny_pure (wpAny_pure ⟨_, rfl, wpAny_pure h⟩)) htake))
    | exact wpAny_bind (wpAny_bind (m := Builtin.Tuple.tupleExact _) (wpAny_newObj_type (wpAny_pure ⟨_, rfl, wpAny_pure h⟩) htake))
end
end HT
namespace Dz
open PySem PySem.Spec PyProof.Rows L2
section
variable {X : Cx}
/-! ### xs[::-1] of a list or a tuple -/
def tRevS (K : PySem.W.Frag) (te : TE) : TE := fun σ H Q => te σ H fun x H1 => ∃ a xs, x = .ref a ∧ ((SqL K H1 a xs ∧ ∀ p, H1 p = none → Q (.ref p) (upd H1 p (.lst xs.reverse))) ∨ (SqT K H1 a xs ∧ ∀ p, H1 p = none → Q (.ref p) (upd H1 p (.tup xs.reverse))))
theorem pe_revS {e : Expr} {te : TE} {k : Nat} {p1 p2 p3 pos : Pos} (he : PE X e te) : PE X (.Subscript e (.Slice none none (some (.UnaryOp .USub (.Constant (.int 1) k p1) p2)) p3) pos) (tRevS X.K te) := by
  refine ⟨fun pins s σ H Q I h => ?_⟩
  refine Subscript_ (thn (he.run pins s σ H _ I h) fun v s1 ⟨x, H1, I1, r1, q1⟩ => ?_)
  obtain ⟨a, xs, ex, hx⟩ := q1
  subst ex
  cases r1
  have hst : PO X (some (.UnaryOp .USub (.Constant (.int 1) k p1) p2)) (tPart (tUn (rU fun i => .int (-i)) (tC (.int 1)))) := po_some (pe_un un_neg pe_int)
  refine wpAny_Slice (thn (po_none.run pins s1 σ H1 (fun o H2 => o = none ∧ H2 = H1) I1 ⟨rfl, rfl⟩) fun vl s2 ⟨l, H2, I2, pl, el, e2⟩ => ?_)
  subst el e2
  refine thn (po_none.run pins s2 σ H2 (fun o H3 => o = none ∧ H3 = H2) I2 ⟨rfl, rfl⟩) fun vu s3 ⟨u, H3, I3, pu, eu, e3⟩ => ?_
  subst eu e3
  refine thn (hst.run pins s3 σ H3 (fun o H4 => o = some (-1) ∧ H4 = H3) I3 ⟨1, rfl, -1, rfl, rfl, rfl⟩) fun vs s4 ⟨o, H4, I4, ps, eo, e4⟩ => ?_
  subst eo e4
  have I5 : Inv X pins σ H4 { s4 with heap := s4.heap.push { cls := .type "slice", data := .fields #[vl, vu, vs] } } := I4.kept (t' := s4.toks) fun b ob q => Heap.get?_push_of_some _ q
  rcases hx with ⟨hx, q⟩ | ⟨hx, q⟩
  · obtain ⟨its, r, ht, hz⟩ := I5.list hx
    have hlen := r.length
    show wpAny (model X.prog X.w) X.A (subscriptTail e (.Slice none none (some (.UnaryOp .USub (.Constant (.int 1) k p1) p2)) p3) (.ref a) (.ref s4.heap.objs.size)) (EP X pins σ Q) X.xe { s4 with heap := s4.heap.push { cls := .type "slice", data := .fields #[vl, vu, vs] } }
    refine PyProof.Rows.tail_any (ops := [.ref a, .ref s4.heap.objs.size]) ht.isList.typeIs (PySem.slot_list_getitem.lookup) ?_ (by with_unfolding_all rfl)
    refine wpAny_getItem_list_slice ht.isList (Heap.IsSliceOf.new _ vl vu vs) pl pu ps (by decide) ?_ (by rw [List.size_toArray]; omega)
    rw [PySem.W.krv_pick]
    refine ⟨.ref _, _, I5.laid (t' := s4.toks) (o := .lst xs.reverse) (fun b ob q => Heap.get?_push_of_some _ q) (Nat.le_refl _) ?_, rfl, q _ (I5.hok.fresh (Nat.le_refl _))⟩
    exact ⟨by rw [List.length_reverse]; exact hz, _, 0, r.reverse, Heap.get?_push_size _ rfl⟩
  · obtain ⟨its, r, ht, hz⟩ := I5.tuple hx
    have hlen := r.length
    cases pl
    cases pu
    cases ps
    show wpAny (model X.prog X.w) X.A (subscriptTail e (.Slice none none (some (.UnaryOp .USub (.Constant (.int 1) k p1) p2)) p3) (.ref a) (.ref s4.heap.objs.size)) (EP X pins σ Q) X.xe { s4 with heap := s4.heap.push { cls := .type "slice", data := .fields #[.none, .none, _] } }
    refine PyProof.Rows.tail_any (ops := [.ref a, .ref s4.heap.objs.size]) ht.typeIs (PyProof.Rows.slot_tuple_getitem.lookup) ?_ (by with_unfolding_all rfl)
    refine HT.getItem_tuple_rev ht (Heap.IsSliceOf.new _ _ _ _) ?_ (by rw [List.size_toArray]; omega)
    refine ⟨.ref _, _, I5.laid (t' := s4.toks) (o := .tup xs.reverse) (fun b ob q => Heap.get?_push_of_some _ q) (Nat.le_refl _) ?_, rfl, q _ (I5.hok.fresh (Nat.le_refl _))⟩
    exact ⟨by rw [List.length_reverse]; exact hz, _, r.reverse, IsTup.new _ _⟩

/-! ### one value in -/
theorem op1 {f : Value → Sem Value} {g : D → Hs → QD → Prop}
    (h : ∀ (pins : List (Addr × Obj)) (s : Shared) (σ : L2.St) (H : Hp) (x : V) (v : Value) (Q : VK) (d : D) (S : Hs) (Q' : QD), Inv X pins σ H s → RelV x v → Rs X.K S H → Dv X.K S H x d → g d S Q' → EndQ X.K S H Q' Q →
      wpAny (model X.prog X.w) X.A (f v) (EP X pins σ Q) X.xe s) : UnR X f (fun x H Q => rO X.K (Dz.one g) [x] H Q) := by
  intro pins s σ H x v Q I rx q
  obtain ⟨ds, S, Q', r, da, hg, e⟩ := q
  cases da with
  | cons h1 t1 =>
    cases t1
    exact h pins s σ H x v Q _ S Q' I rx r h1 hg e
theorem o_neg : UnR X (unaryOp .USub) (fun x H Q => rO X.K (Dz.one negW) [x] H Q) := op1 fun pins s σ H x v Q d S Q' I rx r hx g k => by
  cases d <;> first
    | exact (show False from g).elim
    | skip
  cases hx
  exact un_neg pins s σ H _ v Q I rx ⟨_, rfl, end_now r (.int _) g k⟩
/-- a call with one argument -/
theorem ca1 {f : Value} {g : D → Hs → QD → Prop} {r : List V → Hp → VK → Prop} (hf : CallR X f r)
    (h : ∀ (H : Hp) (x : V) (Q : VK) (d : D) (S : Hs) (Q' : QD), Rs X.K S H → Dv X.K S H x d → g d S Q' → EndQ X.K S H Q' Q → r [x] H Q) : CallR X f (rO X.K (Dz.one g)) := by
  intro pins s σ H xs us Q I rx q
  obtain ⟨ds, S, Q', r', da, hg, e⟩ := q
  cases da with
  | nil => exact (show False from hg).elim
  | cons h1 t1 =>
    cases t1 with
    | nil => exact hf pins s σ H _ us Q I rx (h H _ Q _ S Q' r' h1 hg e)
    | cons _ _ => exact (show False from hg).elim
theorem ca2 {f : Value} {g : D → D → Hs → QD → Prop} {r : List V → Hp → VK → Prop} (hf : CallR X f r)
    (h : ∀ (H : Hp) (x y : V) (Q : VK) (d e : D) (S : Hs) (Q' : QD), Rs X.K S H → Dv X.K S H x d → Dv X.K S H y e → g d e S Q' → EndQ X.K S H Q' Q → r [x, y] H Q) : CallR X f (rO X.K (two g)) := by
  intro pins s σ H xs us Q I rx q
  obtain ⟨ds, S, Q', r', da, hg, e⟩ := q
  cases da with
  | nil => exact (show False from hg).elim
  | cons h1 t1 =>
    cases t1 with
    | nil => exact (show False from hg).elim
    | cons h2 t2 =>
      cases t2 with
      | nil => exact hf pins s σ H _ us Q I rx (h H _ _ Q _ _ S Q' r' h1 h2 hg e)
      | cons _ _ => exact (show False from hg).elim
theorem c_len : CallR X (.builtin "len") (rO X.K (Dz.one lenW)) := ca1 (L2.CallR.or (L2.CallR.or call_len_str call_len_seq) (L2.CallR.or call_lenD call_len_dT)) fun H x Q d S Q' r hx g k => by
  have seqs : (∃ xs, seqOf S d = some xs ∧ Q' (.int xs.length) S) → ((∃ z, [x] = [V.str z] ∧ z.length ≤ sizeLine ∧ Q (V.int z.length) H) ∨ ∃ p ys, [x] = [V.ref p] ∧ (SqL X.K H p ys ∨ SqT X.K H p ys) ∧ Q (V.int ys.length) H) ∨ ((∃ a kvs, [x] = [V.ref a] ∧ H a = some (HO.dK kvs) ∧ Q (V.int kvs.length) H) ∨ rLenT [x] H Q) := fun ⟨xs, e, q⟩ => by
    obtain ⟨a, vs, rfl, h1, h2⟩ := seqOf_ok r hx e
    exact Or.inl (Or.inr ⟨a, vs, rfl, h1, by rw [h2.len]; exact end_now r (.int _) q k⟩)
  cases d with
  | str z =>
    cases hx
    exact .inl (.inl ⟨z, rfl, g.1, end_now r (.int _) g.2 k⟩)
  | ref a =>
    obtain ⟨o, n, e1, e2, q⟩ := g
    cases o with
    | lst xs =>
      cases e2
      exact seqs ⟨xs, by unfold seqOf lstOf; simp only [e1], q⟩
    | dK kvs =>
      cases e2
      cases hx
      obtain ⟨kv, q1, q2⟩ := rs_dk r e1
      exact .inr (.inl ⟨a, kv, rfl, q1, by rw [← kvd_len q2]; exact end_now r (.int _) q k⟩)
    | dT kvs =>
      cases e2
      cases hx
      obtain ⟨kv, q1, q2⟩ := rs_dt r e1
      exact .inr (.inr ⟨a, kv, rfl, q1, by rw [← kvd_len q2]; exact end_now r (.int _) q k⟩)
    | _ => cases e2
  | _ => exact seqs g
theorem c_int : CallR X (.type "int") (rO X.K (Dz.one intW)) := ca1 call_int1 fun H x Q d S Q' r hx g k => by
  cases d <;> first
    | exact (show False from g).elim
    | (cases hx; exact .inl ⟨_, rfl, end_now r (.int _) g k⟩)
    | (cases hx; exact .inr ⟨_, rfl, end_now r (.int _) g k⟩)
theorem c_abs : CallR X (.builtin "abs") (rO X.K (Dz.one absW)) := ca1 call_abs fun H x Q d S Q' r hx g k => by
  cases d <;> first
    | exact (show False from g).elim
    | (cases hx; exact ⟨_, rfl, end_now r (.int _) g k⟩)
theorem c_min (hc : X.calm = true) : CallR X (.builtin "min") (rO X.K (two minW)) := ca2 (call_min2 hc) fun H x y Q d e S Q' r hx hy g k => by
  cases d <;> cases e <;> first
    | exact (show False from g).elim
    | (cases hx; cases hy; exact ⟨_, _, rfl, end_now r (.int _) g k⟩)
theorem c_max (hc : X.calm = true) : CallR X (.builtin "max") (rO X.K (two maxW)) := ca2 (call_max2 hc) fun H x y Q d e S Q' r hx hy g k => by
  cases d <;> cases e <;> first
    | exact (show False from g).elim
    | (cases hx; cases hy; exact ⟨_, _, rfl, end_now r (.int _) g k⟩)
theorem c_tuple : CallR X (.type "tuple") (rO X.K (Dz.one tupleW)) := ca1 call_tuple_of fun H x Q d S Q' r hx g k => by
  have lists : (∃ xs, lstOf S d = some xs ∧ Q' (.tup xs) S) → ∃ p ys, [x] = [V.ref p] ∧ ((SqL X.K H p ys ∧ ∀ l, H l = none → Q (.ref l) (upd H l (.tup ys))) ∨ (SqT X.K H p ys ∧ Q (.ref p) H)) := fun ⟨xs, e, q⟩ => by
    obtain ⟨a, vs, rfl, h1, h2⟩ := lstOf_ok r hx e
    exact ⟨a, vs, rfl, .inl ⟨h1, newT_ok r h2 q k⟩⟩
  cases d with
  | tup ys =>
    obtain ⟨xs, e, q⟩ := g
    cases e
    obtain ⟨a, vs, rfl, h1, h2⟩ := hx.of_tup
    exact ⟨a, vs, rfl, .inr ⟨h1, end_now r hx q k⟩⟩
  | ctp ys =>
    obtain ⟨a, vs, rfl, h1, h2⟩ := hx.of_ctp
    exact ⟨a, vs, rfl, .inr ⟨h1, end_now r hx g k⟩⟩
  | _ => exact lists g
theorem c_list : CallR X (.type "list") (rO X.K (Dz.one listW)) := ca1 call_list_of fun H x Q d S Q' r hx g k => by
  obtain ⟨xs, e, q⟩ := g
  obtain ⟨a, vs, rfl, h1, h2⟩ := seqOf_ok r hx e
  exact ⟨a, vs, rfl, h1, newL_ok r h2 q k⟩
theorem sortI_perm (ns : List Int) : (sortI ns).Perm ns := List.mergeSort_perm _ _
theorem sortI_sorted (ns : List Int) : (sortI ns).Pairwise (· ≤ ·) := by
  have h := List.pairwise_mergeSort (le := fun a b : Int => decide (a ≤ b)) (fun a b c h1 h2 => by simp at *; omega) (fun a b => by simp; omega) ns
  exact h.imp fun z => by simpa using z
theorem DvA.strs {S : Hs} {H : Hp} {K : PySem.W.Frag} : ∀ ns : List Str, DvA K S H (ns.map V.str) (ns.map D.str)
  | [] => .nil
  | n :: r => .cons (.str n) (DvA.strs r)
theorem DvA.of_strs {S : Hs} {H : Hp} {K : PySem.W.Frag} : ∀ {ns : List Str} {vs : List V}, DvA K S H vs (ns.map D.str) → vs = ns.map V.str
  | [], _, h => by cases h; rfl
  | n :: r, _, h => by
    cases h with
    | cons a b =>
      cases a
      rw [DvA.of_strs b]
      rfl
theorem kvd_keys {S : Hs} {H : Hp} {K : PySem.W.Frag} {κ : Type} {kd : List (κ × D)} {kv : List (κ × V)} (h : KvD K S H kd kv) : kv.map (·.1) = kd.map (·.1) := by
  unfold KvD at h
  induction h with
  | nil => rfl
  | cons hd tl ih => rw [List.map_cons, List.map_cons, ih, hd.1]
theorem c_sorted (hc : X.calm = true) : CallR X (.builtin "sorted") (rO X.K (Dz.one sortedW)) := ca1 (L2.CallR.or (L2.CallR.or cr_sortedI cr_sortT) (L2.CallR.or cr_sortedS (L2.CallR.or (call_sortedD hc) (cr_sortDI hc)))) fun H x Q d S Q' r hx g k => by
  rcases g with ⟨ns, e, q⟩ | ⟨xs, e, hl, q⟩ | ⟨a, kvs, ks, rfl, e, ek, hl, q⟩ | ⟨a, kvs, ks, rfl, e, ek, hl, q⟩
  · obtain ⟨a, vs, rfl, h1, h2⟩ := seqOf_ok r hx e
    have e2 := h2.of_ints
    subst e2
    have fin : ∀ (ms : List Int) (p : Addr), ms.Perm ns → ms.Pairwise (· ≤ ·) → H p = none → Q (.ref p) (upd H p (.lst (ms.map V.int))) := fun ms p hp hs hn => by
      have e3 : ms = sortI ns := PySem.W.ksm_same (hp.trans (sortI_perm ns).symm) hs (sortI_sorted ns)
      subst e3
      exact newL_ok r (DvA.ints _) q k p hn
    rcases h1 with h1 | h1
    · exact .inl (.inl ⟨a, ns, rfl, h1, fin⟩)
    · exact .inl (.inr ⟨a, ns, rfl, h1, fin⟩)
  · obtain ⟨a, vs, rfl, h1, h2⟩ := lstOf_ok r hx e
    have e2 := h2.of_strs
    subst e2
    exact .inr (.inl ⟨a, xs, rfl, h1, hl, fun ys p hp hs hn => newL_ok r (DvA.strs _) (q ys hp hs) k p hn⟩)
  · cases hx
    obtain ⟨kv, h1, h2⟩ := rs_kd r e
    exact .inr (.inr (.inl ⟨a, kv, ks, rfl, h1, by rw [kvd_keys h2]; exact ek, hl, fun ys p hp hs hn => newL_ok r (DvA.strs _) (q ys hp hs) k p hn⟩))
  · cases hx
    obtain ⟨kv, h1, h2⟩ := rs_kd r e
    refine .inr (.inr (.inr ⟨a, kv, ks, rfl, h1, by rw [kvd_keys h2]; exact ek, hl, fun ys p hp hs hn => ?_⟩))
    have e3 : ys = sortI ks := PySem.W.ksm_same (hp.trans (sortI_perm ks).symm) hs (sortI_sorted ks)
    subst e3
    exact newL_ok r (DvA.ints _) q k p hn
theorem pairs_D {S : Hs} {H : Hp} {K : PySem.W.Frag} : ∀ {kd : List (Key × D)} {vs : List V}, DvA K S H vs (kd.map fun p => D.tup [keyD p.1, p.2]) → ∃ (ps : List Addr) (kv : List (Key × V)), vs = ps.map V.ref ∧ Paired (fun p kv => SqT K H p [kV kv.1, kv.2]) ps kv ∧ KvD K S H kd kv
  | [], _, h => by
    cases h
    exact ⟨[], [], rfl, .nil, .nil⟩
  | (key, d) :: t, _, h => by
    cases h with
    | cons a b =>
      obtain ⟨ps, kv, e1, e2, e3⟩ := pairs_D b
      obtain ⟨q, ws, rfl, g1, g2⟩ := a.of_tup
      cases g2 with
      | cons x1 x2 =>
        cases x2 with
        | cons x3 x4 =>
          cases x4
          have e4 := key_V x1 (show (keyD key).key = some key by cases key <;> rfl)
          subst e4
          exact ⟨q :: ps, (key, _) :: kv, by rw [e1]; rfl, .cons g1 e2, .cons ⟨rfl, x3⟩ e3⟩
theorem c_dict (hc : X.calm = true) : CallR X (.type "dict") (rO X.K (Dz.one dictW)) := ca1 (L2.CallR.or call_dictD (call_dictP hc)) fun H x Q d S Q' r hx g k => by
  rcases g with ⟨a, kvs, rfl, e, q⟩ | ⟨kvs, e, q⟩
  · cases hx
    obtain ⟨kv, h1, h2⟩ := rs_kd r e
    exact .inl ⟨a, kv, rfl, h1, fun p hp => k _ _ _ _ (rs_live (m := .dK kvs) (o := .dK kv) r hp (show KvD X.K _ _ kvs kv from KvD.mono (fr_live hp) h2)) (fr_live hp) (.ref p) (q p (r.free hp))⟩
  · obtain ⟨a, vs, rfl, h1, h2⟩ := lstOf_ok r hx e
    obtain ⟨ps, kv, rfl, h3, h4⟩ := pairs_D h2
    exact .inr ⟨a, ps, kv, rfl, h1, h3, fun p hp => k _ _ _ _ (rs_live (m := .dK (mergeD [] kvs)) (o := .dK (mergeK [] kv)) r hp (show KvD X.K _ _ (mergeD [] kvs) (mergeK [] kv) from KvD.mono (fr_live hp) (kvd_merge h4 .nil))) (fr_live hp) (.ref p) (q p (r.free hp))⟩
theorem DvA.of_bls {S : Hs} {H : Hp} {K : PySem.W.Frag} : ∀ {bs : List Bool} {vs : List V}, DvA K S H vs (bs.map D.bl) → vs = bs.map V.bl
  | [], _, h => by cases h; rfl
  | b :: t, _, h => by
    cases h with
    | cons a c =>
      cases a
      rw [DvA.of_bls c]
      rfl
theorem c_all (hc : X.calm = true) : CallR X (.builtin "all") (rO X.K (Dz.one allW)) := ca1 (cr_all hc) fun H x Q d S Q' r hx g k => by
  obtain ⟨bs, e, q⟩ := g
  obtain ⟨a, vs, rfl, h1, h2⟩ := lstOf_ok r hx e
  have e2 := h2.of_bls
  subst e2
  exact ⟨a, bs, rfl, h1, end_now r (.bl _) q k⟩
theorem c_any (hc : X.calm = true) : CallR X (.builtin "any") (rO X.K (Dz.one anyW)) := ca1 (cr_any hc) fun H x Q d S Q' r hx g k => by
  obtain ⟨bs, e, q⟩ := g
  obtain ⟨a, vs, rfl, h1, h2⟩ := lstOf_ok r hx e
  have e2 := h2.of_bls
  subst e2
  exact ⟨a, bs, rfl, h1, end_now r (.bl _) q k⟩
theorem c_sum (hc : X.calm = true) : CallR X (.builtin "sum") (rO X.K (Dz.one sumW)) := ca1 (cr_sum hc) fun H x Q d S Q' r hx g k => by
  obtain ⟨ns, e, q⟩ := g
  obtain ⟨a, vs, rfl, h1, h2⟩ := lstOf_ok r hx e
  have e2 := h2.of_ints
  subst e2
  exact ⟨a, ns, rfl, h1, end_now r (.int _) q k⟩

/-! ### subscripts -/
theorem atI_D {S : Hs} {H : Hp} {K : PySem.W.Frag} {vs : List V} {ds : List D} {i : Int} {d : D} (h : DvA K S H vs ds) (e : atI ds i = some d) : ∃ v, atI vs i = some v ∧ Dv K S H v d := by
  unfold atI at e ⊢
  rw [h.len]
  cases q : ixN ds.length i with
  | none => rw [q] at e; cases e
  | some j =>
    rw [q] at e
    obtain ⟨v, e1, e2⟩ := h.get (show ds[j]? = some d from e)
    exact ⟨v, e1, e2⟩
theorem o_ix (hu : X.A.units + 1 < cLine) : IxR X (fun x y H Q => rO X.K (two ixW) [x, y] H Q) := by
  intro value slice pins s σ H x y v u Q I rx ry q hs
  obtain ⟨ds, S, Q', r, da, hg, k⟩ := q
  cases da with
  | cons h1 t1 =>
    cases t1 with
    | cons h2 t2 =>
      cases t2
      rename_i d e
      have hg : ixW d e S Q' := hg
      have seqs : ∀ {i : Int}, Dv X.K S H y (.int i) → (∃ xs x', seqOf S d = some xs ∧ atI xs i = some x' ∧ Q' x' S) → wpAny (model X.prog X.w) X.A (subscriptTail value slice v u) (EP X pins σ Q) X.xe s := fun {i} hy ⟨xs, x', e1, e2, q⟩ => by
        cases hy
        obtain ⟨a, vs, rfl, q1, q2⟩ := seqOf_ok r h1 e1
        obtain ⟨w', e3, e4⟩ := atI_D q2 e2
        rcases q1 with q1 | q1
        · exact ix_list value slice pins s σ H _ _ v u Q I rx ry ⟨a, vs, i, w', rfl, rfl, q1, e3, end_now r e4 q k⟩ hs
        · exact ix_tup value slice pins s σ H _ _ v u Q I rx ry ⟨a, vs, i, w', rfl, rfl, q1, e3, end_now r e4 q k⟩ hs
      cases d with
      | ref a =>
        rcases hg with ⟨xs, i, x', e1, e2, e3, q⟩ | ⟨x', g, q⟩
        · subst e2
          exact seqs h2 ⟨xs, x', by unfold seqOf lstOf; simp only [e1], e3, q⟩
        · obtain ⟨p, g1, g2⟩ := dget_ok r h2 g
          cases p with
          | none => exact g2.elim
          | some w' =>
            cases h1
            cases (show v = Value.ref a from rx)
            refine PyProof.Rows.tail_any (ops := [.ref a, u]) (dict_typeIs I g1) PySem.F.slot_dict_getitem.lookup ?_ hs
            exact d_getItem hu I g1 ry fun w'' s3 I3 rw' => ⟨w', H, I3, rw', end_now r g2 q k⟩
      | str z =>
        cases e with
        | int i =>
          obtain ⟨hz, c, e1, q⟩ := hg
          cases h1
          cases h2
          exact ix_str value slice pins s σ H _ _ v u Q I rx ry ⟨z, i, c, rfl, rfl, hz, e1, end_now r (.str _) q k⟩ hs
        | _ => exact (show False from hg).elim
      | tup xs =>
        cases e with
        | int i => obtain ⟨x', e1, q⟩ := hg; exact seqs h2 ⟨xs, x', rfl, e1, q⟩
        | _ => exact (show False from hg).elim
      | ctp xs =>
        cases e with
        | int i => obtain ⟨x', e1, q⟩ := hg; exact seqs h2 ⟨xs, x', rfl, e1, q⟩
        | _ => exact (show False from hg).elim
      | lst xs =>
        cases e with
        | int i => obtain ⟨x', e1, q⟩ := hg; exact seqs h2 ⟨xs, x', rfl, e1, q⟩
        | _ => exact (show False from hg).elim
      | _ => exact (show False by cases e <;> exact hg).elim
/-! slices -/
theorem cut_D {S : Hs} {H : Hp} {K : PySem.W.Frag} {vs : List V} {ds : List D} (h : DvA K S H vs ds) (lo hi : Option Int) : DvA K S H (cutV vs lo hi) (cutD ds lo hi) := by
  unfold cutV cutD
  rw [h.len]
  exact (h.drop _).take _
def rSl (K : PySem.W.Frag) : V → Option Int → Option Int → Hp → VK → Prop := fun x lo hi H Q => ∃ d S Q', Rs K S H ∧ Dv K S H x d ∧ slW d lo hi S Q' ∧ EndQ K S H Q' Q
theorem cutD_whole {xs : List D} {lo hi : Option Int} (h : HT.sIx xs.length 0 lo = 0 ∧ HT.sIx xs.length xs.length hi = xs.length) : cutD xs lo hi = xs := by
  unfold cutD
  rw [h.1, h.2]
  simp
theorem o_sl : SlR X (rSl X.K) := by
  intro pins s σ H x v vl vu lo hi sl Q I rx hs pl pu h
  obtain ⟨d, S, Q', r, hx, g, k⟩ := h
  have lists : (∃ xs, lstOf S d = some xs ∧ NewL (cutD xs lo hi) S Q') → rSlL X.K x lo hi H Q := fun ⟨xs, e, n⟩ => by
    obtain ⟨a, vs, rfl, q1, q2⟩ := lstOf_ok r hx e
    exact ⟨a, vs, rfl, q1, newL_ok r (cut_D q2 lo hi) n k⟩
  cases d with
  | str z =>
    cases hx
    exact sl_str pins s σ H _ v vl vu lo hi sl Q I rx hs pl pu ⟨z, rfl, g.1, end_now r (.str _) g.2 k⟩
  | tup xs =>
    obtain ⟨a, vs, rfl, q1, q2⟩ := hx.of_tup
    refine sl_tupA pins s σ H _ v vl vu lo hi sl Q I rx hs pl pu ⟨a, vs, rfl, q1, fun w => ?_, fun w => newT_ok r (cut_D q2 lo hi) g k⟩
    rw [q2.len] at w
    exact end_now r hx (by rw [← cutD_whole w]; exact g) k
  | _ => exact sl_list pins s σ H _ v vl vu lo hi sl Q I rx hs pl pu (lists g)

/-! ### methods, stores, truth -/
theorem ns_of {S : Hs} {H : Hp} {K : PySem.W.Frag} {ns : List Int} : DvA K S H (ns.map V.int) (ns.map D.int) := DvA.ints ns
theorem m_two {id : String} {f : D → D → Hs → QD → Prop} {r : V → List V → Hp → VK → Prop} (m : MtR X id r) (h : ∀ (H : Hp) (x y : V) (Q : VK) (d e : D) (S : Hs) (Q' : QD), Rs X.K S H → Dv X.K S H x d → Dv X.K S H y e → f d e S Q' → EndQ X.K S H Q' Q → r x [y] H Q) :
    MtR X id (fun x xs H Q => rO X.K (two f) (x :: xs) H Q) := by
  intro pins s σ H x xs v us Q I rx rs q
  obtain ⟨ds, S, Q', r', da, hg, k⟩ := q
  cases da with
  | cons h1 t1 =>
    cases t1 with
    | nil => exact (show False from hg).elim
    | cons h2 t2 =>
      cases t2 with
      | cons _ _ => exact (show False from hg).elim
      | nil => exact m pins s σ H _ _ v us Q I rx rs (h H _ _ Q _ _ S Q' r' h1 h2 hg k)
theorem m_extend : MtR X "list.extend" (fun x xs H Q => rO X.K (two extendW) (x :: xs) H Q) := m_two mt_extend fun H x y Q d e S Q' r h1 h2 g k => by
  cases d <;> cases e <;> first
    | exact (show False from g).elim
    | skip
  rename_i a b
  obtain ⟨xs, ys, e1, e2, hl, q⟩ := g
  cases h1
  cases h2
  obtain ⟨vs, q1, q2⟩ := rs_lst r e1
  obtain ⟨ws, q3, q4⟩ := rs_lst r e2
  exact ⟨a, b, vs, ws, rfl, rfl, q1, q3, by rw [q2.len, q4.len]; exact hl, k _ _ _ _ (rs_mut (m := .lst (xs ++ ys)) r e1 (show DvA X.K _ _ (vs ++ ws) (xs ++ ys) from (q2.append q4).mono (fr_mut r e1))) (fr_mut r e1) .non q⟩
theorem first_at {i : Int} : ∀ {ns : List Int}, i ∈ ns → ∃ j, ns[j]? = some i ∧ (∀ m : Nat, m < j → ns[m]? ≠ some i) ∧ ns.eraseIdx j = ns.erase i
  | [], h => by cases h
  | n :: r, h => by
    by_cases e : n = i
    · subst e
      exact ⟨0, rfl, fun m hm => absurd hm (Nat.not_lt_zero m), by simp⟩
    · have h2 : i ∈ r := by
        rcases List.mem_cons.mp h with z | z
        · exact absurd z.symm e
        · exact z
      obtain ⟨j, h3, h4, h5⟩ := first_at h2
      refine ⟨j + 1, by simpa using h3, fun m hm => ?_, ?_⟩
      · cases m with
        | zero => simpa using e
        | succ m => simpa using h4 m (by omega)
      · rw [List.eraseIdx_cons_succ, h5, List.erase_cons_tail (by simpa using e)]
theorem m_remove : MtR X "list.remove" (fun x xs H Q => rO X.K (two removeW) (x :: xs) H Q) := m_two mt_remove fun H x y Q d e S Q' r h1 h2 g k => by
  cases d <;> cases e <;> first
    | exact (show False from g).elim
    | skip
  rename_i a i
  obtain ⟨ns, e1, hm, q⟩ := g
  cases h1
  cases h2
  obtain ⟨vs, q1, q2⟩ := rs_lst r e1
  have ev := q2.of_ints
  subst ev
  obtain ⟨j, hj, hj2, he⟩ := first_at hm
  refine ⟨a, ns, i, j, rfl, rfl, q1, hj, hj2, ?_⟩
  rw [he]
  exact k _ _ _ _ (rs_mut (m := .lst ((ns.erase i).map D.int)) r e1 (show DvA X.K _ _ ((ns.erase i).map V.int) ((ns.erase i).map D.int) from DvA.ints _)) (fr_mut r e1) .non q
theorem m_append : MtR X "list.append" (fun x xs H Q => rO X.K (two appendW) (x :: xs) H Q) := by
  intro pins s σ H x xs v us Q I rx rs q
  obtain ⟨ds, S, Q', r, da, hg, k⟩ := q
  cases da with
  | cons h1 t1 =>
    cases t1 with
    | nil => exact (show False from hg).elim
    | cons h2 t2 =>
      cases t2 with
      | cons _ _ => exact (show False from hg).elim
      | nil =>
        rename_i d y e
        cases d with
        | ref a =>
          obtain ⟨xs, e1, hz, q⟩ := (show ∃ xs, S a = some (.lst xs) ∧ xs.length < sizeLine ∧ Q' .non (sup S a (.lst (xs ++ [e]))) from hg)
          obtain ⟨vs, q1, q2⟩ := rs_lst r e1
          cases h1
          refine mt_append pins s σ H _ _ v us Q I rx rs ⟨a, vs, y, rfl, rfl, q1, by rw [q2.len]; exact hz, ?_⟩
          exact k _ _ _ _ (rs_mut (m := .lst (xs ++ [e])) r e1 (show DvA X.K _ _ (vs ++ [y]) (xs ++ [e]) from (q2.append (.cons h2 .nil)).mono (fr_mut r e1))) (fr_mut r e1) .non q
        | _ => exact (show False from hg).elim
def rSetD (K : PySem.W.Frag) : V → V → V → Hp → (Hp → Prop) → Prop := fun o i v H Q => ∃ d e y S Q', Rs K S H ∧ Dv K S H o d ∧ Dv K S H i e ∧ Dv K S H v y ∧ setW d e y S Q' ∧ ∀ H' S', Rs K S' H' → Fr S H S' H' → Q' S' → Q H'
theorem o_set (hu : X.A.units + 1 < cLine) : PSet X (rSetD X.K) := by
  intro pins s σ H o i v ov iv u Q I ro ri rv h
  obtain ⟨d, e, y, S, Q', r, h1, h2, h3, g, k⟩ := h
  unfold setW at g
  cases d with
  | ref a =>
    cases h1
    rcases g with ⟨xs, j, n, e1, e0, e2, q⟩ | g
    · subst e0
      obtain ⟨vs, q1, q2⟩ := rs_lst r e1
      cases h2
      refine set_list pins s σ H _ _ _ ov iv u Q I ro ri rv ⟨a, vs, j, n, rfl, rfl, q1, by rw [q2.len]; exact e2, ?_⟩
      exact k _ _ (rs_mut (m := .lst (xs.set n y)) r e1 (show DvA X.K _ _ (vs.set n v) (xs.set n y) from (q2.set h3 n).mono (fr_mut r e1))) (fr_mut r e1) q
    · obtain ⟨H', S', g1, r', f', q⟩ := dput_ok r h2 h3 g
      cases (show ov = Value.ref a from ro)
      exact d_setItem hu I g1 ri rv fun s' I' => ⟨H', I', k _ _ r' f' q⟩
  | _ => exact (show False from g).elim
theorem isEmpty_len {α β : Type} {xs : List α} {ys : List β} (h : xs.length = ys.length) : xs.isEmpty = ys.isEmpty := by
  cases xs <;> cases ys <;> simp at h ⊢
theorem tru_D {S : Hs} {H : Hp} {x : V} {d : D} {b : Bool} (r : Rs X.K S H) (hx : Dv X.K S H x d) (h : TruD S d b) : TruV X.K x H b := by
  cases d with
  | non => cases hx; exact h
  | bl c => cases hx; exact h
  | int i => cases hx; exact h
  | str y => cases hx; exact h
  | tup xs =>
    obtain ⟨a, vs, rfl, q1, q2⟩ := hx.of_tup
    exact .inr (.inl ⟨vs, q1, by rw [isEmpty_len q2.len]; exact h⟩)
  | ctp xs =>
    obtain ⟨a, vs, rfl, q1, q2⟩ := hx.of_ctp
    exact .inr (.inl ⟨vs, q1, by rw [isEmpty_len q2.len]; exact h⟩)
  | lst xs =>
    obtain ⟨a, vs, rfl, q1, q2⟩ := hx.of_lst
    exact .inl ⟨vs, q1, by rw [isEmpty_len q2.len]; exact h⟩
  | ref a =>
    cases hx
    rcases h with ⟨xs, e, h⟩ | ⟨kvs, e, h⟩
    · obtain ⟨vs, q1, q2⟩ := rs_lst r e
      exact .inl ⟨vs, .of q1, by rw [isEmpty_len q2.len]; exact h⟩
    · obtain ⟨u, e1, e2⟩ := r a _ e
      cases u with
      | dK kv =>
        have hl : kvs.length = kv.length := Paired.length (show KvD X.K S H kvs kv from e2)
        exact .inr (.inr ⟨kv, e1, by rw [← isEmpty_len hl]; exact h⟩)
      | _ => exact (show False from e2).elim
  | ty n => exact h.elim
  | fnp f c q fz H0 => exact h.elim
end
end Dz
namespace Dz
open PySem PySem.Spec PyProof.Rows L2

/-! ### the wishes at an end -/
section
variable {K : PySem.W.Frag} {S S1 : Hs} {H H1 : Hp} {Q' : QD} {Q : VK} {X' : XQ} {E : XK}
theorem EndQ.fr (f : Fr S H S1 H1) (e : EndQ K S H Q' Q) : EndQ K S1 H1 Q' Q := fun v H' d S' r g x q => e v H' d S' r (f.trans g) x q
theorem EndX.fr (f : Fr S H S1 H1) (e : EndX K S H X' E) : EndX K S1 H1 X' E := fun c dx H' x S' r g z q => e c dx H' x S' r (f.trans g) z q
theorem EndX.X0 : EndX K S H X0 E := fun _ _ _ _ _ _ _ _ q => q.elim
end
/-- what a callee promises, by data -/
def toSp (K : PySem.W.Frag) (sp : DSp) : Sp := fun vs H Q E => ∃ ds S Q' X', Rs K S H ∧ DvA K S H vs ds ∧ sp ds S Q' X' ∧ EndQ K S H Q' Q ∧ EndX K S H X' E
def FnAt (P : Program) (w : World) (K : PySem.W.Frag) (mg : Str → Option Value) (base : Heap) (k : Nat) (p : Str × DSp) : Prop :=
  ∃ f fd ps, mg p.1 = some (.ref f) ∧ PySem.W.keepIn K (.ref f) = true ∧ Binds K fd ps [] ∧ FnOk P w K mg base (L2.CX P w) k f fd ps (toSp K p.2)
def MthAt (P : Program) (w : World) (K : PySem.W.Frag) (base : Heap) (mg : Str → Option Value) (k : Nat) (p : MthD) : Prop :=
  Cls K p.C ∧ ∃ f fd ps, Meth K p.C p.name f ∧ Binds K fd ps [] ∧ FnOk P w K mg base (L2.CX P w) k f fd ps (toSp K p.sp)
def MkAt (P : Program) (w : World) (K : PySem.W.Frag) (base : Heap) (mg : Str → Option Value) (k : Nat) (p : MthD) : Prop :=
  mg p.name = some (.ref p.C) ∧ ∃ f fd ps j, j + 1 ≤ k ∧ Mk K p.C f ∧ Binds K fd ps [] ∧ FnOk P w K mg base (L2.CX P w) j f fd ps (toSp K p.sp)
/-- an exception class of the program over ValueError, without __init__ -/
structure ExcAt (K : PySem.W.Frag) (mg : Str → Option Value) (p : Str × Addr) : Prop where
  g : mg p.1 = some (.ref p.2)
  x : PySem.W.excIn K p.2 [.type "ValueError", .type "Exception", .type "BaseException", .type "object"] "ValueError.__new__" = true
  k : PySem.W.keepIn K (.ref p.2) = true
  b : PySem.W.subIn K (.ref p.2) (.type "BaseException") = some true
  t : PySem.W.typeIn K (.ref p.2) = some (.type "type")
/-- what the call of a def means to which a thunk is handed: tl, the thunk's -/
def TTo (K : PySem.W.Frag) (sp : LSp) : (XK → Hp → VK → Prop) → Hp → VK → Prop := fun tl H Q => ∃ (S : Hs) (Q' : QD) (act : Hs → QD → XQ → Prop), Rs K S H ∧ sp act S Q' ∧ EndQ K S H Q' Q ∧
  ∀ (E : XK) (H1 : Hp) (S1 : Hs) (Qa : QD) (Xa : XQ) (Qk : VK), Rs K S1 H1 → Fk S H S1 H1 → act S1 Qa Xa → EndQ K S1 H1 Qa Qk → EndX K S1 H1 Xa E → tl E H1 Qk
def LamAt (P : Program) (w : World) (K : PySem.W.Frag) (mg : Str → Option Value) (base : Heap) (k : Nat) (p : LamD) : Prop :=
  ∃ (g : Addr) (fd : FuncData) (st : Stmt) (a : Str) (Ng : List Str), mg p.name = some (.ref g) ∧ Fun K p.name p.name st g fd ∧ Binds K fd [a] [] ∧ FnScope Ng [a] (defScope st) ∧ Ng[0]? = some a ∧ Vis (defScope st) a ∧
    (a == ("__debug__" : Str)) = false ∧ (a == ("__classdict__" : Str)) = false ∧
    ∀ (X : Cx) (cdv : Value), X.prog = P → X.w = w → X.K = K → X.mg = mg → X.base = base → Room k X.A → LamX.GivesTo X Ng p.name (defScope st) g cdv (defBody st) a p.q (TTo K p.sp)
structure CfgOk (P : Program) (w : World) (K : PySem.W.Frag) (mg : Str → Option Value) (base : Heap) (k : Nat) (c : Cfg) : Prop where
  fns : ∀ p ∈ c.fns, FnAt P w K mg base k p
  cons : ∀ p ∈ c.cons, ∃ v u, mg p.1 = some u ∧ RelV v u ∧ ∀ S H, Dv K S H v p.2
  nob : ∀ x ∈ c.nob, mg x = none
  flds : ∀ p ∈ c.flds, Cls K p.1 ∧ NoAttr K p.1 p.2 := by intro _ h; cases h
  mths : ∀ p ∈ c.mths, MthAt P w K base mg k p := by intro _ h; cases h
  mks : ∀ p ∈ c.mks, MkAt P w K base mg k p := by intro _ h; cases h
  excs : ∀ p ∈ c.excs, ExcAt K mg p := by intro _ h; cases h
  exm : ∀ p ∈ c.exm, PySem.W.exmOne K (.ref p.1) (.ref p.2.1) = some p.2.2 := by intro _ h; cases h
  clss : ∀ p ∈ c.clss, mg p.1 = some (.ref p.2) ∧ C8.InsC K p.2 := by intro _ h; cases h
  exn : ∀ p ∈ c.exn, (∃ C, p.2 = .ref C ∧ mg p.1 = some (.ref C)) ∨ ∃ t, p.2 = .type t ∧ mg p.1 = none ∧ bootBuiltins p.1 = some (.type t) := by intro _ h; cases h
  exis : ∀ p ∈ c.exis, ExcC K p.1 ∧ ∃ q, c.exn[p.2.1]? = some q ∧ PySem.W.kitOne K (.ref p.1) q.2 = some p.2.2 := by intro _ h; cases h
  xfl : ∀ p ∈ c.xfl, XfC K p.1 ∧ PySem.W.findIn K (.ref p.1) p.2 = some none := by intro _ h; cases h
/-- what the making of a lambda asks of the maker -/
def LmOk (X : Cx) (cm : Bool) (c : Cfg) (p : LamD) : Prop := X.env.qual ++ "<lambda>" = p.q ∧ (∃ cc, X.env.code = .ref cc ∧ LamX.TabB X.base X.mg cc p.tab) ∧
  ∃ k, (cm = true → Room (k + 2) X.A) ∧ CfgOk X.prog X.w X.K X.mg X.base k c.inner ∧ LamAt X.prog X.w X.K X.mg X.base (k + 2) p
structure Sx (X : Cx) (c : Cfg) (N : List Str) (sc : Scope) (W : WX) (cm : Bool) : Prop where
  hN : X.N = N
  nd : X.N.Nodup
  hsc : X.env.scope = sc
  calm : cm = true → X.calm = true
  hu : X.A.units + 65 < cLine
  cfg : ∃ k, (cm = true → Room k X.A) ∧ CfgOk X.prog X.w X.K X.mg X.base k c
  tk : Takes X W
  lam : ∀ p ∈ c.lams, LmOk X cm c p
  exv : cm = false → ∀ (i : Nat) (a : Addr) (x : XD), c.exv = some (i, a, x) → ∃ (Y : Cx) (oe : Obj) (pn : List (Addr × Obj)), X = Y.suite a ((a, oe) :: pn) ∧ Zc (.ref x.C) x.p oe ∧ ∃ vs, oe.data = .fields vs

/-! ### f(lambda: e) -/
/-- all tables that are live below n -/
def tabsOf (S : Hs) (n : Nat) : List (Addr × Str) := (List.range n).filterMap fun a => match S a with
  | some (.tab q) => some (a, q)
  | _ => none
theorem tabsOf_mem {S : Hs} {n : Nat} {p : Addr × Str} : p ∈ tabsOf S n ↔ p.1 < n ∧ S p.1 = some (.tab p.2) := by
  unfold tabsOf
  rw [List.mem_filterMap]
  constructor
  · rintro ⟨a, ha, e⟩
    rw [List.mem_range] at ha
    split at e
    · rename_i q hq
      cases e
      exact ⟨ha, hq⟩
    · cases e
  · rintro ⟨h1, h2⟩
    exact ⟨p.1, List.mem_range.mpr h1, by rw [h2]⟩
theorem rs_tab {K : PySem.W.Frag} {S : Hs} {H : Hp} {a : Addr} {q : Str} (r : Rs K S H) (h : S a = some (.tab q)) : LamX.TabS H a q := by
  obtain ⟨u, e1, e2⟩ := r a _ h
  cases u with
  | tbl ps =>
    obtain ⟨t1, t2⟩ := (show _ ∧ _ from e2)
    exact ⟨ps, e1, t1, fun pos cv hc => by
      obtain ⟨c, z1, z2, _⟩ := t2 pos cv hc
      exact ⟨c, z1, z2⟩⟩
  | _ => exact (show False from e2).elim
theorem rs_tabs {K : PySem.W.Frag} {S : Hs} {H H1 : Hp} {T : List (Addr × Str)} (r : Rs K S H) (e : LamX.ExtN H H1) (t : LamX.Tabs T H1) (h : ∀ a q, S a = some (.tab q) → (a, q) ∈ T) : Rs K S H1 ∧ Fr S H S H1 := by
  have f : Fr S H S H1 := ⟨fun a o h s n => ⟨e a o h n, s⟩, fun a o u h => e a _ h (fun _ z => by cases z)⟩
  refine ⟨fun a o ho => ?_, f⟩
  obtain ⟨u, e1, e2⟩ := r a o ho
  cases o with
  | tab q =>
    obtain ⟨ps, t1, t2, t3⟩ := t _ (h a q ho)
    refine ⟨_, t1, t2, fun pos cv hc => ?_⟩
    obtain ⟨c, z1, z2⟩ := t3 pos cv hc
    refine ⟨c, z1, z2, ?_⟩
    cases hs : S c with
    | none => rfl
    | some o =>
      obtain ⟨v, v1, v2⟩ := r c o hs
      by_cases hv : ∀ ps, v ≠ .tbl ps
      · have := (e c v v1 hv).symm.trans z2
        cases this
        cases o <;> exact (show False from v2).elim
      · have hv : ∃ ps, v = .tbl ps := Classical.byContradiction fun z => hv fun ps q => z ⟨ps, q⟩
        obtain ⟨ps2, rfl⟩ := hv
        cases o with
        | tab q2 =>
          obtain ⟨ps3, w1, _⟩ := t _ (h c q2 hs)
          have w1 : H1 c = some (.tbl ps3) := w1
          exact (LamX.codeO_ne _ (Option.some.inj (z2.symm.trans w1))).elim
        | _ => exact (show False from v2).elim
  | _ =>
    refine ⟨u, e a u e1 (fun ps z => ?_), e2.mono f⟩
    subst z
    exact (show False from e2)

section
variable {X : Cx} {W : WX} {pos p : Pos} {a b e : Expr} {wa wb we : WE}
theorem s_var {i : Nat} {x : Str} (hN : X.N[i]? = some x) (hv : Vis X.env.scope x) (h1 : (x == ("__debug__" : Str)) = false) (h2 : (x == ("__classdict__" : Str)) = false) :
    PE X (.Name x pos) (tDE X.K W fun ρ S Q _ => ∃ d, ρ[i]? = some (some d) ∧ Q d S) := (pe_var hN hv h1 h2).imp fun σ H Q ⟨ρ, S, Q', X', r, rr, ⟨d, e, q⟩, k, _⟩ => by
  obtain ⟨v, e1, e2⟩ := rr.2 i d e
  exact ⟨v, e1, end_now r e2 q k⟩
theorem s_con {e : Expr} {v : V} {d : D} (h : PE X e (tC v)) (hd : ∀ S H, Dv X.K S H v d) : PE X e (tDE X.K W fun _ S Q _ => Q d S) := h.imp fun σ H Q ⟨ρ, S, Q', X', r, rr, q, k, _⟩ => end_now r (hd S H) q k
theorem da2 {K : PySem.W.Frag} {S S1 : Hs} {H H1 : Hp} {v w : V} {d e : D} (f : Fr S H S1 H1) (h1 : Dv K S H v d) (h2 : Dv K S1 H1 w e) : DvA K S1 H1 [v, w] [d, e] := .cons (h1.mono f) (.cons h2 .nil)
/-- two expressions in a row, then an operation -/
theorem seq2 {σ : L2.St} {H : Hp} {Q : VK} {f : D → D → Hs → QD → Prop} {r2 : R2} (h : tDE X.K W (fun ρ S Q X => wa ρ S (fun x S1 => wb ρ S1 (fun y S2 => f x y S2 Q) X) X) σ H Q) (hr : r2 = fun x y H Q => rO X.K (two f) [x, y] H Q) :
    tOp r2 (tDE X.K W wa) (tDE X.K W wb) σ H Q := by
  obtain ⟨ρ, S, Q', X', r, rr, hw, k, kx⟩ := h
  subst hr
  refine ⟨ρ, S, _, X', r, rr, hw, fun v H1 d S1 r1 f1 x1 q1 => ?_, kx⟩
  refine ⟨ρ, S1, _, X', r1, rr.mono f1, q1, fun w H2 e S2 r2 f2 x2 q2 => ?_, kx.fr f1⟩
  exact ⟨[d, e], S2, Q', r2, da2 f2 x1 x2, q2, k.fr (f1.trans f2)⟩
theorem s_b2 (hu : X.A.units + 65 < cLine) (o : B2) (ha : PE X a (tDE X.K W wa)) (hb : PE X b (tDE X.K W wb)) : PE X (.BinOp a o.op b pos) (tDE X.K W fun ρ S Q X => wa ρ S (fun x S1 => wb ρ S1 (fun y S2 => o.w x y S2 Q) X) X) := by
  cases o with
  | add => exact (pe_op o_add ha hb).imp fun σ H Q h => seq2 h rfl
  | sub => exact (pe_op o_sub ha hb).imp fun σ H Q h => seq2 h rfl
  | mul => exact (pe_op o_mul ha hb).imp fun σ H Q h => seq2 h rfl
  | fdiv => exact (pe_op o_fdiv ha hb).imp fun σ H Q h => seq2 h rfl
  | mod => exact (pe_op o_mod ha hb).imp fun σ H Q h => seq2 h rfl
  | pow => exact (pe_op o_pow ha hb).imp fun σ H Q h => seq2 h rfl
theorem s_neg (ha : PE X a (tDE X.K W wa)) : PE X (.UnaryOp .USub a pos) (tDE X.K W fun ρ S Q X => wa ρ S (fun x S1 => negW x S1 Q) X) := (pe_un o_neg ha).imp fun σ H Q ⟨ρ, S, Q', X', r, rr, hw, k, kx⟩ =>
  ⟨ρ, S, _, X', r, rr, hw, fun v H1 d S1 r1 f1 x1 q1 => ⟨[d], S1, Q', r1, .cons x1 .nil, q1, k.fr f1⟩, kx⟩
/-- the rule of a comparison -/
theorem o_cm (hu : X.A.units + 65 < cLine) (o : Cm) : OpR X (compareOp o.op) (fun x y H Q => rO X.K (two o.w) [x, y] H Q) := by
  cases o with
  | lt => exact o_lt
  | le => exact o_le
  | gt => exact o_gt
  | ge => exact o_ge
  | eq => exact o_eq (by omega)
  | ne => exact o_ne (by omega)
  | isN => exact o_isN
  | notN => exact o_notN
  | isIn => exact o_in hu
  | notIn => exact o_notIn hu
  | eqD => exact o_eqD (by omega)
  | neD => exact o_neD (by omega)
  | eqL => exact o_eqL (by omega)
  | neL => exact o_neL (by omega)
theorem s_cm (hu : X.A.units + 65 < cLine) (o : Cm) (ha : PE X a (tDE X.K W wa)) (hb : PE X b (tDE X.K W wb)) (hm : behindInMarks o.op b = false) : PE X (.Compare a [o.op] [b] pos) (tDE X.K W fun ρ S Q X => wa ρ S (fun x S1 => wb ρ S1 (fun y S2 => o.w x y S2 Q) X) X) :=
  (pe_cmpR (o_cm hu o) ha hb hm).imp fun σ H Q h => seq2 h rfl
/-- a value's wish as a test's -/
theorem bl_end {K : PySem.W.Frag} {S : Hs} {H : Hp} {Q' : Bool → Hs → Prop} {Q : Bool → Hp → Prop} (k : ∀ b H' S', Rs K S' H' → Fr S H S' H' → Q' b S' → Q b H') :
    EndQ K S H (fun z S3 => ∃ k, z = .bl k ∧ Q' k S3) (fun x H' => ∃ k, x = .bl k ∧ Q k H') := fun v H' d S' r f x q => by
  obtain ⟨b, rfl, q⟩ := q
  cases x
  exact ⟨b, rfl, k b H' S' r f q⟩
theorem t_cm (hu : X.A.units + 65 < cLine) (o : Cm) (ha : PE X a (tDE X.K W wa)) (hb : PE X b (tDE X.K W wb)) (hm : behindInMarks o.op b = false) :
    PT X (.Compare a [o.op] [b] pos) (tDB X.K W fun ρ S Q X => wa ρ S (fun x S1 => wb ρ S1 (fun y S2 => o.w x y S2 fun z S3 => ∃ k, z = .bl k ∧ Q k S3) X) X) :=
  (pt_cmpR (o_cm hu o) ha hb hm).imp fun σ H Q ⟨ρ, S, Q', X', r, rr, hw, k, kx⟩ => seq2 (f := o.w) ⟨ρ, S, _, X', r, rr, hw, bl_end k, kx⟩ rfl
/-- a chain -/
theorem seq3 {σ : L2.St} {H : Hp} {Q : VK} {o o' : Cm} {we : WE} (h : tDE X.K W (fun ρ S Q X => wa ρ S (fun x S1 => wb ρ S1 (fun y S2 => o.w x y S2 fun z S3 => ∃ k, z = .bl k ∧
      if k = true then we ρ S3 (fun w S4 => o'.w y w S4 Q) X else Q (.bl false) S3) X) X) σ H Q) :
    tChain (fun x y H Q => rO X.K (two o.w) [x, y] H Q) (fun x y H Q => rO X.K (two o'.w) [x, y] H Q) (tDE X.K W wa) (tDE X.K W wb) (tDE X.K W we) σ H Q := by
  obtain ⟨ρ, S, Q', X', r, rr, hw, k, kx⟩ := h
  refine ⟨ρ, S, _, X', r, rr, hw, fun v H1 d S1 r1 f1 x1 q1 => ?_, kx⟩
  refine ⟨ρ, S1, _, X', r1, rr.mono f1, q1, fun w H2 e S2 r2 f2 x2 q2 => ?_, kx.fr f1⟩
  refine ⟨[d, e], S2, _, r2, da2 f2 x1 x2, q2, fun z H3 dz S3 r3 f3 x3 q3 => ?_⟩
  obtain ⟨c, rfl, q3⟩ := q3
  cases x3
  refine ⟨c, rfl, ?_⟩
  cases c with
  | false => exact iteF (k _ _ _ _ r3 (f1.trans (f2.trans f3)) (.bl false) q3)
  | true =>
    have q3 : we ρ S3 (fun w S4 => o'.w e w S4 Q') X' := q3
    refine iteT ⟨ρ, S3, _, X', r3, rr.mono (f1.trans (f2.trans f3)), q3, fun w' H4 d4 S4 r4 f4 x4 q4 => ?_, kx.fr (f1.trans (f2.trans f3))⟩
    exact ⟨[e, d4], S4, Q', r4, da2 (f3.trans f4) x2 x4, q4, k.fr (f1.trans (f2.trans (f3.trans f4)))⟩
theorem s_ch (hu : X.A.units + 65 < cLine) (o o' : Cm) (ha : PE X a (tDE X.K W wa)) (hb : PE X b (tDE X.K W wb)) (he : PE X e (tDE X.K W we)) (hm : lastMarks [o.op, o'.op] [b, e] = false) :
    PE X (.Compare a [o.op, o'.op] [b, e] pos) (tDE X.K W fun ρ S Q X => wa ρ S (fun x S1 => wb ρ S1 (fun y S2 => o.w x y S2 fun z S3 => ∃ k, z = .bl k ∧
      if k = true then we ρ S3 (fun w S4 => o'.w y w S4 Q) X else Q (.bl false) S3) X) X) := (pe_chain (o_cm hu o) (o_cm hu o') ha hb he hm).imp fun σ H Q h => seq3 h
theorem t_ch (hu : X.A.units + 65 < cLine) (o o' : Cm) (ha : PE X a (tDE X.K W wa)) (hb : PE X b (tDE X.K W wb)) (he : PE X e (tDE X.K W we)) (hm : lastMarks [o.op, o'.op] [b, e] = false) :
    PT X (.Compare a [o.op, o'.op] [b, e] pos) (tDB X.K W fun ρ S Q X => wa ρ S (fun x S1 => wb ρ S1 (fun y S2 => o.w x y S2 fun z S3 => ∃ k, z = .bl k ∧
      if k = true then we ρ S3 (fun w S4 => o'.w y w S4 fun z' S5 => ∃ k', z' = .bl k' ∧ Q k' S5) X else ∃ k', D.bl false = .bl k' ∧ Q k' S3) X) X) :=
  (pt_chain (o_cm hu o) (o_cm hu o') ha hb he hm).imp fun σ H Q ⟨ρ, S, Q', X', r, rr, hw, k, kx⟩ => seq3 (o := o) (o' := o') (we := we) ⟨ρ, S, (fun z S3 => ∃ k, z = .bl k ∧ Q' k S3), X', r, rr, hw, bl_end k, kx⟩
/-- a plain value's truth -/
theorem s_tru (ha : PE X a (tDE X.K W wa)) (he : ∀ whole, isTrue a X.env whole = (do let v ← whole; standAt a.pos; holding [v] (truthy v))) :
    PT X a (tDB X.K W fun ρ S Q X => wa ρ S (fun d S3 => ∃ k, TruD S3 d k ∧ Q k S3) X) := (pt_truth ha he).imp fun σ H Q ⟨ρ, S, Q', X', r, rr, hw, k, kx⟩ =>
  ⟨ρ, S, _, X', r, rr, hw, fun v H1 d S1 r1 f1 x1 ⟨c, t, q⟩ => ⟨c, tru_D r1 x1 t, k c H1 S1 r1 f1 q⟩, kx⟩
theorem s_not (ha : PE X a (tDE X.K W wa)) : PE X (.UnaryOp .Not a pos) (tDE X.K W fun ρ S Q X => wa ρ S (fun x S1 => ∃ k, x = .bl k ∧ Q (.bl (!k)) S1) X) := (pe_not ha).imp fun σ H Q ⟨ρ, S, Q', X', r, rr, hw, k, kx⟩ =>
  ⟨ρ, S, _, X', r, rr, hw, fun v H1 d S1 r1 f1 x1 ⟨c, e, q⟩ => by
    subst e
    cases x1
    exact ⟨c, rfl, k _ _ _ _ r1 f1 (.bl _) q⟩, kx⟩
theorem t_not {wa : WB} (ha : PT X a (tDB X.K W wa)) : PT X (.UnaryOp .Not a pos) (tDB X.K W fun ρ S Q X => wa ρ S (fun k S1 => Q (!k) S1) X) := (pt_not ha).imp fun σ H Q ⟨ρ, S, Q', X', r, rr, hw, k, kx⟩ =>
  ⟨ρ, S, _, X', r, rr, hw, fun c H1 S1 r1 f1 q => k _ _ _ r1 f1 q, kx⟩
theorem s_ife {c : Expr} {wc : WB} (hc : PT X c (tDB X.K W wc)) (ha : PE X a (tDE X.K W wa)) (hb : PE X b (tDE X.K W wb)) :
    PE X (.IfExp c a b pos) (tDE X.K W fun ρ S Q X => wc ρ S (fun k S1 => if k = true then wa ρ S1 Q X else wb ρ S1 Q X) X) := (pe_ifExp hc ha hb).imp fun σ H Q ⟨ρ, S, Q', X', r, rr, hw, k, kx⟩ =>
  ⟨ρ, S, _, X', r, rr, hw, fun c H1 S1 r1 f1 q => by
    cases c with
    | true => exact iteT ⟨ρ, S1, Q', X', r1, rr.mono f1, q, k.fr f1, kx.fr f1⟩
    | false => exact iteF ⟨ρ, S1, Q', X', r1, rr.mono f1, q, k.fr f1, kx.fr f1⟩, kx⟩
/-! and, or -/
variable {rest : List Expr} {b₀ : Expr}
theorem s_and (ha : PE X a (tDE X.K W wa)) (hb : PE X (.BoolOp .And (b :: rest) pos) (tDE X.K W wb)) :
    PE X (.BoolOp .And (a :: b :: rest) pos) (tDE X.K W fun ρ S Q X => wa ρ S (fun x S1 => ∃ k, x = .bl k ∧ if k = true then wb ρ S1 Q X else Q (.bl false) S1) X) := (pe_and ha hb).imp fun σ H Q ⟨ρ, S, Q', X', r, rr, hw, k, kx⟩ =>
  ⟨ρ, S, _, X', r, rr, hw, fun v H1 d S1 r1 f1 x1 ⟨c, e, q⟩ => by
    subst e
    cases x1
    refine ⟨c, rfl, ?_⟩
    cases c with
    | true => exact iteT ⟨ρ, S1, Q', X', r1, rr.mono f1, q, k.fr f1, kx.fr f1⟩
    | false => exact iteF (k _ _ _ _ r1 f1 (.bl false) q), kx⟩
theorem s_or (ha : PE X a (tDE X.K W wa)) (hb : PE X (.BoolOp .Or (b :: rest) pos) (tDE X.K W wb)) :
    PE X (.BoolOp .Or (a :: b :: rest) pos) (tDE X.K W fun ρ S Q X => wa ρ S (fun x S1 => ∃ k, x = .bl k ∧ if k = true then Q (.bl true) S1 else wb ρ S1 Q X) X) := (pe_or ha hb).imp fun σ H Q ⟨ρ, S, Q', X', r, rr, hw, k, kx⟩ =>
  ⟨ρ, S, _, X', r, rr, hw, fun v H1 d S1 r1 f1 x1 ⟨c, e, q⟩ => by
    subst e
    cases x1
    refine ⟨c, rfl, ?_⟩
    cases c with
    | true => exact iteT (k _ _ _ _ r1 f1 (.bl true) q)
    | false => exact iteF ⟨ρ, S1, Q', X', r1, rr.mono f1, q, k.fr f1, kx.fr f1⟩, kx⟩
variable {va vb : WB}
theorem _root_.L2.PW.imp {X : Cx} {e : Expr} {t t' : TT} (h : PW X e t) (k : ∀ σ H Q, t' σ H Q → t σ H Q) : PW X e t' := ⟨fun wh pins s σ H Q I q => h.run wh pins s σ H Q I (k _ _ _ q)⟩
theorem t_and (ha : PT X a (tDB X.K W va)) (hb : PW X (.BoolOp .And (b :: rest) pos) (tDB X.K W vb)) :
    PW X (.BoolOp .And (a :: b :: rest) pos) (tDB X.K W fun ρ S Q X => va ρ S (fun k S1 => if k = true then vb ρ S1 Q X else Q false S1) X) := (pw_and ha hb).imp fun σ H Q ⟨ρ, S, Q', X', r, rr, hw, k, kx⟩ =>
  ⟨ρ, S, _, X', r, rr, hw, fun c H1 S1 r1 f1 q => by
    cases c with
    | true => exact iteT ⟨ρ, S1, Q', X', r1, rr.mono f1, q, fun b H2 S2 r2 f2 q2 => k b H2 S2 r2 (f1.trans f2) q2, kx.fr f1⟩
    | false => exact iteF (k _ _ _ r1 f1 q), kx⟩
theorem t_or (ha : PT X a (tDB X.K W va)) (hb : PW X (.BoolOp .Or (b :: rest) pos) (tDB X.K W vb)) :
    PW X (.BoolOp .Or (a :: b :: rest) pos) (tDB X.K W fun ρ S Q X => va ρ S (fun k S1 => if k = true then Q true S1 else vb ρ S1 Q X) X) := (pw_or ha hb).imp fun σ H Q ⟨ρ, S, Q', X', r, rr, hw, k, kx⟩ =>
  ⟨ρ, S, _, X', r, rr, hw, fun c H1 S1 r1 f1 q => by
    cases c with
    | true => exact iteT (k _ _ _ r1 f1 q)
    | false => exact iteF ⟨ρ, S1, Q', X', r1, rr.mono f1, q, fun b H2 S2 r2 f2 q2 => k b H2 S2 r2 (f1.trans f2) q2, kx.fr f1⟩, kx⟩
/-! argument lists, displays -/
variable {es : List Expr} {ws : WA}
theorem s_nil : PA X [] (tDA X.K W fun _ S Q _ => Q [] S) := pa_nil.imp fun σ H Q ⟨ρ, S, Q', X', r, rr, q, k, kx⟩ => k [] H [] S r (Fr.refl S H) .nil q
theorem s_cons (ha : PE X a (tDE X.K W wa)) (hr : PA X es (tDA X.K W ws)) (hs : starEach (a :: es) X.env = (false, eval a X.env) :: starEach es X.env) :
    PA X (a :: es) (tDA X.K W fun ρ S Q X => wa ρ S (fun x S1 => ws ρ S1 (fun xs S2 => Q (x :: xs) S2) X) X) := (pa_cons ha hr hs).imp fun σ H Q ⟨ρ, S, Q', X', r, rr, hw, k, kx⟩ =>
  ⟨ρ, S, _, X', r, rr, hw, fun v H1 d S1 r1 f1 x1 q1 => ⟨ρ, S1, _, X', r1, rr.mono f1, q1, fun vs H2 ds S2 r2 f2 x2 q2 => k _ _ _ _ r2 (f1.trans f2) (.cons (x1.mono f2) x2) q2, kx.fr f1⟩, kx⟩
theorem s_tup {x1} (h : PA X es (tDA X.K W ws)) : PE X (.Tuple es x1 pos) (tDE X.K W fun ρ S Q X => ws ρ S (fun ds S1 => ds.length ≤ sizeLine ∧ Q (.tup ds) S1) X) := (pe_tup h).imp fun σ H Q ⟨ρ, S, Q', X', r, rr, hw, k, kx⟩ =>
  ⟨ρ, S, _, X', r, rr, hw, fun vs H1 ds S1 r1 f1 x1 q1 => ⟨by rw [x1.len]; exact q1.1, newT_ok r1 x1 q1.2 (k.fr f1)⟩, kx⟩
theorem s_lst (h : PA X es (tDA X.K W ws)) : PE X (.List es pos) (tDE X.K W fun ρ S Q X => ws ρ S (fun ds S1 => ds.length ≤ sizeLine ∧ NewL ds S1 Q) X) := (pe_lst h).imp fun σ H Q ⟨ρ, S, Q', X', r, rr, hw, k, kx⟩ =>
  ⟨ρ, S, _, X', r, rr, hw, fun vs H1 ds S1 r1 f1 x1 q1 => ⟨by rw [x1.len]; exact q1.1, newL_ok r1 x1 q1.2 (k.fr f1)⟩, kx⟩
/-! subscripts -/
theorem s_ix (hu : X.A.units + 65 < cLine) (ha : PE X a (tDE X.K W wa)) (hb : PE X b (tDE X.K W wb)) (hs : PlainIx b) : PE X (.Subscript a b pos) (tDE X.K W fun ρ S Q X => wa ρ S (fun x S1 => wb ρ S1 (fun y S2 => ixW x y S2 Q) X) X) :=
  (pe_ix (o_ix (by omega)) ha hb hs).imp fun σ H Q h => seq2 h rfl
abbrev WO := List (Option D) → Hs → (Option Int → Hs → Prop) → XQ → Prop
def tDO (K : PySem.W.Frag) (W : WX) (w : WO) : TO := fun σ H Q => ∃ ρ S Q' X', Rs K S H ∧ Rr K S H σ ρ ∧ w ρ S Q' X' ∧ (∀ o H' S', Rs K S' H' → Fr S H S' H' → Q' o S' → Q o H') ∧ EndX K S H X' (fun c d H' => W c d σ H')
theorem _root_.L2.PO.imp {X : Cx} {e : Option Expr} {t t' : TO} (h : PO X e t) (k : ∀ σ H Q, t' σ H Q → t σ H Q) : PO X e t' := ⟨fun pins s σ H Q I q => h.run pins s σ H Q I (k _ _ _ q)⟩
theorem s_no : PO X none (tDO X.K W fun _ S Q _ => Q none S) := (po_none).imp fun σ H Q ⟨ρ, S, Q', X', r, rr, q, k, kx⟩ => k none H S r (Fr.refl S H) q
theorem s_yes (ha : PE X a (tDE X.K W wa)) : PO X (some a) (tDO X.K W fun ρ S Q X => wa ρ S (fun x S1 => ∃ i, x = .int i ∧ Q (some i) S1) X) := (po_some ha).imp fun σ H Q ⟨ρ, S, Q', X', r, rr, hw, k, kx⟩ =>
  ⟨ρ, S, _, X', r, rr, hw, fun v H1 d S1 r1 f1 x1 ⟨i, e, q⟩ => by
    subst e
    cases x1
    exact ⟨i, rfl, k _ _ _ r1 f1 q⟩, kx⟩
theorem s_sl {lo hi : Option Expr} {wl wh : WO} {p2 : Pos} (ha : PE X a (tDE X.K W wa)) (hl : PO X lo (tDO X.K W wl)) (hh : PO X hi (tDO X.K W wh)) :
    PE X (.Subscript a (.Slice lo hi none p2) pos) (tDE X.K W fun ρ S Q X => wa ρ S (fun x S1 => wl ρ S1 (fun l S2 => wh ρ S2 (fun h S3 => slW x l h S3 Q) X) X) X) := (pe_slice o_sl ha hl hh).imp fun σ H Q ⟨ρ, S, Q', X', r, rr, hw, k, kx⟩ =>
  ⟨ρ, S, _, X', r, rr, hw, fun v H1 d S1 r1 f1 x1 q1 => ⟨ρ, S1, _, X', r1, rr.mono f1, q1, fun l H2 S2 r2 f2 q2 => ⟨ρ, S2, _, X', r2, rr.mono (f1.trans f2), q2, fun h H3 S3 r3 f3 q3 =>
    ⟨d, S3, Q', r3, x1.mono (f2.trans f3), q3, k.fr (f1.trans (f2.trans f3))⟩, kx.fr (f1.trans f2)⟩, kx.fr f1⟩, kx⟩
theorem s_rev {k : Nat} {p1 p2 p3 : Pos} (ha : PE X a (tDE X.K W wa)) : PE X (.Subscript a (.Slice none none (some (.UnaryOp .USub (.Constant (.int 1) k p1) p2)) p3) pos) (tDE X.K W fun ρ S Q X => wa ρ S (fun x S1 => revW x S1 Q) X) :=
  (pe_revS ha).imp fun σ H Q ⟨ρ, S, Q', X', r, rr, hw, kq, kx⟩ => ⟨ρ, S, _, X', r, rr, hw, fun v H1 d S1 r1 f1 x1 q1 => by
    have lists : (∃ xs, lstOf S1 d = some xs ∧ NewL xs.reverse S1 Q') → ∃ a xs, v = .ref a ∧ ((SqL X.K H1 a xs ∧ ∀ p, H1 p = none → Q (.ref p) (upd H1 p (.lst xs.reverse))) ∨ (SqT X.K H1 a xs ∧ ∀ p, H1 p = none → Q (.ref p) (upd H1 p (.tup xs.reverse)))) := fun ⟨xs, e, n⟩ => by
      obtain ⟨a, vs, rfl, h1, h2⟩ := lstOf_ok r1 x1 e
      exact ⟨a, vs, rfl, .inl ⟨h1, newL_ok r1 h2.reverse n (kq.fr f1)⟩⟩
    cases d with
    | tup xs =>
      obtain ⟨a, vs, rfl, h1, h2⟩ := x1.of_tup
      exact ⟨a, vs, rfl, .inr ⟨h1, newT_ok r1 h2.reverse q1.2 (kq.fr f1)⟩⟩
    | _ => exact lists q1, kx⟩
end
end Dz
namespace Dz
open PySem PySem.Spec PyProof.Rows L2
section
variable {X : Cx} {W : WX}
theorem lam_bind (q : Str) (body : Expr) (scope : Scope) (cl : List (Str × Addr)) (pm cv ctv : Value) : bindArgs (PySem.W.kla_fn "<lambda>" q ⟨[], [], none, [], [], none, []⟩ body scope cl pm cv ctv) ⟨[], []⟩ = pure [] := by
  rfl
theorem s_tcall {c : Cfg} {p : LamD} {x : Str} {k : Nat} {params : Arguments} {body : Expr} {scope : Scope} {wb : WE} {pp lpos pos : Pos} {cc : Addr} (hg : Gl X x) (hx : p.name = x) (hr : Room (k + 2) X.A) (hd : (x == ("__debug__" : Str)) = false)
    (hq : X.env.qual ++ "<lambda>" = p.q) (hcode : X.env.code = .ref cc) (TB : LamX.TabB X.base X.mg cc p.tab) (hL : LamAt X.prog X.w X.K X.mg X.base (k + 2) p) (L : LamX.LamS X.env.scope scope) (hp : params = ⟨[], [], none, [], [], none, []⟩)
    (hbody : ∀ (A : Around) (outer : List Env) (s : Shared) (H : Hp) (E : XK) (f c' : Addr), Room k (A.deeper (LamX.lamEnv X scope s.heap.objs.size f c')) → PE (LamX.lamCx X A outer s H E scope f c') body (tDE X.K (fun cls d _ H => E cls d H) wb)) :
    PE X (.Call (.Name x pp) [.Lambda params body scope lpos] [] pos) (tDE X.K W fun ρ S Q _ => S p.tab = some (.tab p.q) ∧ p.sp (fun S1 Q1 X1 => wb ρ S1 Q1 X1) S Q) := by
  subst hx hp
  obtain ⟨g, fd, st, a, Ng, hm, F, hb, Sg, hNg, hva, ha1, ha2, hG⟩ := hL
  obtain ⟨oc, od, kV, doc, pm, an, cdv, ct, osl, rfl, lk, hcd⟩ := F.ex
  refine ⟨fun pins s σ H Q I h => ?_⟩
  obtain ⟨ρ, S, Q', X', r, rr, ⟨hS, hsp⟩, kq, kx⟩ := h
  have inT : ∀ a q, S a = some (.tab q) → (a, q) ∈ tabsOf S s.heap.objs.size := fun a q e => tabsOf_mem.mpr ⟨by
    obtain ⟨u, e1, _⟩ := r a _ e
    refine Nat.lt_of_not_le fun z => ?_
    rw [I.hok.fresh z] at e1
    exact absurd e1 (by simp), e⟩
  refine (LamX.pe_lamcall (T := tabsOf S s.heap.objs.size) (TT := TTo X.K p.sp) (t := fun E => tDE X.K (fun cls d _ H => E cls d H) wb) hg hm F.kp lk hcd hb Sg hNg hva (by rw [hq]; exact hG X cdv rfl rfl rfl rfl rfl hr) TB hcode
    (by rw [hq]; exact inT _ _ hS) (fun q hm' e => ?_) hr L rfl (fun _ _ _ _ _ => rfl) (fun A outer s H E f c' hr' => hbody A outer s H E f c' hr') hd ha1 ha2).run pins s σ H Q I ⟨fun q hm' => rs_tab r (tabsOf_mem.mp hm').2, fun H1 eN T1 => ?_⟩
  · have := (tabsOf_mem.mp hm').2
    rw [e, hS] at this
    rw [hq]
    injection this with this
    injection this with this
    exact this.symm
  · obtain ⟨r1, f1⟩ := rs_tabs r eN T1 inT
    exact ⟨S, Q', fun S1 Q1 X1 => wb ρ S1 Q1 X1, r1, hsp, kq.fr f1, fun E H2 S2 Qa Xa Qk r2 f2 ha kqa kxa => ⟨ρ, S2, Qa, Xa, r2, (rr.mono f1).monoK f2, ha, kqa, kxa⟩⟩
end
end Dz
namespace Dz
open PySem PySem.Spec PyProof.Rows L2
section
variable {X : Cx} {W : WX} {pos p : Pos} {a b e : Expr} {wa wb we : WE} {es : List Expr} {ws : WA}
/-! ### built-ins by name -/
theorem b_min : bootBuiltins "min" = some (.builtin "min") := by decide +kernel
theorem b_max : bootBuiltins "max" = some (.builtin "max") := by decide +kernel
theorem b_sorted : bootBuiltins "sorted" = some (.builtin "sorted") := by decide +kernel
theorem b_all : bootBuiltins "all" = some (.builtin "all") := by decide +kernel
theorem b_any : bootBuiltins "any" = some (.builtin "any") := by decide +kernel
theorem b_sum : bootBuiltins "sum" = some (.builtin "sum") := by decide +kernel
theorem b_len : bootBuiltins "len" = some (.builtin "len") := by decide +kernel
theorem b_abs : bootBuiltins "abs" = some (.builtin "abs") := by decide +kernel
theorem b_isi : bootBuiltins "isinstance" = some (.builtin "isinstance") := by decide +kernel
theorem b_int : bootBuiltins "int" = some (.type "int") := by decide +kernel
theorem b_list : bootBuiltins "list" = some (.type "list") := by decide +kernel
theorem b_dict : bootBuiltins "dict" = some (.type "dict") := by decide +kernel
theorem b_tuple : bootBuiltins "tuple" = some (.type "tuple") := by decide +kernel
/-- what calls give, by data -/
theorem cbW {f : OW} (h : PE X e (tCB (rO X.K f) (tDA X.K W ws))) : PE X e (tDE X.K W fun ρ S Q X => ws ρ S (fun ds S1 => f ds S1 Q) X) := h.imp fun σ H Q ⟨ρ, S, Q', X', r, rr, hw, k, kx⟩ =>
  ⟨ρ, S, _, X', r, rr, hw, fun vs H1 ds S1 r1 f1 x1 q1 => ⟨ds, S1, Q', r1, x1, q1, k.fr f1⟩, kx⟩
theorem s_bi (f : Bi) (hc : f.free = false → X.calm = true) (hg : Gl X f.name) (hm : X.mg f.name = none) (ha : PA X (e :: es) (tDA X.K W ws)) (he : starEach (e :: es) X.env = (false, eval e X.env) :: starEach es X.env) (hpl : (backTo pos (starEach es X.env)).any (·.1) = false) :
    PE X (.Call (.Name f.name p) (e :: es) [] pos) (tDE X.K W fun ρ S Q X => ws ρ S (fun ds S1 => f.w ds S1 Q) X) := by
  cases f with
  | len => exact cbW (pe_callB c_len hg hm b_len ha (by decide +kernel) (by decide +kernel) he hpl)
  | int1 => exact cbW (pe_callTy c_int hg hm b_int ha (by decide +kernel) (by decide +kernel) he hpl)
  | abs => exact cbW (pe_callB c_abs hg hm b_abs ha (by decide +kernel) (by decide +kernel) he hpl)
  | min2 => exact cbW (pe_callB (c_min (hc rfl)) hg hm b_min ha (by decide +kernel) (by decide +kernel) he hpl)
  | max2 => exact cbW (pe_callB (c_max (hc rfl)) hg hm b_max ha (by decide +kernel) (by decide +kernel) he hpl)
  | tuple1 => exact cbW (pe_callTy c_tuple hg hm b_tuple ha (by decide +kernel) (by decide +kernel) he hpl)
  | list1 => exact cbW (pe_callTy c_list hg hm b_list ha (by decide +kernel) (by decide +kernel) he hpl)
  | sorted => exact cbW (pe_callB (c_sorted (hc rfl)) hg hm b_sorted ha (by decide +kernel) (by decide +kernel) he hpl)
  | all => exact cbW (pe_callB (c_all (hc rfl)) hg hm b_all ha (by decide +kernel) (by decide +kernel) he hpl)
  | any => exact cbW (pe_callB (c_any (hc rfl)) hg hm b_any ha (by decide +kernel) (by decide +kernel) he hpl)
  | dict1 => exact cbW (pe_callTy (c_dict (hc rfl)) hg hm b_dict ha (by decide +kernel) (by decide +kernel) he hpl)
  | sum => exact cbW (pe_callB (c_sum (hc rfl)) hg hm b_sum ha (by decide +kernel) (by decide +kernel) he hpl)
theorem s_bm (f : Bm) (hf : f = .append ∨ f = .extend ∨ f = .remove) (apos cpos : Pos) {o : Expr} {wo : WE} (ho : PE X o (tDE X.K W wo)) (ha : PA X (e :: es) (tDA X.K W ws))
    (hbase : attributeBase o f.name X.env (eval o X.env) = eval o X.env)
    (hfew : ((backTo cpos (starEach (e :: es) X.env)).all (fun x => !x.1) && (backToKw cpos (keywordEach [] X.env)).all (fun x => x.1.isSome)
      && decide ((e :: es).length + ([] : List Keyword).length + (if ([] : List Keyword).isEmpty then 0 else 1) < 30)) = true)
    (hline : (apos.endLine == cpos.line) = true) (hs : starEach (e :: es) X.env = (false, eval e X.env) :: starEach es X.env) (hplain : (backTo cpos (starEach es X.env)).any (·.1) = false) :
    PE X (.Call (.Attribute o f.name apos) (e :: es) [] cpos) (tDE X.K W fun ρ S Q X => wo ρ S (fun x S1 => f.ty S1 x ∧ ws ρ S1 (fun ds S2 => f.w (x :: ds) S2 Q) X) X) := by
  have ty_ : ∀ {S1 : Hs} {d : D}, f.ty S1 d → ∃ xs, lstOf S1 d = some xs := fun {S1 d} h => by
    rcases hf with rfl | rfl | rfl <;> exact h
  have key : PE X (.Call (.Attribute o f.name apos) (e :: es) [] cpos) (tBM X.K "list" (fun x xs H Q => rO X.K f.w (x :: xs) H Q) (tDE X.K W wo) (tDA X.K W ws)) := by
    rcases hf with rfl | rfl | rfl
    · exact pe_bm PySem.F.plainAttrs_list PySem.F.slot_list_append PySem.F.type_list_append m_append ho ha hbase hfew hline hs hplain
    · exact pe_bm PySem.F.plainAttrs_list PySem.F.slot_list_extend PySem.F.type_list_extend m_extend ho ha hbase hfew hline hs hplain
    · exact pe_bm PySem.F.plainAttrs_list PySem.F.slot_list_remove PySem.F.type_list_remove m_remove ho ha hbase hfew hline hs hplain
  refine key.imp fun σ H Q ⟨ρ, S, Q', X', r, rr, hw, k, kx⟩ => ?_
  refine ⟨ρ, S, _, X', r, rr, hw, fun v H1 d S1 r1 f1 x1 ⟨hty, q1⟩ => ⟨?_, ρ, S1, _, X', r1, rr.mono f1, q1, fun vs H2 ds S2 r2 f2 x2 q2 => ⟨d :: ds, S2, Q', r2, .cons (x1.mono f2) x2, q2, k.fr (f1.trans f2)⟩, kx.fr f1⟩, kx⟩
  obtain ⟨xs, ex⟩ := ty_ hty
  obtain ⟨a, vs, rfl, h1, h2⟩ := lstOf_ok r1 x1 ex
  exact .inl ⟨rfl, vs, h1⟩
/-- methods of dicts -/
theorem isD_of {K : PySem.W.Frag} {S : Hs} {H : Hp} {d : D} {v : V} (r : Rs K S H) (x : Dv K S H v d) (h : ∃ a o, d = .ref a ∧ S a = some o ∧ isDic o = true) : ∃ a, v = .ref a ∧ IsD H a := by
  obtain ⟨a, o, rfl, e, hd⟩ := h
  cases x
  refine ⟨a, rfl, ?_⟩
  cases o with
  | dK kvs => obtain ⟨kv, q, _⟩ := rs_dk r e; exact .inl ⟨kv, .inl q⟩
  | dT kvs => obtain ⟨kv, q, _⟩ := rs_dt r e; exact .inr ⟨kv, .inl q⟩
  | zK kvs => obtain ⟨od, kv, q, _⟩ := rs_zk r e; exact .inl ⟨kv, .inr ⟨od, q⟩⟩
  | zT kvs => obtain ⟨od, kv, q, _⟩ := rs_zt r e; exact .inr ⟨kv, .inr ⟨od, q⟩⟩
  | _ => cases hd
theorem m1_of {m : Str} {apos cpos : Pos} {o : Expr} (hbase : attributeBase o m X.env (eval o X.env) = eval o X.env) (hline : (apos.endLine == cpos.line) = true) (hs : starEach [e] X.env = (false, eval e X.env) :: starEach [] X.env) : M1 X o m apos e cpos :=
  ⟨hbase, by rw [hs]; rfl, hline, by rw [hs]; rfl⟩
theorem m2_of {m : Str} {apos cpos : Pos} {o e2 : Expr} (hbase : attributeBase o m X.env (eval o X.env) = eval o X.env) (hline : (apos.endLine == cpos.line) = true) (hs : starEach [e, e2] X.env = (false, eval e X.env) :: starEach [e2] X.env) (hs2 : starEach [e2] X.env = (false, eval e2 X.env) :: starEach [] X.env) : M2 X o m apos e e2 cpos :=
  ⟨hbase, by rw [hs, hs2]; rfl, hline, by rw [hs, hs2]; rfl⟩
theorem od_getD {K : PySem.W.Frag} {S : Hs} {H : Hp} {o : Option D} {p : Option V} (h : OD K S H o p) : Dv K S H (p.getD .non) (o.getD .non) := by
  cases o <;> cases p <;> first | exact .non | exact h.elim | exact h
theorem od_getE {K : PySem.W.Frag} {S : Hs} {H : Hp} {o : Option D} {p : Option V} {x : D} {v : V} (h : OD K S H o p) (hx : Dv K S H v x) : Dv K S H (p.getD v) (o.getD x) := by
  cases o <;> cases p <;> first | exact hx | exact h.elim | exact h
section
variable {o e2 : Expr} {wo we2 : WE} {apos cpos : Pos}
theorem s_get1 (hu : X.A.units + 65 < cLine) (ho : PE X o (tDE X.K W wo)) (he : PE X e (tDE X.K W we)) (m : M1 X o "get" apos e cpos) :
    PE X (.Call (.Attribute o "get" apos) [e] [] cpos) (tDE X.K W fun ρ S Q X => wo ρ S (fun x S1 => Bm.ty S1 x .get1 ∧ we ρ S1 (fun y S2 => get1W x y S2 Q) X) X) := (pe_dget1 (by omega) ho he m).imp fun σ H Q ⟨ρ, S, Q', X', r, rr, hw, k, kx⟩ =>
  ⟨ρ, S, _, X', r, rr, hw, fun v1 H1 d1 S1 r1 f1 x1 ⟨hd, q1⟩ => by
    obtain ⟨a, rfl, hd2⟩ := isD_of r1 x1 hd
    refine ⟨a, rfl, hd2, ρ, S1, _, X', r1, rr.mono f1, q1, fun v2 H2 d2 S2 r2 f2 x2 q2 => ?_, kx.fr f1⟩
    obtain ⟨a', _, rfl, _, _⟩ := hd
    obtain ⟨od, g, q2⟩ := q2
    obtain ⟨p, g1, g2⟩ := dget_ok r2 x2 g
    cases x1
    exact ⟨p, g1, end_now r2 (od_getD g2) q2 (k.fr (f1.trans f2))⟩, kx⟩
theorem s_get2 (hu : X.A.units + 65 < cLine) (ho : PE X o (tDE X.K W wo)) (he : PE X e (tDE X.K W we)) (he2 : PE X e2 (tDE X.K W we2)) (m : M2 X o "get" apos e e2 cpos) :
    PE X (.Call (.Attribute o "get" apos) [e, e2] [] cpos) (tDE X.K W fun ρ S Q X => wo ρ S (fun x S1 => Bm.ty S1 x .get2 ∧ we ρ S1 (fun y S2 => we2 ρ S2 (fun z S3 => get2W x y z S3 Q) X) X) X) := (pe_dget2 (by omega) ho he he2 m).imp fun σ H Q ⟨ρ, S, Q', X', r, rr, hw, k, kx⟩ =>
  ⟨ρ, S, _, X', r, rr, hw, fun v1 H1 d1 S1 r1 f1 x1 ⟨hd, q1⟩ => by
    obtain ⟨a, rfl, hd2⟩ := isD_of r1 x1 hd
    refine ⟨a, rfl, hd2, ρ, S1, _, X', r1, rr.mono f1, q1, fun v2 H2 d2 S2 r2 f2 x2 q2 => ?_, kx.fr f1⟩
    refine ⟨ρ, S2, _, X', r2, rr.mono (f1.trans f2), q2, fun v3 H3 d3 S3 r3 f3 x3 q3 => ?_, kx.fr (f1.trans f2)⟩
    obtain ⟨a', _, rfl, _, _⟩ := hd
    obtain ⟨od, g, q3⟩ := q3
    obtain ⟨p, g1, g2⟩ := dget_ok r3 (x2.mono f3) g
    cases x1
    exact ⟨p, g1, end_now r3 (od_getE g2 x3) q3 (k.fr (f1.trans (f2.trans f3)))⟩, kx⟩
theorem s_pop1 (ho : PE X o (tDE X.K W wo)) (he : PE X e (tDE X.K W we)) (m : M1 X o "pop" apos e cpos) :
    PE X (.Call (.Attribute o "pop" apos) [e] [] cpos) (tDE X.K W fun ρ S Q X => wo ρ S (fun x S1 => Bm.ty S1 x .pop1 ∧ we ρ S1 (fun y S2 => pop1W x y S2 Q) X) X) := (pe_dpop1 ho he m).imp fun σ H Q ⟨ρ, S, Q', X', r, rr, hw, k, kx⟩ =>
  ⟨ρ, S, _, X', r, rr, hw, fun v1 H1 d1 S1 r1 f1 x1 ⟨hd, q1⟩ => by
    obtain ⟨a, rfl, hd2⟩ := isD_of r1 x1 hd
    refine ⟨a, rfl, hd2, ρ, S1, _, X', r1, rr.mono f1, q1, fun v2 H2 d2 S2 r2 f2 x2 q2 => ?_, kx.fr f1⟩
    obtain ⟨a', _, rfl, _, _⟩ := hd
    obtain ⟨kvs, key, x, e1, e2, e3, q2⟩ := q2
    cases x1
    obtain ⟨kv, h1, h2⟩ := rs_dk r2 e1
    have ov := od_val h2 key
    rw [e3] at ov
    cases e4 : valV kv key with
    | none => rw [e4] at ov; exact ov.elim
    | some v =>
      rw [e4] at ov
      refine ⟨kv, key, v, h1, key_V x2 e2, e4, k _ _ _ _ (rs_mut (m := .dK (dropD kvs key)) (o := .dK (dropK kv key)) r2 e1 (show KvD X.K _ _ (dropD kvs key) (dropK kv key) from KvD.mono (fr_mut r2 e1) (kvd_drop h2 key))) (f1.trans (f2.trans (fr_mut r2 e1))) (Dv.mono (fr_mut r2 e1) ov) q2⟩, kx⟩
theorem s_pop2 (ho : PE X o (tDE X.K W wo)) (he : PE X e (tDE X.K W we)) (he2 : PE X e2 (tDE X.K W we2)) (m : M2 X o "pop" apos e e2 cpos) :
    PE X (.Call (.Attribute o "pop" apos) [e, e2] [] cpos) (tDE X.K W fun ρ S Q X => wo ρ S (fun x S1 => Bm.ty S1 x .pop2 ∧ we ρ S1 (fun y S2 => we2 ρ S2 (fun z S3 => pop2W x y z S3 Q) X) X) X) := (pe_dpop2 ho he he2 m).imp fun σ H Q ⟨ρ, S, Q', X', r, rr, hw, k, kx⟩ =>
  ⟨ρ, S, _, X', r, rr, hw, fun v1 H1 d1 S1 r1 f1 x1 ⟨hd, q1⟩ => by
    obtain ⟨a, rfl, hd2⟩ := isD_of r1 x1 hd
    refine ⟨a, rfl, hd2, ρ, S1, _, X', r1, rr.mono f1, q1, fun v2 H2 d2 S2 r2 f2 x2 q2 => ?_, kx.fr f1⟩
    refine ⟨ρ, S2, _, X', r2, rr.mono (f1.trans f2), q2, fun v3 H3 d3 S3 r3 f3 x3 q3 => ?_, kx.fr (f1.trans f2)⟩
    obtain ⟨a', _, rfl, _, _⟩ := hd
    obtain ⟨kvs, key, e1, e2, q3⟩ := q3
    cases x1
    obtain ⟨kv, h1, h2⟩ := rs_dk r3 e1
    have ov := od_val h2 key
    have f := f1.trans (f2.trans f3)
    refine ⟨kv, key, h1, key_V (x2.mono f3) e2, fun v ev => ?_, fun ev => ?_⟩
    · rw [ev] at ov
      cases e4 : valD kvs key with
      | none => rw [e4] at ov; exact ov.elim
      | some x =>
        rw [e4] at ov
        have q := q3 _ e4
        exact k _ _ _ _ (rs_mut (m := .dK (dropD kvs key)) (o := .dK (dropK kv key)) r3 e1 (show KvD X.K _ _ (dropD kvs key) (dropK kv key) from KvD.mono (fr_mut r3 e1) (kvd_drop h2 key))) (f.trans (fr_mut r3 e1)) (Dv.mono (fr_mut r3 e1) ov) q
    · rw [ev] at ov
      cases e4 : valD kvs key with
      | none => exact end_now r3 x3 (q3 _ e4) (k.fr f)
      | some x => rw [e4] at ov; exact ov.elim, kx⟩
end
/-! ### a global constant, a call -/
theorem s_glob {c : Cfg} {x : Str} {i : Nat} {q : Str × D} (hi : c.cons[i]? = some q) (hx : q.1 = x) (hg : Gl X x) (hd : (x == ("__debug__" : Str)) = false) (h : ∃ v u, X.mg q.1 = some u ∧ RelV v u ∧ ∀ S H, Dv X.K S H v q.2) :
    PE X (.Name x pos) (tDE X.K W fun _ S Q _ => ∃ p, c.cons[i]? = some p ∧ Q p.2 S) := by
  subst hx
  obtain ⟨v, u, h1, h2, h3⟩ := h
  refine (pe_glob hg h1 h2 hd).imp fun σ H Q ⟨ρ, S, Q', X', r, rr, ⟨p, e, q⟩, k, kx⟩ => ?_
  rw [hi] at e
  cases e
  exact end_now r (h3 S H) q k
theorem s_call {c : Cfg} {k : Nat} {x : Str} {i : Nat} {q : Str × DSp} (hi : c.fns[i]? = some q) (hx : q.1 = x) (hg : Gl X x) (hd : (x == ("__debug__" : Str)) = false) (hr : Room k X.A) (h : FnAt X.prog X.w X.K X.mg X.base k q) (tk : Takes X W)
    (ha : PA X (e :: es) (tDA X.K W ws)) (he : starEach (e :: es) X.env = (false, eval e X.env) :: starEach es X.env) (hpl : (backTo pos (starEach es X.env)).any (·.1) = false) :
    PE X (.Call (.Name x p) (e :: es) [] pos) (tDE X.K W fun ρ S Q X => ws ρ S (fun ds S1 => ∃ p, c.fns[i]? = some p ∧ p.2 ds S1 Q X) X) := by
  subst hx
  obtain ⟨f, fd, ps, h1, h2, h3, h4⟩ := h
  refine (pe_callSD (dvs := []) (ds := []) (E := L2.WE W) h4 hr hg h1 h2 h3 .nil (fun σ => passAt tk σ) ha hd he hpl).imp fun σ H Q ⟨ρ, S, Q', X', r, rr, hw, k, kx⟩ => ?_
  refine ⟨ρ, S, _, X', r, rr, hw, fun vs H1 ds S1 r1 f1 x1 ⟨p, e, q1⟩ => ?_, kx⟩
  rw [hi] at e
  cases e
  rw [List.append_nil]
  exact ⟨ds, S1, Q', X', r1, x1, q1, k.fr f1, kx.fr f1⟩

/-! ### isinstance with built-in types -/
theorem ty_D {S : Hs} {H : Hp} {v : V} {d : D} {t : String} (r : Rs X.K S H) (hx : Dv X.K S H v d) (h : tyName S d = some t) : TyX X.K H v (.type t) := by
  cases d with
  | non => cases hx; cases h; exact .base .non
  | bl b => cases hx; cases h; exact .base (.bl b)
  | int i => cases hx; cases h; exact .base (.int i)
  | str x => cases hx; cases h; exact .base (.str x)
  | tup xs =>
    cases h
    obtain ⟨a, vs, rfl, q1, q2⟩ := hx.of_tup
    rcases q1 with (q1 | ⟨o, q1⟩) | ⟨o, its, n, q1, q3, _⟩
    · exact .base (.tup q1)
    · exact .fTuple q1
    · exact .kTuple q1 q3
  | ctp xs =>
    cases h
    obtain ⟨a, vs, rfl, q1, q2⟩ := hx.of_ctp
    rcases q1 with (q1 | ⟨o, q1⟩) | ⟨o, its, n, q1, q3, _⟩
    · exact .base (.tup q1)
    · exact .fTuple q1
    · exact .kTuple q1 q3
  | lst xs =>
    cases h
    obtain ⟨a, vs, rfl, q1, q2⟩ := hx.of_lst
    rcases q1 with (q1 | ⟨o, q1⟩) | ⟨o, its, n, q1, q3, _⟩
    · exact .base (.lst q1)
    · exact .base (.frz q1)
    · exact .kList q1 q3
  | ref a =>
    cases hx
    unfold tyName at h
    simp only at h
    split at h
    · rename_i e
      cases h
      obtain ⟨vs, q1, _⟩ := rs_lst r e
      exact .base (.lst q1)
    · rename_i e
      cases h
      obtain ⟨u, e1, e2⟩ := r a _ e
      cases u with
      | dK kv => exact .base (.dK e1)
      | _ => exact (show False from e2).elim
    · rename_i e
      cases h
      obtain ⟨u, e1, e2⟩ := r a _ e
      cases u with
      | dT kv => exact .base (.dT e1)
      | _ => exact (show False from e2).elim
    · rename_i e
      cases h
      obtain ⟨od, kv, e1, e2⟩ := rs_zk r e
      exact .fDict e1
    · cases h
  | ty n => cases h
  | fnp f c q fz H0 => cases h
theorem isi_any {K : PySem.W.Frag} {t : String} : ∀ {ts : List String} {b : Bool}, isiAny t ts = some b → PySem.W.kitAny K (.type t) (ts.map Value.type) = some b
  | [], b, h => by
    cases h
    exact kitAny_nil
  | c :: cs, b, h => by
    unfold isiAny at h
    split at h
    · rename_i e
      cases h
      exact kitAny_cons (kit_ty e) (fun z => by cases z) (fun _ => rfl)
    · rename_i e
      exact kitAny_cons (kit_ty e) (fun _ => isi_any h) (fun z => by cases z)
    · cases h
theorem cls_tys : ∀ ts : List String, Paired ClsV (ts.map V.ty) (ts.map Value.type)
  | [] => .nil
  | t :: r => .cons (.ty t) (cls_tys r)
/-- isinstance(x, T) -/
theorem s_isi1 {T : Expr} {t0 : String} (hg : Gl X "isinstance") (hm : X.mg "isinstance" = none) (ha : PE X e (tDE X.K W we)) (hT : PE X T (tC (.ty t0))) (he : starEach [e, T] X.env = (false, eval e X.env) :: starEach [T] X.env) (hT2 : starEach [T] X.env = (false, eval T X.env) :: starEach [] X.env) :
    PE X (.Call (.Name "isinstance" p) [e, T] [] pos) (tDE X.K W fun ρ S Q X => we ρ S (fun x S1 => ∃ t b, tyName S1 x = some t ∧ isiAny t [t0] = some b ∧ Q (.bl b) S1) X) := by
  refine (pe_callB call_isi hg hm b_isi (pa_cons ha (pa_cons hT pa_nil hT2) he) (by decide +kernel) (by decide +kernel) he (by rw [hT2]; rfl)).imp fun σ H Q ⟨ρ, S, Q', X', r, rr, hw, k, kx⟩ => ?_
  refine ⟨ρ, S, _, X', r, rr, hw, fun v H1 d S1 r1 f1 x1 ⟨t, b, e1, e2, q⟩ => ?_, kx⟩
  refine ⟨v, .ty t0, .type t, .type t0, b, rfl, .ty t0, ty_D r1 x1 e1, ?_, k _ _ _ _ r1 f1 (.bl b) q⟩
  unfold isiAny at e2
  split at e2
  · rename_i e3
    cases e2
    exact kit_ty e3
  · rename_i e3
    cases e2
    exact kit_ty e3
  · cases e2
/-- isinstance(x, (T, U, ..)) -/
theorem s_isiT {Ts : List Expr} {ts : List String} {kk : Nat} {tpos : Pos} (hg : Gl X "isinstance") (hm : X.mg "isinstance" = none) (ha : PE X e (tDE X.K W we)) (hT : PA X Ts (fun _ H Q => Q (ts.map V.ty) H)) (hl : ts.length ≤ sizeLine)
    (he : starEach [e, .Tuple Ts kk tpos] X.env = (false, eval e X.env) :: starEach [.Tuple Ts kk tpos] X.env) :
    PE X (.Call (.Name "isinstance" p) [e, .Tuple Ts kk tpos] [] pos) (tDE X.K W fun ρ S Q X => we ρ S (fun x S1 => ∃ t b, tyName S1 x = some t ∧ isiAny t ts = some b ∧ Q (.bl b) S1) X) := by
  refine (pe_callB call_isiT hg hm b_isi (pa_cons ha (pa_cons (pe_tup hT) pa_nil rfl) he) (by decide +kernel) (by decide +kernel) he rfl).imp fun σ H Q ⟨ρ, S, Q', X', r, rr, hw, k, kx⟩ => ?_
  refine ⟨ρ, S, _, X', r, rr, hw, fun v H1 d S1 r1 f1 x1 ⟨t, b, e1, e2, q⟩ => ?_, kx⟩
  refine ⟨by rw [List.length_map]; exact hl, fun tp hn => ?_⟩
  have ty := ty_D (rs_new (o := .tup (ts.map V.ty)) r1 hn) (x1.mono (fr_new hn)) e1
  exact ⟨v, tp, ts.map V.ty, .type t, ts.map Value.type, b, rfl, upd_same, cls_tys ts, ty, isi_any e2, k _ _ _ _ (rs_new r1 hn) (f1.trans (fr_new hn)) (.bl b) q⟩
end
end Dz
namespace Dz
open PySem PySem.Spec PyProof.Rows L2
/-! ### slots forgotten -/
theorem set_set_ne {α : Type} {l : List α} {i j : Nat} {a b : α} (h : i ≠ j) : (l.set i a).set j b = (l.set j b).set i a := List.set_comm a b h
theorem wipe_set {σ : L2.St} {i : Nat} {x : Option V} : ∀ {vs : List Nat}, i ∈ vs → wipe (σ.set i x) vs = wipe σ vs
  | [], h => by cases h
  | v :: vs, h => by
    unfold wipe
    by_cases hi : i ∈ vs
    · rw [wipe_set hi]
    · rcases List.mem_cons.mp h with e | e
      · subst e
        have out : ∀ {vs : List Nat}, i ∉ vs → wipe (σ.set i x) vs = (wipe σ vs).set i x := fun {vs} => by
          induction vs with
          | nil => intro _; rfl
          | cons w ws ih =>
            intro hn
            unfold wipe
            rw [ih (fun z => hn (List.mem_cons_of_mem _ z))]
            exact set_set_ne (fun z => hn (z ▸ List.mem_cons_self))
        rw [out hi, List.set_set]
      · exact absurd e hi
theorem wipe_none {σ : L2.St} : ∀ {vs : List Nat} {v : Nat}, v ∈ vs → (wipe σ vs).set v none = wipe σ vs
  | [], _, h => by cases h
  | w :: vs, v, h => by
    unfold wipe
    by_cases e : v = w
    · subst e
      rw [List.set_set]
    · rcases List.mem_cons.mp h with e2 | e2
      · exact absurd e2 e
      · rw [set_set_ne (fun z => e z.symm), wipe_none e2]
theorem wipe_wipe {σ : L2.St} : ∀ {vs ws : List Nat}, (∀ v ∈ ws, v ∈ vs) → wipe (wipe σ vs) ws = wipe σ vs
  | _, [], _ => rfl
  | vs, w :: ws, h => by
    show (wipe (wipe σ vs) ws).set w none = _
    rw [wipe_wipe (ws := ws) fun v hv => h v (List.mem_cons_of_mem _ hv)]
    exact wipe_none (h w List.mem_cons_self)
theorem Rr.wipe {K : PySem.W.Frag} {S : Hs} {H : Hp} {σ : L2.St} {ρ : List (Option D)} (h : Rr K S H σ ρ) : ∀ vs : List Nat, Rr K S H (wipe σ vs) (wipeD ρ vs)
  | [] => h
  | v :: vs => (Rr.wipe h vs).setN v

/-! ### targets -/
abbrev WG := D → Ro → Hs → (Ro → Hs → Prop) → XQ → Prop
def tDG (K : PySem.W.Frag) (W : WX) (ix : List Nat) (w : WG) : TG := fun v σ H Q => ∃ d ρ S Q' X', Rs K S H ∧ Rr K S H σ ρ ∧ Dv K S H v d ∧ w d ρ S Q' X' ∧
  (∀ σ' H' ρ' S', Rs K S' H' → Fr S H S' H' → Rr K S' H' σ' ρ' → (∀ vs : List Nat, (∀ i ∈ ix, i ∈ vs) → wipe σ' vs = wipe σ vs) → Q' ρ' S' → Q σ' H') ∧ (∀ cls dx σ' H' x S', Rs K S' H' → Fr S H S' H' → Rr K S' H' σ' ρ → XRel K S' H' cls dx x → X' x S' → W cls dx σ' H')
abbrev WGs := List D → Ro → Hs → (Ro → Hs → Prop) → XQ → Prop
def tDGs (K : PySem.W.Frag) (W : WX) (ix : List Nat) (w : WGs) : TGs := fun vs σ H Q => ∃ ds ρ S Q' X', Rs K S H ∧ Rr K S H σ ρ ∧ DvA K S H vs ds ∧ w ds ρ S Q' X' ∧
  (∀ σ' H' ρ' S', Rs K S' H' → Fr S H S' H' → Rr K S' H' σ' ρ' → (∀ vs : List Nat, (∀ i ∈ ix, i ∈ vs) → wipe σ' vs = wipe σ vs) → Q' ρ' S' → Q σ' H')
theorem _root_.L2.PG.imp {X : Cx} {e : Expr} {t t' : TG} (h : PG X e t) (k : ∀ v σ H Q, t' v σ H Q → t v σ H Q) : PG X e t' := ⟨fun pins s σ H v u Q I r q => h.run pins s σ H v u Q I r (k _ _ _ _ q)⟩
theorem _root_.L2.PGs.imp {X : Cx} {e : List Expr} {t t' : TGs} (h : PGs X e t) (k : ∀ v σ H Q, t' v σ H Q → t v σ H Q) : PGs X e t' := ⟨fun pins s σ H v u Q I r q => h.run pins s σ H v u Q I r (k _ _ _ _ q)⟩
section
variable {X : Cx} {W : WX} {pos p : Pos} {a b e : Expr} {wa wb we : WE} {es : List Expr} {ws : WA}
theorem g_name {i : Nat} {x : Str} (hN : X.N.Nodup) (hi : X.N[i]? = some x) (hx : Loc X.env.scope x) (hf : X.fn x = true ∨ X.env.scope.names.lookup x = some .local) :
    PG X (.Name x pos) (tDG X.K W [i] fun d ρ S Q _ => Q (ρ.set i (some d)) S) := (pg_name hN hi hx hf).imp fun v σ H Q ⟨d, ρ, S, Q', X', r, rr, xv, hw, k, _⟩ =>
  k _ H _ S r (Fr.refl S H) (rr.set i xv) (fun vs hv => wipe_set (hv i List.mem_cons_self)) hw
theorem gs_nil : PGs X [] (tDGs X.K W [] fun ds ρ S Q _ => ds = [] ∧ Q ρ S) := pgs_nil.imp fun v σ H Q ⟨ds, ρ, S, Q', X', r, rr, xv, ⟨e, q⟩, k⟩ => by
  subst e
  cases xv
  exact ⟨rfl, k σ H ρ S r (Fr.refl S H) rr (fun _ _ => rfl) q⟩
theorem gs_cons {ix jx : List Nat} {wg : WG} {wr : WGs} (h1 : PG X e (tDG X.K W ix wg)) (h2 : PGs X es (tDGs X.K W jx wr)) (hs : (assignEach (e :: es) X.env).map (·.2) = assign e X.env :: (assignEach es X.env).map (·.2))  :
    PGs X (e :: es) (tDGs X.K W (ix ++ jx) fun ds ρ S Q Y => ∃ d t, ds = d :: t ∧ wg d ρ S (fun ρ' S' => wr t ρ' S' Q Y) X0) := (pgs_cons h1 h2 hs).imp fun v σ H Q ⟨ds, ρ, S, Q', X', r, rr, xv, ⟨d, t, e, hw⟩, k⟩ => by
  subst e
  cases xv with
  | cons x1 x2 =>
    refine ⟨_, _, rfl, d, ρ, S, _, X0, r, rr, x1, hw, fun σ' H' ρ' S' r' f' rr' z q => ?_, fun _ _ _ _ _ _ _ _ _ _ q => q.elim⟩
    refine ⟨t, ρ', S', Q', X', r', rr', x2.mono f', q, fun σ2 H2 ρ2 S2 r2 f2 rr2 z2 q2 => k σ2 H2 ρ2 S2 r2 (f'.trans f2) rr2 (fun vs hv => ?_) q2⟩
    rw [z2 vs fun i hi => hv i (List.mem_append_right _ hi), z vs fun i hi => hv i (List.mem_append_left _ hi)]
theorem g_tup {kk : Nat} {ix : List Nat} {wr : WGs} (hc : X.calm = true) (h : PGs X es (tDGs X.K W ix wr)) {n : Nat} (hst : (assignEach es X.env).findIdx? (·.1) = none) (hlen : (assignEach es X.env).length = n) :
    PG X (.Tuple es kk pos) (tDG X.K W ix fun d ρ S Q Y => ∃ ds, d = .tup ds ∧ ds.length = n ∧ wr ds ρ S Q Y) := (pg_tup (n := n) hc h hlen hst).imp fun v σ H Q ⟨d, ρ, S, Q', X', r, rr, xv, ⟨ds, e, hl, hw⟩, k, _⟩ => by
  subst e
  obtain ⟨a, vs, rfl, h1, h2⟩ := xv.of_tup
  exact ⟨a, vs, rfl, h1, by rw [h2.len]; exact hl, ds, ρ, S, Q', X', r, rr, h2, hw, k⟩
def isSl : Expr → Bool
  | .Slice _ _ _ _ => true
  | _ => false
theorem sl_assign {a b : Expr} (h : isSl b = false) : ∀ v, assign (.Subscript a b pos) X.env v = (do
      let ov ← holding [v] (eval a X.env)
      let iv ← holding [v, ov] (eval b X.env)
      standAt pos
      holding [v, ov, iv] (setItem ov iv v)
      release [v, ov, iv] []) := by
  intro v
  cases b <;> first | rfl | cases h
theorem sl_plain {b : Expr} (h : isSl b = false) : PlainIx b := by
  intro o i
  cases b <;> first | rfl | cases h
theorem g_sub (hu : X.A.units + 65 < cLine) (hsl : isSl b = false) (ho : PE X a (tDE X.K W wa)) (hi : PE X b (tDE X.K W wb)) : PG X (.Subscript a b pos) (tDG X.K W [] fun d ρ S Q Y => wa ρ S (fun x S1 => wb ρ S1 (fun y S2 => setW x y d S2 fun S3 => Q ρ S3) Y) Y) :=
  (pg_sub ho hi (o_set (by omega)) (sl_assign hsl)).imp fun v σ H Q ⟨d, ρ, S, Q', X', r, rr, xv, hw, k, kx⟩ => by
    have kx' : ∀ {S1 H1}, Fr S H S1 H1 → EndX X.K S1 H1 X' fun c d H' => W c d σ H' := fun f c dx H' x S' r' f' z q => kx c dx σ H' x S' r' (f.trans f') (rr.mono (f.trans f')) z q
    exact ⟨ρ, S, _, X', r, rr, hw, fun v1 H1 d1 S1 r1 f1 x1 q1 => ⟨ρ, S1, _, X', r1, rr.mono f1, q1, fun v2 H2 d2 S2 r2 f2 x2 q2 =>
      ⟨d1, d2, d, S2, _, r2, x1.mono f2, x2, xv.mono (f1.trans f2), q2, fun H3 S3 r3 f3 q3 => k σ H3 ρ S3 r3 (f1.trans (f2.trans f3)) (rr.mono (f1.trans (f2.trans f3))) (fun _ _ => rfl) q3⟩, kx' f1⟩, kx' (Fr.refl S H)⟩

/-! ### what is iterated -/
def JOk (K : PySem.W.Frag) (J : L2.It) (S0 : Hs) (H0 : Hp) (ds : List D) (Pr : Hs → Prop) : Prop := ∀ S H, Rs K S H → Fr S0 H0 S H → Pr S → ∀ i : Nat,
  (∀ d, ds[i]? = some d → J.go i H ∧ ∀ x H', J.yld i H x H' → Rs K S H' ∧ Fr S H S H' ∧ Dv K S H' x d) ∧ (ds.length ≤ i → J.stop i H)
abbrev WI := Ro → Hs → QI → XQ → Prop
def tDI (K : PySem.W.Frag) (W : WX) (w : WI) : TI := fun σ H R => ∃ ρ S Q' X', Rs K S H ∧ Rr K S H σ ρ ∧ w ρ S Q' X' ∧ (∀ J H1 ds Pr S1, Rs K S1 H1 → Fr S H S1 H1 → JOk K J S1 H1 ds Pr → Q' ds Pr S1 → R J H1) ∧ EndX K S H X' (fun c d H' => W c d σ H')
theorem _root_.L2.PI.imp {X : Cx} {tg e : Expr} {t t' : TI} (h : PI X tg e t) (k : ∀ σ H Q, t' σ H Q → t σ H Q) : PI X tg e t' := ⟨fun pins s σ H Q I q => h.run pins s σ H Q I (k _ _ _ q)⟩
def iSeq (K : PySem.W.Frag) (tl : TE) : TI := fun σ H R => tl σ H fun x H1 => (∃ a, x = .ref a ∧ (((∃ xs, SqL K H1 a xs) ∧ R (Itl K a) H1) ∨ ((∃ xs, SqT K H1 a xs) ∧ R (Itt K a) H1))) ∨ (∃ z, x = .str z ∧ R (Its z) H1) ∨
  ∃ d o, x = .ref d ∧ ((∃ kvs, H1 d = some (.frz o (.dK kvs)) ∧ R (Itk d o kvs) H1) ∨ ∃ kvs, H1 d = some (.frz o (.dT kvs)) ∧ R (Itkt d o kvs) H1)
theorem pi_seq {tg l : Expr} {tl : TE} (hl : PE X l tl) : PI X tg l (iSeq X.K tl) := by
  refine ⟨fun pins s σ H R I h => ?_⟩
  refine thn (hl.run pins s σ H _ I h) fun v s1 ⟨x, H1, I1, r1, q1⟩ => ?_
  rcases q1 with ⟨a, e, q1⟩ | ⟨z, e, q⟩ | ⟨d, o, e, q⟩
  · subst e
    rcases q1 with ⟨hq, q⟩ | ⟨hq, q⟩
    · cases r1
      obtain ⟨xs, hq⟩ := hq
      obtain ⟨its, rv, p, hz⟩ := I1.list hq
      refine wpAny_pyIter_list p.isList ?_
      refine ⟨s1.heap.objs.size, [s1.heap.objs.size], _, _, H1, rfl, I1.kept (t' := s1.toks) fun b o e => Heap.get?_push_of_some _ e, turn_list a _, ⟨_, Heap.get?_push_size _ rfl, rfl, rfl⟩, fun b hb => ?_, q⟩
      have e : b = s1.heap.objs.size := by simpa using hb
      subst e
      exact I1.fpOk (Nat.le_refl _) (I1.hok.fresh (Nat.le_refl _))
    · cases r1
      obtain ⟨xs, hq⟩ := hq
      obtain ⟨its, rv, p, hz⟩ := I1.tuple hq
      refine wpAny_pyIter_tuple (show s1.heap.IsTuple a its.toArray from p) ?_
      refine ⟨s1.heap.objs.size, [s1.heap.objs.size], _, _, H1, rfl, I1.kept (t' := s1.toks) fun b o e => Heap.get?_push_of_some _ e, turn_tuple a _, ⟨_, Heap.get?_push_size _ rfl, rfl, rfl⟩, fun b hb => ?_, q⟩
      have e : b = s1.heap.objs.size := by simpa using hb
      subst e
      exact I1.fpOk (Nat.le_refl _) (I1.hok.fresh (Nat.le_refl _))
  · subst e
    obtain ⟨t, rfl⟩ := r1
    cases ha : z.cps.all (· < 128)
    · exact wpAny_pyIter_wide ha (pi_one (tk := s1.toks) I1 _ (turn_str _ z t "str_iterator" (.inr rfl)) ⟨_, Heap.get?_push_size _ rfl, rfl, rfl⟩ q)
    · exact wpAny_pyIter_ascii ha (pi_one (tk := s1.toks) I1 _ (turn_str _ z t "str_ascii_iterator" (.inl rfl)) ⟨_, Heap.get?_push_size _ rfl, rfl, rfl⟩ q)
  · subst e
    obtain rfl : v = Value.ref d := r1
    rcases q with ⟨kvs, hd, q⟩ | ⟨kvs, hd, q⟩
    · obtain ⟨hs, hgd, hx, es, ep, vs, hdt, hsz, kv, hm⟩ := I1.frzK hd
      refine iter_keys hs hgd hx hdt (pi_one (tk := s1.toks) I1 _ (turn_keys _ hdt) ⟨_, Heap.get?_push_size _ rfl, rfl, ?_⟩ q)
      rw [hsz] <;> rfl
    · obtain ⟨hs, hgd, hx, es, ep, hdt, hsz, ent⟩ := I1.frzT hd
      refine iter_keys hs hgd hx hdt (pi_one (tk := s1.toks) I1 _ (turn_keysT _ hdt) ⟨_, Heap.get?_push_size _ rfl, rfl, ?_⟩ q)
      rw [hsz] <;> rfl
/-- a text's turns, by data -/
theorem jok_s {K : PySem.W.Frag} {S0 : Hs} {H0 : Hp} {z : Str} : JOk K (Its z) S0 H0 (strD z) fun _ => True := fun S H r f _ i => by
  have hl : (strD z).length = z.cps.size := by unfold strD; simp
  refine ⟨fun d e => ?_, fun h => by rw [hl] at h; exact h⟩
  have hi : i < z.cps.size := by
    have := (List.getElem?_eq_some_iff.mp e).1
    omega
  refine ⟨hi, fun x H' y => ?_⟩
  obtain ⟨rfl, c, e1, rfl⟩ := y
  refine ⟨r, Fr.refl S H', ?_⟩
  unfold strD at e
  rw [List.getElem?_map] at e
  rw [show z.cps.toList[i]? = some c by simpa using e1] at e
  cases e
  exact .str _
/-- a dict's turns, by data: it stands locked -/
theorem jok_k {K : PySem.W.Frag} {S0 : Hs} {H0 : Hp} {a : Addr} {od : Obj} {kd : List (Key × D)} {kv : List (Key × V)} (h : H0 a = some (.frz od (.dK kv))) (hk : KvD K S0 H0 kd kv) : JOk K (Itk a od kv) S0 H0 (kd.map fun p => keyD p.1) fun S' => S' a = some (.zK kd) := fun S H r f _ i => by
  have hH := f.frz _ _ _ h
  have hl := kvd_len hk
  refine ⟨fun d e => ?_, fun h => ⟨hH, by rw [List.length_map] at h; omega⟩⟩
  have hi : i < kd.length := by
    have := (List.getElem?_eq_some_iff.mp e).1
    rw [List.length_map] at this
    exact this
  refine ⟨⟨hH, by omega⟩, fun x H' y => ?_⟩
  obtain ⟨rfl, k, v, e1, rfl⟩ := y
  refine ⟨r, Fr.refl S H', ?_⟩
  rw [List.getElem?_map, List.getElem?_eq_getElem hi] at e
  cases e
  have := Paired.get? hk (List.getElem?_eq_getElem hi) e1
  show Dv K S H' (kV k) (keyD kd[i].1)
  rw [this.1]
  exact keyD_dv k
theorem rs_tupS {K : PySem.W.Frag} {S : Hs} {H : Hp} {q : Addr} {vs : List V} (r : Rs K S H) (h : H q = some (.tup vs)) : S q = none := by
  cases e : S q with
  | none => rfl
  | some o =>
    obtain ⟨u, e1, e2⟩ := r q o e
    rw [h] at e1
    cases e1
    cases o <;> exact (show False from e2).elim
theorem keys_dva {K : PySem.W.Frag} {S : Hs} {H : Hp} : ∀ ks : List Key, DvA K S H (ks.map kV) (ks.map keyD)
  | [] => .nil
  | k :: r => .cons (keyD_dv k) (keys_dva r)
theorem jok_kt {K : PySem.W.Frag} {S0 : Hs} {H0 : Hp} {a : Addr} {od : Obj} {kd : List (List Key × D)} {kv : List (List Key × V)} (h : H0 a = some (.frz od (.dT kv))) (hk : KvD K S0 H0 kd kv) : JOk K (Itkt a od kv) S0 H0 (kd.map fun p => D.tup (p.1.map keyD)) fun S' => S' a = some (.zT kd) := fun S H r f _ i => by
  have hH := f.frz _ _ _ h
  have hl := kvd_len hk
  refine ⟨fun d e => ?_, fun h => ⟨hH, by rw [List.length_map] at h; omega⟩⟩
  have hi : i < kd.length := by
    have := (List.getElem?_eq_some_iff.mp e).1
    rw [List.length_map] at this
    exact this
  refine ⟨⟨hH, by omega⟩, fun x H' y => ?_⟩
  obtain ⟨rfl, k, v, q, e1, rfl, e2⟩ := y
  refine ⟨r, Fr.refl S H', ?_⟩
  rw [List.getElem?_map, List.getElem?_eq_getElem hi] at e
  cases e
  have := Paired.get? hk (List.getElem?_eq_getElem hi) e1
  show Dv K S H' (V.ref q) (D.tup (kd[i].1.map keyD))
  rw [this.1]
  exact .tup (rs_tupS r e2) e2 (keys_dva k)
/-- a list's turns, by data -/
theorem jok_l {K : PySem.W.Frag} {S0 : Hs} {H0 : Hp} {ds : List D} {Pr : Hs → Prop} {a : Addr} (h : ∀ S H, Rs K S H → Fr S0 H0 S H → Pr S → ∃ vs, SqL K H a vs ∧ DvA K S H vs ds) : JOk K (Itl K a) S0 H0 ds Pr := fun S H r f p i => by
  obtain ⟨vs, h1, h2⟩ := h S H r f p
  refine ⟨fun d e => ?_, fun hl => ⟨vs, h1, by rw [h2.len]; exact hl⟩⟩
  obtain ⟨v, e1, e2⟩ := h2.get e
  refine ⟨⟨vs, v, h1, e1⟩, fun x H' y => ?_⟩
  obtain ⟨rfl, y⟩ := y
  refine ⟨r, Fr.refl S H', ?_⟩
  have e3 := y vs h1
  rw [e1] at e3
  cases e3
  exact e2
theorem jok_t {K : PySem.W.Frag} {S0 : Hs} {H0 : Hp} {ds : List D} {Pr : Hs → Prop} {a : Addr} (h : ∀ S H, Rs K S H → Fr S0 H0 S H → Pr S → ∃ vs, SqT K H a vs ∧ DvA K S H vs ds) : JOk K (Itt K a) S0 H0 ds Pr := fun S H r f p i => by
  obtain ⟨vs, h1, h2⟩ := h S H r f p
  refine ⟨fun d e => ?_, fun hl => ⟨vs, h1, by rw [h2.len]; exact hl⟩⟩
  obtain ⟨v, e1, e2⟩ := h2.get e
  refine ⟨⟨vs, v, h1, e1⟩, fun x H' y => ?_⟩
  obtain ⟨rfl, y⟩ := y
  refine ⟨r, Fr.refl S H', ?_⟩
  have e3 := y vs h1
  rw [e1] at e3
  cases e3
  exact e2

end
end Dz
namespace PySem
open Sem (wp)
open AutoSeq1 (wpAny_loadPart')
set_option maxHeartbeats 2000000 in
theorem meets_enumerate_newB1 {v : Value} {o : Obj} {H : Heap → Prop} (B : Begins v o H) :
    Meets (Builtin.«enumerate.__new__» ⟨[.type "enumerate", v], []⟩) (fun _ R s => H s.heap ∧
      R (.ok (.ret (.ref (s.heap.push o).objs.size))) { s with heap := (s.heap.push o).push { cls := .type "enumerate", data := .fields #[.none, .bool false, .ref s.heap.objs.size, rawInt 0, .none, .none] } }) :=
  .of_wp fun prog w A R s h => by
    obtain ⟨hp, g, d, tk, os⟩ := s; obtain ⟨h1, h⟩ := h
    have hsub := sub_enumerate
    have q1 : ∀ {A' : Around} {E : Value → Shared → Prop} {Q : Value → Shared → Prop}, Q (.ref hp.objs.size) ⟨hp.push o, g, d, tk, os⟩ → wpAny (model prog w) A' (pyIter v) Q E ⟨hp, g, d, tk, os⟩ :=
      fun q => B.iter prog w _ _ ⟨hp, g, d, tk, os⟩ _ h1 q
    wp_walk using q1
    refine wpAny_stack_any fun st => wpAny_pure ?_
    split
    · rename_i c _ _ _ _ _
      cases (c == Value.type "enumerate")
      · wp_walk using q1
        exact ⟨_, rfl, h⟩
      · wp_walk using q1
        exact ⟨_, rfl, h⟩
    · wp_walk using q1
      exact ⟨_, rfl, h⟩
theorem call_enumerate_b {prog : Program} {w : World} {A : Around} {E : Value → Shared → Prop} {s : Shared} {v : Value} {o : Obj} {H : Heap → Prop} {Q : Value → Shared → Prop} (B : Begins v o H) (h1 : H s.heap)
    (h : ∀ h', IsEnum h' (s.heap.objs.size + 1) s.heap.objs.size 0 .none → h'.get? s.heap.objs.size = some o → h'.objs.size = s.heap.objs.size + 2 →
      (∀ b o, s.heap.get? b = some o → h'.get? b = some o) → Q (.ref (s.heap.objs.size + 1)) { s with heap := h' }) :
    wpAny (model prog w) A (call (.type "enumerate") [v]) Q E s := by
  refine callType_new F.called_enumerate (by decide) (F.typeCall_enumerate_1 _) (F.newCall_enumerate_1 _) (fun obj => F.args_object_init_2 obj _) F.entry_enumerate_new
    (meets_enumerate_newB1 B) ⟨h1, ?_⟩
  have hz : (s.heap.push o).objs.size = s.heap.objs.size + 1 := Heap.size_push ..
  show _ ∧ _
  rw [hz]
  have he : IsEnum ((s.heap.push o).push { cls := .type "enumerate", data := .fields #[.none, .bool false, .ref s.heap.objs.size, rawInt 0, .none, .none] }) (s.heap.objs.size + 1) s.heap.objs.size 0 .none := by
    have := Heap.get?_push_size (s.heap.push o) (o := { cls := .type "enumerate", data := .fields #[.none, .bool false, .ref s.heap.objs.size, rawInt 0, .none, .none] }) rfl
    rw [hz] at this; exact this
  refine ⟨⟨_, he, rfl⟩, h _ he (Heap.get?_push_of_some _ (Heap.get?_push_size _ B.free)) (by rw [Heap.size_push, hz]) fun b o x => Heap.get?_push_of_some _ (Heap.get?_push_of_some _ x)⟩
theorem enumT_end {prog : Program} {w : World} {A : Around} {E : Value → Shared → Prop} {s : Shared} {e it l : Addr} {i : Nat} {items : Array Value} {old : Value} {Q : Option Value → Shared → Prop} (hh : A.handled = none)
    (he : IsEnum s.heap e it i old) (hit : s.heap.IsTupleIter it l i) (hl : s.heap.IsTuple l items) (hx : items[i]? = none)
    (hQ : ∀ h', Heap.ExtBut it s.heap h' → Q none { s with heap := h' }) : wpAny (model prog w) A (pyNext (.ref e)) Q E s := by
  have hT : s.TypeIs (.ref e) "enumerate" := ⟨_, he, rfl⟩
  unfold pyNext
  refine wpAny_bind (wpAny_attempt (wpAny_callSpecial?_slot (name := Str.ofString "__next__") hT F.slot_enumerate_next
    (wpAny_call_entry F.slot_enumerate_next hT F.entry_enumerate_next ?_ (F.args_enumerate_next_1 _))))
  show wpAny _ _ (field (.ref e) 2 >>= _) _ _ _
  refine wpAny_bind (wpAny_field he rfl (x := .ref it) rfl ?_)
  refine wpAny_bind (wpAny_nextOf_tuple_end hh hit hl hx fun h' x he' hx' => ?_)
  obtain ⟨o, ho, hc⟩ := hx'
  refine wpAny_bind (wpAny_isInstance (T := "StopIteration") (b := true) ⟨o, ho, hc⟩ isSubtype_stop ?_)
  exact wpAny_pure (hQ _ he')
end PySem
namespace Dz
open PySem PySem.Spec PyProof.Rows L2
def IteT (K : PySem.W.Frag) (a : Addr) : L2.It :=
  ⟨fun i H => ∃ (xs : List V) (x : V), SqT K H a xs ∧ xs[i]? = some x, fun i H v H' => ∃ T x, v = .ref T ∧ H T = none ∧ H' = upd H T (.tup [.int (i : Nat), x]) ∧ ∀ xs, SqT K H a xs → xs[i]? = some x, fun i H => ∃ xs : List V, SqT K H a xs ∧ xs.length ≤ i⟩
theorem turn_enumT {P : Program} {w : World} {K : PySem.W.Frag} {elts : List Expr} {kk : Nat} {tpos : Pos} (a e it : Addr) (hai : a ≠ it) :
    Turn P w K (.Tuple elts kk tpos) (IteT K a) [e, it] e (fun i h => (∃ old, IsEnum h e it ((i : Nat) : Int) old) ∧ h.IsTupleIter it a i ∧ e ≠ it ∧ e ≠ a) where
  mem := by simp
  obj := fun i h st b hb => by
    obtain ⟨⟨old, he⟩, ⟨o, ho, hc, hd⟩, _⟩ := st
    have e' : b = e ∨ b = it := by simpa using hb
    rcases e' with z | z
    · rw [z]; exact ⟨_, he, fun v q => nomatch q⟩
    · rw [z]; exact ⟨o, ho, fun v q => by rw [hd] at q; cases q⟩
  keep := fun i h h' st k => let ⟨⟨old, he⟩, hi, hne, hea⟩ := st; ⟨⟨old, k e (by simp) _ he⟩, hi.at fun o q => k it (by simp) o q, hne, hea⟩
  item := by
    intro X hP hw hK hc i pins s σ H E I hf st hg
    subst hP hw hK
    obtain ⟨⟨old, he⟩, hit, hne, hea⟩ := st
    obtain ⟨xs, x, hq, hx⟩ := hg
    obtain ⟨its, rv, p, hz⟩ := I.tuple hq
    obtain ⟨u, hu, ru⟩ := rv.get hx
    have hel : e < s.heap.objs.size := Heap.lt_size he
    have hil : it < s.heap.objs.size := by obtain ⟨_, q, _⟩ := hit; exact Heap.lt_size q
    have hlt : i < its.toArray.size := by
      have := (List.getElem?_eq_some_iff.mp hu).1
      simpa using this
    refine wpAny_pyNext_enum_itemD (Draws.tuple (show X.A.in1.handled = none from I.ok.hd hc) it a hai its.toArray) he ⟨hit, show s.heap.IsTuple a its.toArray from p⟩ hlt hne (by simp [hne, hea]) fun x' h' tk hp' ho hit' hT hsz hk => ?_
    have ex : x' = u := by
      have : its.toArray[i]? = some u := by simpa using hu
      rw [this] at hp'
      exact (Option.some.inj hp').symm
    subst ex
    refine ⟨_, rfl, wpAny_letOwnedTupleGo_enum (s := { s with heap := h', toks := tk + 1 }) ho fun h'' he' sb => ?_⟩
    have hT2 : h''.get? s.heap.objs.size = some { cls := .type "tuple", data := .seq #[.int i tk, x'] } := (sb.2 _ (Nat.ne_of_gt hel)).trans hT
    have new : ObjOk X.prog X.w (upd H s.heap.objs.size (.tup [.int (i : Nat), x])) h'' s.heap.objs.size (.tup [.int (i : Nat), x]) :=
      ⟨by show 2 ≤ sizeLine; decide, [.int i tk, x'], .cons ⟨_, rfl⟩ (.cons ru .nil), ⟨_, hT2, rfl, _, rfl⟩⟩
    have I1 : Inv X pins σ (upd H s.heap.objs.size (.tup [.int (i : Nat), x])) { s with heap := h'', toks := tk + 1 } :=
      I.turnedNew (ch := [e, it]) (fun b ob hb q => (sb.2 b (fun z => hb (by simp [z]))).trans (hk b ob (fun z => hb (by simp [z])) (fun z => hb (by simp [z])) q)) hf (Nat.le_refl _) new
    refine ⟨.ref s.heap.objs.size, _, I1, rfl, ⟨_, x, rfl, I.hok.fresh (Nat.le_refl _), rfl, fun ys hy => by rw [I.tuple_inj hy hq]; exact hx⟩, ⟨⟨x', ?_⟩, hit'.1.at fun o q => (sb.2 it (Ne.symm hne)).trans q, hne, hea⟩, fun b hb => ?_⟩
    · have e1 : ((i + 1 : Nat) : Int) = (i : Int) + 1 := by omega
      rw [e1]; exact he'
    · have hb' : b < s.heap.objs.size := by
        have e' : b = e ∨ b = it := by simpa using hb
        rcases e' with z | z
        · rw [z]; exact hel
        · rw [z]; exact hil
      rw [upd_ne (Nat.ne_of_lt hb')]
      exact (hf b hb).1
  done := by
    intro X hP hw hK hc i pins s σ H E I hf st hg
    subst hP hw hK
    obtain ⟨⟨old, he⟩, hit, hne, hea⟩ := st
    obtain ⟨xs, hq, hx⟩ := hg
    obtain ⟨its, rv, p, hz⟩ := I.tuple hq
    obtain ⟨f0, f1, f2, f3, f4, f5⟩ := hf it (by simp)
    have hl := rv.length
    exact enumT_end (I.ok.hd hc) he hit (show s.heap.IsTuple a its.toArray from p) (by simp; omega) fun h' eb => ⟨rfl, I.turned (t' := s.toks) (fun b o hb q => eb b o hb q) f0 f1 f3 f4 f5⟩
  self := fun A i s Q E st h => let ⟨⟨_, he⟩, _⟩ := st; wpAny_pyIter_enum he h

/-- enumerate(x), x a list or a tuple -/
def iEnumS (K : PySem.W.Frag) (ta : TA) : TI := fun σ H R => ta σ H fun vs H1 => ∃ a, vs = [.ref a] ∧ (((∃ xs, SqL K H1 a xs) ∧ R (Ite K a) H1) ∨ ((∃ xs, SqT K H1 a xs) ∧ R (IteT K a) H1))
theorem pi_enumS {X : Cx} {e : Expr} {ta : TA} {p pos tpos : Pos} {elts : List Expr} {kk : Nat} (hg : Gl X "enumerate") (hm : X.mg "enumerate" = none) (ha : PA X [e] ta) (hs : starEach [e] X.env = [(false, eval e X.env)]) :
    PI X (.Tuple elts kk tpos) (.Call (.Name "enumerate" p) [e] [] pos) (iEnumS X.K ta) := by
  refine ⟨fun pins s σ H R I h => ?_⟩
  refine Call_ (ld_blt I hg hm boot_enumerate (PyProof.Rows.callWith_type1 (thn (ha.run pos pins s σ H _ I h) fun us s1 ⟨vs, H1, I1, r1, q1⟩ => ?_) hs rfl))
  obtain ⟨a, ex, q⟩ := q1
  subst ex
  cases r1 with
  | cons r rr =>
    cases rr
    cases r
    have fp : ∀ b, b ∈ [s1.heap.objs.size + 1, s1.heap.objs.size] → FpOk X pins H1 b := fun b hb => by
      have e' : b = s1.heap.objs.size + 1 ∨ b = s1.heap.objs.size := by simpa using hb
      have hle : s1.heap.objs.size ≤ b := by
        rcases e' with z | z
        · rw [z]; exact Nat.le_add_right _ _
        · rw [z]; exact Nat.le_refl _
      exact I1.fpOk hle (I1.hok.fresh hle)
    rcases q with ⟨⟨xs, hq⟩, q⟩ | ⟨⟨xs, hq⟩, q⟩
    · obtain ⟨its, rv, p', hz⟩ := I1.list hq
      refine call_enumerate_list p'.isList fun h' he hit hsz hk => wpAny_pyIter_enum he ?_
      have I2 : Inv X pins σ H1 { s1 with heap := h' } := I1.kept (t' := s1.toks) hk
      exact ⟨s1.heap.objs.size + 1, [s1.heap.objs.size + 1, s1.heap.objs.size], _, _, H1, rfl, I2, turn_enum a (s1.heap.objs.size + 1) s1.heap.objs.size, ⟨⟨.none, he⟩, hit, Nat.succ_ne_self _⟩, fp, q⟩
    · obtain ⟨its, rv, p', hz⟩ := I1.tuple hq
      have hal : a < s1.heap.objs.size := p'.lt
      refine call_enumerate_b (begins_tuple a its.toArray) p' fun h' he hit hsz hk => wpAny_pyIter_enum he ?_
      have I2 : Inv X pins σ H1 { s1 with heap := h' } := I1.kept (t' := s1.toks) hk
      exact ⟨s1.heap.objs.size + 1, [s1.heap.objs.size + 1, s1.heap.objs.size], _, _, H1, rfl, I2, turn_enumT a (s1.heap.objs.size + 1) s1.heap.objs.size (Nat.ne_of_lt hal), ⟨⟨.none, he⟩, ⟨_, hit, rfl, rfl⟩, Nat.succ_ne_self _, Nat.ne_of_gt (Nat.lt_succ_of_lt hal)⟩, fp, q⟩
theorem enumD_get {xs : List D} {i : Nat} {d : D} (e : (enumD xs)[i]? = some d) : ∃ x, xs[i]? = some x ∧ d = D.tup [D.int (i : Nat), x] := by
  unfold enumD at e
  rw [List.getElem?_mapIdx] at e
  cases q : xs[i]? with
  | none => rw [q] at e; cases e
  | some x => rw [q] at e; exact ⟨x, rfl, (Option.some.inj e).symm⟩
theorem enumD_len {xs : List D} : (enumD xs).length = xs.length := by unfold enumD; simp
theorem jok_e {K : PySem.W.Frag} {S0 : Hs} {H0 : Hp} {ds : List D} {Pr : Hs → Prop} {a : Addr} (h : ∀ S H, Rs K S H → Fr S0 H0 S H → Pr S → ∃ vs, SqL K H a vs ∧ DvA K S H vs ds) : JOk K (Ite K a) S0 H0 (enumD ds) Pr := fun S H r f p i => by
  obtain ⟨vs, h1, h2⟩ := h S H r f p
  refine ⟨fun d e => ?_, fun hl => ⟨vs, h1, by rw [enumD_len] at hl; rw [h2.len]; exact hl⟩⟩
  obtain ⟨y, e0, rfl⟩ := enumD_get e
  obtain ⟨v, e1, e2⟩ := h2.get e0
  refine ⟨⟨vs, v, h1, e1⟩, fun x H' z => ?_⟩
  obtain ⟨T, x', rfl, hT, rfl, z⟩ := z
  have e3 := z vs h1
  rw [e1] at e3
  cases e3
  exact ⟨rs_new r hT, fr_new hT, .tup (r.free hT) upd_same (.cons (.int _) (.cons (e2.mono (fr_new hT)) .nil))⟩
theorem jok_eT {K : PySem.W.Frag} {S0 : Hs} {H0 : Hp} {ds : List D} {Pr : Hs → Prop} {a : Addr} (h : ∀ S H, Rs K S H → Fr S0 H0 S H → Pr S → ∃ vs, SqT K H a vs ∧ DvA K S H vs ds) : JOk K (IteT K a) S0 H0 (enumD ds) Pr := fun S H r f p i => by
  obtain ⟨vs, h1, h2⟩ := h S H r f p
  refine ⟨fun d e => ?_, fun hl => ⟨vs, h1, by rw [enumD_len] at hl; rw [h2.len]; exact hl⟩⟩
  obtain ⟨y, e0, rfl⟩ := enumD_get e
  obtain ⟨v, e1, e2⟩ := h2.get e0
  refine ⟨⟨vs, v, h1, e1⟩, fun x H' z => ?_⟩
  obtain ⟨T, x', rfl, hT, rfl, z⟩ := z
  have e3 := z vs h1
  rw [e1] at e3
  cases e3
  exact ⟨rs_new r hT, fr_new hT, .tup (r.free hT) upd_same (.cons (.int _) (.cons (e2.mono (fr_new hT)) .nil))⟩
theorem i_enum {X : Cx} {W : WX} {pos p : Pos} {a : Expr} {wa : WE} {elts : List Expr} {kk : Nat} {tpos : Pos} (hg : Gl X "enumerate") (hm : X.mg "enumerate" = none) (ha : PE X a (tDE X.K W wa)) (hs : starEach [a] X.env = (false, eval a X.env) :: starEach [] X.env) :
    PI X (.Tuple elts kk tpos) (.Call (.Name "enumerate" p) [a] [] pos) (tDI X.K W fun ρ S Q Y => wa ρ S (fun d S1 => enumI d S1 Q) Y) := (pi_enumS hg hm (pa_cons ha pa_nil hs) hs).imp fun σ H R ⟨ρ, S, Q', X', r, rr, hw, k, kx⟩ =>
  ⟨ρ, S, _, X', r, rr, hw, fun v H1 d S1 r1 f1 x1 q1 => by
    cases d with
    | lst xs =>
      obtain ⟨a, vs, rfl, h1, h2⟩ := x1.of_lst
      exact ⟨a, rfl, .inl ⟨⟨vs, h1⟩, k _ H1 _ _ S1 r1 f1 (jok_e (ds := xs) fun S2 H2 r2 f2 _ => (x1.mono f2).sql) q1⟩⟩
    | tup xs =>
      obtain ⟨a, vs, rfl, h1, h2⟩ := x1.of_tup
      exact ⟨a, rfl, .inr ⟨⟨vs, h1⟩, k _ H1 _ _ S1 r1 f1 (jok_eT (ds := xs) fun S2 H2 r2 f2 _ => (x1.mono f2).sqt) q1⟩⟩
    | ref a =>
      cases x1
      obtain ⟨xs, e, q1⟩ := q1
      obtain ⟨vs, h1, h2⟩ := rs_lst r1 e
      refine ⟨a, rfl, .inl ⟨⟨vs, .of h1⟩, k _ H1 _ _ S1 r1 f1 (jok_e (ds := xs) fun S2 H2 r2 f2 p2 => ?_) q1⟩⟩
      obtain ⟨vs2, h3, h4⟩ := rs_lst r2 p2
      exact ⟨vs2, .of h3, h4⟩
    | _ => exact (show False from q1).elim, kx⟩
end Dz
namespace Dz
open PySem PySem.Spec PyProof.Rows L2
section
variable {X : Cx} {W : WX} {pos p : Pos} {a b e : Expr} {wa wb we : WE} {es : List Expr} {ws : WA}
theorem dv_fr_l {K : PySem.W.Frag} {S S1 : Hs} {H H1 : Hp} {a : Addr} {ds : List D} (f : Fr S H S1 H1) (h : Dv K S H (.ref a) (.lst ds)) : ∃ vs, SqL K H1 a vs ∧ DvA K S1 H1 vs ds := (h.mono f).sql
theorem dv_fr_t {K : PySem.W.Frag} {S S1 : Hs} {H H1 : Hp} {a : Addr} {ds : List D} (f : Fr S H S1 H1) (h : Dv K S H (.ref a) (.tup ds)) : ∃ vs, SqT K H1 a vs ∧ DvA K S1 H1 vs ds := (h.mono f).sqt
theorem i_seq {tg l : Expr} (hl : PE X l (tDE X.K W wa)) : PI X tg l (tDI X.K W fun ρ S Q Y => wa ρ S (fun d S1 => seqI d S1 Q) Y) := (pi_seq hl).imp fun σ H R ⟨ρ, S, Q', X', r, rr, hw, k, kx⟩ =>
  ⟨ρ, S, _, X', r, rr, hw, fun v H1 d S1 r1 f1 x1 q1 => by
    cases d with
    | lst xs =>
      obtain ⟨a, vs, rfl, h1, h2⟩ := x1.of_lst
      exact .inl ⟨a, rfl, .inl ⟨⟨vs, h1⟩, k _ H1 xs _ S1 r1 f1 (jok_l fun S2 H2 r2 f2 _ => dv_fr_l f2 x1) q1⟩⟩
    | tup xs =>
      obtain ⟨a, vs, rfl, h1, h2⟩ := x1.of_tup
      exact .inl ⟨a, rfl, .inr ⟨⟨vs, h1⟩, k _ H1 xs _ S1 r1 f1 (jok_t fun S2 H2 r2 f2 _ => dv_fr_t f2 x1) q1⟩⟩
    | ctp xs =>
      obtain ⟨a, vs, rfl, h1, h2⟩ := x1.of_ctp
      exact .inl ⟨a, rfl, .inr ⟨⟨vs, h1⟩, k _ H1 xs _ S1 r1 f1 (jok_t fun S2 H2 r2 f2 _ => (x1.mono f2).sqc) q1⟩⟩
    | str z =>
      cases x1
      exact .inr (.inl ⟨z, rfl, k _ H1 (strD z) _ S1 r1 f1 jok_s q1⟩)
    | ref a =>
      cases x1
      obtain ⟨o, xs, e, e', q1⟩ := q1
      cases o with
      | lst xs' =>
        cases e'
        obtain ⟨vs, h1, h2⟩ := rs_lst r1 e
        refine .inl ⟨a, rfl, .inl ⟨⟨vs, .of h1⟩, k _ H1 xs _ S1 r1 f1 (jok_l fun S2 H2 r2 f2 p2 => ?_) q1⟩⟩
        obtain ⟨vs2, h3, h4⟩ := rs_lst r2 p2
        exact ⟨vs2, .of h3, h4⟩
      | zK kd =>
        cases e'
        obtain ⟨od, kv, h1, h2⟩ := rs_zk r1 e
        exact .inr (.inr ⟨a, od, rfl, .inl ⟨kv, h1, k _ H1 _ _ S1 r1 f1 (jok_k h1 h2) q1⟩⟩)
      | zT kd =>
        cases e'
        obtain ⟨od, kv, h1, h2⟩ := rs_zt r1 e
        exact .inr (.inr ⟨a, od, rfl, .inr ⟨kv, h1, k _ H1 _ _ S1 r1 f1 (jok_kt h1 h2) q1⟩⟩)
      | _ => cases e'
    | _ => exact (show False from q1).elim, kx⟩
theorem jok_r {K : PySem.W.Frag} {S0 : Hs} {H0 : Hp} (lo : Int) (n : Nat) : JOk K (Itr lo n) S0 H0 (rngD lo n) (fun _ => True) := fun S H r f _ i => by
  have hlen : (rngD lo n).length = n := by unfold rngD; simp
  refine ⟨fun d e => ?_, fun hl => by rw [hlen] at hl; exact hl⟩
  have hi : i < n := by
    have := (List.getElem?_eq_some_iff.mp e).1
    omega
  have ed : d = .int (lo + i) := by
    unfold rngD at e
    rw [List.getElem?_map, List.getElem?_range hi] at e
    exact (Option.some.inj e).symm
  subst ed
  refine ⟨hi, fun x H' y => ?_⟩
  obtain ⟨rfl, rfl⟩ := y
  exact ⟨r, Fr.refl S H', .int _⟩
theorem i_rng1 {tg : Expr} (hg : Gl X "range") (hm : X.mg "range" = none) (ha : PE X a (tDE X.K W wa)) (hs : starEach [a] X.env = (false, eval a X.env) :: starEach [] X.env) :
    PI X tg (.Call (.Name "range" p) [a] [] pos) (tDI X.K W fun ρ S Q Y => wa ρ S (fun x S1 => rngI [x] S1 Q) Y) := (pi_range1 hg hm (pa_cons ha pa_nil hs) hs).imp fun σ H R ⟨ρ, S, Q', X', r, rr, hw, k, kx⟩ =>
  ⟨ρ, S, _, X', r, rr, hw, fun v H1 d S1 r1 f1 x1 q1 => by
      cases d with
      | int j =>
        cases x1
        obtain ⟨q2, q3, q⟩ : -(2 ^ 62) ≤ j ∧ j < 2 ^ 62 ∧ Q' (rngD 0 j.toNat) (fun _ => True) S1 := q1
        exact ⟨j, rfl, q2, q3, k _ H1 _ _ S1 r1 f1 (jok_r 0 j.toNat) q⟩
      | _ => exact (show False from q1).elim, kx⟩
theorem i_rng2 {tg : Expr} (hg : Gl X "range") (hm : X.mg "range" = none) (ha : PE X a (tDE X.K W wa)) (hb : PE X b (tDE X.K W wb)) (hs : starEach [a, b] X.env = (false, eval a X.env) :: starEach [b] X.env) (hs2 : starEach [b] X.env = (false, eval b X.env) :: starEach [] X.env) :
    PI X tg (.Call (.Name "range" p) [a, b] [] pos) (tDI X.K W fun ρ S Q Y => wa ρ S (fun x S1 => wb ρ S1 (fun y S2 => rngI [x, y] S2 Q) Y) Y) := (pi_range2 hg hm (pa_cons ha (pa_cons hb pa_nil hs2) hs) (by rw [hs, hs2]; rfl) hs2).imp fun σ H R ⟨ρ, S, Q', X', r, rr, hw, k, kx⟩ =>
  ⟨ρ, S, _, X', r, rr, hw, fun v H1 d S1 r1 f1 x1 q1 => ⟨ρ, S1, _, X', r1, rr.mono f1, q1, fun v2 H2 d' S2 r2 f2 x2 q2 => by
      cases d with
      | int j =>
        cases d' with
        | int j' =>
          cases x1
          cases x2
          obtain ⟨q2, q⟩ : (-(2 ^ 62) ≤ j ∧ j < 2 ^ 62 ∧ -(2 ^ 62) ≤ j' ∧ j' < 2 ^ 62) ∧ Q' (rngD j (j' - j).toNat) (fun _ => True) S2 := q2
          exact ⟨j, j', rfl, by assumption, k _ H2 _ _ S2 r2 (f1.trans f2) (jok_r j (j' - j).toNat) q⟩
        | _ => exact (show False from q2).elim
      | _ => exact (show False by cases d' <;> exact q2).elim, kx.fr f1⟩, kx⟩

theorem jok_c {K : PySem.W.Frag} {S0 : Hs} {H0 : Hp} (lo st : Int) (n : Nat) : JOk K (Itc lo st n) S0 H0 (rng3D lo st n) (fun _ => True) := fun S H r f _ i => by
  have hlen : (rng3D lo st n).length = n := by unfold rng3D; simp
  refine ⟨fun d e => ?_, fun hl => by rw [hlen] at hl; exact hl⟩
  have hi : i < n := by
    have := (List.getElem?_eq_some_iff.mp e).1
    omega
  have ed : d = .int (lo + i * st) := by
    unfold rng3D at e
    rw [List.getElem?_map, List.getElem?_range hi] at e
    exact (Option.some.inj e).symm
  subst ed
  refine ⟨hi, fun x H' y => ?_⟩
  obtain ⟨rfl, rfl⟩ := y
  exact ⟨r, Fr.refl S H', .int _⟩
theorem i_rng3 {tg b2 : Expr} {wc : WE} (hg : Gl X "range") (hm : X.mg "range" = none) (ha : PE X a (tDE X.K W wa)) (hb : PE X b (tDE X.K W wb)) (hc : PE X b2 (tDE X.K W wc)) (hs : starEach [a, b, b2] X.env = (false, eval a X.env) :: starEach [b, b2] X.env) (hs2 : starEach [b, b2] X.env = (false, eval b X.env) :: starEach [b2] X.env) (hs3 : starEach [b2] X.env = (false, eval b2 X.env) :: starEach [] X.env) :
    PI X tg (.Call (.Name "range" p) [a, b, b2] [] pos) (tDI X.K W fun ρ S Q Y => wa ρ S (fun x S1 => wb ρ S1 (fun y S2 => wc ρ S2 (fun z S3 => rngI [x, y, z] S3 Q) Y) Y) Y) := (pi_range3 hg hm (pa_cons ha (pa_cons hb (pa_cons hc pa_nil hs3) hs2) hs) hs (by rw [hs2, hs3]; rfl)).imp fun σ H R ⟨ρ, S, Q', X', r, rr, hw, k, kx⟩ =>
  ⟨ρ, S, _, X', r, rr, hw, fun v H1 d S1 r1 f1 x1 q1 => ⟨ρ, S1, _, X', r1, rr.mono f1, q1, fun v2 H2 d2 S2 r2 f2 x2 q2 => ⟨ρ, S2, _, X', r2, rr.mono (f1.trans f2), q2, fun v3 H3 d3 S3 r3 f3 x3 q3 => by
      cases d with
      | int i =>
        cases d2 with
        | int j =>
          cases d3 with
          | int st =>
            cases x1
            cases x2
            cases x3
            obtain ⟨n, hr, q⟩ : ∃ n, RgC i j st n ∧ Q' (rng3D i st n) (fun _ => True) S3 := q3
            exact ⟨i, j, st, n, rfl, hr, k _ H3 _ _ S3 r3 (f1.trans (f2.trans f3)) (jok_c i st n) q⟩
          | _ => exact (show False from q3).elim
        | _ => exact (show False by cases d3 <;> exact q3).elim
      | _ => exact (show False by cases d2 <;> cases d3 <;> exact q3).elim, kx.fr (f1.trans f2)⟩, kx.fr f1⟩, kx⟩

/-! ### comprehensions -/
abbrev W00 : WX := fun _ _ _ _ => False
def wComp (vs : List Nat) (wi : WI) (wg : WG) (wc : WB) (we : WE) : WE := fun ρ S Q X => wi ρ S (compB vs wg wc we ρ Q) X
theorem comp_t {σ : L2.St} {H : Hp} {Q : VK} {ix vs : List Nat} {wi : WI} {wg : WG} {wc : WB} {we : WE} (hix : ∀ i ∈ ix, i ∈ vs) (h : tDE X.K W (wComp vs wi wg wc we) σ H Q) :
    tLc (tDI X.K W wi) (tDG X.K W00 ix wg) (tDB X.K W00 wc) (tDE X.K W00 we) vs σ H Q := by
  obtain ⟨ρ, S, Q', X', r, rr, hw, k, kx⟩ := h
  refine ⟨ρ, S, _, X', r, rr, hw, fun J H1 ds Pr S1 r1 f1 jok q1 => ?_, kx⟩
  obtain ⟨hsz, q1⟩ := q1
  intro L hL
  obtain ⟨Wv, w0, turn, done⟩ := q1 L (r1.free hL)
  refine ⟨fun i m H2 => m = ds.length - i ∧ i ≤ ds.length ∧ ∃ acc S2, acc.length ≤ i ∧ Rs X.K S2 H2 ∧ Fr S1 H1 S2 H2 ∧ Wv i acc S2, ⟨ds.length, by simp, Nat.zero_le _, [], sup S1 L (.lst []), Nat.zero_le _, rs_live (m := .lst []) r1 hL .nil, fr_live hL, w0⟩, ?_⟩
  rintro i m H2 ⟨rfl, hi, acc, S2, hal, r2, f2, w2⟩
  by_cases hlt : i < ds.length
  · obtain ⟨e2, p2, q2⟩ := turn i ds[i] acc S2 (by simp [hlt]) hal w2
    obtain ⟨go, yld⟩ := (jok S2 H2 r2 f2 p2 i).1 ds[i] (by simp [hlt])
    refine .inr ⟨go, fun H' => ∃ acc' S', acc'.length ≤ i + 1 ∧ Rs X.K S' H' ∧ Fr S1 H1 S' H' ∧ Wv (i + 1) acc' S', fun H' ⟨acc', S', n1, n2, n3, n4⟩ => ⟨ds.length - (i + 1), by omega, rfl, hlt, acc', S', n1, n2, n3, n4⟩, fun x H3 y => ?_⟩
    obtain ⟨r3, f3, x3⟩ := yld x H3 y
    have rr3 : Rr X.K S2 H3 (wipe σ vs) (wipeD ρ vs) := (rr.mono (f1.trans (f2.trans f3))).wipe vs
    refine ⟨ds[i], wipeD ρ vs, S2, _, X0, r3, rr3, x3, q2, fun σ4 H4 ρ4 S4 r4 f4 rr4 z4 q4 => ?_, fun _ _ _ _ _ _ _ _ _ _ q => q.elim⟩
    refine ⟨(z4 vs hix).trans (wipe_wipe fun v hv => hv), ρ4, S4, _, X0, r4, rr4, q4, fun b H5 S5 r5 f5 q5 => ?_, EndX.X0⟩
    have f25 : Fr S2 H2 S5 H5 := f3.trans (f4.trans f5)
    cases b with
    | false => exact iteF ⟨acc, S5, by omega, r5, f2.trans f25, q5⟩
    | true =>
      refine iteT ⟨ρ4, S5, _, X0, r5, rr4.mono f5, q5, fun yv H6 yd S6 r6 f6 x6 ⟨e6, q6⟩ => ?_, EndX.X0⟩
      obtain ⟨vacc, h6, d6⟩ := rs_lst r6 e6
      refine ⟨vacc, h6, by rw [d6.len]; omega, acc ++ [yd], sup S6 L (.lst (acc ++ [yd])), by simp; omega, ?_, f2.trans (f25.trans (f6.trans (fr_mut r6 e6))), q6⟩
      exact rs_mut (m := .lst (acc ++ [yd])) r6 e6 (show DvA X.K _ _ (vacc ++ [yv]) (acc ++ [yd]) from (d6.append (.cons x6 .nil)).mono (fr_mut r6 e6))
  · have e : i = ds.length := by omega
    subst e
    obtain ⟨e2, p2, q2⟩ := done acc S2 hal w2
    refine .inl ⟨(jok S2 H2 r2 f2 p2 ds.length).2 (Nat.le_refl _), ?_⟩
    rcases q2 with q2 | q2
    · exact k _ _ _ _ (rs_del r2) (f1.trans (f2.trans fr_del)) (dv_frz r2 e2) q2
    · exact k _ _ _ _ r2 (f1.trans f2) (.ref L) q2

theorem s_comp {own : List (Str × Nat)} {ix : List Nat} {wi : WI} {wg : WG} {wc : WB} {we : WE} {elt tg iter : Expr} {ifs : List Expr} {scope : Scope} (hc : X.calm = true) (hN : X.N.Nodup) (hi : PI X tg iter (tDI X.K W wi)) (ok : BlkOk X.N X.env.scope scope own)
    (hix : ∀ i ∈ ix, i ∈ own.map (·.2))
    (hg : ∀ (s : Shared) (H : Hp) (C : Addr) (cl : List (Str × Addr)) (fp : List Addr), PG (X.blk s H scope (compEnvC scope cl C X.env) fp) tg (tDG X.K W00 ix wg)) (ht : ∀ (s : Shared) (H : Hp) (C : Addr) (cl : List (Str × Addr)) (fp : List Addr), PTs (X.blk s H scope (compEnvC scope cl C X.env) fp) ifs (tDB X.K W00 wc))
    (he : ∀ (s : Shared) (H : Hp) (C : Addr) (cl : List (Str × Addr)) (fp : List Addr), PE (X.blk s H scope (compEnvC scope cl C X.env) fp) elt (tDE X.K W00 we)) (hs : ∀ x, foldedSetIterable iter X.env x = pure x) :
    PE X (.ListComp elt [⟨tg, iter, ifs, 0⟩] scope pos) (tDE X.K W (wComp (own.map (·.2)) wi wg wc we)) := (pe_lc hc hN hi ok hg ht he hs).imp fun σ H Q h => comp_t hix h
/-- y = [..] on one line, y a local -/
theorem s_setc {i : Nat} {y : Str} {py spos : Pos} {own : List (Str × Nat)} {ix : List Nat} {wi : WI} {wg : WG} {wc : WB} {we : WE} {elt tg iter : Expr} {ifs : List Expr} {scope : Scope} (hc : X.calm = true) (hN : X.N.Nodup) (hy : X.N[i]? = some y) (hyl : X.env.scope.names.lookup y = some .local)
    (hsw : swapsWith (.ListComp elt [⟨tg, iter, ifs, 0⟩] scope pos) (some (.Name y py)) spos.line X.env = pure true) (hi : PI X tg iter (tDI X.K W wi)) (ok : BlkOk X.N X.env.scope scope own)
    (hix : ∀ i ∈ ix, i ∈ own.map (·.2))
    (hg : ∀ (s : Shared) (H : Hp) (C : Addr) (cl : List (Str × Addr)) (fp : List Addr), PG (X.blk s H scope (compEnvC scope cl C X.env) fp) tg (tDG X.K W00 ix wg)) (ht : ∀ (s : Shared) (H : Hp) (C : Addr) (cl : List (Str × Addr)) (fp : List Addr), PTs (X.blk s H scope (compEnvC scope cl C X.env) fp) ifs (tDB X.K W00 wc))
    (he : ∀ (s : Shared) (H : Hp) (C : Addr) (cl : List (Str × Addr)) (fp : List Addr), PE (X.blk s H scope (compEnvC scope cl C X.env) fp) elt (tDE X.K W00 we)) (hs : ∀ x, foldedSetIterable iter X.env x = pure x) :
    PS X (.Assign [.Name y py] (.ListComp elt [⟨tg, iter, ifs, 0⟩] scope pos) spos) (tDT X.K W fun Z ρ S => wComp (own.map (·.2)) wi wg wc we ρ S (fun d S1 => Z.nx (ρ.set i (some d)) S1) (fun x S' => Z.ex x ρ S')) :=
  (ps_setLc (i := i) hc hN hy hyl hsw hi ok hg ht he hs).imp fun Z0 σ H ⟨ρ, S, Z, r, rr, hw, k1, k2, k3, k4, k5⟩ =>
    comp_t hix ⟨ρ, S, _, _, r, rr, hw, fun v H1 d S1 r1 f1 x1 q1 => k1 _ H1 _ S1 r1 f1 ((rr.mono f1).set i x1) q1, fun c dx H' x S' r' f' z q => k5 c dx σ H' x ρ S' r' f' (rr.mono f') z q⟩

/-! ### statements -/
section
variable {K : PySem.W.Frag} {σ : L2.St} {H H1 : Hp} {ρ : Ro} {S S1 : Hs} {Z : DE} {Z0 : Ends}
/-- the five wishes -/
structure Five (K : PySem.W.Frag) (W : WX) (S : Hs) (H : Hp) (Z : DE) (Z0 : Ends) : Prop where
  nx : ∀ σ' H' ρ' S', Rs K S' H' → Fr S H S' H' → Rr K S' H' σ' ρ' → Z.nx ρ' S' → Z0.nx σ' H'
  bk : ∀ σ' H' ρ' S', Rs K S' H' → Fr S H S' H' → Rr K S' H' σ' ρ' → Z.bk ρ' S' → Z0.bk σ' H'
  ct : ∀ σ' H' ρ' S', Rs K S' H' → Fr S H S' H' → Rr K S' H' σ' ρ' → Z.ct ρ' S' → Z0.ct σ' H'
  rt : ∀ v H' d S', Rs K S' H' → Fr S H S' H' → Dv K S' H' v d → Z.rt d S' → Z0.rt v H'
  ex : ∀ cls dx σ' H' x ρ' S', Rs K S' H' → Fr S H S' H' → Rr K S' H' σ' ρ' → XRel K S' H' cls dx x → Z.ex x ρ' S' → W cls dx σ' H'
theorem Five.fr (f : Fr S H S1 H1) (k : Five K W S H Z Z0) : Five K W S1 H1 Z Z0 :=
  ⟨fun a b c d r g => k.nx a b c d r (f.trans g), fun a b c d r g => k.bk a b c d r (f.trans g), fun a b c d r g => k.ct a b c d r (f.trans g), fun a b c d r g => k.rt a b c d r (f.trans g), fun a b c d e g h r l => k.ex a b c d e g h r (f.trans l)⟩
/-- an expression's exceptions are the statement's -/
theorem Five.x (k : Five K W S H Z Z0) (rr : Rr K S H σ ρ) : EndX K S H (fun x S' => Z.ex x ρ S') (fun c d H' => W c d σ H') := fun c dx H' x S' r f z q => k.ex c dx σ H' x ρ S' r f (rr.mono f) z q
theorem t_mk {w : WT} (r : Rs K S H) (rr : Rr K S H σ ρ) (h : w Z ρ S) (k : Five K W S H Z Z0) : tDT K W w Z0 σ H := ⟨ρ, S, Z, r, rr, h, k.nx, k.bk, k.ct, k.rt, k.ex⟩
theorem t_un {w : WT} (h : tDT K W w Z0 σ H) : ∃ ρ S Z, Rs K S H ∧ Rr K S H σ ρ ∧ w Z ρ S ∧ Five K W S H Z Z0 := by
  obtain ⟨ρ, S, Z, r, rr, h, k1, k2, k3, k4, k5⟩ := h
  exact ⟨ρ, S, Z, r, rr, h, ⟨k1, k2, k3, k4, k5⟩⟩
end
variable {st : Stmt} {rest : List Stmt} {wt wu : WT}
theorem ss_nil : PSs X [] (tDT X.K W fun Z ρ S => Z.nx ρ S) := pss_nil.imp fun Z0 σ H h => by
  obtain ⟨ρ, S, Z, r, rr, h, k⟩ := t_un h
  exact k.nx _ _ _ _ r (Fr.refl S H) rr h
theorem ss_cons (h1 : PS X st (tDT X.K W wt)) (h2 : PSs X rest (tDT X.K W wu)) : PSs X (st :: rest) (tDT X.K W fun Z ρ S => wt { Z with nx := wu Z } ρ S) := (pss_cons h1 h2).imp fun Z0 σ H h => by
  obtain ⟨ρ, S, Z, r, rr, h, k⟩ := t_un h
  refine t_mk r rr h ⟨fun σ' H' ρ' S' r' f' rr' q => t_mk r' rr' q (k.fr f'), k.bk, k.ct, k.rt, k.ex⟩
theorem st_asg {g : Expr} {ix : List Nat} {wg : WG} (he : PE X e (tDE X.K W we)) (hg : PG X g (tDG X.K W ix wg)) (hs : swapsWithSole [g] e pos.line X.env = pure false) (hw : swappedStores [g] e X.env = pure none) (h1 : (assignEach [g] X.env).map (·.2) = [assign g X.env]) :
    PS X (.Assign [g] e pos) (tDT X.K W fun Z ρ S => we ρ S (fun d S1 => wg d ρ S1 Z.nx (fun x S' => Z.ex x ρ S')) (fun x S' => Z.ex x ρ S')) := (ps_asg he hg hs hw h1).imp fun Z0 σ H h => by
  obtain ⟨ρ, S, Z, r, rr, h, k⟩ := t_un h
  refine ⟨ρ, S, _, _, r, rr, h, fun v H1 d S1 r1 f1 x1 q1 => ?_, k.x rr⟩
  exact ⟨d, ρ, S1, _, _, r1, rr.mono f1, x1, q1, fun σ' H' ρ' S' r' f' rr' _ q => k.nx _ _ _ _ r' (f1.trans f') rr' q, fun c dx σ' H' x S' r' f' rr' z q => k.ex c dx σ' H' x ρ S' r' (f1.trans f') rr' z q⟩
theorem ip_aug (o : B2) : PIp X o.op (fun x y H Q => rO X.K (two (augW o)) [x, y] H Q) := by
  intro pins s σ H x y v u Q I rx ry q
  obtain ⟨ds, S, Q', r, da, hg, k⟩ := q
  cases da with
  | cons h1 t1 =>
    cases t1 with
    | cons h2 t2 =>
      cases t2
      rename_i d e
      have hg : augW o d e S Q' := hg
      cases o <;> cases d <;> cases e <;> first
        | exact (show False from hg).elim
        | (cases h1; cases h2; exact iop_add pins s σ H _ _ v u Q I rx ry ⟨_, _, rfl, rfl, end_now r (.int _) hg k⟩)
        | (cases h1; cases h2; exact iop_sub pins s σ H _ _ v u Q I rx ry ⟨_, _, rfl, rfl, end_now r (.int _) hg k⟩)
        | (cases h1; cases h2; exact iop_add_str pins s σ H _ _ v u Q I rx ry ⟨_, _, rfl, rfl, hg.1, end_now r (.str _) hg.2 k⟩)
theorem st_aug {i : Nat} {x : Str} {pos' : Pos} (o : B2) (hN : X.N.Nodup) (hi : X.N[i]? = some x) (hx : Loc X.env.scope x) (hf : X.fn x = true ∨ X.env.scope.names.lookup x = some .local) (he : PE X e (tDE X.K W we)) :
    PS X (.AugAssign (.Name x pos') o.op e pos) (tDT X.K W fun Z ρ S => ∃ x, ρ[i]? = some (some x) ∧ we ρ S (fun y S1 => augW o x y S1 fun z S2 => Z.nx (ρ.set i (some z)) S2) (fun x S' => Z.ex x ρ S')) := (ps_aug hN hi hx he (ip_aug o) hf).imp fun Z0 σ H h => by
  obtain ⟨ρ, S, Z, r, rr, ⟨d, e1, h⟩, k⟩ := t_un h
  obtain ⟨v, e2, xv⟩ := rr.2 i d e1
  refine ⟨v, e2, ρ, S, _, _, r, rr, h, fun w H1 d1 S1 r1 f1 x1 q1 => ?_, k.x rr⟩
  exact ⟨[d, d1], S1, _, r1, da2 f1 xv x1, q1, fun z H2 dz S2 r2 f2 x2 q2 => k.nx _ _ _ _ r2 (f1.trans f2) ((rr.mono (f1.trans f2)).set i x2) q2⟩
theorem st_ex (he : PE X e (tDE X.K W we)) (hs : swapsWith e none pos.line X.env = pure false) : PS X (.Expr e pos) (tDT X.K W fun Z ρ S => we ρ S (fun _ S1 => Z.nx ρ S1) (fun x S' => Z.ex x ρ S')) := (ps_expr he hs).imp fun Z0 σ H h => by
  obtain ⟨ρ, S, Z, r, rr, h, k⟩ := t_un h
  exact ⟨ρ, S, _, _, r, rr, h, fun v H1 d S1 r1 f1 x1 q1 => k.nx _ _ _ _ r1 f1 (rr.mono f1) q1, k.x rr⟩
theorem st_ret (he : PE X e (tDE X.K W we)) : PS X (.Return (some e) pos) (tDT X.K W fun Z ρ S => we ρ S (fun d S1 => retW d S1 Z.rt) (fun x S' => Z.ex x ρ S')) := (ps_ret he).imp fun Z0 σ H h => by
  obtain ⟨ρ, S, Z, r, rr, h, k⟩ := t_un h
  refine ⟨ρ, S, _, _, r, rr, h, fun v H1 d S1 r1 f1 x1 q1 => ?_, k.x rr⟩
  rcases q1 with q1 | ⟨a, xs, e1, e2, q1⟩
  · exact k.rt _ _ _ _ r1 f1 x1 q1
  · subst e1
    cases x1
    exact k.rt _ _ _ _ (rs_del r1) (f1.trans fr_del) (dv_frz r1 e2) q1
theorem st_retN : PS X (.Return none pos) (tDT X.K W fun Z _ S => Z.rt .non S) := ps_retN.imp fun Z0 σ H h => by
  obtain ⟨ρ, S, Z, r, rr, h, k⟩ := t_un h
  exact k.rt _ _ _ _ r (Fr.refl S H) .non h
theorem st_pass : PS X (.Pass pos) (tDT X.K W fun Z ρ S => Z.nx ρ S) := ps_pass.imp fun Z0 σ H h => by
  obtain ⟨ρ, S, Z, r, rr, h, k⟩ := t_un h
  exact k.nx _ _ _ _ r (Fr.refl S H) rr h
theorem st_brk : PS X (.Break pos) (tDT X.K W fun Z ρ S => Z.bk ρ S) := ps_break.imp fun Z0 σ H h => by
  obtain ⟨ρ, S, Z, r, rr, h, k⟩ := t_un h
  exact k.bk _ _ _ _ r (Fr.refl S H) rr h
theorem st_cont : PS X (.Continue pos) (tDT X.K W fun Z ρ S => Z.ct ρ S) := ps_continue.imp fun Z0 σ H h => by
  obtain ⟨ρ, S, Z, r, rr, h, k⟩ := t_un h
  exact k.ct _ _ _ _ r (Fr.refl S H) rr h
theorem st_never : PS X st (tDT X.K W fun _ _ _ => False) := ps_never.imp fun Z0 σ H h => by
  obtain ⟨ρ, S, Z, r, rr, h, k⟩ := t_un h
  exact h
theorem st_ite {c : Expr} {l1 l2 : List Stmt} {wc : WB} (hc : PT X c (tDB X.K W wc)) (ha : PSs X l1 (tDT X.K W wt)) (hb : PSs X l2 (tDT X.K W wu)) :
    PS X (.If c l1 l2 pos) (tDT X.K W fun Z ρ S => wc ρ S (fun k S1 => if k = true then wt Z ρ S1 else wu Z ρ S1) (fun x S' => Z.ex x ρ S')) := (ps_if hc ha hb).imp fun Z0 σ H h => by
  obtain ⟨ρ, S, Z, r, rr, h, k⟩ := t_un h
  refine ⟨ρ, S, _, _, r, rr, h, fun b H1 S1 r1 f1 q1 => ?_, k.x rr⟩
  cases b with
  | true => exact iteT (t_mk r1 (rr.mono f1) q1 (k.fr f1))
  | false => exact iteF (t_mk r1 (rr.mono f1) q1 (k.fr f1))
theorem st_for {g iter : Expr} {body : List Stmt} {ix : List Nat} {wi : WI} {wg : WG} (hp : PassesOwn (model X.prog X.w) X.A X.env X.xe) (hc : X.calm = true) (hi : PI X g iter (tDI X.K W wi)) (hg : PG X g (tDG X.K W ix wg)) (hb : PSs X body (tDT X.K W wt)) (hs : ∀ x, foldedSetIterable iter X.env x = pure x) :
    PS X (.For g iter body [] pos) (tDT X.K W fun D ρ S => wi ρ S (forB wg wt D ρ) (fun x S' => D.ex x ρ S')) := (ps_for hp hc hi hg hb hs).imp fun Z0 σ H h => by
  obtain ⟨ρ, S, Z, r, rr, h, k⟩ := t_un h
  refine ⟨ρ, S, _, _, r, rr, h, fun J H1 ds Pr S1 r1 f1 jok ⟨Wv, w0, turn, done⟩ => ?_, k.x rr⟩
  refine ⟨fun i m σ2 H2 => m = ds.length - i ∧ i ≤ ds.length ∧ ∃ ρ2 S2, Rs X.K S2 H2 ∧ Fr S1 H1 S2 H2 ∧ Rr X.K S2 H2 σ2 ρ2 ∧ Wv i ρ2 S2, ⟨ds.length, by simp, Nat.zero_le _, ρ, S1, r1, Fr.refl S1 H1, rr.mono f1, w0⟩, ?_⟩
  rintro i m σ2 H2 ⟨rfl, hi, ρ2, S2, r2, f2, rr2, w2⟩
  by_cases hlt : i < ds.length
  · obtain ⟨p2, q2⟩ := turn i ds[i] ρ2 S2 (by simp [hlt]) w2
    obtain ⟨go, yld⟩ := (jok S2 H2 r2 f2 p2 i).1 ds[i] (by simp [hlt])
    refine .inr ⟨go, fun σ' H' => ∃ ρ' S', Rs X.K S' H' ∧ Fr S1 H1 S' H' ∧ Rr X.K S' H' σ' ρ' ∧ Wv (i + 1) ρ' S', fun σ' H' ⟨ρ', S', n1, n2, n3, n4⟩ => ⟨ds.length - (i + 1), by omega, rfl, hlt, ρ', S', n1, n2, n3, n4⟩, fun x H3 y => ?_⟩
    obtain ⟨r3, f3, x3⟩ := yld x H3 y
    have f13 := f1.trans (f2.trans f3)
    refine ⟨ds[i], ρ2, S2, _, _, r3, rr2.mono f3, x3, q2, fun σ4 H4 ρ4 S4 r4 f4 rr4 _ q4 => ?_, fun c dx σ' H' x S' r' f' rr' z q => k.ex c dx σ' H' x ρ2 S' r' (f13.trans f') rr' z q⟩
    refine t_mk r4 rr4 q4 ⟨fun a b c d e g l q => ⟨c, d, e, f2.trans (f3.trans (f4.trans g)), l, q⟩, fun a b c d e g l q => k.nx a b c d e (f13.trans (f4.trans g)) l q, fun a b c d e g l q => ⟨c, d, e, f2.trans (f3.trans (f4.trans g)), l, q⟩, ((k.fr f13).fr f4).rt, ((k.fr f13).fr f4).ex⟩
  · have e : i = ds.length := by omega
    subst e
    obtain ⟨p2, q2⟩ := done ρ2 S2 w2
    exact .inl ⟨(jok S2 H2 r2 f2 p2 ds.length).2 (Nat.le_refl _), k.nx _ _ _ _ r2 (f1.trans f2) rr2 q2⟩
theorem st_whil {c : Expr} {body : List Stmt} {wc : WB} (hp : PassesOwn (model X.prog X.w) X.A X.env X.xe) (hc : PT X c (tDB X.K W wc)) (hb : PSs X body (tDT X.K W wt)) :
    PS X (.While c body [] pos) (tDT X.K W fun D ρ S => whilB wc wt D ρ S) := (ps_while hp hc hb).imp fun Z0 σ H h => by
  obtain ⟨ρ, S, Z, r, rr, ⟨Wv, ⟨m0, w0⟩, turn⟩, k⟩ := t_un h
  refine ⟨fun m σ2 H2 => ∃ ρ2 S2, Rs X.K S2 H2 ∧ Fr S H S2 H2 ∧ Rr X.K S2 H2 σ2 ρ2 ∧ Wv m ρ2 S2, ⟨m0, ρ, S, r, Fr.refl S H, rr, w0⟩, ?_⟩
  rintro m σ2 H2 ⟨ρ2, S2, r2, f2, rr2, w2⟩
  refine ⟨ρ2, S2, _, _, r2, rr2, turn m ρ2 S2 w2, fun b H3 S3 r3 f3 q3 => ?_, (k.fr f2).x rr2⟩
  cases b with
  | true =>
    refine iteT ⟨fun σ' H' => ∃ m', m' < m ∧ ∃ ρ' S', Rs X.K S' H' ∧ Fr S H S' H' ∧ Rr X.K S' H' σ' ρ' ∧ Wv m' ρ' S', fun σ' H' ⟨m', h1, h2⟩ => ⟨m', h1, h2⟩, ?_⟩
    refine t_mk r3 (rr2.mono f3) q3 ⟨fun a b c d e g l ⟨m', h1, h2⟩ => ⟨m', h1, c, d, e, f2.trans (f3.trans g), l, h2⟩, fun a b c d e g l q => k.nx a b c d e (f2.trans (f3.trans g)) l q, fun a b c d e g l ⟨m', h1, h2⟩ => ⟨m', h1, c, d, e, f2.trans (f3.trans g), l, h2⟩, ((k.fr f2).fr f3).rt, ((k.fr f2).fr f3).ex⟩
  | false => exact iteF (k.nx _ _ _ _ r3 (f2.trans f3) (rr2.mono f3) q3)
end
end Dz
namespace Dz
open PySem PySem.Spec PyProof.Rows L2
section
variable {X : Cx} {k : Nat} {f C : Addr} {fd : FuncData} {ps : List Str} {sp : Sp} {W : WX} {x m : Str} {p pos apos : Pos} {e o : Expr} {es : List Expr} {ta : TE} {t : TA}
abbrev FnK (X : Cx) (k : Nat) (f : Addr) (fd : FuncData) (ps : List Str) (sp : Sp) : Prop := FnOk X.prog X.w X.K X.mg X.base (L2.CX X.prog X.w) k f fd ps sp
/-- f(), what is raised wished for at the slots -/
theorem v_call0 (tk : Takes X W) (hr : Room k X.A) (F : FnK X k f fd ps sp) (hb : Binds X.K fd ps []) (kp : PySem.W.keepIn X.K (.ref f) = true) (hm : X.mg x = some (.ref f)) (hg : Gl X x) (hd : (x == ("__debug__" : Str)) = false) :
    PE X (.Call (.Name x p) [] [] pos) (fun σ H Q => sp [] H Q (L2.WE W σ)) := ⟨fun pins s σ H Q I h =>
  wpAny_Call_Name_kw (ld_glob I hg hm (PySem.W.callWith_K0 I.kIn kp (run_fnSD (dvs := []) (vs := []) (us := []) F hr hb .nil (passAt tk σ) I .nil h)) hd)⟩
/-- o.m(..), the class told behind o -/
def mtQ (X : Cx) (k : Nat) (m : Str) (run : Sp → V → L2.St → Hp → VK → Prop) (σ : L2.St) (Q : VK) (x : V) (H1 : Hp) : Prop :=
  ∃ (a C f : Addr) (dx : Addr) (fs : List (Str × V)) (fd : FuncData) (ps : List Str) (sp : Sp), x = .ref a ∧ H1 a = some (.ins C dx fs) ∧ fs.lookup m = none ∧ Cls X.K C ∧ Meth X.K C m f ∧ FnK X k f fd ps sp ∧ Binds X.K fd ps [] ∧ run sp x σ H1 Q
theorem v_mt {pl : Sem Bool} (tk : Takes X W) (hr : Room k X.A) (he : PE X o ta) (ha : PA X (e :: es) t)
    (hst : starEach (e :: es) X.env = (false, eval e X.env) :: starEach es X.env) (hpl : (backTo pos (starEach es X.env)).any (·.1) = false)
    (ht : eval (.Call (.Attribute o m apos) (e :: es) [] pos) X.env = (eval o X.env >>= fun ov => standAt apos.atName >>= fun _ => holding [ov] (getMethod ov m pl) >>= fun ff => callWith pos ff.1 ff.2 (backTo pos (starEach (e :: es) X.env)) (backToKw pos (keywordEach [] X.env)))) :
    PE X (.Call (.Attribute o m apos) (e :: es) [] pos) (fun σ H Q => ta σ H (mtQ X k m (fun sp x σ H1 Q => t σ H1 fun vs H2 => sp (x :: vs) H2 Q (L2.WE W σ)) σ Q)) := ⟨fun pins s σ H Q I h => by
  refine PySem.W.methodCall_KW (pl := pl) (thn (he.run pins s σ H _ I h) fun u s1 hq => ?_) ht
  obtain ⟨y, H1, I1, ry, a, C, f, dx, fs, fd, ps, sp, rfl, ea, lk, c, hm, F, hb, q⟩ := hq
  cases (show u = Value.ref a from ry)
  refine getmeth_ok I1 ea c hm lk (PySem.W.callWith_K (h₀ := X.base) (first := [.ref a]) I.ok.mod.kin hm.kp (thn (ha.run pos pins s1 σ H1 _ I1 q) fun us s2 hv => ?_) hst hpl)
  obtain ⟨vs, H2, I2, rv, q2⟩ := hv
  exact ⟨I2.kIn, run_fnSD (dvs := []) (us := .ref a :: us) (vs := .ref a :: vs) F hr hb .nil (passAt tk σ) I2 (.cons rfl rv) (by rw [List.append_nil]; exact q2)⟩⟩
theorem v_mt0 {pl : Sem Bool} (tk : Takes X W) (hr : Room k X.A) (he : PE X o ta)
    (ht : eval (.Call (.Attribute o m apos) [] [] pos) X.env = (eval o X.env >>= fun ov => standAt apos.atName >>= fun _ => holding [ov] (getMethod ov m pl) >>= fun ff => callWith pos ff.1 ff.2 (backTo pos (starEach [] X.env)) (backToKw pos (keywordEach [] X.env)))) :
    PE X (.Call (.Attribute o m apos) [] [] pos) (fun σ H Q => ta σ H (mtQ X k m (fun sp x σ H1 Q => sp [x] H1 Q (L2.WE W σ)) σ Q)) := ⟨fun pins s σ H Q I h => by
  refine PySem.W.methodCall_KW (pl := pl) (thn (he.run pins s σ H _ I h) fun u s1 hq => ?_) ht
  obtain ⟨y, H1, I1, ry, a, C, f, dx, fs, fd, ps, sp, rfl, ea, lk, c, hm, F, hb, q⟩ := hq
  cases (show u = Value.ref a from ry)
  exact getmeth_ok I1 ea c hm lk (PySem.W.callWith_K0 (first := [.ref a]) I1.kIn hm.kp (run_fnSD (dvs := []) (us := [.ref a]) (vs := [.ref a]) F hr hb .nil (passAt tk σ) I1 (.cons rfl .nil) q))⟩
/-- C(..) -/
def spNew (C : Addr) (sp : Sp) (vs : List V) (H : Hp) (Q : VK) (E : XK) : Prop := ∀ y dx, H y = none → H dx = none → dx ≠ y → sp (.ref y :: vs) (upd (upd H dx (.own y)) y (.ins C dx [])) (fun v H2 => v = .non ∧ Q (.ref y) H2) E
theorem run_new (tk : Takes X W) (hr : Room (k + 1) X.A) (M : Mk X.K C f) (F : FnK X k f fd ps sp) (hb : Binds X.K fd ps []) {pins : List (Addr × Obj)} {σ : L2.St} {H : Hp} {s : Shared} {Q : VK} {us : List Value} {vs : List V}
    (I : Inv X pins σ H s) (rv : Vals vs us) (h : spNew C sp vs H Q (L2.WE W σ)) : wpAny (model X.prog X.w) X.A (call (.ref C) us) (EP X pins σ Q) X.xe s := by
  have n := s.heap.objs.size
  have go := h (s.heap.objs.size + 1) s.heap.objs.size (I.hok.fresh (Nat.le_succ _)) (I.hok.fresh (Nat.le_refl _)) (Nat.ne_of_lt (Nat.lt_succ_self _))
  have J := Inv.made (C := C) I
  have rr : Vals (V.ref (s.heap.objs.size + 1) :: vs) (Value.ref (s.heap.objs.size + 1) :: us) := .cons rfl rv
  have len : (Value.ref (s.heap.objs.size + 1) :: us ++ []).length = ps.length := by
    rw [List.append_nil, ← rr.length]
    exact F.len _ _ _ _ go
  have bnd := hb _ (Value.ref (s.heap.objs.size + 1) :: us) J.kIn len
  rw [List.append_nil] at bnd
  refine wpAny_call (make_map (f := f) I.kIn M.makes M.init (beq_iff_eq.mp M.fn) (codeAny_mono (F.run _ X.stack _ _ ⟨Value.ref (s.heap.objs.size + 1) :: us, []⟩ _ _ _ _ (hr.make C us []) (J.env0.make C us []) bnd rr go) fun r s2 hq => ?_))
  match r, hq with
  | .error e, hq => exact passAt tk σ pins _ _ e s2 J hq
  | .ok (.ret u), hq =>
    obtain ⟨v, H', J2, rv2, ev, q⟩ := J.after hq
    subst ev
    exact ⟨rv2, V.ref (s.heap.objs.size + 1), H', J2, rfl, q⟩
  | .ok .next, hq => exact hq.elim
  | .ok .brk, hq => exact hq.elim
  | .ok .cont, hq => exact hq.elim
theorem v_mk (tk : Takes X W) (hr : Room (k + 1) X.A) (M : Mk X.K C f) (F : FnK X k f fd ps sp) (hb : Binds X.K fd ps []) (hm : X.mg x = some (.ref C)) (hg : Gl X x) (hd : (x == ("__debug__" : Str)) = false) (ha : PA X (e :: es) t)
    (hst : starEach (e :: es) X.env = (false, eval e X.env) :: starEach es X.env) (hpl : (backTo pos (starEach es X.env)).any (·.1) = false) :
    PE X (.Call (.Name x p) (e :: es) [] pos) (fun σ H Q => t σ H fun vs H1 => spNew C sp vs H1 Q (L2.WE W σ)) := ⟨fun pins s σ H Q I h =>
  wpAny_Call_Name_kw (ld_glob I hg hm (PySem.W.callWith_K (h₀ := X.base) I.ok.mod.kin M.kp (thn (ha.run pos pins s σ H _ I h) fun us s1 ⟨vs, H1, I1, rv, q⟩ => ⟨I1.kIn, run_new tk hr M F hb I1 rv q⟩) hst hpl) hd)⟩
theorem v_mk0 (tk : Takes X W) (hr : Room (k + 1) X.A) (M : Mk X.K C f) (F : FnK X k f fd ps sp) (hb : Binds X.K fd ps []) (hm : X.mg x = some (.ref C)) (hg : Gl X x) (hd : (x == ("__debug__" : Str)) = false) :
    PE X (.Call (.Name x p) [] [] pos) (fun σ H Q => spNew C sp [] H Q (L2.WE W σ)) := ⟨fun pins s σ H Q I h =>
  wpAny_Call_Name_kw (ld_glob I hg hm (PySem.W.callWith_K0 I.kIn M.kp (run_new (us := []) tk hr M F hb I .nil h)) hd)⟩
end
end Dz
namespace Dz
open PySem PySem.Spec PyProof.Rows L2
section
variable {K : PySem.W.Frag} {S S' : Hs} {H H' : Hp} {fd : List (Str × D)} {fv : List (Str × V)} {f : Str} {d : D} {v : V}
theorem kvd_look (h : KvD K S H fd fv) (e : fd.lookup f = some d) : ∃ v, fv.lookup f = some v ∧ Dv K S H v d := by
  unfold KvD at h
  induction h with
  | nil => cases e
  | @cons p q ps qs hd tl ih =>
    obtain ⟨n, x⟩ := p
    obtain ⟨n', y⟩ := q
    obtain ⟨rfl, hx⟩ := hd
    rw [List.lookup_cons] at e ⊢
    split at e
    · rename_i z
      cases e
      exact ⟨y, by rw [z], hx⟩
    · rename_i z
      obtain ⟨v, e1, e2⟩ := ih e
      exact ⟨v, by rw [z]; exact e1, e2⟩
theorem kvd_lookN (h : KvD K S H fd fv) (e : fd.lookup f = none) : fv.lookup f = none := by
  unfold KvD at h
  induction h with
  | nil => rfl
  | @cons p q ps qs hd tl ih =>
    obtain ⟨n, x⟩ := p
    obtain ⟨n', y⟩ := q
    obtain ⟨rfl, hx⟩ := hd
    rw [List.lookup_cons] at e ⊢
    split at e
    · cases e
    · rename_i z
      rw [z]
      exact ih e
theorem kvd_putF (h : KvD K S H fd fv) (hv : Dv K S H v d) : KvD K S H (putFD f d fd) (putF f v fv) := by
  unfold KvD at h ⊢
  induction h with
  | nil => exact .cons ⟨rfl, hv⟩ .nil
  | @cons p q ps qs hd tl ih =>
    obtain ⟨n, x⟩ := p
    obtain ⟨n', y⟩ := q
    obtain ⟨rfl, hx⟩ := hd
    show Paired _ (if n = f then (f, d) :: ps else (n, x) :: putFD f d ps) (if n = f then (n, v) :: qs else (n, y) :: putF f v qs)
    split
    · rename_i z
      exact .cons ⟨z.symm, hv⟩ tl
    · exact .cons ⟨rfl, hx⟩ ih
end
section
variable {X : Cx} {W : WX} {c : Cfg} {pos p apos pos' tpos : Pos} {o e i : Expr} {es : List Expr} {wo we wi : WE} {ws : WA} {f m x : Str} {k : Nat}
/-! ### attributes -/
theorem s_fld (hf : ∀ p ∈ c.flds, Cls X.K p.1 ∧ NoAttr X.K p.1 p.2) (ho : PE X o (tDE X.K W wo)) (hb : attributeBase o f X.env (eval o X.env) = eval o X.env) :
    PE X (.Attribute o f pos) (tDE X.K W fun ρ S Q Y => wo ρ S (fun x S1 => ∃ a C fs d, x = .ref a ∧ S1 a = some (.ins C fs) ∧ (C, f) ∈ c.flds ∧ fs.lookup f = some d ∧ Q d S1) Y) := (pe_fld ho hb).imp fun σ H Q ⟨ρ, S, Q', X', r, rr, hw, kq, kx⟩ =>
  ⟨ρ, S, _, X', r, rr, hw, fun v1 H1 d1 S1 r1 f1 x1 ⟨a, C, fs, d, e1, e2, hm, e3, q⟩ => by
    subst e1
    cases x1
    obtain ⟨dx, fv, h1, h2⟩ := rs_ins r1 e2
    obtain ⟨v, h3, h4⟩ := kvd_look h2 e3
    obtain ⟨g1, g2⟩ := hf _ hm
    exact ⟨a, C, dx, fv, v, rfl, h1, g1, g2, h3, end_now r1 h4 q (kq.fr f1)⟩, kx⟩
theorem ins_upd {S1 : Hs} {H1 : Hp} {K : PySem.W.Frag} {a C dx : Addr} {fs : List (Str × D)} {fv : List (Str × V)} {v : V} {d : D} (r : Rs K S1 H1) (e : S1 a = some (.ins C fs)) (h : KvD K S1 H1 fs fv) (hv : Dv K S1 H1 v d) :
    Rs K (sup S1 a (.ins C (putFD f d fs))) (upd H1 a (.ins C dx (putF f v fv))) ∧ Fr S1 H1 (sup S1 a (.ins C (putFD f d fs))) (upd H1 a (.ins C dx (putF f v fv))) :=
  ⟨rs_mut r e (show _ ∧ KvD K _ _ _ _ from ⟨rfl, KvD.mono (fr_mut r e) (kvd_putF h hv)⟩), fr_mut r e⟩
theorem st_fst (hf : ∀ p ∈ c.flds, Cls X.K p.1 ∧ NoAttr X.K p.1 p.2) (he : PE X e (tDE X.K W we)) (ho : PE X o (tDE X.K W wo)) (hs : swapsWith e (some (.Attribute o f pos')) pos.line X.env = pure false) :
    PS X (.Assign [.Attribute o f pos'] e pos) (tDT X.K W fun Z ρ S => we ρ S (fun d S1 => wo ρ S1 (fun x S2 => ∃ a C fs, x = .ref a ∧ S2 a = some (.ins C fs) ∧ (C, f) ∈ c.flds ∧ fs.length < 1000 ∧ Z.nx ρ (sup S2 a (.ins C (putFD f d fs)))) (fun x S' => Z.ex x ρ S')) (fun x S' => Z.ex x ρ S')) := (ps_fld ho he hs).imp fun Z0 σ H h => by
  obtain ⟨ρ, S, Z, r, rr, h, kk⟩ := t_un h
  refine ⟨ρ, S, _, _, r, rr, h, fun v1 H1 d1 S1 r1 f1 x1 q1 => ?_, kk.x rr⟩
  refine ⟨ρ, S1, _, _, r1, rr.mono f1, q1, fun v2 H2 d2 S2 r2 f2 x2 ⟨a, C, fs, e1, e2, hm, hl, q⟩ => ?_, (kk.fr f1).x (rr.mono f1)⟩
  subst e1
  cases x2
  obtain ⟨dx, fv, h1, h2⟩ := rs_ins r2 e2
  obtain ⟨g1, g2⟩ := hf _ hm
  obtain ⟨r3, f3⟩ := ins_upd (dx := dx) (f := f) r2 e2 h2 (x1.mono f2)
  exact ⟨a, C, dx, fv, rfl, h1, g1, g2, by rw [← kvd_len h2]; exact hl, kk.nx _ _ _ _ r3 (f1.trans (f2.trans f3)) (rr.mono (f1.trans (f2.trans f3))) q⟩
theorem in_aug (o : B2) : InOp X o.op (fun x y H Q => rO X.K (two (augW o)) [x, y] H Q) := fun pins s σ H x y u v Q I rx ry q => ip_aug o pins s σ H x y u v Q I rx ry q
theorem st_faug (pp : B2) (hf : ∀ p ∈ c.flds, Cls X.K p.1 ∧ NoAttr X.K p.1 p.2) (ho : PE X o (tDE X.K W wo)) (he : PE X e (tDE X.K W we)) :
    PS X (.AugAssign (.Attribute o f tpos) pp.op e pos) (tDT X.K W fun Z ρ S => wo ρ S (fun x S1 => ∃ a C fs d, x = .ref a ∧ S1 a = some (.ins C fs) ∧ (C, f) ∈ c.flds ∧ fs.lookup f = some d ∧
      we ρ S1 (fun y S2 => augW pp d y S2 fun z S3 => ∃ fs', S3 a = some (.ins C fs') ∧ fs'.length < 1000 ∧ Z.nx ρ (sup S3 a (.ins C (putFD f z fs')))) (fun x S' => Z.ex x ρ S')) (fun x S' => Z.ex x ρ S')) := (ps_fldaug ho he (in_aug pp)).imp fun Z0 σ H h => by
  obtain ⟨ρ, S, Z, r, rr, h, kk⟩ := t_un h
  refine ⟨ρ, S, _, _, r, rr, h, fun v1 H1 d1 S1 r1 f1 x1 ⟨a, C, fs, d, e1, e2, hm, e3, q⟩ => ?_, kk.x rr⟩
  subst e1
  cases x1
  obtain ⟨dx, fv, h1, h2⟩ := rs_ins r1 e2
  obtain ⟨v, h3, h4⟩ := kvd_look h2 e3
  obtain ⟨g1, g2⟩ := hf _ hm
  refine ⟨a, C, dx, fv, v, rfl, h1, g1, g2, h3, ρ, S1, _, _, r1, rr.mono f1, q, fun v2 H2 d2 S2 r2 f2 x2 q2 => ?_, (kk.fr f1).x (rr.mono f1)⟩
  refine ⟨[d, d2], S2, _, r2, da2 f2 h4 x2, q2, fun v3 H3 d3 S3 r3 f3 x3 q3 => ?_⟩
  obtain ⟨fs', e4, hl, q3⟩ := q3
  obtain ⟨dx', fv', h5, h6⟩ := rs_ins r3 e4
  obtain ⟨r4, f4⟩ := ins_upd (dx := dx') (f := f) r3 e4 h6 x3
  have fa := f1.trans (f2.trans (f3.trans f4))
  exact ⟨dx', fv', h5, by rw [← kvd_len h6]; exact hl, kk.nx _ _ _ _ r4 fa (rr.mono fa) q3⟩
/-! ### calls without arguments, of methods, of classes -/
theorem s_call0 {q : Str × DSp} {j : Nat} (hi : c.fns[j]? = some q) (hx : q.1 = x) (hg : Gl X x) (hd : (x == ("__debug__" : Str)) = false) (hr : Room k X.A) (h : FnAt X.prog X.w X.K X.mg X.base k q) (tk : Takes X W) :
    PE X (.Call (.Name x p) [] [] pos) (tDE X.K W fun ρ S Q Y => ∃ p, c.fns[j]? = some p ∧ p.2 [] S Q Y) := by
  subst hx
  obtain ⟨f, fd, ps, h1, h2, h3, h4⟩ := h
  refine (v_call0 tk hr h4 h3 h2 h1 hg hd).imp fun σ H Q ⟨ρ, S, Q', X', r, rr, ⟨p, e, hw⟩, kq, kx⟩ => ?_
  rw [hi] at e
  cases e
  exact ⟨[], S, Q', X', r, .nil, hw, kq, kx⟩
theorem s_mt {j : Nat} {pl : Sem Bool} (tk : Takes X W) (hr : Room k X.A) (hM : ∀ p ∈ c.mths, MthAt X.prog X.w X.K X.base X.mg k p) (ho : PE X o (tDE X.K W wo)) (ha : PA X (e :: es) (tDA X.K W ws))
    (hst : starEach (e :: es) X.env = (false, eval e X.env) :: starEach es X.env) (hpl : (backTo pos (starEach es X.env)).any (·.1) = false)
    (ht : eval (.Call (.Attribute o m apos) (e :: es) [] pos) X.env = (eval o X.env >>= fun ov => standAt apos.atName >>= fun _ => holding [ov] (getMethod ov m pl) >>= fun ff => callWith pos ff.1 ff.2 (backTo pos (starEach (e :: es) X.env)) (backToKw pos (keywordEach [] X.env)))) :
    PE X (.Call (.Attribute o m apos) (e :: es) [] pos) (tDE X.K W fun ρ S Q Y => wo ρ S (fun x S1 => ∃ a fs p, x = .ref a ∧ c.mths[j]? = some p ∧ p.name = m ∧ S1 a = some (.ins p.C fs) ∧ fs.lookup m = none ∧ ws ρ S1 (fun ds S2 => p.sp (x :: ds) S2 Q Y) Y) Y) :=
  (v_mt (pl := pl) tk hr ho ha hst hpl ht).imp fun σ H Q ⟨ρ, S, Q', X', r, rr, hw, kq, kx⟩ => ⟨ρ, S, _, X', r, rr, hw, fun v1 H1 d1 S1 r1 f1 x1 ⟨a, fs, p, e1, hm, e0, e2, e3, q⟩ => by
    subst e1
    subst e0
    cases x1
    obtain ⟨dx, fv, h1, h2⟩ := rs_ins r1 e2
    obtain ⟨cl, f, fd, ps, g1, g2, g3⟩ := hM p (List.mem_of_getElem? hm)
    refine ⟨a, p.C, f, dx, fv, fd, ps, _, rfl, h1, kvd_lookN h2 e3, cl, g1, g3, g2, ρ, S1, _, X', r1, rr.mono f1, q, fun vs H2 ds S2 r2 f2 x2 q2 => ?_, kx.fr f1⟩
    exact ⟨.ref a :: ds, S2, Q', X', r2, .cons (.ref a) x2, q2, kq.fr (f1.trans f2), kx.fr (f1.trans f2)⟩, kx⟩
theorem s_mt0 {j : Nat} {pl : Sem Bool} (tk : Takes X W) (hr : Room k X.A) (hM : ∀ p ∈ c.mths, MthAt X.prog X.w X.K X.base X.mg k p) (ho : PE X o (tDE X.K W wo))
    (ht : eval (.Call (.Attribute o m apos) [] [] pos) X.env = (eval o X.env >>= fun ov => standAt apos.atName >>= fun _ => holding [ov] (getMethod ov m pl) >>= fun ff => callWith pos ff.1 ff.2 (backTo pos (starEach [] X.env)) (backToKw pos (keywordEach [] X.env)))) :
    PE X (.Call (.Attribute o m apos) [] [] pos) (tDE X.K W fun ρ S Q Y => wo ρ S (fun x S1 => ∃ a fs p, x = .ref a ∧ c.mths[j]? = some p ∧ p.name = m ∧ S1 a = some (.ins p.C fs) ∧ fs.lookup m = none ∧ p.sp [x] S1 Q Y) Y) :=
  (v_mt0 (pl := pl) tk hr ho ht).imp fun σ H Q ⟨ρ, S, Q', X', r, rr, hw, kq, kx⟩ => ⟨ρ, S, _, X', r, rr, hw, fun v1 H1 d1 S1 r1 f1 x1 ⟨a, fs, p, e1, hm, e0, e2, e3, q⟩ => by
    subst e1
    subst e0
    cases x1
    obtain ⟨dx, fv, h1, h2⟩ := rs_ins r1 e2
    obtain ⟨cl, f, fd, ps, g1, g2, g3⟩ := hM p (List.mem_of_getElem? hm)
    exact ⟨a, p.C, f, dx, fv, fd, ps, _, rfl, h1, kvd_lookN h2 e3, cl, g1, g3, g2, [.ref a], S1, Q', X', r1, .cons (.ref a) .nil, q, kq.fr f1, kx.fr f1⟩, kx⟩
theorem new_D {K : PySem.W.Frag} {S1 : Hs} {H1 : Hp} {C : Addr} {sp : DSp} {vs : List V} {ds : List D} {Q' : QD} {Q : VK} {Y : XQ} {E : XK} (r : Rs K S1 H1) (xv : DvA K S1 H1 vs ds) (kq : EndQ K S1 H1 Q' Q) (kx : EndX K S1 H1 Y E)
    (h : ∀ y, S1 y = none → sp (.ref y :: ds) (sup S1 y (.ins C [])) (fun d S2 => d = .non ∧ Q' (.ref y) S2) Y) : spNew C (toSp K sp) vs H1 Q E := fun y dx hy hdx ne => by
  have fa : Fr S1 H1 S1 (upd H1 dx (.own y)) := fr_new hdx
  have ra : Rs K S1 (upd H1 dx (.own y)) := rs_new r hdx
  have hy' : upd H1 dx (.own y) y = none := by rw [upd_ne (Ne.symm ne)]; exact hy
  have fb : Fr S1 (upd H1 dx (.own y)) (sup S1 y (.ins C [])) (upd (upd H1 dx (.own y)) y (.ins C dx [])) := fr_live hy'
  have rb : Rs K (sup S1 y (.ins C [])) (upd (upd H1 dx (.own y)) y (.ins C dx [])) := rs_live ra hy' (show _ ∧ KvD K _ _ _ _ from ⟨rfl, .nil⟩)
  refine ⟨.ref y :: ds, _, _, Y, rb, .cons (.ref y) (xv.mono (fa.trans fb)), h y (r.free hy), fun v H2 d S2 r2 f2 x2 q => ?_, kx.fr (fa.trans fb)⟩
  obtain ⟨e, q⟩ := q
  subst e
  cases x2
  exact ⟨rfl, kq _ _ _ _ r2 (fa.trans (fb.trans f2)) (.ref y) q⟩
theorem s_mk {q : MthD} {j : Nat} (tk : Takes X W) (hr : Room k X.A) (hi : c.mks[j]? = some q) (hx : q.name = x) (hg : Gl X x) (hd : (x == ("__debug__" : Str)) = false) (h : MkAt X.prog X.w X.K X.base X.mg k q) (ha : PA X (e :: es) (tDA X.K W ws))
    (hst : starEach (e :: es) X.env = (false, eval e X.env) :: starEach es X.env) (hpl : (backTo pos (starEach es X.env)).any (·.1) = false) :
    PE X (.Call (.Name x p) (e :: es) [] pos) (tDE X.K W fun ρ S Q Y => ws ρ S (fun ds S1 => ∃ p, c.mks[j]? = some p ∧ ∀ y, S1 y = none → p.sp (.ref y :: ds) (sup S1 y (.ins p.C [])) (fun d S2 => d = .non ∧ Q (.ref y) S2) Y) Y) := by
  subst hx
  obtain ⟨h1, f, fd, ps, l, hl, M, hb, F⟩ := h
  refine (v_mk (k := l) tk (hr.mono hl) M F hb h1 hg hd ha hst hpl).imp fun σ H Q ⟨ρ, S, Q', X', r, rr, hw, kq, kx⟩ => ?_
  refine ⟨ρ, S, _, X', r, rr, hw, fun vs H1 ds S1 r1 f1 x1 ⟨p, e, q1⟩ => ?_, kx⟩
  rw [hi] at e
  cases e
  exact new_D r1 x1 (kq.fr f1) (kx.fr f1) q1
theorem s_mk0 {q : MthD} {j : Nat} (tk : Takes X W) (hr : Room k X.A) (hi : c.mks[j]? = some q) (hx : q.name = x) (hg : Gl X x) (hd : (x == ("__debug__" : Str)) = false) (h : MkAt X.prog X.w X.K X.base X.mg k q) :
    PE X (.Call (.Name x p) [] [] pos) (tDE X.K W fun ρ S Q Y => ∃ p, c.mks[j]? = some p ∧ ∀ y, S y = none → p.sp [.ref y] (sup S y (.ins p.C [])) (fun d S2 => d = .non ∧ Q (.ref y) S2) Y) := by
  subst hx
  obtain ⟨h1, f, fd, ps, l, hl, M, hb, F⟩ := h
  refine (v_mk0 (k := l) tk (hr.mono hl) M F hb h1 hg hd).imp fun σ H Q ⟨ρ, S, Q', X', r, rr, ⟨p, e, hw⟩, kq, kx⟩ => ?_
  rw [hi] at e
  cases e
  exact new_D r .nil kq kx hw
end
end Dz
namespace Dz
open PySem PySem.Spec PyProof.Rows L2
section
variable {X : Cx} {W : WX} {c : Cfg} {pos p apos pos' tpos cpos : Pos} {o e i a b : Expr} {es : List Expr} {wo we wi wa wb : WE} {ws : WA} {f m x : Str} {k : Nat}
/-! ### dicts walked -/
theorem rs_lock {K : PySem.W.Frag} {S : Hs} {H : Hp} {d : Addr} {o z : MO} (r : Rs K S H) (e : S d = some o) (hz : o.lk = some z) : ∃ u, H d = some u ∧ Mut (some u) ∧ (∀ od, Rs K (sup S d z) (upd H d (.frz od u)) ∧ Fr S H (sup S d z) (upd H d (.frz od u))) ∧
    ∀ od S' H', Rs K S' H' → Fr (sup S d z) (upd H d (.frz od u)) S' H' → S' d = some z → H' d = some (.frz od u) ∧ Rs K (sup S' d o) (upd H' d u) ∧ Fk S' H' (sup S' d o) (upd H' d u) ∧ Fr S H (sup S' d o) (upd H' d u) := by
  obtain ⟨u, e1, e2⟩ := r d _ e
  have nz : o.z = false := by cases o <;> first | rfl | cases hz
  have mu : Mut (some u) := by
    cases o with
    | dK kvs => obtain ⟨kv, q, _⟩ := rs_dk r e; rw [e1] at q; cases q; exact True.intro
    | dT kvs => obtain ⟨kv, q, _⟩ := rs_dt r e; rw [e1] at q; cases q; exact True.intro
    | _ => cases hz
  have nf : ∀ o' u', u ≠ .frz o' u' := fun o' u' q => rs_nofrz r e nz o' u' (by rw [e1, q])
  have ok : ∀ {S' : Hs} {H' : Hp} {od : Obj}, MoOk K S' H' o u → MoOk K S' H' z (.frz od u) := fun {S' H' od} h => by
    cases o with
    | dK kvs => cases hz; cases u with
      | dK kv => exact h
      | _ => exact (show False from h).elim
    | dT kvs => cases hz; cases u with
      | dT kv => exact h
      | _ => exact (show False from h).elim
    | _ => cases hz
  have ko : ∀ {S' : Hs} {H' : Hp} {od : Obj}, MoOk K S' H' z (.frz od u) → MoOk K S' H' o u := fun {S' H' od} h => by
    cases o with
    | dK kvs => cases hz; cases u with
      | dK kv => exact h
      | _ => exact (show False from h).elim
    | dT kvs => cases hz; cases u with
      | dT kv => exact h
      | _ => exact (show False from h).elim
    | _ => cases hz
  refine ⟨u, e1, mu, fun od => ⟨rs_mut r e (ok (e2.mono (fr_mut r e nz))) nz, fr_mut r e nz⟩, fun od S' H' r' f' hd => ?_⟩
  have hH : H' d = some (.frz od u) := f'.frz _ _ _ upd_same
  obtain ⟨u', g1, g2⟩ := r' d _ hd
  rw [hH] at g1
  cases g1
  have fu : ∀ {S0 : Hs} {H0 : Hp}, (∀ v w, v ≠ d → H0 v = some w → S0 v = none → (∀ ps, w ≠ .tbl ps) → H' v = some w ∧ S' v = none) → (∀ v w q, v ≠ d → H0 v = some (.frz w q) → H' v = some (.frz w q)) → S0 d ≠ none → (∀ w q, H0 d ≠ some (.frz w q)) → Fr S0 H0 (sup S' d o) (upd H' d u) := fun {S0 H0} h1 h2 h3 h4 =>
    ⟨fun v w q s nt => by
      have n : v ≠ d := fun z => h3 (by rw [← z]; exact s)
      rw [upd_ne n, sup_ne n]
      exact h1 v w n q s nt, fun v w q h => by
      have n : v ≠ d := fun z => h4 w q (by rw [← z]; exact h)
      rw [upd_ne n]
      exact h2 v w q n h⟩
  have fin : Fr S H (sup S' d o) (upd H' d u) := fu (fun v w n q s nt => f'.keep v w (by rw [upd_ne n]; exact q) (by rw [sup_ne n]; exact s) nt) (fun v w q n h => f'.frz v w q (by rw [upd_ne n]; exact h)) (by rw [e]; intro z; cases z) fun w q h => nf w q (by rw [e1] at h; exact Option.some.inj h)
  have fk : Fk S' H' (sup S' d o) (upd H' d u) := fun v w q s _ => by
    have n : v ≠ d := fun z => by rw [z, hd] at s; cases s
    rw [upd_ne n, sup_ne n]
    exact ⟨q, s⟩
  have mono : ∀ {oo : MO} {uu : HO}, MoOk K S' H' oo uu → MoOk K (sup S' d o) (upd H' d u) oo uu := fun {oo uu} h => h.monoK fk
  refine ⟨hH, fun v w q => ?_, fk, fin⟩
  by_cases n : v = d
  · subst n
    rw [sup_same] at q
    cases q
    exact ⟨u, upd_same, mono (ko g2)⟩
  · rw [sup_ne n] at q
    obtain ⟨w', h1, h2⟩ := r' v w q
    exact ⟨w', by rw [upd_ne n]; exact h1, mono h2⟩
theorem st_lock {st : Stmt} {wt : WT} (h : PS X st (tDT X.K (fun _ _ _ _ => False) wt)) : PS X st (tDT X.K W fun Z ρ S => ∃ a o z, S a = some o ∧ o.lk = some z ∧
      wt { nx := fun ρ' S' => S' a = some z ∧ Z.nx ρ' (sup S' a o), rt := fun d S' => S' a = some z ∧ Z.rt d (sup S' a o), bk := fun ρ' S' => S' a = some z ∧ Z.bk ρ' (sup S' a o), ct := fun ρ' S' => S' a = some z ∧ Z.ct ρ' (sup S' a o) } ρ (sup S a z)) := (ps_lock h).imp fun Z0 σ H hh => by
  obtain ⟨ρ, S, Z, r, rr, ⟨a, o, z, e, hz, hw⟩, k⟩ := t_un hh
  obtain ⟨u, h1, h2, h3, h4⟩ := rs_lock r e hz
  refine ⟨a, u, h1, h2, fun od => ?_⟩
  obtain ⟨r1, f1⟩ := h3 od
  have rdv : ∀ {S' : Hs} {H' : Hp} {v : V} {d : D}, Rs X.K S' H' → Fr (sup S a z) (upd H a (.frz od u)) S' H' → S' a = some z → Dv X.K S' H' v d → Dv X.K (sup S' a o) (upd H' a u) v d := fun {S' H' v d} r' f' e' x => (x.monoK (h4 od S' H' r' f' e').2.2.1)
  refine t_mk r1 (rr.mono f1) hw ⟨fun σ' H' ρ' S' r' f' rr' ⟨e', q⟩ => ?_, fun σ' H' ρ' S' r' f' rr' ⟨e', q⟩ => ?_, fun σ' H' ρ' S' r' f' rr' ⟨e', q⟩ => ?_, fun v H' d S' r' f' x' ⟨e', q⟩ => ?_, fun cls dx σ' H' x ρ' S' r' f' rr' z' q => q.elim⟩
  · obtain ⟨g1, g2, g3, g4⟩ := h4 od S' H' r' f' e'
    exact ⟨g1, k.nx _ _ _ _ g2 g4 (rr'.monoK g3) q⟩
  · obtain ⟨g1, g2, g3, g4⟩ := h4 od S' H' r' f' e'
    exact ⟨g1, k.bk _ _ _ _ g2 g4 (rr'.monoK g3) q⟩
  · obtain ⟨g1, g2, g3, g4⟩ := h4 od S' H' r' f' e'
    exact ⟨g1, k.ct _ _ _ _ g2 g4 (rr'.monoK g3) q⟩
  · obtain ⟨g1, g2, g3, g4⟩ := h4 od S' H' r' f' e'
    exact ⟨g1, k.rt _ _ _ _ g2 g4 (x'.monoK g3) q⟩
theorem s_lock (h : PE X e (tDE X.K (fun _ _ _ _ => False) we)) : PE X e (tDE X.K W fun ρ S Q _ => ∃ a o z, S a = some o ∧ o.lk = some z ∧ we ρ (sup S a z) (fun d S1 => S1 a = some z ∧ Q d (sup S1 a o)) X0) := (pe_lock h).imp fun σ H Q ⟨ρ, S, Q', X', r, rr, ⟨a, o, z, e, hz, hw⟩, kq, kx⟩ => by
  obtain ⟨u, h1, h2, h3, h4⟩ := rs_lock r e hz
  refine ⟨a, u, h1, h2, fun od => ?_⟩
  obtain ⟨r1, f1⟩ := h3 od
  refine ⟨ρ, _, _, X0, r1, rr.mono f1, hw, fun v H' d S' r' f' x' ⟨e', q⟩ => ?_, fun _ _ _ _ _ _ _ _ q => q.elim⟩
  obtain ⟨g1, g2, g3, g4⟩ := h4 od S' H' r' f' e'
  exact ⟨g1, kq _ _ _ _ g2 g4 (x'.monoK g3) q⟩
theorem i_items {elts : List Expr} {kk : Nat} {tpos : Pos} (he : PE X e (tDE X.K W we)) (hb : attributeBase e "items" X.env (eval e X.env) = eval e X.env) (hl : (apos.endLine == cpos.line) = true) :
    PI X (.Tuple elts kk tpos) (.Call (.Attribute e "items" apos) [] [] cpos) (tDI X.K W fun ρ S Q Y => we ρ S (fun d S1 => itemsI d S1 Q) Y) := (pi_items he hb hl).imp fun σ H R ⟨ρ, S, Q', X', r, rr, hw, k, kx⟩ =>
  ⟨ρ, S, _, X', r, rr, hw, fun v H1 d S1 r1 f1 x1 q1 => by
    cases d with
    | ref a =>
      cases x1
      obtain ⟨kd, e1, q1⟩ := q1
      obtain ⟨od, kv, h1, h2⟩ := rs_zk r1 e1
      refine ⟨a, od, kv, rfl, h1, k _ H1 _ _ S1 r1 f1 (fun S2 H2 r2 f2 _ i => ?_) q1⟩
      have hH := f2.frz _ _ _ h1
      have hl := kvd_len h2
      refine ⟨fun d e => ?_, fun h => ⟨hH, by rw [List.length_map] at h; omega⟩⟩
      have hi : i < kd.length := by
        have := (List.getElem?_eq_some_iff.mp e).1
        rw [List.length_map] at this
        exact this
      refine ⟨⟨hH, by omega⟩, fun x H' y => ?_⟩
      obtain ⟨T, key, v, e2, rfl, hT, rfl⟩ := y
      rw [List.getElem?_map, List.getElem?_eq_getElem hi] at e
      cases e
      have pr := Paired.get? h2 (List.getElem?_eq_getElem hi) e2
      have e5 : kd[i].1 = key := pr.1
      show Rs X.K S2 _ ∧ Fr S2 H2 S2 _ ∧ Dv X.K S2 _ (.ref T) (.tup [keyD kd[i].1, kd[i].2])
      rw [e5]
      exact ⟨rs_new r2 hT, fr_new hT, .tup (r2.free hT) upd_same (.cons (keyD_dv key) (.cons ((pr.2.mono f2).mono (fr_new hT)) .nil))⟩
    | _ => exact (show False from q1).elim, kx⟩
end
section
variable {X : Cx} {W : WX} {c : Cfg} {pos p apos pos' tpos cpos : Pos} {o e i a b e3 : Expr} {es : List Expr} {wo we wi wa wb w3 : WE} {ws : WA} {f m x y z : Str} {k : Nat}
theorem st_par2 {ii jj : Nat} {px py pt pt2 : Pos} {kt k2 : Nat} (hc : X.calm = true) (hN : X.N.Nodup) (hi : X.N[ii]? = some x) (hj : X.N[jj]? = some y) (hij : ii ≠ jj) (hx : X.env.scope.names.lookup x = some .local) (hy : X.env.scope.names.lookup y = some .local)
    (ha : PE X a (tDE X.K W wa)) (hb : PE X b (tDE X.K W wb)) (h1 : starEach [a, b] X.env = (false, eval a X.env) :: starEach [b] X.env) (h2 : starEach [b] X.env = (false, eval b X.env) :: starEach [] X.env)
    (hw : swappedStores [.Tuple [.Name x px, .Name y py] kt pt] (.Tuple [a, b] k2 pt2) X.env = pure (some [x, y])) (hs : swapsWithSole [.Tuple [.Name x px, .Name y py] kt pt] (.Tuple [a, b] k2 pt2) pos.line X.env = pure false) :
    PS X (.Assign [.Tuple [.Name x px, .Name y py] kt pt] (.Tuple [a, b] k2 pt2) pos) (tDT X.K W fun Z ρ S => wa ρ S (fun x S1 => wb ρ S1 (fun y S2 => Z.nx ((ρ.set ii (some x)).set jj (some y)) S2) (fun x S' => Z.ex x ρ S')) (fun x S' => Z.ex x ρ S')) :=
  (ps_par hc hN hi hj hij hx hy (pa_cons ha (pa_cons hb pa_nil h2) h1) hw hs).imp fun Z0 σ H h => by
  obtain ⟨ρ, S, Z, r, rr, h, kk⟩ := t_un h
  refine ⟨ρ, S, _, _, r, rr, h, fun v1 H1 d1 S1 r1 f1 x1 q1 => ?_, kk.x rr⟩
  refine ⟨ρ, S1, _, _, r1, rr.mono f1, q1, fun v2 H2 d2 S2 r2 f2 x2 q2 => ?_, (kk.fr f1).x (rr.mono f1)⟩
  exact ⟨v1, v2, rfl, kk.nx _ _ _ _ r2 (f1.trans f2) (((rr.mono (f1.trans f2)).set ii (x1.mono f2)).set jj x2) q2⟩
theorem st_par3 {ii jj ll : Nat} {px py pz pt pt2 : Pos} {kt k2 : Nat} (hc : X.calm = true) (hN : X.N.Nodup) (hi : X.N[ii]? = some x) (hj : X.N[jj]? = some y) (hl : X.N[ll]? = some z) (hij : ii ≠ jj) (hil : ii ≠ ll) (hjl : jj ≠ ll) (hx : X.env.scope.names.lookup x = some .local) (hy : X.env.scope.names.lookup y = some .local) (hz : X.env.scope.names.lookup z = some .local)
    (ha : PE X a (tDE X.K W wa)) (hb : PE X b (tDE X.K W wb)) (he3 : PE X e3 (tDE X.K W w3)) (h1 : starEach [a, b, e3] X.env = (false, eval a X.env) :: starEach [b, e3] X.env) (h2 : starEach [b, e3] X.env = (false, eval b X.env) :: starEach [e3] X.env) (h3 : starEach [e3] X.env = (false, eval e3 X.env) :: starEach [] X.env)
    (hw : swappedStores [.Tuple [.Name x px, .Name y py, .Name z pz] kt pt] (.Tuple [a, b, e3] k2 pt2) X.env = pure (some [x, y, z])) (hs : swapsWithSole [.Tuple [.Name x px, .Name y py, .Name z pz] kt pt] (.Tuple [a, b, e3] k2 pt2) pos.line X.env = pure false) :
    PS X (.Assign [.Tuple [.Name x px, .Name y py, .Name z pz] kt pt] (.Tuple [a, b, e3] k2 pt2) pos) (tDT X.K W fun Z ρ S => wa ρ S (fun x S1 => wb ρ S1 (fun y S2 => w3 ρ S2 (fun z S3 => Z.nx (((ρ.set ii (some x)).set jj (some y)).set ll (some z)) S3) (fun x S' => Z.ex x ρ S')) (fun x S' => Z.ex x ρ S')) (fun x S' => Z.ex x ρ S')) :=
  (ps_par3 hc hN hi hj hl hij hil hjl hx hy hz (pa_cons ha (pa_cons hb (pa_cons he3 pa_nil h3) h2) h1) hw hs).imp fun Z0 σ H h => by
  obtain ⟨ρ, S, Z, r, rr, h, kk⟩ := t_un h
  refine ⟨ρ, S, _, _, r, rr, h, fun v1 H1 d1 S1 r1 f1 x1 q1 => ?_, kk.x rr⟩
  refine ⟨ρ, S1, _, _, r1, rr.mono f1, q1, fun v2 H2 d2 S2 r2 f2 x2 q2 => ?_, (kk.fr f1).x (rr.mono f1)⟩
  refine ⟨ρ, S2, _, _, r2, rr.mono (f1.trans f2), q2, fun v3 H3 d3 S3 r3 f3 x3 q3 => ?_, (kk.fr (f1.trans f2)).x (rr.mono (f1.trans f2))⟩
  have fa := f1.trans (f2.trans f3)
  exact ⟨v1, v2, v3, rfl, kk.nx _ _ _ _ r3 fa ((((rr.mono fa).set ii (x1.mono (f2.trans f3))).set jj (x2.mono f3)).set ll x3) q3⟩
theorem st_del (ho : PE X o (tDE X.K W wo)) (hi : PE X i (tDE X.K W wi)) :
    PS X (.Delete [.Subscript o i tpos] pos) (tDT X.K W fun Z ρ S => wo ρ S (fun x S1 => wi ρ S1 (fun y S2 => ∃ a kvs k v, x = .ref a ∧ S2 a = some (.dK kvs) ∧ y.key = some k ∧ valD kvs k = some v ∧ Z.nx ρ (sup S2 a (.dK (dropD kvs k)))) (fun x S' => Z.ex x ρ S')) (fun x S' => Z.ex x ρ S')) := (ps_ddel ho hi).imp fun Z0 σ H h => by
  obtain ⟨ρ, S, Z, r, rr, h, kk⟩ := t_un h
  refine ⟨ρ, S, _, _, r, rr, h, fun v1 H1 d1 S1 r1 f1 x1 q1 => ?_, kk.x rr⟩
  refine ⟨ρ, S1, _, _, r1, rr.mono f1, q1, fun v2 H2 d2 S2 r2 f2 x2 ⟨a, kvs, key, v, e1, e2, e3, e4, q⟩ => ?_, (kk.fr f1).x (rr.mono f1)⟩
  subst e1
  cases x1
  obtain ⟨kv, h1, h2⟩ := rs_dk r2 e2
  have ov := od_val h2 key
  rw [e4] at ov
  refine ⟨a, kv, key, rfl, h1, key_V x2 e3, by rw [ov.same]; rfl, ?_⟩
  have fa := f1.trans (f2.trans (fr_mut (m := .dK (dropD kvs key)) (o := .dK (dropK kv key)) r2 e2))
  exact kk.nx _ _ _ _ (rs_mut (m := .dK (dropD kvs key)) (o := .dK (dropK kv key)) r2 e2 (show KvD X.K _ _ (dropD kvs key) (dropK kv key) from KvD.mono (fr_mut r2 e2) (kvd_drop h2 key))) fa (rr.mono fa) q
/-! o[i] op= e -/
theorem g_ix (hu : X.A.units + 1 < cLine) : PGet X (fun x y H Q => rO X.K (two augIx) [x, y] H Q) := by
  intro pins s σ H x y v u Q I rx ry q
  obtain ⟨ds, S, Q', r, da, hg, k⟩ := q
  cases da with
  | cons h1 t1 =>
    cases t1 with
    | cons h2 t2 =>
      cases t2
      rename_i d e
      cases d with
      | ref a =>
        cases h1
        cases (show v = Value.ref a from rx)
        rcases (show ixR S a e fun x => Q' x S from hg) with ⟨xs, i, x', e1, e2, e3, e4, q⟩ | ⟨x', g, q⟩
        · subst e2
          cases h2
          obtain ⟨t, rfl⟩ := ry
          obtain ⟨vs, q1, q2⟩ := rs_lst r e1
          obtain ⟨w', e5, e6⟩ := atI_D q2 e4
          obtain ⟨its, rv, pl, hz⟩ := I.list (.of q1)
          obtain ⟨j, g1, g2, g3, g4, g5⟩ := atI_get e5
          obtain ⟨w, ew, rw'⟩ := rv.get g2
          have hl := rv.length
          have hn := line63
          have hj : i.toNat = j := by
            rw [seqIndex_of e3 g5] at g1
            exact Option.some.inj g1
          exact wpAny_getItem_list pl.isList e3 (by omega) (by rw [hj]; simpa using ew) ⟨w', H, I, rw', end_now r e6 q k⟩
        · obtain ⟨p, g1, g2⟩ := dget_ok r h2 g
          cases p with
          | none => exact g2.elim
          | some w' => exact d_getItem hu I g1 ry fun w'' s3 I3 rw' => ⟨w', H, I3, rw', end_now r g2 q k⟩
      | _ => exact (show False from hg).elim
theorem st_saug (pp : B2) (hu : X.A.units + 65 < cLine) (ho : PE X o (tDE X.K W wo)) (hi : PE X i (tDE X.K W wi)) (he : PE X e (tDE X.K W we)) (ha : ∀ ov iv new, augStore i ov iv new = (do holding [new, ov, iv] (setItem ov iv new); release [new, ov, iv] []; pure .next)) :
    PS X (.AugAssign (.Subscript o i tpos) pp.op e pos) (tDT X.K W fun Z ρ S => wo ρ S (fun x S1 => wi ρ S1 (fun k S2 => augIx x k S2 fun d S3 => we ρ S3 (fun y S4 => augW pp d y S4 fun z S5 => setW x k z S5 fun S6 => Z.nx ρ S6) (fun x S' => Z.ex x ρ S')) (fun x S' => Z.ex x ρ S')) (fun x S' => Z.ex x ρ S')) :=
  (ps_augS ho hi (g_ix (by omega)) he (ip_aug pp) (o_set (by omega)) ha).imp fun Z0 σ H h => by
  obtain ⟨ρ, S, Z, r, rr, h, kk⟩ := t_un h
  refine ⟨ρ, S, _, _, r, rr, h, fun v1 H1 d1 S1 r1 f1 x1 q1 => ?_, kk.x rr⟩
  refine ⟨ρ, S1, _, _, r1, rr.mono f1, q1, fun v2 H2 d2 S2 r2 f2 x2 q2 => ?_, (kk.fr f1).x (rr.mono f1)⟩
  refine ⟨[d1, d2], S2, _, r2, da2 f2 x1 x2, q2, fun v3 H3 d3 S3 r3 f3 x3 q3 => ?_⟩
  have f123 := f1.trans (f2.trans f3)
  refine ⟨ρ, S3, _, _, r3, rr.mono f123, q3, fun v4 H4 d4 S4 r4 f4 x4 q4 => ?_, (kk.fr f123).x (rr.mono f123)⟩
  refine ⟨[d3, d4], S4, _, r4, da2 f4 x3 x4, q4, fun v5 H5 d5 S5 r5 f5 x5 q5 => ?_⟩
  have f25 := f2.trans (f3.trans (f4.trans f5))
  refine ⟨d1, d2, d5, S5, _, r5, x1.mono f25, x2.mono (f3.trans (f4.trans f5)), x5, q5, fun H6 S6 r6 f6 q6 => ?_⟩
  have fa := f1.trans (f25.trans f6)
  exact kk.nx _ _ _ _ r6 fa (rr.mono fa) q6
/-! raise X() -/
theorem v_rais {C : Addr} {x : Str} (T : ExcAt X.K X.mg (x, C)) (hg : Gl X x) (hd : (x == ("__debug__" : Str)) = false) : PMk X (.Call (.Name x p) [] [] pos) (fun _ H Q => Q (.ref C) none H) := by
  intro pins s σ H Q I h
  refine wpAny_Call_Name_kw (ld_glob I hg T.g (PySem.W.callWith_K0 I.kIn T.k ?_) hd)
  obtain ⟨bm, N, nm, qn, bs, hdct, sn, sub, ab, col, dd, k0, k1, k2, k3, k5, mN, hC, hN, hni, TT⟩ := exc_obj I.kIn T.x
  exact wpAny_call_exc_subT PySem.F.excBase_ValueError TT hC hN hni (fun h' e hm => mk_of I hm (raises_own T.b T.t) h (I.hok.gone hm.new)) (Nat.zero_le _)
theorem st_rais {C : Addr} {j : Nat} {x : Str} (hj : c.excs[j]? = some (x, C)) (hc : X.calm = true) (tk : Takes X W) (T : ExcAt X.K X.mg (x, C)) (hg : Gl X x) (hd : (x == ("__debug__" : Str)) = false) :
    PS X (.Raise (some (.Call (.Name x p) [] [] pos')) none pos) (tDT X.K W fun Z ρ S => ∃ p, c.excs[j]? = some p ∧ Z.ex ⟨p.2, none⟩ ρ S) := (ps_raise hc tk (v_rais T hg hd)).imp fun Z0 σ H h => by
  obtain ⟨ρ, S, Z, r, rr, ⟨p, e, q⟩, kk⟩ := t_un h
  rw [hj] at e
  cases e
  exact kk.ex _ _ _ _ _ _ _ r (Fr.refl S H) rr ⟨rfl, rfl⟩ q
/-! ### displays of dicts -/
theorem s_dic0 : PE X (.Dict [] [] pos) (tDE X.K W fun _ S Q _ => NewD S Q) := ⟨fun pins s σ H Q I h => by
  obtain ⟨ρ, S, Q', X', r, rr, hw, kq, kx⟩ := h
  rcases hw with hw | hw
  · exact pe_dnewK.run pins s σ H Q I fun p hp => kq _ _ _ _ (rs_live (m := .dK []) (o := .dK []) r hp (show KvD X.K _ _ _ _ from .nil)) (fr_live hp) (.ref p) (hw p (r.free hp))
  · exact pe_dnewT.run pins s σ H Q I fun p hp => kq _ _ _ _ (rs_live (m := .dT []) (o := .dT []) r hp (show KvD X.K _ _ _ _ from .nil)) (fr_live hp) (.ref p) (hw p (r.free hp))⟩
def PrR (K : PySem.W.Frag) (S : Hs) (H : Hp) : List (D × D) → List (V × V) → Prop := Paired fun p q => Dv K S H q.1 p.1 ∧ Dv K S H q.2 p.2
theorem PrR.mono {K : PySem.W.Frag} {S S' : Hs} {H H' : Hp} (f : Fr S H S' H') {ps : List (D × D)} {qs : List (V × V)} (h : PrR K S H ps qs) : PrR K S' H' ps qs := Paired.mapP h fun _ _ z => ⟨z.1.mono f, z.2.mono f⟩
abbrev WPr := Ro → Hs → (List (D × D) → Hs → Prop) → XQ → Prop
def PrOk (K : PySem.W.Frag) (W : WX) (w : WPr) (trs : List (TE × TE)) : Prop := ∀ (σ : L2.St) (H : Hp) (Q : List (V × V) → Hp → Prop) (ρ : Ro) (S : Hs) (Q' : List (D × D) → Hs → Prop) (X' : XQ), Rs K S H → Rr K S H σ ρ → w ρ S Q' X' →
  (∀ qs H' ps S', Rs K S' H' → Fr S H S' H' → PrR K S' H' ps qs → Q' ps S' → Q qs H') → EndX K S H X' (fun c d H' => W c d σ H') → tPairs trs σ H Q
theorem pr_nil {K : PySem.W.Frag} {c : Cfg} : PrOk K W (wPr c .nil) [] := fun σ H Q ρ S Q' X' r rr hw k kx => k [] H [] S r (Fr.refl S H) .nil hw
theorem pr_cons {K : PySem.W.Frag} {c : Cfg} {a b : E} {q : Es} {trs : List (TE × TE)} (h : PrOk K W (wPr c q) trs) : PrOk K W (wPr c (.cons a (.cons b q))) ((tDE K W (wE c a), tDE K W (wE c b)) :: trs) := fun σ H Q ρ S Q' X' r rr hw k kx => by
  refine ⟨ρ, S, _, X', r, rr, hw, fun v1 H1 d1 S1 r1 f1 x1 q1 => ?_, kx⟩
  refine ⟨ρ, S1, _, X', r1, rr.mono f1, q1, fun v2 H2 d2 S2 r2 f2 x2 q2 => ?_, kx.fr f1⟩
  exact h σ H2 _ ρ S2 _ X' r2 (rr.mono (f1.trans f2)) q2 (fun qs H' ps S' r' f' x' q' => k _ _ _ _ r' (f1.trans (f2.trans f')) (.cons ⟨x1.mono (f2.trans f'), x2.mono f'⟩ x') q') (kx.fr (f1.trans f2))
theorem prR_kv {K : PySem.W.Frag} {S : Hs} {H : Hp} : ∀ {kd : List (Key × D)} {qs : List (V × V)}, PrR K S H (kd.map fun p => (keyD p.1, p.2)) qs → ∃ kv : List (Key × V), qs = kv.map (fun p => (kV p.1, p.2)) ∧ KvD K S H kd kv
  | [], _, h => by
    unfold PrR at h
    cases h
    exact ⟨[], rfl, .nil⟩
  | (key, d) :: t, _, h => by
    unfold PrR at h
    rw [List.map_cons] at h
    cases h with
    | @cons _ q _ qs hd tl =>
      obtain ⟨kv, e1, e2⟩ := prR_kv (kd := t) tl
      obtain ⟨v1, v2⟩ := q
      refine ⟨(key, v2) :: kv, ?_, .cons ⟨rfl, hd.2⟩ e2⟩
      rw [List.map_cons, ← e1]
      have e3 : v1 = kV key := key_V hd.1 (by cases key <;> rfl)
      rw [e3]
theorem s_dic {c : Cfg} {kvs : Es} {ks : List (Option Expr)} {vs : List Expr} {trs : List (TE × TE)} (h : PPs X pos ks vs trs) (hall : ks.all (·.isSome) = true) (hl : ks.length = vs.length) (h0 : ks ≠ []) (h15 : ks.length ≤ 15) (hp : PrOk X.K W (wPr c kvs) trs) :
    PE X (.Dict ks vs pos) (tDE X.K W fun ρ S Q Y => ∀ y, S y = none → wPr c kvs ρ (sup S y (.dK [])) (fun ps S2 => S2 y = some (.dK []) ∧ ∃ kvs : List (Key × D), ps = kvs.map (fun p => (keyD p.1, p.2)) ∧ kvs.length ≤ 15 ∧ Q (.ref y) (sup S2 y (.dK (mergeD [] kvs)))) Y) :=
  (pe_disp h hall hl h0 h15).imp fun σ H Q ⟨ρ, S, Q', X', r, rr, hw, kq, kx⟩ => fun y hy => by
    have f1 : Fr S H (sup S y (.dK [])) (upd H y (.dK [])) := fr_live hy
    have r1 : Rs X.K (sup S y (.dK [])) (upd H y (.dK [])) := rs_live (m := .dK []) (o := .dK []) r hy (show KvD X.K _ _ _ _ from .nil)
    refine hp σ _ _ ρ _ _ X' r1 (rr.mono f1) (hw y (r.free hy)) (fun qs H2 ps S2 r2 f2 x2 ⟨e1, kd, e2, e3, q⟩ => ?_) (kx.fr f1)
    subst e2
    obtain ⟨kv, e4, e5⟩ := prR_kv x2
    obtain ⟨kv0, e6, e7⟩ := rs_dk r2 e1
    have e8 : kv0 = [] := by unfold KvD at e7; cases e7; rfl
    subst e8
    refine ⟨e6, kv, e4, by rw [← kvd_len e5]; exact e3, ?_⟩
    have f3 := fr_mut (m := .dK (mergeD [] kd)) (o := .dK (mergeK [] kv)) r2 e1
    exact kq _ _ _ _ (rs_mut (m := .dK (mergeD [] kd)) (o := .dK (mergeK [] kv)) r2 e1 (show KvD X.K _ _ (mergeD [] kd) (mergeK [] kv) from KvD.mono f3 (kvd_merge e5 .nil))) (f1.trans (f2.trans f3)) (.ref y) q
end
/-! ### dict comprehensions -/
section
variable {X : Cx} {W : WX} {pos p : Pos} {a b e : Expr} {wa wb we : WE} {es : List Expr} {ws : WA}
theorem putD_len {κ : Type} [DecidableEq κ] {kvs : List (κ × D)} {k : κ} {v : D} : (putD kvs k v).length ≤ kvs.length + 1 := by
  unfold putD
  split <;> simp
def wDComp (vs : List Nat) (wi : WI) (wg : WG) (wc : WB) (wk wv : WE) : WE := fun ρ S Q X => wi ρ S (dcompB vs wg wc wk wv ρ Q) X
theorem dcomp_t {σ : L2.St} {H : Hp} {Q : VK} {ix vs : List Nat} {wi : WI} {wg : WG} {wc : WB} {wk wv : WE} (hix : ∀ i ∈ ix, i ∈ vs) (h : tDE X.K W (wDComp vs wi wg wc wk wv) σ H Q) :
    tDc (tDI X.K W wi) (tDG X.K W00 ix wg) (tDB X.K W00 wc) (tDE X.K W00 wk) (tDE X.K W00 wv) vs σ H Q := by
  obtain ⟨ρ, S, Q', X', r, rr, hw, k, kx⟩ := h
  refine ⟨ρ, S, _, X', r, rr, hw, fun J H1 ds Pr S1 r1 f1 jok q1 => ?_, kx⟩
  obtain ⟨hsz, q1⟩ := q1
  intro L hL
  obtain ⟨Wv, w0, turn, done⟩ := q1 L (r1.free hL)
  refine ⟨fun i m H2 => m = ds.length - i ∧ i ≤ ds.length ∧ ∃ acc S2, acc.length ≤ i ∧ Rs X.K S2 H2 ∧ Fr S1 H1 S2 H2 ∧ Wv i acc S2, ⟨ds.length, by simp, Nat.zero_le _, [], sup S1 L (.dK []), Nat.zero_le _, rs_live (m := .dK []) (o := .dK []) r1 hL (show KvD X.K _ _ _ _ from .nil), fr_live hL, w0⟩, ?_⟩
  rintro i m H2 ⟨rfl, hi, acc, S2, hal, r2, f2, w2⟩
  by_cases hlt : i < ds.length
  · obtain ⟨e2, p2, q2⟩ := turn i ds[i] acc S2 (by simp [hlt]) hal w2
    obtain ⟨go, yld⟩ := (jok S2 H2 r2 f2 p2 i).1 ds[i] (by simp [hlt])
    refine .inr ⟨go, fun H' => ∃ acc' S', acc'.length ≤ i + 1 ∧ Rs X.K S' H' ∧ Fr S1 H1 S' H' ∧ Wv (i + 1) acc' S', fun H' ⟨acc', S', n1, n2, n3, n4⟩ => ⟨ds.length - (i + 1), by omega, rfl, hlt, acc', S', n1, n2, n3, n4⟩, fun x H3 y => ?_⟩
    obtain ⟨r3, f3, x3⟩ := yld x H3 y
    have rr3 : Rr X.K S2 H3 (wipe σ vs) (wipeD ρ vs) := (rr.mono (f1.trans (f2.trans f3))).wipe vs
    refine ⟨ds[i], wipeD ρ vs, S2, _, X0, r3, rr3, x3, q2, fun σ4 H4 ρ4 S4 r4 f4 rr4 z4 q4 => ?_, fun _ _ _ _ _ _ _ _ _ _ q => q.elim⟩
    refine ⟨(z4 vs hix).trans (wipe_wipe fun v hv => hv), ρ4, S4, _, X0, r4, rr4, q4, fun b H5 S5 r5 f5 q5 => ?_, EndX.X0⟩
    have f25 : Fr S2 H2 S5 H5 := f3.trans (f4.trans f5)
    cases b with
    | false => exact iteF ⟨acc, S5, by omega, r5, f2.trans f25, q5⟩
    | true =>
      refine iteT ⟨ρ4, S5, _, X0, r5, rr4.mono f5, q5, fun yv H6 yd S6 r6 f6 x6 q6 => ?_, EndX.X0⟩
      refine ⟨ρ4, S6, _, X0, r6, (rr4.mono f5).mono f6, q6, fun zv H7 zd S7 r7 f7 x7 ⟨e7, key, ek, q7⟩ => ?_, EndX.X0⟩
      obtain ⟨kacc, h7, d7⟩ := rs_dk r7 e7
      have fm := fr_mut (m := .dK (putD acc key zd)) (o := .dK (putK kacc key zv)) r7 e7
      refine ⟨kacc, key, key_V (x6.mono f7) ek, h7, by rw [← kvd_len d7]; omega, putD acc key zd, _, by have := putD_len (kvs := acc) (k := key) (v := zd); omega, ?_, f2.trans (f25.trans (f6.trans (f7.trans fm))), q7⟩
      exact rs_mut (m := .dK (putD acc key zd)) (o := .dK (putK kacc key zv)) r7 e7 (show KvD X.K _ _ (putD acc key zd) (putK kacc key zv) from KvD.mono fm (kvd_put d7 key x7))
  · have e : i = ds.length := by omega
    subst e
    obtain ⟨e2, p2, q2⟩ := done acc S2 hal w2
    exact .inl ⟨(jok S2 H2 r2 f2 p2 ds.length).2 (Nat.le_refl _), k _ _ _ _ r2 (f1.trans f2) (.ref L) q2⟩
theorem s_dcomp {own : List (Str × Nat)} {ix : List Nat} {wi : WI} {wg : WG} {wc : WB} {wk wv : WE} {kx vx tg iter : Expr} {ifs : List Expr} {scope : Scope} (hc : X.calm = true) (hN : X.N.Nodup) (hi : PI X tg iter (tDI X.K W wi)) (ok : BlkOk X.N X.env.scope scope own)
    (hix : ∀ i ∈ ix, i ∈ own.map (·.2))
    (hg : ∀ (s : Shared) (H : Hp) (C : Addr) (cl : List (Str × Addr)) (fp : List Addr), PG (X.blk s H scope (compEnvC scope cl C X.env) fp) tg (tDG X.K W00 ix wg)) (ht : ∀ (s : Shared) (H : Hp) (C : Addr) (cl : List (Str × Addr)) (fp : List Addr), PTs (X.blk s H scope (compEnvC scope cl C X.env) fp) ifs (tDB X.K W00 wc))
    (hk : ∀ (s : Shared) (H : Hp) (C : Addr) (cl : List (Str × Addr)) (fp : List Addr), PE (X.blk s H scope (compEnvC scope cl C X.env) fp) kx (tDE X.K W00 wk))
    (he : ∀ (s : Shared) (H : Hp) (C : Addr) (cl : List (Str × Addr)) (fp : List Addr), PE (X.blk s H scope (compEnvC scope cl C X.env) fp) vx (tDE X.K W00 wv)) (hs : ∀ x, foldedSetIterable iter X.env x = pure x) :
    PE X (.DictComp kx vx [⟨tg, iter, ifs, 0⟩] scope pos) (tDE X.K W (wDComp (own.map (·.2)) wi wg wc wk wv)) := (pe_dc hc hN hi ok hg ht hk he hs).imp fun σ H Q h => dcomp_t hix h
end
end Dz
namespace HU
open PySem PySem.Spec PyProof.Rows L2
section
variable {P : Program} {w : World} {A : Around} {E : Value → Shared → Prop} {s : Shared}
/-- the empty set that the class's call lays -/
abbrev bare (w : World) : Obj := { cls := .type "set", dict := none, data := .set #[] 0 (.fresh 0 0 (!w.params.followText "set-order")) }
/-- what the call leaves: a set of the ints at the next place -/
def Left (w : World) (s : Shared) (ns : List Int) (r : Value) (s' : Shared) : Prop := r = .none ∧ ∃ (h : Heap) (tk c : Nat), s' = { s with heap := h, toks := tk } ∧ SetR w h s.heap.objs.size (fun j => decide (j ∈ ns)) c ∧ c ≤ ns.length ∧ ∀ b o, s.heap.get? b = some o → h.get? b = some o
theorem new_at {h : Heap} : (h.push (bare w)).get? h.objs.size = some (bare w) := Heap.get?_push_size _ rfl
set_option maxHeartbeats 8000000 in
/-- set(l) of a list of ints -/
theorem set_of_list {l : Addr} {items : Array Value} {ns : List Int} {Q : Value → Shared → Prop} (hh : A.handled = none) (hl : s.heap.IsList l items) (hit : IntsAre items.toList ns) (hb : ns.length + 1 < scanBound)
    (q : ∀ s', Left w s ns .none s' → Q (.ref s.heap.objs.size) s') : wpAny (model P w) A (call (.type "set") [.ref l]) Q E s := by
  have hlen : items.size = ns.length := (Array.length_toList (xs := items)).symm.trans (IntsAre.length hit)
  obtain ⟨x, y, z⟩ := F.called_set.mro
  have m1 := F.called_set.made
  have m2 := F.called_set.sub
  have m3 := F.called_set.notType
  have m4 := F.called_set.canCreate
  have m5 := F.typeCall_set_1 (.ref l)
  refine wpAny_call (codeAny_of_tree (show wpAny _ _ (callAny (.type "set") _) _ _ _ from ?_))
  refine wpAny_pure ⟨Code.quiet_builtin _ (by decide +kernel), codeAny_builtin F.entry_type_call ?_⟩
  rw [Around.under_plain (weight_type_call_type "set" [.ref l] []) rfl]
  repeat (any_goals (first | assumption | wp_step))
  refine codeAny_mono (code_set_led1 (.ref l) (E := E) (Q₁ := fun v t => v = .ref s.heap.objs.size ∧ t = { s with heap := s.heap.push (bare w) }) ⟨rfl, rfl⟩) fun r t hr => ?_
  cases r with
  | error e => exact hr
  | ok fl =>
    cases fl with
    | ret v =>
      obtain ⟨rfl, rfl⟩ := hr
      have tS : Shared.TypeIs { s with heap := s.heap.push (bare w) } (.ref s.heap.objs.size) "set" := ⟨_, new_at, rfl⟩
      have m6 := F.called_set.init.lookup
      have m7 := F.called_set.init.bind (.ref s.heap.objs.size)
      repeat (any_goals (first | assumption | wp_step))
      refine codeAny_mono (codeAny_call_builtin (R := wants (Left w s ns) E) F.called_set.init.plain F.entry_set_init (check_set_init_1 tS ?_)) fun r2 t2 hr2 => ?_
      · obtain ⟨⟨oc, od, oda, os⟩, e1, e2, k0, e3⟩ := hl
        simp only at e2 e3
        subst e2 e3
        have n1 := F.sub_list_set
        have n2 := F.sub_list_frozenset
        have n3 : (Value.type "list" == Value.type "dict") = false := by decide
        have p1 : (s.heap.push (bare w)).get? l = some { cls := .type "list", dict := od, data := .seq items k0, slots := os } := Heap.get?_push_of_some _ e1
        have p2 : (s.heap.push (bare w)).IsList l items := ⟨_, p1, rfl, k0, rfl⟩
        unfold Builtin.«set.__init__» noKeywords Builtin.Frozenset.updateFrom
        generalize hPI : pyIter = PI
        wp_walk
        subst hPI
        refine wpAny_pyIter_list p2 (wpAny_bind (wpAny_runValue ?_))
        have lt : l < s.heap.objs.size := Heap.lt_size e1
        have sz : (s.heap.push (bare w)).objs.size = s.heap.objs.size + 1 := Heap.size_push ..
        have ne1 : l ≠ (s.heap.push (bare w)).objs.size := sz ▸ Nat.ne_of_lt (Nat.lt_succ_of_lt lt)
        have out : s.heap.objs.size ∉ [(s.heap.push (bare w)).objs.size, l] := by
          rw [sz]
          intro z
          rcases List.mem_cons.mp z with z | z
          · exact Nat.ne_of_lt (Nat.lt_succ_self _) z
          · exact absurd lt (by rw [← List.mem_singleton.mp z]; exact Nat.lt_irrefl _)
        have val : ∀ (i : Nat) (v : Value), items[i]? = some v → ∃ k t, ns[i]? = some k ∧ v = .int k t := fun i v hv => by
          have hi : i < ns.length := hlen ▸ (Array.getElem?_eq_some_iff.mp hv).1
          obtain ⟨t, e⟩ := PyProof.Rows.IntsAre.int_at hit i v (Array.getElem?_toList.trans hv)
          exact ⟨ns[i], t, List.getElem?_eq_getElem hi, by rw [e, List.getD_eq_getElem?_getD, List.getElem?_eq_getElem hi] <;> rfl⟩
        refine set_update_ints ((Walks.list (by simp [hh] : A.in1.in1.in1.handled = none) _ l ne1 items).toS) s.heap.objs.size out ns hlen hb val items.size 0 _ rfl (Nat.zero_le _) ⟨⟨_, Heap.get?_push_size _ rfl, rfl, rfl⟩, p2.push _⟩ ⟨0, Nat.le_refl 0, setR_new_at (Heap.get?_push_of_some _ new_at)⟩ ?_
        rintro ⟨h', g2, d2, tk, o2⟩ c hm hc hS
        cases (show g2 = s.gens from hm.gens)
        cases (show d2 = s.drawn from hm.drawn)
        cases (show o2 = s.os from hm.os)
        refine wpAny_pure (show wpAny _ _ (ret Value.none) _ _ _ from wpAny_pure ⟨rfl, h', tk, c, rfl, hS, hlen ▸ hc, fun b o e => ?_⟩)
        have lb : b < s.heap.objs.size := Heap.lt_size e
        refine hm.heap b o (fun z => ?_) (Heap.get?_push_of_some _ (Heap.get?_push_of_some _ e))
        rcases List.mem_cons.mp z with z | z
        · exact Nat.ne_of_lt lb z
        · have := List.mem_singleton.mp z
          rw [sz] at this
          exact Nat.ne_of_lt (Nat.lt_succ_of_lt lb) this
      · cases r2 with
        | error e => exact hr2
        | ok f2 =>
          cases f2 with
          | ret r =>
            obtain ⟨rfl, hleft⟩ := hr2
            repeat (any_goals (first | assumption | wp_step))
            exact q _ ⟨rfl, hleft⟩
          | _ => exact hr2.elim
    | _ => exact hr.elim
end
end HU
namespace Dz
open PySem PySem.Spec PyProof.Rows L2
section
variable {X : Cx} {W : WX} {c : Cfg} {pos p p2 pos2 : Pos} {e : Expr} {es : List Expr} {ws : WA}
/-- a set of the ints of a list or a tuple -/
def rSetI (K : PySem.W.Frag) (w : World) : List V → Hp → VK → Prop := fun xs H Q => ∃ (l : Addr) (ns : List Int), xs = [.ref l] ∧ (SqL K H l (ns.map V.int) ∨ SqT K H l (ns.map V.int)) ∧ ns.length < 64 ∧
  ∀ p n, H p = none → n ≤ ns.length → Q (.ref p) (upd H p (SetO w p (fun j => decide (j ∈ ns)) n))
theorem c_setI (hc : X.calm = true) : CallR X (.type "set") (rSetI X.K X.w) := by
  intro pins s σ H xs us Q I r h
  obtain ⟨l, ns, rfl, hl, h64, q⟩ := h
  rw [Vals.ref1 r]
  have fin : ∀ s' : Shared, HU.Left X.w s ns .none s' → EP X pins σ Q (.ref s.heap.objs.size) s' := fun s' ⟨_, h, tk, n, e, R, hn, kp⟩ => by
    subst e
    exact ⟨.ref s.heap.objs.size, upd H s.heap.objs.size (SetO X.w s.heap.objs.size (fun j => decide (j ∈ ns)) n), I.laid (t' := tk) kp (Nat.le_refl _) (setO_new R), rfl, q _ n (I.hok.fresh (Nat.le_refl _)) hn⟩
  rcases hl with hl | hl
  · obtain ⟨its, rv, pl, hz⟩ := I.list hl
    exact HU.set_of_list (P := X.prog) (w := X.w) (I.ok.hd hc) pl.isList (by simpa using ints_of_vals rv) (by unfold scanBound; omega) fin
  · obtain ⟨its, rv, pl, hz⟩ := I.tuple hl
    refine call_set_tupI (P := X.prog) (w := X.w) ns (I.ok.hd hc) pl (by simpa using ints_of_vals rv) (by unfold scanBound; omega) fun h' tk n R hn k => ?_
    exact fin _ ⟨rfl, h', tk, n, rfl, R, hn, k⟩
theorem b_set : bootBuiltins "set" = some (.type "set") := by decide +kernel
/-- sorted(set(a)) -/
theorem s_sset {a : Expr} {wa : WE} (hc : X.calm = true) (hg : Gl X "sorted") (hm : X.mg "sorted" = none) (hg2 : Gl X "set") (hm2 : X.mg "set" = none) (ha : PE X a (tDE X.K W wa)) (hs : starEach [a] X.env = (false, eval a X.env) :: starEach [] X.env) :
    PE X (.Call (.Name "sorted" p) [.Call (.Name "set" p2) [a] [] pos2] [] pos) (tDE X.K W fun ρ S Q Y => wa ρ S (fun x S1 => ssetW x S1 Q) Y) := by
  have inner := pe_callTy (p := p2) (pos := pos2) (c_setI hc) hg2 hm2 b_set (pa_cons ha pa_nil hs) (by decide +kernel) (by decide +kernel) hs rfl
  refine (pe_callB (cr_sortedSet hc) hg hm b_sorted (pa_cons inner pa_nil rfl) (by decide +kernel) (by decide +kernel) rfl rfl).imp fun σ H Q ⟨ρ, S, Q', X', r, rr, hw, kq, kx⟩ => ?_
  refine ⟨ρ, S, _, X', r, rr, hw, fun v H1 d S1 r1 f1 x1 ⟨ns, e, hl, q1⟩ => ?_, kx⟩
  obtain ⟨a, vs, rfl, g1, g2⟩ := seqOf_ok r1 x1 e
  have e2 := g2.of_ints
  subst e2
  refine ⟨a, ns, rfl, g1, hl, fun p m hp hm => ⟨p, _, m, rfl, upd_same, by omega, fun ms p' hpw hmem hlen hp' => ?_⟩⟩
  have f2 : Fr S1 H1 S1 (upd H1 p (SetO X.w p (fun j => decide (j ∈ ns)) m)) := fr_new hp
  have r2 : Rs X.K S1 (upd H1 p (SetO X.w p (fun j => decide (j ∈ ns)) m)) := rs_new r1 hp
  exact newL_ok r2 (DvA.ints ms) (q1 ms hpw fun j => by rw [hmem]; simp) (kq.fr (f1.trans f2)) p' hp'
theorem rgV_D {S : Hs} {H : Hp} {K : PySem.W.Frag} (i j : Int) : DvA K S H (rgV i j) (rngD i (j - i).toNat) := by
  unfold rgV rngD
  generalize (j - i).toNat = n
  induction n with
  | zero => exact .nil
  | succ n ih =>
    rw [List.range_succ, List.map_append, List.map_append]
    exact ih.append (.cons (.int _) .nil)
/-- list(range(a)), list(range(a, b)) -/
theorem s_lrng1 {a : Expr} {wa : WE} (hc : X.calm = true) (hg : Gl X "list") (hm : X.mg "list" = none) (hg2 : Gl X "range") (hm2 : X.mg "range" = none) (ha : PE X a (tDE X.K W wa)) (hs : starEach [a] X.env = (false, eval a X.env) :: starEach [] X.env) :
    PE X (.Call (.Name "list" p) [.Call (.Name "range" p2) [a] [] pos2] [] pos) (tDE X.K W fun ρ S Q Y => wa ρ S (fun x S1 => lrngW [x] S1 Q) Y) := by
  refine (pe_listRg hc hg hm (prg_1 (p := p2) (pos := pos2) hg2 hm2 ha hs) rfl).imp fun σ H Q ⟨ρ, S, Q', X', r, rr, hw, kq, kx⟩ => ?_
  refine ⟨ρ, S, _, X', r, rr, hw, fun v H1 d S1 r1 f1 x1 q1 => ?_, kx⟩
  cases d with
  | int j =>
    cases x1
    obtain ⟨ok, q⟩ := q1
    have e : rngD 0 j.toNat = rngD 0 (j - 0).toNat := by rw [Int.sub_zero]
    rw [e] at q
    exact ⟨j, rfl, ok, newL_ok r1 (rgV_D 0 j) q (kq.fr f1)⟩
  | _ => exact (show False from q1).elim
theorem s_lrng2 {a b : Expr} {wa wb : WE} (hc : X.calm = true) (hg : Gl X "list") (hm : X.mg "list" = none) (hg2 : Gl X "range") (hm2 : X.mg "range" = none) (ha : PE X a (tDE X.K W wa)) (hb : PE X b (tDE X.K W wb)) (hs : starEach [a, b] X.env = (false, eval a X.env) :: starEach [b] X.env) (hs2 : starEach [b] X.env = (false, eval b X.env) :: starEach [] X.env) :
    PE X (.Call (.Name "list" p) [.Call (.Name "range" p2) [a, b] [] pos2] [] pos) (tDE X.K W fun ρ S Q Y => wa ρ S (fun x S1 => wb ρ S1 (fun y S2 => lrngW [x, y] S2 Q) Y) Y) := by
  refine (pe_listRg hc hg hm (prg_2 (p := p2) (pos := pos2) hg2 hm2 ha hb hs hs2 (by rw [hs2]; rfl)) rfl).imp fun σ H Q ⟨ρ, S, Q', X', r, rr, hw, kq, kx⟩ => ?_
  refine ⟨ρ, S, _, X', r, rr, hw, fun v H1 d S1 r1 f1 x1 q1 => ⟨ρ, S1, _, X', r1, rr.mono f1, q1, fun v2 H2 d2 S2 r2 f2 x2 q2 => ?_, kx.fr f1⟩, kx⟩
  cases d with
  | int i =>
    cases d2 with
    | int j =>
      cases x1
      cases x2
      obtain ⟨ok, q⟩ := q2
      exact ⟨i, j, rfl, rfl, ok, newL_ok r2 (rgV_D i j) q (kq.fr (f1.trans f2))⟩
    | _ => exact (show False from q2).elim
  | _ => exact (show False by cases d2 <;> exact q2).elim
/-- isinstance(a, C) of an instance of C -/
theorem s_isc {a : Expr} {wa : WE} {c : Cfg} {i : Nat} {y : Str} {C : Addr} {py : Pos} (hi : c.clss[i]? = some (y, C)) (hg : Gl X "isinstance") (hm : X.mg "isinstance" = none) (hgy : Gl X y) (hmy : X.mg y = some (.ref C)) (hc : C8.InsC X.K C) (ha : PE X a (tDE X.K W wa)) (hd : (y == ("__debug__" : Str)) = false)
    (hs : starEach [a, .Name y py] X.env = (false, eval a X.env) :: starEach [.Name y py] X.env) :
    PE X (.Call (.Name "isinstance" p) [a, .Name y py] [] pos) (tDE X.K W fun ρ S Q Y => wa ρ S (fun x S1 => iscW c i x S1 Q) Y) := by
  refine (pe_callB (C8.call_isC hc) hg hm b_isi (pa_cons ha (pa_cons (pe_glob (pos := py) (v := .ref C) hgy hmy rfl hd) pa_nil rfl) hs) (by decide +kernel) (by decide +kernel) hs rfl).imp fun σ H Q ⟨ρ, S, Q', X', r, rr, hw, kq, kx⟩ => ?_
  refine ⟨ρ, S, _, X', r, rr, hw, fun v H1 d S1 r1 f1 x1 q1 => ?_, kx⟩
  cases d with
  | ref b =>
    cases x1
    obtain ⟨p, fs, e, e1, q⟩ := q1
    rw [hi] at e
    cases e
    obtain ⟨dx, fv, g1, g2⟩ := rs_ins r1 e1
    exact ⟨b, dx, fv, rfl, g1, end_now r1 (.bl true) q (kq.fr f1)⟩
  | _ => exact (show False from q1).elim
end
end Dz
namespace Dz
open PySem PySem.Spec PyProof.Rows L2
/-! ### what is asked of a caught exception -/
section
variable {X : Cx} {W : WX} {c : Cfg}
def exvX (X : Cx) (c : Cfg) : Prop := ∀ (i : Nat) (a : Addr) (x : XD), c.exv = some (i, a, x) → ∃ (Y : Cx) (oe : Obj) (pn : List (Addr × Obj)), X = Y.suite a ((a, oe) :: pn) ∧ Zc (.ref x.C) x.p oe ∧ ∃ vs, oe.data = .fields vs
theorem s_isE {i k : Nat} {y z : Str} {p py pz pos : Pos} {q : Str × Value} (hX : exvX X c) (hg : Gl X "isinstance") (hm : X.mg "isinstance" = none) (hN : X.N[i]? = some y) (hv : Vis X.env.scope y) (hd : (y == ("__debug__" : Str)) = false) (hcd : (y == ("__classdict__" : Str)) = false)
    (hq : c.exn[k]? = some q) (e : q.1 = z) (hz : Gl X z) (hzd : (z == ("__debug__" : Str)) = false) (hzn : z ≠ "__name__") (hn : (∃ C, q.2 = .ref C ∧ X.mg q.1 = some (.ref C)) ∨ ∃ t, q.2 = .type t ∧ X.mg q.1 = none ∧ bootBuiltins q.1 = some (.type t))
    (hi : ∀ p ∈ c.exis, ExcC X.K p.1 ∧ ∃ q, c.exn[p.2.1]? = some q ∧ PySem.W.kitOne X.K (.ref p.1) q.2 = some p.2.2) :
    PE X (.Call (.Name "isinstance" p) [.Name y py, .Name z pz] [] pos) (tDE X.K W (wE c (.isE i k))) := by
  subst e
  refine ⟨fun pins s σ H Q I ⟨ρ, S, Q', X', r, rr, hw, kq, kx⟩ => ?_⟩
  unfold wE at hw
  obtain ⟨a, C, b, h1, h2, h3, h4⟩ := hw
  obtain ⟨Y, oe, pn, rfl, hzc, hf⟩ := hX _ _ _ h1
  obtain ⟨hE, q2, e1, e2⟩ := hi _ h3
  rw [hq] at e1
  cases e1
  obtain ⟨v, v1, v2⟩ := rr.2 _ _ h2
  cases v2
  rcases hn with ⟨C2, c1, c2⟩ | ⟨t, c1, c2, c3⟩
  · exact (pe_callB (call_isE hE hzc hf) hg hm b_isi (pa_cons (pe_var (pos := py) hN hv hd hcd) (pa_cons (pe_glob (pos := pz) (v := .ref C2) hz c2 rfl hzd) pa_nil)) (by decide +kernel) (by decide +kernel)).run pins s σ H Q I
      ⟨.ref a, v1, .ref C2, q.2, b, rfl, fun u hu => by rw [c1]; exact hu, e2, end_now r (.bl b) h4 kq⟩
  · exact (pe_callB (call_isE hE hzc hf) hg hm b_isi (pa_cons (pe_var (pos := py) hN hv hd hcd) (pa_cons (pe_bltn (pos := pz) (v := .ty t) hz c2 c3 rfl hzn hzd) pa_nil)) (by decide +kernel) (by decide +kernel)).run pins s σ H Q I
      ⟨.ref a, v1, .ty t, q.2, b, rfl, fun u hu => by rw [c1]; exact hu, e2, end_now r (.bl b) h4 kq⟩
theorem s_fldE {i : Nat} {y f : Str} {py pos : Pos} (hX : exvX X c) (hN : X.N[i]? = some y) (hv : Vis X.env.scope y) (hd : (y == ("__debug__" : Str)) = false) (hcd : (y == ("__classdict__" : Str)) = false)
    (hi : ∀ p ∈ c.xfl, XfC X.K p.1 ∧ PySem.W.findIn X.K (.ref p.1) p.2 = some none) :
    PE X (.Attribute (.Name y py) f pos) (tDE X.K W (wE c (.fldE i f))) := by
  refine ⟨fun pins s σ H Q I ⟨ρ, S, Q', X', r, rr, hw, kq, kx⟩ => ?_⟩
  unfold wE at hw
  obtain ⟨a, C, p, fs, d, h1, h2, h3, h4, h5, h6⟩ := hw
  obtain ⟨Y, oe, pn, rfl, hzc, hf⟩ := hX _ _ _ h1
  obtain ⟨hE, hno⟩ := hi _ h3
  obtain ⟨v, v1, v2⟩ := rr.2 _ _ h2
  cases v2
  obtain ⟨u, u1, u2⟩ := r _ _ h4
  cases u with
  | xd fv =>
    have key : ∀ (fs : List (Str × D)) (fv : List (Str × V)), KvD Y.K S H fs fv → ∀ d, fs.lookup f = some d → ∃ w, fv.lookup f = some w ∧ Dv Y.K S H w d := by
      intro fs
      induction fs with
      | nil => intro fv _ d e; cases e
      | cons p ps ih =>
        intro fv k d e
        cases fv with
        | nil => exact (show False by cases k).elim
        | cons w ws =>
          obtain ⟨⟨k1, k2⟩, k3⟩ := (show (_ ∧ _) ∧ _ by cases k with | cons a b => exact ⟨a, b⟩)
          obtain ⟨g, x⟩ := p
          obtain ⟨g', x'⟩ := w
          dsimp only at k1 k2
          subst k1
          rw [List.lookup_cons] at e ⊢
          split at e
          · cases e; exact ⟨_, rfl, k2⟩
          · exact ih ws k3 d e
    obtain ⟨w, w1, w2⟩ := key fs fv u2 d h5
    exact (pe_xf (cls := .ref C) (d := some p) hE hno hzc hf (pe_var (X := Y.suite a ((a, oe) :: pn)) (pos := py) hN hv hd hcd)).run pins s σ H Q I ⟨.ref a, v1, rfl, rfl, p, fv, w, rfl, u1, w1, end_now r w2 h6 kq⟩
  | _ => exact (show False from u2).elim
end
end Dz
namespace Dz
open PySem PySem.Spec PyProof.Rows L2

/-! ### the check: the small tree is the text's -/
structure Nm where
  N : List Str
  fns : List Str
  cons : List Str
  nob : List Str
  mks : List Str := []
  excs : List Str := []
  /-- no except suite around -/
  cm : Bool := true
  clss : List Str := []
  lams : List Str := []
  exn : List Str := []
  /-- a thunk is handed over -/
  am : Bool := false
def Nm.inner (n : Nm) : Nm := { n with lams := [], am := false }
/-- an except suite -/
def Nm.suite (n : Nm) : Nm := { n with lams := [], am := false, cm := false }
/-- the thunk's call -/
def cCall (n : Nm) : Expr → Bool
  | .Call (.Name a _) [] [] _ => decide (n.N[0]? = some a)
  | _ => false
def noPar : Arguments → Bool
  | ⟨[], [], none, [], [], none, []⟩ => true
  | _ => false
def visB (sc : Scope) (x : Str) : Bool := match sc.names.lookup x with
  | some .local => true | some .cell => true | some .free => true | _ => false
def locB (sc : Scope) (x : Str) : Bool := match sc.names.lookup x with
  | some .local => true | _ => false
def celB (sc : Scope) (x : Str) : Bool := match sc.names.lookup x with
  | some .cell => true | _ => false
def gloB (sc : Scope) (x : Str) : Bool := match sc.names.lookup x with
  | some .globalImplicit => true | _ => false
def okn (x : Str) : Bool := !(x == ("__debug__" : Str)) && !(x == ("__classdict__" : Str)) && !(x == ("__name__" : Str))
def nst : Expr → Bool
  | .Starred _ _ => false
  | _ => true
def nset : Expr → Bool
  | .Set _ _ _ => false
  | _ => true
def abOk : Expr → Bool
  | .Call (.Name x _) [] [] _ => x != "super"
  | _ => true
def ncomp : Expr → Bool
  | .ListComp _ _ _ _ => false | .SetComp _ _ _ _ => false | .DictComp _ _ _ _ _ => false
  | _ => true
/-- a method call of o.m on one line with few arguments -/
def mtOk (l : Expr) (ls : List Expr) (apos pos : Pos) : Bool := abOk l && (apos.endLine == pos.line) && decide (ls.length < 20)
def ntup : Expr → Bool
  | .Tuple _ _ _ => false | .List _ _ => false
  | _ => true
def ntupT : Expr → Bool
  | .Tuple _ _ _ => false
  | _ => true
def tysOk (n : Nm) (sc : Scope) : List String → List Expr → Bool
  | [], [] => true
  | t :: ts, e :: es => (match e with
    | .Name x _ => (x == Str.ofString t) && gloB sc x && okn x && n.nob.contains x && decide (bootBuiltins x = some (.type t))
    | _ => false) && tysOk n sc ts es
  | _, _ => false
mutual
def G.ix : G → List Nat
  | .name i => [i] | .tup gs => gs.ix | .sub _ _ => []
def Gs.ix : Gs → List Nat
  | .nil => [] | .cons g r => g.ix ++ r.ix
end
mutual
def G.pure : G → Bool
  | .name _ => true | .tup gs => gs.pure | .sub _ _ => false
def Gs.pure : Gs → Bool
  | .nil => true | .cons g r => g.pure && r.pure
end
/-- a form's arguments in the text -/
def Xt.syn (n : Nm) (sc : Scope) : Xt → Expr → Option (List Expr)
  | .sset, pe => match pe with
    | .Call (.Name x _) [.Call (.Name y _) [a] [] _] [] _ => if n.cm && decide (x = "sorted") && decide (y = "set") && gloB sc x && gloB sc y && n.nob.contains x && n.nob.contains y then some [a] else none
    | _ => none
  | .lrng, pe => match pe with
    | .Call (.Name x _) [.Call (.Name y _) ls [] _] [] _ => if n.cm && decide (x = "list") && decide (y = "range") && gloB sc x && gloB sc y && n.nob.contains x && n.nob.contains y then some ls else none
    | _ => none
  | .isc i, pe => match pe with
    | .Call (.Name x _) [a, .Name y _] [] _ => if decide (x = "isinstance") && gloB sc x && n.nob.contains x && decide (n.clss[i]? = some y) && gloB sc y && okn y then some [a] else none
    | _ => none
def Xt.many : Xt → Nat → Bool
  | .sset, k => k == 1 | .lrng, k => k == 1 || k == 2 | .isc _, k => k == 1
mutual
def cE (n : Nm) : E → Scope → Expr → Bool
  | .var i, sc, pe => match pe with
    | .Name x _ => decide (n.N[i]? = some x) && visB sc x && okn x
    | _ => false
  | .int i, _, pe => match pe with
    | .Constant (.int j) _ _ => i == j
    | _ => false
  | .str x, _, pe => match pe with
    | .Constant (.str y) _ _ => x == y
    | _ => false
  | .bl b, _, pe => match pe with
    | .Constant (.bool c) _ _ => b == c
    | _ => false
  | .non, _, pe => match pe with
    | .Constant .none _ _ => true
    | _ => false
  | .glob i, sc, pe => match pe with
    | .Name x _ => decide (n.cons[i]? = some x) && gloB sc x && okn x
    | _ => false
  | .b2 o a b, sc, pe => match pe with
    | .BinOp l p r _ => decide (p = o.op) && cE n a sc l && cE n b sc r
    | _ => false
  | .neg a, sc, pe => match pe with
    | .UnaryOp .USub l _ => cE n a sc l
    | _ => false
  | .cm o a b, sc, pe => match pe with
    | .Compare l [p] [r] _ => decide (p = o.op) && cE n a sc l && cE n b sc r && !behindInMarks p r
    | _ => false
  | .ch o o' a b e, sc, pe => match pe with
    | .Compare l [p, p'] [r, r'] _ => decide (p = o.op) && decide (p' = o'.op) && cE n a sc l && cE n b sc r && cE n e sc r' && !lastMarks [p, p'] [r, r']
    | _ => false
  | .not a, sc, pe => match pe with
    | .UnaryOp .Not l _ => cE n a sc l
    | _ => false
  | .and es, sc, pe => match pe with
    | .BoolOp .And ls _ => cEs n es sc ls
    | _ => false
  | .or es, sc, pe => match pe with
    | .BoolOp .Or ls _ => cEs n es sc ls
    | _ => false
  | .ife t a b, sc, pe => match pe with
    | .IfExp x l r _ => cE n t sc x && cE n a sc l && cE n b sc r
    | _ => false
  | .tup es, sc, pe => match pe with
    | .Tuple ls _ _ => cEs n es sc ls
    | _ => false
  | .lst es, sc, pe => match pe with
    | .List ls _ => cEs n es sc ls
    | _ => false
  | .ix a i, sc, pe => match pe with
    | .Subscript l r _ => !isSl r && cE n a sc l && cE n i sc r
    | _ => false
  | .sl a lo hi, sc, pe => match pe with
    | .Subscript l (.Slice x y none _) _ => cE n a sc l && cO n lo sc x && cO n hi sc y
    | _ => false
  | .rev a, sc, pe => match pe with
    | .Subscript l (.Slice none none (some (.UnaryOp .USub (.Constant (.int 1) _ _) _)) _) _ => cE n a sc l
    | _ => false
  | .bi f es, sc, pe => match pe with
    | .Call (.Name x _) (l :: ls) [] _ => (n.cm || f.free) && decide (x = f.name) && gloB sc x && n.nob.contains x && cEs n es sc (l :: ls)
    | _ => false
  | .isi a ts, sc, pe => match pe with
    | .Call (.Name x _) [l, t] [] _ => decide (x = "isinstance") && gloB sc x && n.nob.contains x && nst l && nst t && cE n a sc l && (match t with
      | .Tuple tl _ _ => decide (ts.length ≤ 100) && tysOk n sc ts tl
      | .Name y py => tysOk n sc ts [.Name y py]
      | _ => false)
    | _ => false
  | .call i es, sc, pe => match pe with
    | .Call (.Name x _) (l :: ls) [] _ => n.cm && decide (n.fns[i]? = some x) && gloB sc x && okn x && cEs n es sc (l :: ls)
    | _ => false
  | .bm f o es, sc, pe => match pe with
    | .Call (.Attribute p m apos) (l :: ls) [] pos => decide ((l :: ls).length = f.many) && decide (m = f.name) && abOk p && (apos.endLine == pos.line) && decide ((l :: ls).length < 20) && cE n o sc p && cEs n es sc (l :: ls)
    | _ => false
  | .comp own g it cond elt, sc, pe => match pe with
    | .ListComp el [⟨tg, iter, ifs, 0⟩] scope _ => n.cm && blkC n.N sc scope own && nset iter && cI n it sc tg iter && g.pure && (g.ix.all fun i => (own.map (·.2)).contains i) && cG n g true (relS scope sc) tg && cC n cond (relS scope sc) ifs && cE n elt (relS scope sc) el
    | _ => false
  | .call0 i, sc, pe => match pe with
    | .Call (.Name x _) [] [] _ => n.cm && decide (n.fns[i]? = some x) && gloB sc x && okn x
    | _ => false
  | .fld o f, sc, pe => match pe with
    | .Attribute l g _ => decide (g = f) && abOk l && cE n o sc l
    | _ => false
  | .mt o _ m es, sc, pe => match pe with
    | .Call (.Attribute l g apos) ls [] pos => n.cm && decide (g = m) && mtOk l ls apos pos && cE n o sc l && cEs n es sc ls
    | _ => false
  | .mk i es, sc, pe => match pe with
    | .Call (.Name x _) ls [] _ => n.cm && decide (n.mks[i]? = some x) && gloB sc x && okn x && cEs n es sc ls
    | _ => false
  | .dic kvs, sc, pe => match pe with
    | .Dict (k :: ks) vs _ => decide ((k :: ks).length ≤ 15) && cPr n kvs sc (k :: ks) vs
    | _ => false
  | .dcomp own g it cond ke ve, sc, pe => match pe with
    | .DictComp kx vx [⟨tg, iter, ifs, 0⟩] scope _ => n.cm && blkC n.N sc scope own && nset iter && cI n it sc tg iter && g.pure && (g.ix.all fun i => (own.map (·.2)).contains i) && cG n g true (relS scope sc) tg && cC n cond (relS scope sc) ifs && cE n ke (relS scope sc) kx && cE n ve (relS scope sc) vx
    | _ => false
  | .dic0, _, pe => match pe with
    | .Dict [] [] _ => true
    | _ => false
  | .lock e, sc, pe => n.cm && cE n e sc pe
  | .xt k es, sc, pe => match k.syn n sc pe with
    | some ls => k.many ls.length && cEs n es sc ls
    | none => false
  | .isE i k, sc, pe => match pe with
    | .Call (.Name x _) [.Name y _, .Name z _] [] _ => !n.cm && decide (x = "isinstance") && gloB sc x && n.nob.contains x && decide (n.N[i]? = some y) && visB sc y && okn y && decide (n.exn[k]? = some z) && gloB sc z && okn z
    | _ => false
  | .fldE i f, sc, pe => match pe with
    | .Attribute (.Name y _) g _ => !n.cm && decide (g = f) && decide (n.N[i]? = some y) && visB sc y && okn y
    | _ => false
  | .tcall i e, sc, pe => match pe with
    | .Call (.Name x _) [.Lambda params body scope _] [] _ => n.cm && decide (n.lams[i]? = some x) && gloB sc x && okn x && noPar params && LamX.lamSB sc scope && cE n.inner e scope body
    | _ => false
def cPr (n : Nm) : Es → Scope → List (Option Expr) → List Expr → Bool
  | .nil, _, ks, vs => match ks, vs with
    | [], [] => true
    | _, _ => false
  | .cons _ .nil, _, _, _ => false
  | .cons k (.cons v r), sc, ks, vs => match ks, vs with
    | some a :: ks', b :: vs' => cE n k sc a && cE n v sc b && cPr n r sc ks' vs'
    | _, _ => false
def cEs (n : Nm) : Es → Scope → List Expr → Bool
  | .nil, _, ls => match ls with
    | [] => true
    | _ => false
  | .cons e r, sc, ls => match ls with
    | l :: ls => nst l && cE n e sc l && cEs n r sc ls
    | _ => false
def cC (n : Nm) : Es → Scope → List Expr → Bool
  | .nil, _, ls => match ls with
    | [] => true
    | _ => false
  | .cons e _, sc, ls => match ls with
    | [l] => cE n e sc l
    | _ => false
def cO (n : Nm) : O → Scope → Option Expr → Bool
  | .no, _, l => match l with
    | none => true
    | _ => false
  | .yes e, sc, l => match l with
    | some l => cE n e sc l
    | _ => false
def cG (n : Nm) : G → Bool → Scope → Expr → Bool
  | .name i, blk, sc, pe => match pe with
    | .Name x _ => decide (n.N[i]? = some x) && (locB sc x || (!blk && celB sc x))
    | _ => false
  | .tup gs, blk, sc, pe => match pe with
    | .Tuple ls _ _ => n.cm && cGs n gs blk sc ls
    | _ => false
  | .sub o i, _, sc, pe => match pe with
    | .Subscript a b _ => !isSl b && cE n o sc a && cE n i sc b
    | _ => false
def cGs (n : Nm) : Gs → Bool → Scope → List Expr → Bool
  | .nil, _, _, ls => match ls with
    | [] => true
    | _ => false
  | .cons g r, blk, sc, ls => match ls with
    | l :: ls => nst l && cG n g blk sc l && cGs n r blk sc ls
    | _ => false
def cI (n : Nm) : It → Scope → Expr → Expr → Bool
  | .seq e, sc, _, pe => cE n e sc pe
  | .enum e, sc, tg, pe => !ntupT tg && match pe with
    | .Call (.Name x _) [l] [] _ => decide (x = "enumerate") && gloB sc x && n.nob.contains x && nst l && cE n e sc l
    | _ => false
  | .rng es, sc, _, pe => match pe with
    | .Call (.Name x _) ls [] _ => decide (x = "range") && gloB sc x && n.nob.contains x && (ls.length == 1 || ls.length == 2 || ls.length == 3) && cEs n es sc ls
    | _ => false
  | .items e, sc, tg, pe => !ntupT tg && match pe with
    | .Call (.Attribute l g apos) [] [] pos => decide (g = "items") && abOk l && (apos.endLine == pos.line) && cE n e sc l
    | _ => false
end
/-- constants into names -/
def isNm (sc : Scope) : Expr → Bool
  | .Name x _ => !celB sc x | _ => false
def fold2 (sc : Scope) : Expr → Expr → Bool
  | .Tuple ts _ _, .Tuple vs _ _ => vs.all (foldedForSure 8) || !ts.all (isNm sc) || decide (3 < ts.length)
  | _, _ => false
def swOk (sc : Scope) (tg v : Expr) : Bool := (ncomp v || (match tg with
  | .Name x _ => celB sc x
  | _ => true)) && (ntup tg || ntup v || fold2 sc tg v) && nst tg
mutual
def cT (n : Nm) : T → Scope → Stmt → Bool
  | .asg g e, sc, st => match st with
    | .Assign [tg] v _ => cG n g false sc tg && cE n e sc v && swOk sc tg v
    | _ => false
  | .setc i e, sc, st => match st with
    | .Assign [.Name y py] v spos => n.cm && decide (n.N[i]? = some y) && locB sc y && (match v with
      | .ListComp _ [_] scope pos => (py.line == pos.line) && !(scope.names.any fun (m, k) => m == y && (k == .local || k == .cell))
      | _ => false) && (match e with
      | .comp _ _ _ _ _ => true
      | _ => false) && cE n e sc v
    | _ => false
  | .aug i o e, sc, st => match st with
    | .AugAssign (.Name x _) p v _ => decide (n.N[i]? = some x) && (locB sc x || celB sc x) && decide (p = o.op) && cE n e sc v
    | _ => false
  | .ex e, sc, st => match st with
    | .Expr v _ => cE n e sc v && ncomp v
    | _ => false
  | .ret e, sc, st => match st with
    | .Return (some v) _ => cE n e sc v
    | _ => false
  | .retN, _, st => match st with
    | .Return none _ => true
    | _ => false
  | .pass, _, st => match st with
    | .Pass _ => true
    | _ => false
  | .brk, _, st => match st with
    | .Break _ => true
    | _ => false
  | .cont, _, st => match st with
    | .Continue _ => true
    | _ => false
  | .never, _, _ => true
  | .ite c a b, sc, st => match st with
    | .If x l r _ => cE n c sc x && cTs n a sc l && cTs n b sc r
    | _ => false
  | .for_ g it body, sc, st => match st with
    | .For tg iter l [] _ => n.cm && nset iter && cI n it sc tg iter && cG n g false sc tg && cTs n body sc l
    | _ => false
  | .whil c body, sc, st => match st with
    | .While x l [] _ => cE n c sc x && cTs n body sc l
    | _ => false
  | .fst o f e, sc, st => match st with
    | .Assign [.Attribute l g _] v _ => decide (g = f) && cE n o sc l && cE n e sc v
    | _ => false
  | .faug o f p e, sc, st => match st with
    | .AugAssign (.Attribute l g _) q v _ => decide (g = f) && decide (q = p.op) && cE n o sc l && cE n e sc v
    | _ => false
  | .saug o i p e, sc, st => match st with
    | .AugAssign (.Subscript l r _) q v _ => !isSl r && decide (q = p.op) && cE n o sc l && cE n i sc r && cE n e sc v
    | _ => false
  | .par2 i j a b, sc, st => match st with
    | .Assign [.Tuple [.Name x px, .Name y py] _ _] (.Tuple [u, v] _ _) _ => n.cm && decide (n.N[i]? = some x) && decide (n.N[j]? = some y) && decide (i ≠ j) && decide (x ≠ y) && decide (py.line = px.line) && !([u, v].all (foldedForSure 8)) && !([u, v].all (constantsAlone 8)) && locB sc x && locB sc y && nst u && nst v && cE n a sc u && cE n b sc v
    | _ => false
  | .par3 i j l a b e, sc, st => match st with
    | .Assign [.Tuple [.Name x px, .Name y py, .Name z pz] _ _] (.Tuple [u, v, w] _ _) _ => n.cm && decide (n.N[i]? = some x) && decide (n.N[j]? = some y) && decide (n.N[l]? = some z) && decide (i ≠ j) && decide (i ≠ l) && decide (j ≠ l) && decide (x ≠ y) && decide (x ≠ z) && decide (y ≠ z) && decide (py.line = px.line) && decide (pz.line = px.line) && !([u, v, w].all (foldedForSure 8)) && !([u, v, w].all (constantsAlone 8)) && locB sc x && locB sc y && locB sc z && nst u && nst v && nst w && cE n a sc u && cE n b sc v && cE n e sc w
    | _ => false
  | .del o i, sc, st => match st with
    | .Delete [.Subscript l r _] _ => cE n o sc l && cE n i sc r
    | _ => false
  | .lock t, sc, st => n.cm && cT n t sc st
  | .rais i, sc, st => match st with
    | .Raise (some (.Call (.Name x _) [] [] _)) none _ => n.cm && decide (n.excs[i]? = some x) && gloB sc x && okn x
    | _ => false
  | .try1 _ _ _, _, _ => false
  | .tryN body hs, sc, st => match st with
    | .Try l (h0 :: hds) [] [] _ => n.cm && cTs n body sc l && cH n hs sc (h0 :: hds)
    | _ => false
  | .ac k, sc, st => n.am && n.cm && match k with
    | .drop => (match st with
      | .Expr e _ => cCall n e
      | _ => false)
    | .set i => (match st with
      | .Assign [.Name y _] e _ => cCall n e && decide (n.N[i]? = some y) && locB sc y
      | _ => false)
    | .tupS i s => (match st with
      | .Assign [.Name y _] (.Tuple [.Constant (.str z) _ _, e] _ _) _ => cCall n e && decide (z = s) && decide (n.N[i]? = some y) && locB sc y
      | _ => false)
def cTs (n : Nm) : Ts → Scope → List Stmt → Bool
  | .nil, _, ls => match ls with
    | [] => true
    | _ => false
  | .cons t r, sc, ls => match ls with
    | l :: ls => cT n t sc l && cTs n r sc ls
    | _ => false
def cH (n : Nm) : Hd → Scope → List ExceptHandler → Bool
  | .nil, _, ls => match ls with
    | [] => true
    | _ => false
  | .cons i o su r, sc, ls => match ls with
    | .ExceptHandler (some (.Name x _)) nm (b :: q) _ :: ls => decide (n.excs[i]? = some x) && gloB sc x && okn x && (match o, nm with
      | none, none => true
      | some j, some y => decide (n.N[j]? = some y) && locB sc y
      | _, _ => false) && cTs n.suite su sc (b :: q) && cH n r sc ls
    | _ => false
end
end Dz
namespace Dz
open PySem PySem.Spec PyProof.Rows L2
theorem vis_of {sc : Scope} {x : Str} (h : visB sc x = true) : Vis sc x := by
  unfold visB at h
  split at h <;> first
    | exact .inl (by assumption)
    | exact .inr (.inl (by assumption))
    | exact .inr (.inr (by assumption))
    | cases h
theorem loc_of {sc : Scope} {x : Str} (h : locB sc x = true) : sc.names.lookup x = some .local := by
  unfold locB at h
  split at h <;> first | assumption | cases h
theorem cel_of {sc : Scope} {x : Str} (h : celB sc x = true) : sc.names.lookup x = some .cell := by
  unfold celB at h
  split at h <;> first | assumption | cases h
theorem glo_of {sc : Scope} {x : Str} (h : gloB sc x = true) : sc.names.lookup x = some .globalImplicit := by
  unfold gloB at h
  split at h <;> first | assumption | cases h
theorem okn_of {x : Str} (h : okn x = true) : (x == ("__debug__" : Str)) = false ∧ (x == ("__classdict__" : Str)) = false ∧ (x == ("__name__" : Str)) = false := by
  unfold okn at h
  simp only [Bool.and_eq_true, Bool.not_eq_true'] at h
  exact ⟨h.1.1, h.1.2, h.2⟩
theorem ne_name {x : Str} (h : (x == ("__name__" : Str)) = false) : x ≠ ("__name__" : Str) := fun e => by
  subst e
  exact absurd h (by decide +kernel)
theorem nst_star {e : Expr} {es : List Expr} {env : Env} (h : nst e = true) : starEach (e :: es) env = (false, eval e env) :: starEach es env := by
  cases e <;> first | rfl | cases h
theorem nst_assign {e : Expr} {es : List Expr} {env : Env} (h : nst e = true) : assignEach (e :: es) env = (false, assign e env) :: assignEach es env := by
  cases e <;> first | rfl | cases h
theorem nset_fold {e : Expr} {env : Env} (h : nset e = true) : ∀ x, foldedSetIterable e env x = pure x := by
  intro x
  cases e <;> first | rfl | cases h
theorem ab_base {o : Expr} {m : Str} {env : Env} (h : abOk o = true) : attributeBase o m env (eval o env) = eval o env := by
  unfold attributeBase
  split
  · rename_i id _ _
    have h : (id != "super") = true := h
    rw [if_pos (by rw [h]; rfl)]
  · rfl
theorem sw_sole {tg v : Expr} {line : Nat} {env : Env} (hk : env.scope.kind = .function) (h : (ncomp v || (match tg with
  | .Name x _ => celB env.scope x
  | _ => true)) = true) : swapsWithSole [tg] v line env = pure false := by
  by_cases hv : ncomp v = true
  · cases v <;> first | rfl | cases hv
  · rw [Bool.or_eq_true] at h
    rcases h with h | h
    · exact absurd h hv
    · have hb : env.blockKind = .function := by unfold Env.blockKind; rw [hk]; rfl
      cases tg with
      | Name x p =>
        have hx : env.kindOf x = some .cell := cel_of h
        cases v <;> first
          | rfl
          | (have hk2 : (NameKind.cell == NameKind.local) = false := rfl
             unfold swapsWithSole swapsWith
             simp [hx, hk2])
      | _ => cases v <;> rfl
theorem sw_fold {ts vs : List Expr} {kt k2 : Nat} {pt p2 : Pos} {env : Env} (h : vs.all (foldedForSure 8) = true) : swappedStores [.Tuple ts kt pt] (.Tuple vs k2 p2) env = pure none := by
  unfold swappedStores
  simp only [h, if_true]
  repeat (first | rfl | split)
theorem fm_lt {sc : Scope} {f : Expr → Option Str} (hf : ∀ e, isNm sc e = false → f e = none) : ∀ {ts : List Expr}, ts.all (isNm sc) = false → (ts.filterMap f).length ≠ ts.length
  | [], h => by cases h
  | t :: ts, h => by
    have le := List.length_filterMap_le f ts
    rw [List.filterMap_cons]
    by_cases ht : isNm sc t = true
    · rw [List.all_cons, ht, Bool.true_and] at h
      have ih := fm_lt hf h
      split
      · rw [List.length_cons]; omega
      · rw [List.length_cons, List.length_cons]; omega
    · rw [hf t (by simpa using ht)]
      show (ts.filterMap f).length ≠ _
      rw [List.length_cons]
      omega
theorem sw_sub {ts vs : List Expr} {kt k2 : Nat} {pt p2 : Pos} {env : Env} (h : ts.all (isNm env.scope) = false) : swappedStores [.Tuple ts kt pt] (.Tuple vs k2 p2) env = pure none := by
  unfold swappedStores
  simp only
  split
  · rfl
  split
  · rfl
  have key : ∀ l : List Str, l.length ≠ ts.length → (l.length != ts.length || l.eraseDups.length != l.length) = true := fun l hl => by
    rw [Bool.or_eq_true]
    exact .inl (by simpa using hl)
  rw [if_pos (key _ (fm_lt (sc := env.scope) (fun e he => by
    cases e with
    | Name x p =>
      have hc : env.scope.names.lookup x = some .cell := cel_of (by simpa [isNm] using he)
      have hk : env.kindOf x = some .cell := hc
      simp [hk]
    | _ => rfl) h))]
theorem sw_many {ts vs : List Expr} {kt k2 : Nat} {pt p2 : Pos} {env : Env} (h : 3 < ts.length) : swappedStores [.Tuple ts kt pt] (.Tuple vs k2 p2) env = pure none := by
  unfold swappedStores
  simp only
  rw [if_pos]
  have h2 : (ts.length == 2) = false := by simp; omega
  have h3 : (ts.length == 3) = false := by simp; omega
  simp [h2, h3]
theorem sw_stores {tg v : Expr} {env : Env} (h : (ntup tg || ntup v || fold2 env.scope tg v) = true) : swappedStores [tg] v env = pure none := by
  rw [Bool.or_eq_true, Bool.or_eq_true] at h
  rcases h with (h | h) | h
  · cases tg <;> first | (cases h; done) | rfl | (cases v <;> rfl)
  · cases v <;> first | (cases h; done) | (cases tg <;> rfl)
  · unfold fold2 at h
    split at h
    · rw [Bool.or_eq_true, Bool.or_eq_true] at h
      rcases h with (h | h) | h
      · exact sw_fold h
      · exact sw_sub (by simpa using h)
      · exact sw_many (by simpa using h)
    · cases h
theorem sw_attr {v o : Expr} {f : Str} {p : Pos} {line : Nat} {env : Env} : swapsWith v (some (.Attribute o f p)) line env = pure false := by
  cases v <;> rfl
theorem sw_some {v tg : Expr} {line : Nat} {env : Env} (h : ncomp v = true) : swapsWith v (some tg) line env = pure false := by
  cases v <;> first | rfl | cases h
theorem sw_par2 {x y : Str} {px py pt pt2 : Pos} {kt k2 : Nat} {a b : Expr} {env : Env} (hk : env.scope.kind = .function) (hx : env.scope.names.lookup x = some .local) (hy : env.scope.names.lookup y = some .local) (hl : py.line = px.line) (hxy : x ≠ y) (ha : nst a = true) (hb : nst b = true)
    (hf : [a, b].all (foldedForSure 8) = false) (hc : [a, b].all (constantsAlone 8) = false) : swappedStores [.Tuple [.Name x px, .Name y py] kt pt] (.Tuple [a, b] k2 pt2) env = pure (some [x, y]) := by
  unfold swappedStores
  have h1 : env.kindOf x = some .local := hx
  have h2 : env.kindOf y = some .local := hy
  have h3 : (y == x) = false := by simp; exact fun e => hxy e.symm
  have h4 : (x == y) = false := by simp; exact hxy
  have h5 : env.blockKind = .function := by unfold Env.blockKind; rw [hk]; rfl
  have h6 : [x, y].eraseDups = [x, y] := by simp [List.eraseDups, List.eraseDupsBy, List.eraseDupsBy.loop, h3]
  simp [h1, h2, h5, hl, h6, hf, hc, Expr.pos]
  intro h
  exfalso
  rcases h with h | h
  · cases a <;> first | (cases h; done) | (cases ha; done)
  · cases b <;> first | (cases h; done) | (cases hb; done)
theorem sw_par3 {x y z : Str} {px py pz pt pt2 : Pos} {kt k2 : Nat} {a b c : Expr} {env : Env} (hk : env.scope.kind = .function) (hx : env.scope.names.lookup x = some .local) (hy : env.scope.names.lookup y = some .local) (hz : env.scope.names.lookup z = some .local) (hl : py.line = px.line) (hl2 : pz.line = px.line) (hxy : x ≠ y) (hxz : x ≠ z) (hyz : y ≠ z) (ha : nst a = true) (hb : nst b = true) (hcc : nst c = true)
    (hf : [a, b, c].all (foldedForSure 8) = false) (hc : [a, b, c].all (constantsAlone 8) = false) : swappedStores [.Tuple [.Name x px, .Name y py, .Name z pz] kt pt] (.Tuple [a, b, c] k2 pt2) env = pure (some [x, y, z]) := by
  unfold swappedStores
  have h1 : env.kindOf x = some .local := hx
  have h2 : env.kindOf y = some .local := hy
  have h2' : env.kindOf z = some .local := hz
  have h3 : (y == x) = false := by simp; exact fun e => hxy e.symm
  have h4 : (z == y) = false := by simp; exact fun e => hyz e.symm
  have h4' : (z == x) = false := by simp; exact fun e => hxz e.symm
  have h5 : env.blockKind = .function := by unfold Env.blockKind; rw [hk]; rfl
  have h6 : [x, y, z].eraseDups = [x, y, z] := by simp [List.eraseDups, List.eraseDupsBy, List.eraseDupsBy.loop, h3, h4, h4']
  simp [h1, h2, h2', h5, hl, hl2, h6, hf, hc, Expr.pos]
  intro h
  exfalso
  rcases h with h | h | h
  · cases a <;> first | (cases h; done) | (cases ha; done)
  · cases b <;> first | (cases h; done) | (cases hb; done)
  · cases c <;> first | (cases h; done) | (cases hcc; done)
theorem sw_none {v : Expr} {line : Nat} {env : Env} (h : ncomp v = true) : swapsWith v none line env = pure false := by
  cases v <;> first | rfl | cases h
theorem name_truth {a : Expr} (h : (match a with | .Name _ _ => true | .Call _ _ _ _ => true | .Subscript _ _ _ => true | .Attribute _ _ _ => true | _ => false) = true) {env : Env} : ∀ whole, isTrue a env whole = (do let v ← whole; standAt a.pos; holding [v] (truthy v)) := by
  intro whole
  cases a <;> first | rfl | cases h

theorem mt_eval {env : Env} {o : Expr} {ls : List Expr} {m : Str} {apos pos : Pos} (hb : attributeBase o m env (eval o env) = eval o env) (hl : (apos.endLine == pos.line) = true) (hf : methodCallForm (ls.length + 0) (backTo pos (starEach ls env)) (backToKw pos (keywordEach [] env)) = true) :
    eval (.Call (.Attribute o m apos) ls [] pos) env = (eval o env >>= fun ov => standAt apos.atName >>= fun _ => holding [ov] (getMethod ov m (plainOf o env)) >>= fun ff => callWith pos ff.1 ff.2 (backTo pos (starEach ls env)) (backToKw pos (keywordEach [] env))) := by
  have e0 : eval (.Call (.Attribute o m apos) ls [] pos) env = (attributeBase o m env (eval o env) >>= fun ov => standAt apos.atName >>= fun _ => methodCall o m apos pos env ov (ls.length + 0) (backTo pos (starEach ls env)) (backToKw pos (keywordEach [] env))) := by
    first
      | rfl
      | (unfold eval; rfl)
  rw [e0, hb]
  have h : (fun ov => standAt apos.atName >>= fun _ => methodCall o m apos pos env ov (ls.length + 0) (backTo pos (starEach ls env)) (backToKw pos (keywordEach [] env))) = fun ov => standAt apos.atName >>= fun _ => holding [ov] (getMethod ov m (plainOf o env)) >>= fun ff => callWith pos ff.1 ff.2 (backTo pos (starEach ls env)) (backToKw pos (keywordEach [] env)) := by
    funext ov
    rw [mcall_line hf hl]
  rw [h]
section
variable {c : Cfg} {n : Nm} {X : Cx} {sc : Scope} {W : WX}
structure NmOk (c : Cfg) (n : Nm) : Prop where
  fns : n.fns = c.fns.map (·.1)
  cons : n.cons = c.cons.map (·.1)
  nob : n.nob = c.nob
  mks : n.mks = c.mks.map (·.name) := by rfl
  excs : n.excs = c.excs.map (·.1) := by rfl
  clss : n.clss = c.clss.map (·.1) := by rfl
  lams : n.lams = c.lams.map (·.name) := by rfl
  exn : n.exn = c.exn.map (·.1) := by rfl
  am : n.am = c.act.isSome := by rfl
theorem nob_of (k : NmOk c n) (hx : Sx X c n.N sc W n.cm) {x : Str} (h : n.nob.contains x = true) : X.mg x = none := by
  obtain ⟨_, _, g⟩ := hx.cfg
  exact g.nob x (by rw [← k.nob]; simpa using h)
theorem gl_of (hx : Sx X c n.N sc W n.cm) {x : Str} (h : gloB sc x = true) : Gl X x := by
  show X.env.scope.names.lookup x = _
  rw [hx.hsc]
  exact glo_of h
theorem get_map {α β : Type} {f : α → β} {l : List α} {i : Nat} {b : β} (h : (l.map f)[i]? = some b) : ∃ a, l[i]? = some a ∧ f a = b := by
  rw [List.getElem?_map] at h
  cases e : l[i]? with
  | none => rw [e] at h; cases h
  | some a => rw [e] at h; exact ⟨a, rfl, Option.some.inj h⟩
/-- the block's context -/
theorem sx_blk (hx : Sx X c n.N sc W n.cm) (hcm : n.cm = true) (s : Shared) (H : Hp) (scope : Scope) (C : Addr) (cl : List (Str × Addr)) (fp : List Addr) : Sx (X.blk s H scope (compEnvC scope cl C X.env) fp) c n.N (relS scope sc) W00 n.cm :=
  ⟨hx.hN, hx.nd, by rw [← hx.hsc]; rfl, hx.calm, hx.hu, hx.cfg, takes0, hx.lam, fun z => by rw [hcm] at z; cases z⟩
/-- names of built-in types as arguments -/
theorem pa_tys (k : NmOk c n) (hx : Sx X c n.N sc W n.cm) : ∀ {ts : List String} {es : List Expr}, tysOk n sc ts es = true → PA X es (fun _ H Q => Q (ts.map V.ty) H) ∧ ts.length = es.length
  | [], [], _ => ⟨pa_nil, rfl⟩
  | [], _ :: _, h => by cases h
  | _ :: _, [], h => by cases h
  | t :: ts, e :: es, h => by
    unfold tysOk at h
    rw [Bool.and_eq_true] at h
    obtain ⟨h1, h2⟩ := h
    split at h1
    · simp only [Bool.and_eq_true, decide_eq_true_eq] at h1
      obtain ⟨⟨⟨⟨h3, h4⟩, h5⟩, h6⟩, h7⟩ := h1
      obtain ⟨r1, r2⟩ := pa_tys k hx h2
      exact ⟨(pa_cons (pe_bltn (v := .ty t) (gl_of hx h4) (nob_of k hx h6) h7 rfl (ne_name (okn_of h5).2.2) (okn_of h5).1) r1 rfl).imp fun σ H Q q => q, congrArg (· + 1) r2⟩
    · cases h1

theorem pt_no {X : Cx} {W : WX} {pe : Expr} : PT X pe (tDB X.K W fun _ _ _ _ => False) := ⟨fun _ _ _ _ _ _ ⟨_, _, _, _, _, _, h, _⟩ => h.elim⟩
theorem pe_no {X : Cx} {W : WX} {pe : Expr} : PE X pe (tDE X.K W fun _ _ _ _ => False) := ⟨fun _ _ _ _ _ _ ⟨_, _, _, _, _, _, h, _⟩ => h.elim⟩
theorem pw_no {X : Cx} {W : WX} {pe : Expr} : PW X pe (tDB X.K W fun _ _ _ _ => False) := ⟨fun _ _ _ _ _ _ _ ⟨_, _, _, _, _, _, h, _⟩ => h.elim⟩
theorem _root_.L2.PTs.imp {X : Cx} {e : List Expr} {t t' : TT} (h : PTs X e t) (k : ∀ σ H Q, t' σ H Q → t σ H Q) : PTs X e t' := ⟨fun pins s σ H Q I q => h.run pins s σ H Q I (k _ _ _ q)⟩
theorem isi_conv {wa : WE} {ρ : Ro} {S : Hs} {Q' : Bool → Hs → Prop} {X' : XQ} {ts : List String} (hw : wa ρ S (fun x S1 => ∃ t b, tyName S1 x = some t ∧ isiAny t ts = some b ∧ Q' b S1) X') : wa ρ S (fun x S1 => ∃ t b, tyName S1 x = some t ∧ isiAny t ts = some b ∧ ∃ b', D.bl b = .bl b' ∧ Q' b' S1) X' := by
  have e : (fun (x : D) (S1 : Hs) => ∃ t b, tyName S1 x = some t ∧ isiAny t ts = some b ∧ Q' b S1) = (fun (x : D) (S1 : Hs) => ∃ t b, tyName S1 x = some t ∧ isiAny t ts = some b ∧ ∃ b', D.bl b = .bl b' ∧ Q' b' S1) := by
    funext x S1
    refine propext ⟨fun ⟨t, b, h1, h2, h3⟩ => ⟨t, b, h1, h2, b, rfl, h3⟩, fun ⟨t, b, h1, h2, b', e, h3⟩ => ?_⟩
    cases e
    exact ⟨t, b, h1, h2, h3⟩
  rw [← e]
  exact hw
/-- isinstance as a test -/
theorem isi_test {X : Cx} {W : WX} {pe : Expr} {wa : WE} {ts : List String} (h : PE X pe (tDE X.K W fun ρ S Q X => wa ρ S (fun x S1 => ∃ t b, tyName S1 x = some t ∧ isiAny t ts = some b ∧ Q (.bl b) S1) X))
    (hp : ∀ whole, isTrue pe X.env whole = (do let v ← whole; standAt pe.pos; holding [v] (truthy v))) :
    PT X pe (tDB X.K W fun ρ S Q X => wa ρ S (fun x S1 => ∃ t b, tyName S1 x = some t ∧ isiAny t ts = some b ∧ Q b S1) X) := (pt_val h hp).imp fun σ H Q ⟨ρ, S, Q', X', r, rr, hw, k, kx⟩ =>
  ⟨ρ, S, (fun d S1 => ∃ b, d = .bl b ∧ Q' b S1), X', r, rr, isi_conv hw, bl_end k, kx⟩
theorem cEs_star2 {n : Nm} {es : Es} {sc : Scope} {a b : Expr} {env : Env} (h : cEs n es sc [a, b] = true) : starEach [b] env = [(false, eval b env)] := by
  cases es with
  | nil => cases h
  | cons e r =>
    cases r with
    | nil => unfold cEs at h; simp [cEs] at h
    | cons e2 r2 =>
      unfold cEs at h
      simp only [Bool.and_eq_true] at h
      have h2 := h.2
      unfold cEs at h2
      simp only [Bool.and_eq_true] at h2
      exact nst_star h2.1.1
theorem cEs_len {n : Nm} : ∀ {es : Es} {sc : Scope} {ls : List Expr}, cEs n es sc ls = true → es.len = ls.length
  | .nil, sc, ls, h => by
    unfold cEs at h
    split at h
    · rfl
    · cases h
  | .cons e r, sc, ls, h => by
    unfold cEs at h
    split at h
    · simp only [Bool.and_eq_true] at h
      exact congrArg (· + 1) (cEs_len h.2)
    · cases h

theorem xt_none {n : Nm} {sc : Scope} {f : Xt} {pe : Expr} {ls : List Expr} (h : f.syn n sc pe = some ls) {env : Env} : ∀ whole, isTrue pe env whole = (do let v ← whole; standAt pe.pos; holding [v] (truthy v)) := by
  cases pe with
  | Call _ _ _ _ => intro _; rfl
  | _ => cases f <;> cases h
theorem no_par {a : Arguments} (h : noPar a = true) : a = ⟨[], [], none, [], [], none, []⟩ := by
  unfold noPar at h
  split at h
  · rfl
  · cases h
mutual
theorem sE {c : Cfg} {n : Nm} (k : NmOk c n) : ∀ (e : E) {X : Cx} {sc : Scope} {W : WX}, Sx X c n.N sc W n.cm → ∀ pe : Expr, cE n e sc pe = true → PE X pe (tDE X.K W (wE c e)) ∧ PT X pe (tDB X.K W (wB c e))
  | .var i, X, sc, W, hx, pe, h => by
    have hE : PE X pe (tDE X.K W (wE c (.var i))) := by
      unfold cE at h
      split at h
      · simp only [Bool.and_eq_true, decide_eq_true_eq] at h
        exact s_var (by rw [hx.hN]; exact h.1.1) (by rw [hx.hsc]; exact vis_of h.1.2) (okn_of h.2).1 (okn_of h.2).2.1
      · cases h
    refine ⟨hE, ?_⟩
    have hp : ∀ whole, isTrue pe X.env whole = (do let v ← whole; standAt pe.pos; holding [v] (truthy v)) := by
      unfold cE at h
      split at h
      · intro _; rfl
      · cases h
    exact (s_tru hE hp).imp fun σ H Q ⟨ρ, S, Q', X', r, rr, hw, kk, kx⟩ => ⟨ρ, S, Q', X', r, rr, hw, kk, kx⟩
  | .int i, X, sc, W, hx, pe, h => by
    have hE : PE X pe (tDE X.K W (wE c (.int i))) := by
      unfold cE at h
      split at h
      · have e := eq_of_beq h
        subst e
        exact s_con pe_int fun _ _ => .int _
      · cases h
    refine ⟨hE, ?_⟩
    exact pt_no
  | .str x, X, sc, W, hx, pe, h => by
    have hE : PE X pe (tDE X.K W (wE c (.str x))) := by
      unfold cE at h
      split at h
      · have e := eq_of_beq h
        subst e
        exact s_con pe_str fun _ _ => .str _
      · cases h
    refine ⟨hE, ?_⟩
    exact pt_no
  | .bl b, X, sc, W, hx, pe, h => by
    have hE : PE X pe (tDE X.K W (wE c (.bl b))) := by
      unfold cE at h
      split at h
      · have e := eq_of_beq h
        subst e
        exact s_con pe_bl fun _ _ => .bl _
      · cases h
    refine ⟨hE, ?_⟩
    exact pt_no
  | .non, X, sc, W, hx, pe, h => by
    have hE : PE X pe (tDE X.K W (wE c (.non))) := by
      unfold cE at h
      split at h
      · exact s_con pe_non fun _ _ => .non
      · cases h
    refine ⟨hE, ?_⟩
    exact pt_no
  | .glob i, X, sc, W, hx, pe, h => by
    have hE : PE X pe (tDE X.K W (wE c (.glob i))) := by
      unfold cE at h
      split at h
      · simp only [Bool.and_eq_true, decide_eq_true_eq] at h
        obtain ⟨⟨h1, h2⟩, h3⟩ := h
        rw [k.cons] at h1
        obtain ⟨q, e1, e2⟩ := get_map h1
        obtain ⟨_, _, g⟩ := hx.cfg
        exact s_glob e1 e2 (gl_of hx h2) (okn_of h3).1 (g.cons q (List.mem_of_getElem? e1))
      · cases h
    refine ⟨hE, ?_⟩
    exact pt_no
  | .b2 o a b, X, sc, W, hx, pe, h => by
    have hE : PE X pe (tDE X.K W (wE c (.b2 o a b))) := by
      unfold cE at h
      split at h
      · simp only [Bool.and_eq_true, decide_eq_true_eq] at h
        obtain ⟨⟨h1, h2⟩, h3⟩ := h
        subst h1
        exact s_b2 hx.hu o (sE k a hx _ h2).1 (sE k b hx _ h3).1
      · cases h
    refine ⟨hE, ?_⟩
    exact pt_no
  | .neg a, X, sc, W, hx, pe, h => by
    have hE : PE X pe (tDE X.K W (wE c (.neg a))) := by
      unfold cE at h
      split at h
      · exact s_neg (sE k a hx _ h).1
      · cases h
    refine ⟨hE, ?_⟩
    exact pt_no
  | .cm o a b, X, sc, W, hx, pe, h => by
    have hE : PE X pe (tDE X.K W (wE c (.cm o a b))) := by
      unfold cE at h
      split at h
      · simp only [Bool.and_eq_true, decide_eq_true_eq, Bool.not_eq_true'] at h
        obtain ⟨⟨⟨h1, h2⟩, h3⟩, h4⟩ := h
        subst h1
        exact s_cm hx.hu o (sE k a hx _ h2).1 (sE k b hx _ h3).1 h4
      · cases h
    refine ⟨hE, ?_⟩
    unfold cE at h
    split at h
    · simp only [Bool.and_eq_true, decide_eq_true_eq, Bool.not_eq_true'] at h
      obtain ⟨⟨⟨h1, h2⟩, h3⟩, h4⟩ := h
      subst h1
      exact t_cm hx.hu o (sE k a hx _ h2).1 (sE k b hx _ h3).1 h4
    · cases h
  | .ch o o' a b e, X, sc, W, hx, pe, h => by
    have hE : PE X pe (tDE X.K W (wE c (.ch o o' a b e))) := by
      unfold cE at h
      split at h
      · simp only [Bool.and_eq_true, decide_eq_true_eq, Bool.not_eq_true'] at h
        obtain ⟨⟨⟨⟨⟨h1, h2⟩, h3⟩, h4⟩, h5⟩, h6⟩ := h
        subst h1 h2
        exact s_ch hx.hu o o' (sE k a hx _ h3).1 (sE k b hx _ h4).1 (sE k e hx _ h5).1 h6
      · cases h
    refine ⟨hE, ?_⟩
    unfold cE at h
    split at h
    · simp only [Bool.and_eq_true, decide_eq_true_eq, Bool.not_eq_true'] at h
      obtain ⟨⟨⟨⟨⟨h1, h2⟩, h3⟩, h4⟩, h5⟩, h6⟩ := h
      subst h1 h2
      exact t_ch hx.hu o o' (sE k a hx _ h3).1 (sE k b hx _ h4).1 (sE k e hx _ h5).1 h6
    · cases h
  | .not a, X, sc, W, hx, pe, h => by
    have hE : PE X pe (tDE X.K W (wE c (.not a))) := by
      unfold cE at h
      split at h
      · exact s_not (sE k a hx _ h).1
      · cases h
    refine ⟨hE, ?_⟩
    unfold cE at h
    split at h
    · exact t_not (sE k a hx _ h).2
    · cases h
  | .and es, X, sc, W, hx, pe, h => by
    have hE : PE X pe (tDE X.K W (wE c (.and es))) := by
      unfold cE at h
      split at h
      · exact sAnd k es hx _ _ h
      · cases h
    refine ⟨hE, ?_⟩
    unfold cE at h
    split at h
    · exact (sBAnd k es hx _ _ h).pt
    · cases h
  | .or es, X, sc, W, hx, pe, h => by
    have hE : PE X pe (tDE X.K W (wE c (.or es))) := by
      unfold cE at h
      split at h
      · exact sOr k es hx _ _ h
      · cases h
    refine ⟨hE, ?_⟩
    unfold cE at h
    split at h
    · exact (sBOr k es hx _ _ h).pt
    · cases h
  | .ife t a b, X, sc, W, hx, pe, h => by
    have hE : PE X pe (tDE X.K W (wE c (.ife t a b))) := by
      unfold cE at h
      split at h
      · simp only [Bool.and_eq_true] at h
        exact s_ife (sE k t hx _ h.1.1).2 (sE k a hx _ h.1.2).1 (sE k b hx _ h.2).1
      · cases h
    refine ⟨hE, ?_⟩
    exact pt_no
  | .tup es, X, sc, W, hx, pe, h => by
    have hE : PE X pe (tDE X.K W (wE c (.tup es))) := by
      unfold cE at h
      split at h
      · exact s_tup (sEs k es hx _ h).1
      · cases h
    refine ⟨hE, ?_⟩
    exact pt_no
  | .lst es, X, sc, W, hx, pe, h => by
    have hE : PE X pe (tDE X.K W (wE c (.lst es))) := by
      unfold cE at h
      split at h
      · exact s_lst (sEs k es hx _ h).1
      · cases h
    refine ⟨hE, ?_⟩
    exact pt_no
  | .ix a i, X, sc, W, hx, pe, h => by
    have hE : PE X pe (tDE X.K W (wE c (.ix a i))) := by
      unfold cE at h
      split at h
      · simp only [Bool.and_eq_true, Bool.not_eq_true'] at h
        exact s_ix hx.hu (sE k a hx _ h.1.2).1 (sE k i hx _ h.2).1 (sl_plain h.1.1)
      · cases h
    refine ⟨hE, ?_⟩
    have hp : ∀ whole, isTrue pe X.env whole = (do let v ← whole; standAt pe.pos; holding [v] (truthy v)) := by
      unfold cE at h
      split at h
      · intro _; rfl
      · cases h
    exact (s_tru hE hp).imp fun σ H Q ⟨ρ, S, Q', X', r, rr, hw, kk, kx⟩ => ⟨ρ, S, Q', X', r, rr, hw, kk, kx⟩
  | .sl a lo hi, X, sc, W, hx, pe, h => by
    have hE : PE X pe (tDE X.K W (wE c (.sl a lo hi))) := by
      unfold cE at h
      split at h
      · simp only [Bool.and_eq_true] at h
        exact s_sl (sE k a hx _ h.1.1).1 (sO k lo hx _ h.1.2) (sO k hi hx _ h.2)
      · cases h
    refine ⟨hE, ?_⟩
    exact pt_no
  | .rev a, X, sc, W, hx, pe, h => by
    have hE : PE X pe (tDE X.K W (wE c (.rev a))) := by
      unfold cE at h
      split at h
      · exact s_rev (sE k a hx _ h).1
      · cases h
    refine ⟨hE, ?_⟩
    exact pt_no
  | .bi f es, X, sc, W, hx, pe, h => by
    have hE : PE X pe (tDE X.K W (wE c (.bi f es))) := by
      unfold cE at h
      split at h
      · simp only [Bool.and_eq_true, decide_eq_true_eq] at h
        obtain ⟨⟨⟨⟨h0, h1⟩, h2⟩, h3⟩, h4⟩ := h
        subst h1
        obtain ⟨r1, r2, r3⟩ := sEs k es hx _ h4
        exact s_bi f (fun hf => hx.calm (by simpa [hf] using h0)) (gl_of hx h2) (nob_of k hx h3) r1 (r2 _ _ rfl) (r3 _ _ rfl _)
      · cases h
    refine ⟨hE, ?_⟩
    have hp : ∀ whole, isTrue pe X.env whole = (do let v ← whole; standAt pe.pos; holding [v] (truthy v)) := by
      unfold cE at h
      split at h
      · intro _; rfl
      · cases h
    exact (s_tru hE hp).imp fun σ H Q ⟨ρ, S, Q', X', r, rr, hw, kk, kx⟩ => ⟨ρ, S, Q', X', r, rr, hw, kk, kx⟩
  | .isi a ts, X, sc, W, hx, pe, h => by
    have hE : PE X pe (tDE X.K W (wE c (.isi a ts))) := by
      unfold cE at h
      split at h
      · simp only [Bool.and_eq_true, decide_eq_true_eq] at h
        obtain ⟨⟨⟨⟨⟨⟨h1, h2⟩, h3⟩, h4⟩, h5⟩, h6⟩, h7⟩ := h
        subst h1
        split at h7
        · simp only [Bool.and_eq_true, decide_eq_true_eq] at h7
          have q := (pa_tys k hx h7.2).1
          exact s_isiT (gl_of hx h2) (nob_of k hx h3) (sE k a hx _ h6).1 q (Nat.le_trans h7.1 (by decide)) (nst_star h4)
        · match ts, h7 with
          | [t], h7 =>
            unfold tysOk at h7
            simp only [Bool.and_eq_true, decide_eq_true_eq] at h7
            obtain ⟨⟨⟨⟨⟨q3, q4⟩, q5⟩, q6⟩, q7⟩, _⟩ := h7
            exact s_isi1 (gl_of hx h2) (nob_of k hx h3) (sE k a hx _ h6).1 (pe_bltn (v := .ty t) (gl_of hx q4) (nob_of k hx q6) q7 rfl (ne_name (okn_of q5).2.2) (okn_of q5).1) (nst_star h4) rfl
          | [], h7 => exact absurd h7 (by simp [tysOk])
          | _ :: _ :: _, h7 => exact absurd h7 (by simp [tysOk])
        · cases h7
      · cases h
    refine ⟨hE, ?_⟩
    have hp : ∀ whole, isTrue pe X.env whole = (do let v ← whole; standAt pe.pos; holding [v] (truthy v)) := by
      unfold cE at h
      split at h
      · intro _; rfl
      · cases h
    exact isi_test hE hp
  | .call i es, X, sc, W, hx, pe, h => by
    have hE : PE X pe (tDE X.K W (wE c (.call i es))) := by
      unfold cE at h
      split at h
      · simp only [Bool.and_eq_true, decide_eq_true_eq] at h
        obtain ⟨⟨⟨⟨h0, h1⟩, h2⟩, h3⟩, h4⟩ := h
        rw [k.fns] at h1
        obtain ⟨q, e1, e2⟩ := get_map h1
        obtain ⟨_, hr, g⟩ := hx.cfg
        obtain ⟨r1, r2, r3⟩ := sEs k es hx _ h4
        exact s_call e1 e2 (gl_of hx h2) (okn_of h3).1 (hr h0) (g.fns q (List.mem_of_getElem? e1)) hx.tk r1 (r2 _ _ rfl) (r3 _ _ rfl _)
      · cases h
    refine ⟨hE, ?_⟩
    have hp : ∀ whole, isTrue pe X.env whole = (do let v ← whole; standAt pe.pos; holding [v] (truthy v)) := by
      unfold cE at h
      split at h
      · intro _; rfl
      · cases h
    exact (s_tru hE hp).imp fun σ H Q ⟨ρ, S, Q', X', r, rr, hw, kk, kx⟩ => ⟨ρ, S, Q', X', r, rr, hw, kk, kx⟩
  | .bm f o es, X, sc, W, hx, pe, h => by
    have hE : PE X pe (tDE X.K W (wE c (.bm f o es))) := by
      unfold cE at h
      split at h
      · rename_i p0 m0 apos0 l0 ls0 pos
        simp only [Bool.and_eq_true, decide_eq_true_eq] at h
        obtain ⟨⟨⟨⟨⟨⟨hm, h1⟩, h2⟩, h3⟩, h4⟩, h5⟩, h6⟩ := h
        subst h1
        obtain ⟨r1, r2, r3⟩ := sEs k es hx _ h6
        have one : ∀ {u : E}, ls0 = [] → es = .cons u .nil → cE n u sc l0 = true ∧ starEach [l0] X.env = (false, eval l0 X.env) :: starEach [] X.env := fun {u} e1 e2 => by
          subst e1 e2
          unfold cEs at h6
          simp only [Bool.and_eq_true] at h6
          exact ⟨h6.1.2, r2 _ _ rfl⟩
        cases f with
        | append =>
          refine s_bm .append (.inl rfl) _ _ (sE k o hx _ h5).1 r1 (ab_base h2) ?_ h3 (r2 _ _ rfl) (r3 _ _ rfl _)
          rw [r2 _ _ rfl]
          have r4 := r3 _ _ rfl
          simp only [backTo, List.map_cons, List.all_cons, Bool.not_false, Bool.true_and, Bool.and_eq_true, decide_eq_true_eq]
          refine ⟨⟨?_, rfl⟩, by simp at h4 ⊢; omega⟩
          have r5 := r4 pos
          unfold backTo at r5
          rw [List.any_eq_false] at r5
          rw [List.all_eq_true]
          intro z hz
          have := r5 z hz
          simpa using this
        | extend =>
          refine s_bm .extend (.inr (.inl rfl)) _ _ (sE k o hx _ h5).1 r1 (ab_base h2) ?_ h3 (r2 _ _ rfl) (r3 _ _ rfl _)
          rw [r2 _ _ rfl]
          have r4 := r3 _ _ rfl
          simp only [backTo, List.map_cons, List.all_cons, Bool.not_false, Bool.true_and, Bool.and_eq_true, decide_eq_true_eq]
          refine ⟨⟨?_, rfl⟩, by simp at h4 ⊢; omega⟩
          have r5 := r4 pos
          unfold backTo at r5
          rw [List.any_eq_false] at r5
          rw [List.all_eq_true]
          intro z hz
          have := r5 z hz
          simpa using this
        | remove =>
          refine s_bm .remove (.inr (.inr rfl)) _ _ (sE k o hx _ h5).1 r1 (ab_base h2) ?_ h3 (r2 _ _ rfl) (r3 _ _ rfl _)
          rw [r2 _ _ rfl]
          have r4 := r3 _ _ rfl
          simp only [backTo, List.map_cons, List.all_cons, Bool.not_false, Bool.true_and, Bool.and_eq_true, decide_eq_true_eq]
          refine ⟨⟨?_, rfl⟩, by simp at h4 ⊢; omega⟩
          have r5 := r4 pos
          unfold backTo at r5
          rw [List.any_eq_false] at r5
          rw [List.all_eq_true]
          intro z hz
          have := r5 z hz
          simpa using this
        | get1 =>
          match es, ls0, hm, h6 with
          | .cons u .nil, [], _, h6 =>
            unfold cEs at h6
            simp only [Bool.and_eq_true] at h6
            exact (s_get1 hx.hu (sE k o hx _ h5).1 (sE k u hx _ h6.1.2).1 (m1_of (ab_base h2) h3 (nst_star h6.1.1))).imp fun σ H Q q => q
          | .nil, _, _, h6 => exact absurd h6 (by simp [cEs])
          | .cons _ (.cons _ _), [], _, h6 => exact absurd h6 (by simp [cEs])
          | _, _ :: _, hm, _ => exact absurd hm (by simp [Bm.many])
        | pop1 =>
          match es, ls0, hm, h6 with
          | .cons u .nil, [], _, h6 =>
            unfold cEs at h6
            simp only [Bool.and_eq_true] at h6
            exact (s_pop1 (sE k o hx _ h5).1 (sE k u hx _ h6.1.2).1 (m1_of (ab_base h2) h3 (nst_star h6.1.1))).imp fun σ H Q q => q
          | .nil, _, _, h6 => exact absurd h6 (by simp [cEs])
          | .cons _ (.cons _ _), [], _, h6 => exact absurd h6 (by simp [cEs])
          | _, _ :: _, hm, _ => exact absurd hm (by simp [Bm.many])
        | get2 =>
          match es, ls0, hm, h6 with
          | .cons u (.cons v .nil), [l1], _, h6 =>
            simp only [cEs, Bool.and_eq_true] at h6
            obtain ⟨⟨a1, a2⟩, ⟨b1, b2⟩, _⟩ := h6
            exact (s_get2 hx.hu (sE k o hx _ h5).1 (sE k u hx _ a2).1 (sE k v hx _ b2).1 (m2_of (ab_base h2) h3 (nst_star a1) (nst_star b1))).imp fun σ H Q q => q
          | .nil, _, _, h6 => exact absurd h6 (by simp [cEs])
          | .cons _ .nil, [_], _, h6 => exact absurd h6 (by simp [cEs])
          | .cons _ (.cons _ (.cons _ _)), [_], _, h6 => exact absurd h6 (by simp [cEs])
          | _, [], hm, _ => exact absurd hm (by simp [Bm.many])
          | _, _ :: _ :: _, hm, _ => exact absurd hm (by simp [Bm.many])
        | pop2 =>
          match es, ls0, hm, h6 with
          | .cons u (.cons v .nil), [l1], _, h6 =>
            simp only [cEs, Bool.and_eq_true] at h6
            obtain ⟨⟨a1, a2⟩, ⟨b1, b2⟩, _⟩ := h6
            exact (s_pop2 (sE k o hx _ h5).1 (sE k u hx _ a2).1 (sE k v hx _ b2).1 (m2_of (ab_base h2) h3 (nst_star a1) (nst_star b1))).imp fun σ H Q q => q
          | .nil, _, _, h6 => exact absurd h6 (by simp [cEs])
          | .cons _ .nil, [_], _, h6 => exact absurd h6 (by simp [cEs])
          | .cons _ (.cons _ (.cons _ _)), [_], _, h6 => exact absurd h6 (by simp [cEs])
          | _, [], hm, _ => exact absurd hm (by simp [Bm.many])
          | _, _ :: _ :: _, hm, _ => exact absurd hm (by simp [Bm.many])
      · cases h
    refine ⟨hE, ?_⟩
    have hp : ∀ whole, isTrue pe X.env whole = (do let v ← whole; standAt pe.pos; holding [v] (truthy v)) := by
      unfold cE at h
      split at h
      · intro _; rfl
      · cases h
    exact (s_tru hE hp).imp fun σ H Q ⟨ρ, S, Q', X', r, rr, hw, kk, kx⟩ => ⟨ρ, S, Q', X', r, rr, hw, kk, kx⟩
  | .comp own g it cond elt, X, sc, W, hx, pe, h => by
    have hE : PE X pe (tDE X.K W (wE c (.comp own g it cond elt))) := by
      unfold cE at h
      split at h
      · simp only [Bool.and_eq_true] at h
        obtain ⟨⟨⟨⟨⟨⟨⟨⟨h0, h1⟩, h2⟩, h3⟩, h4⟩, h5⟩, h6⟩, h7⟩, h8⟩ := h
        refine s_comp (hx.calm h0) hx.nd (sI k it hx _ h3) (by rw [hx.hN, hx.hsc]; exact blkOk_by h1) (ix := g.ix) (fun i hi => ?_) (fun s H C cl fp => ?_) (fun s H C cl fp => ?_) (fun s H C cl fp => ?_) (nset_fold h2)
        · rw [List.all_eq_true] at h5
          simpa using h5 i hi
        · exact sG k g (sx_blk hx h0 s H _ C cl fp) (fun z => by cases z) _ h6
        · exact sC k cond (sx_blk hx h0 s H _ C cl fp) _ h7
        · exact (sE k elt (sx_blk hx h0 s H _ C cl fp) _ h8).1
      · cases h

    refine ⟨hE, ?_⟩
    exact pt_no
  | .call0 i, X, sc, W, hx, pe, h => by
    have hE : PE X pe (tDE X.K W (wE c (.call0 i))) := by
      unfold cE at h
      split at h
      · simp only [Bool.and_eq_true, decide_eq_true_eq] at h
        obtain ⟨⟨⟨h0, h1⟩, h2⟩, h3⟩ := h
        rw [k.fns] at h1
        obtain ⟨q, e1, e2⟩ := get_map h1
        obtain ⟨_, hr, g⟩ := hx.cfg
        exact s_call0 e1 e2 (gl_of hx h2) (okn_of h3).1 (hr h0) (g.fns q (List.mem_of_getElem? e1)) hx.tk
      · cases h
    refine ⟨hE, ?_⟩
    have hp : ∀ whole, isTrue pe X.env whole = (do let v ← whole; standAt pe.pos; holding [v] (truthy v)) := by
      unfold cE at h
      split at h
      · intro _; rfl
      · cases h
    exact (s_tru hE hp).imp fun σ H Q ⟨ρ, S, Q', X', r, rr, hw, kk, kx⟩ => ⟨ρ, S, Q', X', r, rr, hw, kk, kx⟩
  | .fld o f, X, sc, W, hx, pe, h => by
    have hE : PE X pe (tDE X.K W (wE c (.fld o f))) := by
      unfold cE at h
      split at h
      · simp only [Bool.and_eq_true, decide_eq_true_eq] at h
        obtain ⟨⟨h1, h2⟩, h3⟩ := h
        subst h1
        obtain ⟨_, hr, g⟩ := hx.cfg
        exact s_fld g.flds (sE k o hx _ h3).1 (ab_base h2)
      · cases h
    refine ⟨hE, ?_⟩
    have hp : ∀ whole, isTrue pe X.env whole = (do let v ← whole; standAt pe.pos; holding [v] (truthy v)) := by
      unfold cE at h
      split at h
      · intro _; rfl
      · cases h
    exact (s_tru hE hp).imp fun σ H Q ⟨ρ, S, Q', X', r, rr, hw, kk, kx⟩ => ⟨ρ, S, Q', X', r, rr, hw, kk, kx⟩
  | .mt o mi m es, X, sc, W, hx, pe, h => by
    have hE : PE X pe (tDE X.K W (wE c (.mt o mi m es))) := by
      unfold cE at h
      split at h
      · rename_i l g apos ls pos
        simp only [Bool.and_eq_true, decide_eq_true_eq, mtOk] at h
        obtain ⟨⟨⟨⟨h0, h1⟩, ⟨h2, h3⟩, h4⟩, h5⟩, h6⟩ := h
        subst h1
        obtain ⟨_, hr, gg⟩ := hx.cfg
        obtain ⟨r1, r2, r3⟩ := sEs k es hx _ h6
        cases ls with
        | nil =>
          unfold cEs at h6
          cases es with
          | cons _ _ => simp at h6
          | nil => exact (s_mt0 (pl := plainOf l X.env) hx.tk (hr h0) gg.mths (sE k o hx _ h5).1 (mt_eval (ab_base h2) h3 rfl)).imp fun σ H Q q => q
        | cons l0 ls0 =>
          refine s_mt (pl := plainOf l X.env) hx.tk (hr h0) gg.mths (sE k o hx _ h5).1 r1 (r2 _ _ rfl) (r3 _ _ rfl _) (mt_eval (ab_base h2) h3 ?_)
          unfold methodCallForm
          rw [r2 _ _ rfl]
          have r4 := r3 _ _ rfl
          simp only [backTo, List.map_cons, List.all_cons, Bool.not_false, Bool.true_and, Bool.and_eq_true, decide_eq_true_eq]
          refine ⟨⟨?_, rfl⟩, by
            have e : backToKw pos (keywordEach [] X.env) = [] := rfl
            rw [e]
            simp at h4 ⊢
            omega⟩
          have r5 := r4 pos
          unfold backTo at r5
          rw [List.any_eq_false] at r5
          rw [List.all_eq_true]
          intro z hz
          have := r5 z hz
          simpa using this
      · cases h
    refine ⟨hE, ?_⟩
    have hp : ∀ whole, isTrue pe X.env whole = (do let v ← whole; standAt pe.pos; holding [v] (truthy v)) := by
      unfold cE at h
      split at h
      · intro _; rfl
      · cases h
    exact (s_tru hE hp).imp fun σ H Q ⟨ρ, S, Q', X', r, rr, hw, kk, kx⟩ => ⟨ρ, S, Q', X', r, rr, hw, kk, kx⟩
  | .mk i es, X, sc, W, hx, pe, h => by
    have hE : PE X pe (tDE X.K W (wE c (.mk i es))) := by
      unfold cE at h
      split at h
      · rename_i x _ ls _
        simp only [Bool.and_eq_true, decide_eq_true_eq] at h
        obtain ⟨⟨⟨⟨h0, h1⟩, h2⟩, h3⟩, h4⟩ := h
        rw [k.mks] at h1
        obtain ⟨q, e1, e2⟩ := get_map h1
        obtain ⟨_, hr, g⟩ := hx.cfg
        obtain ⟨r1, r2, r3⟩ := sEs k es hx _ h4
        cases ls with
        | nil =>
          unfold cEs at h4
          cases es with
          | cons _ _ => simp at h4
          | nil => exact (s_mk0 hx.tk (hr h0) e1 e2 (gl_of hx h2) (okn_of h3).1 (g.mks q (List.mem_of_getElem? e1))).imp fun σ H Q q => q
        | cons l0 ls0 => exact s_mk hx.tk (hr h0) e1 e2 (gl_of hx h2) (okn_of h3).1 (g.mks q (List.mem_of_getElem? e1)) r1 (r2 _ _ rfl) (r3 _ _ rfl _)
      · cases h
    refine ⟨hE, ?_⟩
    exact pt_no
  | .dcomp own g it cond ke ve, X, sc, W, hx, pe, h => by
    have hE : PE X pe (tDE X.K W (wE c (.dcomp own g it cond ke ve))) := by
      unfold cE at h
      split at h
      · simp only [Bool.and_eq_true] at h
        obtain ⟨⟨⟨⟨⟨⟨⟨⟨⟨h0, h1⟩, h2⟩, h3⟩, h4⟩, h5⟩, h6⟩, h7⟩, h8⟩, h9⟩ := h
        refine s_dcomp (hx.calm h0) hx.nd (sI k it hx _ h3) (by rw [hx.hN, hx.hsc]; exact blkOk_by h1) (ix := g.ix) (fun i hi => ?_) (fun s H C cl fp => ?_) (fun s H C cl fp => ?_) (fun s H C cl fp => ?_) (fun s H C cl fp => ?_) (nset_fold h2)
        · rw [List.all_eq_true] at h5
          simpa using h5 i hi
        · exact sG k g (sx_blk hx h0 s H _ C cl fp) (fun z => by cases z) _ h6
        · exact sC k cond (sx_blk hx h0 s H _ C cl fp) _ h7
        · exact (sE k ke (sx_blk hx h0 s H _ C cl fp) _ h8).1
        · exact (sE k ve (sx_blk hx h0 s H _ C cl fp) _ h9).1
      · cases h
    refine ⟨hE, ?_⟩
    exact pt_no
  | .dic0, X, sc, W, hx, pe, h => by
    have hE : PE X pe (tDE X.K W (wE c .dic0)) := by
      unfold cE at h
      split at h
      · exact s_dic0
      · cases h
    refine ⟨hE, ?_⟩
    exact pt_no
  | .dic kvs, X, sc, W, hx, pe, h => by
    have hE : PE X pe (tDE X.K W (wE c (.dic kvs))) := by
      unfold cE at h
      split at h
      · simp only [Bool.and_eq_true, decide_eq_true_eq] at h
        obtain ⟨h1, h2⟩ := h
        obtain ⟨trs, g1, g2, g3, g4⟩ := sPr k kvs hx _ _ _ h2
        exact s_dic g1 g3 g4 (fun z => by cases z) h1 g2
      · cases h
    refine ⟨hE, ?_⟩
    exact pt_no
  | .lock e, X, sc, W, hx, pe, h => by
    have hE : PE X pe (tDE X.K W (wE c (.lock e))) := by
      unfold cE at h
      rw [Bool.and_eq_true] at h
      exact s_lock (sE k e ⟨hx.hN, hx.nd, hx.hsc, hx.calm, hx.hu, hx.cfg, takes0, hx.lam, hx.exv⟩ _ h.2).1
    refine ⟨hE, ?_⟩
    exact pt_no
  | .xt f es, X, sc, W, hx, pe, h => by
    have hE : PE X pe (tDE X.K W (wE c (.xt f es))) := by
      unfold cE at h
      split at h
      · rename_i ls hs
        rw [Bool.and_eq_true] at h
        obtain ⟨hm, hc⟩ := h
        cases f with
        | sset =>
          unfold Xt.syn at hs
          simp only at hs
          split at hs
          · split at hs
            · rename_i h
              cases hs
              simp only [Bool.and_eq_true, decide_eq_true_eq] at h
              obtain ⟨⟨⟨⟨⟨⟨h0, h1⟩, h2⟩, h3⟩, h4⟩, h5⟩, h6⟩ := h
              subst h1 h2
              match es, hc with
              | .nil, hc => exact absurd hc (by simp [cEs])
              | .cons u .nil, hc =>
                unfold cEs at hc
                simp only [Bool.and_eq_true] at hc
                exact s_sset (hx.calm h0) (gl_of hx h3) (nob_of k hx h5) (gl_of hx h4) (nob_of k hx h6) (sE k u hx _ hc.1.2).1 (nst_star hc.1.1)
              | .cons _ (.cons _ _), hc => exact absurd hc (by simp [cEs])
            · cases hs
          · cases hs
        | lrng =>
          unfold Xt.syn at hs
          simp only at hs
          split at hs
          · split at hs
            · rename_i h
              cases hs
              simp only [Bool.and_eq_true, decide_eq_true_eq] at h
              obtain ⟨⟨⟨⟨⟨⟨h0, h1⟩, h2⟩, h3⟩, h4⟩, h5⟩, h6⟩ := h
              subst h1 h2
              match es, ls, hc with
              | .nil, [], hc => exact absurd hm (by simp [Xt.many])
              | .nil, _ :: _, hc => exact absurd hc (by simp [cEs])
              | .cons _ _, [], hc => exact absurd hc (by simp [cEs])
              | .cons u .nil, [l], hc =>
                unfold cEs at hc
                simp only [Bool.and_eq_true] at hc
                exact s_lrng1 (hx.calm h0) (gl_of hx h3) (nob_of k hx h5) (gl_of hx h4) (nob_of k hx h6) (sE k u hx _ hc.1.2).1 (nst_star hc.1.1)
              | .cons u (.cons v .nil), [l, l2], hc =>
                simp only [cEs, Bool.and_eq_true] at hc
                obtain ⟨⟨a1, a2⟩, ⟨b1, b2⟩, _⟩ := hc
                exact s_lrng2 (hx.calm h0) (gl_of hx h3) (nob_of k hx h5) (gl_of hx h4) (nob_of k hx h6) (sE k u hx _ a2).1 (sE k v hx _ b2).1 (nst_star a1) (nst_star b1)
              | .cons _ .nil, _ :: _ :: _, hc => exact absurd hc (by simp [cEs])
              | .cons _ (.cons _ .nil), [_], hc => exact absurd hc (by simp [cEs])
              | .cons _ (.cons _ .nil), _ :: _ :: _ :: _, hc => exact absurd hc (by simp [cEs])
              | .cons _ (.cons _ (.cons _ _)), [_], hc => exact absurd hc (by simp [cEs])
              | .cons _ (.cons _ (.cons _ _)), [_, _], hc => exact absurd hc (by simp [cEs])
              | .cons _ (.cons _ (.cons _ _)), _ :: _ :: _ :: _, hc => exact absurd hm (by simp [Xt.many])
            · cases hs
          · cases hs
        | isc i =>
          unfold Xt.syn at hs
          simp only at hs
          split at hs
          · split at hs
            · rename_i h
              cases hs
              simp only [Bool.and_eq_true, decide_eq_true_eq] at h
              obtain ⟨⟨⟨⟨⟨h1, h2⟩, h3⟩, h4⟩, h5⟩, h6⟩ := h
              subst h1
              rw [k.clss] at h4
              obtain ⟨q, e1, e2⟩ := get_map h4
              obtain ⟨_, hr, g⟩ := hx.cfg
              obtain ⟨g1, g2⟩ := g.clss q (List.mem_of_getElem? e1)
              obtain ⟨x, C⟩ := q
              subst e2
              match es, hc with
              | .nil, hc => exact absurd hc (by simp [cEs])
              | .cons u .nil, hc =>
                unfold cEs at hc
                simp only [Bool.and_eq_true] at hc
                exact s_isc e1 (gl_of hx h2) (nob_of k hx h3) (gl_of hx h5) g1 g2 (sE k u hx _ hc.1.2).1 (okn_of h6).1 (nst_star hc.1.1)
              | .cons _ (.cons _ _), hc => exact absurd hc (by simp [cEs])
            · cases hs
          · cases hs
      · cases h
    refine ⟨hE, ?_⟩
    have hp : ∀ whole, isTrue pe X.env whole = (do let v ← whole; standAt pe.pos; holding [v] (truthy v)) := by
      unfold cE at h
      split at h
      · rename_i ls hs
        exact xt_none hs
      · cases h
    exact (s_tru hE hp).imp fun σ H Q ⟨ρ, S, Q', X', r, rr, hw, kk, kx⟩ => ⟨ρ, S, Q', X', r, rr, hw, kk, kx⟩
  | .isE i k', X, sc, W, hx, pe, h => by
    have hE : PE X pe (tDE X.K W (wE c (.isE i k'))) := by
      unfold cE at h
      split at h
      · simp only [Bool.and_eq_true, decide_eq_true_eq, Bool.not_eq_true'] at h
        obtain ⟨⟨⟨⟨⟨⟨⟨⟨⟨h0, h1⟩, h2⟩, h3⟩, h4⟩, h5⟩, h6⟩, h7⟩, h8⟩, h9⟩ := h
        subst h1
        rw [k.exn] at h7
        obtain ⟨q, e1, e2⟩ := get_map h7
        obtain ⟨_, _, g⟩ := hx.cfg
        exact s_isE (hx.exv h0) (gl_of hx h2) (nob_of k hx h3) (by rw [hx.hN]; exact h4) (by rw [hx.hsc]; exact vis_of h5) (okn_of h6).1 (okn_of h6).2.1 e1 e2 (gl_of hx h8) (okn_of h9).1 (ne_name (okn_of h9).2.2) (g.exn q (List.mem_of_getElem? e1)) g.exis
      · cases h
    refine ⟨hE, ?_⟩
    have hp : ∀ whole, isTrue pe X.env whole = (do let v ← whole; standAt pe.pos; holding [v] (truthy v)) := by
      unfold cE at h
      split at h
      · intro _; rfl
      · cases h
    refine (pt_val hE hp).imp fun σ H Q ⟨ρ, S, Q', X', r, rr, hw, kk, kx⟩ => ?_
    unfold wB at hw
    obtain ⟨a, C, b, h1, h2, h3, h4⟩ := hw
    exact ⟨ρ, S, fun d S' => ∃ b', d = .bl b' ∧ Q' b' S', X', r, rr, by unfold wE; exact ⟨a, C, b, h1, h2, h3, b, rfl, h4⟩, fun v H' d S' r' f' x' ⟨b', e, q⟩ => by subst e; cases x'; exact ⟨b', rfl, kk b' H' S' r' f' q⟩, kx⟩
  | .fldE i f, X, sc, W, hx, pe, h => by
    refine ⟨?_, pt_no⟩
    unfold cE at h
    split at h
    · simp only [Bool.and_eq_true, decide_eq_true_eq, Bool.not_eq_true'] at h
      obtain ⟨⟨⟨⟨h0, h1⟩, h2⟩, h3⟩, h4⟩ := h
      subst h1
      obtain ⟨_, _, g⟩ := hx.cfg
      exact s_fldE (hx.exv h0) (by rw [hx.hN]; exact h2) (by rw [hx.hsc]; exact vis_of h3) (okn_of h4).1 (okn_of h4).2.1 g.xfl
    · cases h
  | .tcall i e, X, sc, W, hx, pe, h => by
    refine ⟨?_, pt_no⟩
    unfold cE at h
    split at h
    · rename_i x _ params body scope _ _
      simp only [Bool.and_eq_true, decide_eq_true_eq] at h
      obtain ⟨⟨⟨⟨⟨⟨h0, h1⟩, h2⟩, h3⟩, h4⟩, h5⟩, h6⟩ := h
      rw [k.lams] at h1
      obtain ⟨p, e1, e2⟩ := get_map h1
      obtain ⟨q1, ⟨cc, q2, q3⟩, kk, q4, q5, q6⟩ := hx.lam p (List.mem_of_getElem? e1)
      have hL : LamX.LamS X.env.scope scope := by rw [hx.hsc]; exact LamX.lamS_by h5
      refine (s_tcall (c := c) (W := W) (wb := wE c.inner e) (gl_of hx h2) e2 (q4 h0) (okn_of h3).1 q1 q2 q3 q6 hL (no_par h4) fun A outer s H E f c' hr => ?_).imp fun σ H Q ⟨ρ, S, Q', X', r, rr, ⟨p', z1, z2, z3⟩, kq, kx⟩ => ?_
      · exact (sE (c := c.inner) (n := n.inner) ⟨k.fns, k.cons, k.nob, k.mks, k.excs, k.clss, rfl, k.exn, rfl⟩ e (X := LamX.lamCx X A outer s H E scope f c')
          ⟨hx.hN, hx.nd, rfl, fun _ => rfl, by have := hr.un; show (A.deeper _).units + 65 < cLine; omega, ⟨kk, fun _ => hr, q5⟩, takes_of rfl rfl rfl rfl, (fun p hp => by cases hp), (fun _ i a x z => by cases z)⟩ _ h6).1
      · rw [e1] at z1
        cases z1
        exact ⟨ρ, S, Q', X', r, rr, ⟨z2, z3⟩, kq, kx⟩
    · cases h
theorem sPr {c : Cfg} {n : Nm} (k : NmOk c n) : ∀ (kvs : Es) {X : Cx} {sc : Scope} {W : WX}, Sx X c n.N sc W n.cm → ∀ (pos : Pos) (ks : List (Option Expr)) (vs : List Expr), cPr n kvs sc ks vs = true →
    ∃ trs, PPs X pos ks vs trs ∧ PrOk X.K W (wPr c kvs) trs ∧ ks.all (·.isSome) = true ∧ ks.length = vs.length
  | .nil, X, sc, W, hx, pos, ks, vs, h => by
    unfold cPr at h
    split at h
    · exact ⟨[], pps_nil, pr_nil, rfl, rfl⟩
    · cases h
  | .cons _ .nil, X, sc, W, hx, pos, ks, vs, h => by
    unfold cPr at h
    cases h
  | .cons a (.cons b r), X, sc, W, hx, pos, ks, vs, h => by
    unfold cPr at h
    split at h
    · simp only [Bool.and_eq_true] at h
      obtain ⟨⟨h1, h2⟩, h3⟩ := h
      obtain ⟨trs, g1, g2, g3, g4⟩ := sPr k r hx pos _ _ h3
      exact ⟨_, pps_cons (sE k a hx _ h1).1 (sE k b hx _ h2).1 g1, pr_cons g2, by rw [List.all_cons, g3]; rfl, by rw [List.length_cons, List.length_cons, g4]⟩
    · cases h
theorem sAnd {c : Cfg} {n : Nm} (k : NmOk c n) : ∀ (es : Es) {X : Cx} {sc : Scope} {W : WX}, Sx X c n.N sc W n.cm → ∀ (ls : List Expr) (pos : Pos), cEs n es sc ls = true → PE X (.BoolOp .And ls pos) (tDE X.K W (wAnd c es))
  | .nil, X, sc, W, hx, ls, pos, h => pe_no
  | .cons e .nil, X, sc, W, hx, ls, pos, h => by
    unfold cEs at h
    split at h
    · simp only [Bool.and_eq_true] at h
      obtain ⟨h1, h2⟩ := h
      unfold cEs at h2
      split at h2
      · exact pe_one (sE k e hx _ h1.2).1
      · cases h2
    · cases h
  | .cons e (.cons e2 r), X, sc, W, hx, ls, pos, h => by
    unfold cEs at h
    split at h
    · simp only [Bool.and_eq_true] at h
      obtain ⟨h1, h2⟩ := h
      rename_i l ls
      cases ls with
      | nil => unfold cEs at h2; cases h2
      | cons l2 ls => exact s_and (sE k e hx _ h1.2).1 (sAnd k (.cons e2 r) hx _ pos h2)
    · cases h
theorem sOr {c : Cfg} {n : Nm} (k : NmOk c n) : ∀ (es : Es) {X : Cx} {sc : Scope} {W : WX}, Sx X c n.N sc W n.cm → ∀ (ls : List Expr) (pos : Pos), cEs n es sc ls = true → PE X (.BoolOp .Or ls pos) (tDE X.K W (wOr c es))
  | .nil, X, sc, W, hx, ls, pos, h => pe_no
  | .cons e .nil, X, sc, W, hx, ls, pos, h => by
    unfold cEs at h
    split at h
    · simp only [Bool.and_eq_true] at h
      obtain ⟨h1, h2⟩ := h
      unfold cEs at h2
      split at h2
      · exact pe_one (sE k e hx _ h1.2).1
      · cases h2
    · cases h
  | .cons e (.cons e2 r), X, sc, W, hx, ls, pos, h => by
    unfold cEs at h
    split at h
    · simp only [Bool.and_eq_true] at h
      obtain ⟨h1, h2⟩ := h
      rename_i l ls
      cases ls with
      | nil => unfold cEs at h2; cases h2
      | cons l2 ls => exact s_or (sE k e hx _ h1.2).1 (sOr k (.cons e2 r) hx _ pos h2)
    · cases h
theorem sBAnd {c : Cfg} {n : Nm} (k : NmOk c n) : ∀ (es : Es) {X : Cx} {sc : Scope} {W : WX}, Sx X c n.N sc W n.cm → ∀ (ls : List Expr) (pos : Pos), cEs n es sc ls = true → PW X (.BoolOp .And ls pos) (tDB X.K W (wBAnd c es))
  | .nil, X, sc, W, hx, ls, pos, h => pw_no
  | .cons e .nil, X, sc, W, hx, ls, pos, h => by
    unfold cEs at h
    split at h
    · simp only [Bool.and_eq_true] at h
      obtain ⟨h1, h2⟩ := h
      unfold cEs at h2
      split at h2
      · exact pw_and1 (sE k e hx _ h1.2).2
      · cases h2
    · cases h
  | .cons e (.cons e2 r), X, sc, W, hx, ls, pos, h => by
    unfold cEs at h
    split at h
    · simp only [Bool.and_eq_true] at h
      obtain ⟨h1, h2⟩ := h
      rename_i l ls
      cases ls with
      | nil => unfold cEs at h2; cases h2
      | cons l2 ls => exact t_and (sE k e hx _ h1.2).2 (sBAnd k (.cons e2 r) hx _ pos h2)
    · cases h
theorem sBOr {c : Cfg} {n : Nm} (k : NmOk c n) : ∀ (es : Es) {X : Cx} {sc : Scope} {W : WX}, Sx X c n.N sc W n.cm → ∀ (ls : List Expr) (pos : Pos), cEs n es sc ls = true → PW X (.BoolOp .Or ls pos) (tDB X.K W (wBOr c es))
  | .nil, X, sc, W, hx, ls, pos, h => pw_no
  | .cons e .nil, X, sc, W, hx, ls, pos, h => by
    unfold cEs at h
    split at h
    · simp only [Bool.and_eq_true] at h
      obtain ⟨h1, h2⟩ := h
      unfold cEs at h2
      split at h2
      · exact pw_or1 (sE k e hx _ h1.2).2
      · cases h2
    · cases h
  | .cons e (.cons e2 r), X, sc, W, hx, ls, pos, h => by
    unfold cEs at h
    split at h
    · simp only [Bool.and_eq_true] at h
      obtain ⟨h1, h2⟩ := h
      rename_i l ls
      cases ls with
      | nil => unfold cEs at h2; cases h2
      | cons l2 ls => exact t_or (sE k e hx _ h1.2).2 (sBOr k (.cons e2 r) hx _ pos h2)
    · cases h
theorem sEs {c : Cfg} {n : Nm} (k : NmOk c n) : ∀ (es : Es) {X : Cx} {sc : Scope} {W : WX}, Sx X c n.N sc W n.cm → ∀ ls : List Expr, cEs n es sc ls = true → PA X ls (tDA X.K W (wEs c es)) ∧
    (∀ l t, ls = l :: t → starEach (l :: t) X.env = (false, eval l X.env) :: starEach t X.env) ∧ (∀ l t, ls = l :: t → ∀ pos, (backTo pos (starEach t X.env)).any (·.1) = false)
  | .nil, X, sc, W, hx, ls, h => by
    unfold cEs at h
    split at h
    · exact ⟨s_nil, fun l t e => (by cases e), fun l t e => (by cases e)⟩
    · cases h
  | .cons e r, X, sc, W, hx, ls, h => by
    unfold cEs at h
    split at h
    · simp only [Bool.and_eq_true] at h
      obtain ⟨⟨h1, h2⟩, h3⟩ := h
      obtain ⟨r1, r2, r3⟩ := sEs k r hx _ h3
      refine ⟨s_cons (sE k e hx _ h2).1 r1 (nst_star h1), fun l t e => (by cases e; exact nst_star h1), fun l t e pos => ?_⟩
      have e2 := (List.cons.inj e).2
      subst e2
      rename_i t0
      cases t0 with
      | nil => rfl
      | cons l2 t2 =>
        rw [r2 l2 t2 rfl]
        show (false || (backTo pos (starEach t2 X.env)).any (·.1)) = false
        rw [r3 l2 t2 rfl pos]
        rfl
    · cases h
theorem sC {c : Cfg} {n : Nm} (k : NmOk c n) : ∀ (es : Es) {X : Cx} {sc : Scope} {W : WX}, Sx X c n.N sc W n.cm → ∀ ls : List Expr, cC n es sc ls = true → PTs X ls (tDB X.K W (wC c es))
  | .nil, X, sc, W, hx, ls, h => by
    unfold cC at h
    split at h
    · exact pts_nil.imp fun σ H Q ⟨ρ, S, Q', X', r, rr, hw, kk, kx⟩ => kk true H S r (Fr.refl S H) hw
    · cases h
  | .cons e .nil, X, sc, W, hx, ls, h => by
    unfold cC at h
    split at h
    · exact pts_one (sE k e hx _ h).2
    · cases h
  | .cons e (.cons _ _), X, sc, W, hx, ls, h => by
    unfold cC at h
    split at h
    · exact (pts_one (sE k e hx _ h).2).imp fun σ H Q ⟨ρ, S, Q', X', r, rr, hw, kk, kx⟩ => (show False from hw).elim
    · cases h
theorem sO {c : Cfg} {n : Nm} (k : NmOk c n) : ∀ (o : O) {X : Cx} {sc : Scope} {W : WX}, Sx X c n.N sc W n.cm → ∀ l : Option Expr, cO n o sc l = true → PO X l (tDO X.K W (wO c o))
  | .no, X, sc, W, hx, l, h => by
    unfold cO at h
    split at h
    · exact s_no
    · cases h
  | .yes e, X, sc, W, hx, l, h => by
    unfold cO at h
    split at h
    · exact s_yes (sE k e hx _ h).1
    · cases h
theorem sG {c : Cfg} {n : Nm} (k : NmOk c n) : ∀ (g : G) {X : Cx} {sc : Scope} {W : WX} {blk : Bool}, Sx X c n.N sc W n.cm → (blk = false → ∀ x, X.fn x = true) → ∀ pe : Expr, cG n g blk sc pe = true → PG X pe (tDG X.K W g.ix (wG c g))
  | .name i, X, sc, W, blk, hx, hf, pe, h => by
    unfold cG at h
    split at h
    · simp only [Bool.and_eq_true, decide_eq_true_eq, Bool.or_eq_true, Bool.not_eq_true'] at h
      obtain ⟨h1, h2⟩ := h
      rcases h2 with h2 | ⟨h2, h3⟩
      · exact g_name hx.nd (by rw [hx.hN]; exact h1) (.inl (by rw [hx.hsc]; exact loc_of h2)) (.inr (by rw [hx.hsc]; exact loc_of h2))
      · exact g_name hx.nd (by rw [hx.hN]; exact h1) (.inr (by rw [hx.hsc]; exact cel_of h3)) (.inl (hf h2 _))
    · cases h
  | .tup gs, X, sc, W, blk, hx, hf, pe, h => by
    unfold cG at h
    split at h
    · simp only [Bool.and_eq_true] at h
      obtain ⟨r1, r2, r3⟩ := sGs k gs hx hf _ h.2
      exact g_tup (hx.calm h.1) r1 r2 r3
    · cases h
  | .sub o i, X, sc, W, blk, hx, hf, pe, h => by
    unfold cG at h
    split at h
    · simp only [Bool.and_eq_true, Bool.not_eq_true'] at h
      exact g_sub hx.hu h.1.1 (sE k o hx _ h.1.2).1 (sE k i hx _ h.2).1
    · cases h
theorem sGs {c : Cfg} {n : Nm} (k : NmOk c n) : ∀ (gs : Gs) {X : Cx} {sc : Scope} {W : WX} {blk : Bool}, Sx X c n.N sc W n.cm → (blk = false → ∀ x, X.fn x = true) → ∀ ls : List Expr, cGs n gs blk sc ls = true → PGs X ls (tDGs X.K W gs.ix (wGs c gs)) ∧
    (assignEach ls X.env).findIdx? (·.1) = none ∧ (assignEach ls X.env).length = gs.len
  | .nil, X, sc, W, blk, hx, hf, ls, h => by
    unfold cGs at h
    split at h
    · exact ⟨gs_nil, rfl, rfl⟩
    · cases h
  | .cons g r, X, sc, W, blk, hx, hf, ls, h => by
    unfold cGs at h
    split at h
    · simp only [Bool.and_eq_true] at h
      obtain ⟨⟨h1, h2⟩, h3⟩ := h
      obtain ⟨r1, r2, r3⟩ := sGs k r hx hf _ h3
      refine ⟨gs_cons (sG k g hx hf _ h2) r1 (by rw [nst_assign h1]; rfl), ?_, ?_⟩
      · rw [nst_assign h1, List.findIdx?_cons, r2]
        rfl
      · rw [nst_assign h1, List.length_cons, r3]
        rfl
    · cases h
theorem sI {c : Cfg} {n : Nm} (k : NmOk c n) : ∀ (it : It) {X : Cx} {sc : Scope} {W : WX} {tg : Expr}, Sx X c n.N sc W n.cm → ∀ pe : Expr, cI n it sc tg pe = true → PI X tg pe (tDI X.K W (wI c it))
  | .seq e, X, sc, W, tg, hx, pe, h => by
    unfold cI at h
    exact i_seq (sE k e hx _ h).1
  | .enum e, X, sc, W, tg, hx, pe, h => by
    unfold cI at h
    rw [Bool.and_eq_true] at h
    obtain ⟨h0, h⟩ := h
    split at h
    · simp only [Bool.and_eq_true, decide_eq_true_eq] at h
      obtain ⟨⟨⟨⟨h1, h2⟩, h3⟩, h4⟩, h5⟩ := h
      subst h1
      cases tg <;> first
        | cases h0
        | skip
      exact i_enum (gl_of hx h2) (nob_of k hx h3) (sE k e hx _ h5).1 (nst_star h4)
    · cases h
  | .rng es, X, sc, W, tg, hx, pe, h => by
    unfold cI at h
    split at h
    · simp only [Bool.and_eq_true, decide_eq_true_eq, Bool.or_eq_true, beq_iff_eq] at h
      obtain ⟨⟨⟨⟨h1, h2⟩, h3⟩, h4⟩, h5⟩ := h
      subst h1
      have hn := nob_of k hx h3
      match es, h5 with
      | .nil, h5 =>
        unfold cEs at h5
        split at h5
        · simp at h4
        · cases h5
      | .cons e .nil, h5 =>
        unfold cEs at h5
        split at h5
        · simp only [Bool.and_eq_true] at h5
          obtain ⟨⟨q1, q2⟩, q3⟩ := h5
          unfold cEs at q3
          split at q3
          · exact i_rng1 (gl_of hx h2) hn (sE k e hx _ q2).1 (nst_star q1)
          · cases q3
        · cases h5
      | .cons e (.cons e2 .nil), h5 =>
        unfold cEs at h5
        split at h5
        · simp only [Bool.and_eq_true] at h5
          obtain ⟨⟨q1, q2⟩, q3⟩ := h5
          unfold cEs at q3
          split at q3
          · simp only [Bool.and_eq_true] at q3
            obtain ⟨⟨q4, q5⟩, q6⟩ := q3
            unfold cEs at q6
            split at q6
            · exact i_rng2 (gl_of hx h2) hn (sE k e hx _ q2).1 (sE k e2 hx _ q5).1 (nst_star q1) (nst_star q4)
            · cases q6
          · cases q3
        · cases h5
      | .cons e (.cons e2 (.cons e3 .nil)), h5 =>
        unfold cEs at h5
        split at h5
        · simp only [Bool.and_eq_true] at h5
          obtain ⟨⟨q1, q2⟩, q3⟩ := h5
          unfold cEs at q3
          split at q3
          · simp only [Bool.and_eq_true] at q3
            obtain ⟨⟨q4, q5⟩, q6⟩ := q3
            unfold cEs at q6
            split at q6
            · simp only [Bool.and_eq_true] at q6
              obtain ⟨⟨q7, q8⟩, q9⟩ := q6
              unfold cEs at q9
              split at q9
              · exact i_rng3 (gl_of hx h2) hn (sE k e hx _ q2).1 (sE k e2 hx _ q5).1 (sE k e3 hx _ q8).1 (nst_star q1) (nst_star q4) (nst_star q7)
              · cases q9
            · cases q6
          · cases q3
        · cases h5
      | .cons e (.cons e2 (.cons e3 (.cons e4 r))), h5 =>
        have hl := cEs_len h5
        simp only [Es.len] at hl
        omega
    · cases h
  | .items e, X, sc, W, tg, hx, pe, h => by
    unfold cI at h
    rw [Bool.and_eq_true] at h
    obtain ⟨h0, h⟩ := h
    split at h
    · simp only [Bool.and_eq_true, decide_eq_true_eq] at h
      obtain ⟨⟨⟨h1, h2⟩, h3⟩, h4⟩ := h
      subst h1
      cases tg <;> first
        | exact i_items (sE k e hx _ h4).1 (ab_base h2) h3
        | (simp [ntupT] at h0)
    · cases h
end
end
end Dz
namespace Dz
open PySem PySem.Spec PyProof.Rows L2
/-! ### except clauses one by one, each with or without `as` -/
/-- an exception of the body stands at the clauses -/
def Cau (X : Cx) (pins : List (Addr × Obj)) (σ : L2.St) (H : Hp) (cls : Value) (d : Option Addr) (a : Addr) (s3 : Shared) : Prop :=
  ∃ (B : Heap) (sI s' : Shared) (h3 : Heap), s3 = { s' with heap := h3 } ∧ Inv X pins σ H sI ∧ (∀ b o, sI.heap.get? b = some o → b ∉ frs X.stack → B.get? b = some o) ∧ sI.heap.UpToSlots s'.heap ∧ s'.heap.UpToSlots h3 ∧
    HandSPX.FlyingZ B (X.env :: X.outer) a (Zc cls d) h3 ∧ H a = none ∧ s'.os = sI.os ∧ AllBare s'.gens
def Catch (X : Cx) (hds : List ExceptHandler) (W : Ends → WX) : Prop := ∀ (pins : List (Addr × Obj)) (σ : L2.St) (H : Hp) (cls : Value) (d : Option Addr) (a : Addr) (s3 : Shared) (D : Ends), Cau X pins σ H cls d a s3 → W D cls d σ H →
  wpAny (model X.prog X.w) X.A (handleBy (.ref a) X.env hds) (SP X pins D) X.xe s3
section
variable {X : Cx} {pins : List (Addr × Obj)} {σ : L2.St} {H : Hp} {cls : Value} {d : Option Addr} {a : Addr} {s3 : Shared}
/-- what is known of the exception's object at a clause -/
theorem Cau.at (k : Cau X pins σ H cls d a s3) (hf : X.env.frame = some X.env.locals) : Inv X pins σ H s3 ∧ a ≠ X.env.locals ∧ a ∉ X.fs ∧ H a = none ∧ ∃ oe vs, s3.heap.get? a = some oe ∧ Zc cls d oe ∧ oe.data = .fields vs := by
  obtain ⟨B, sI, s', h3, rfl, J, nb, up, up3, fl3, na, os, ag⟩ := k
  obtain ⟨oe, vs, he, hz, hd⟩ := fl3.there
  have nfr : a ∉ frs (X.env :: X.outer) := fun hm => by
    obtain ⟨_, o', e', hnf⟩ := fl3.2.2.1.mem hm
    rw [he] at e'
    cases e'
    exact hnf _ hd
  refine ⟨J.landed nb fl3.1 (up.trans up3) os ag, fun z => nfr (List.mem_filterMap.mpr ⟨X.env, List.mem_cons_self, by rw [hf, z]⟩), fun hm => ?_, na, oe, vs, he, hz, hd⟩
  obtain ⟨e, he', q⟩ := List.mem_filterMap.mp hm
  exact nfr (List.mem_filterMap.mpr ⟨e, List.mem_cons_of_mem _ he', q⟩)
theorem Catch.imp {hds : List ExceptHandler} {W1 W2 : Ends → WX} (h : Catch X hds W1) (k : ∀ D cls d σ H, W2 D cls d σ H → W1 D cls d σ H) : Catch X hds W2 := fun pins σ H cls d a s3 D c w => h pins σ H cls d a s3 D c (k _ _ _ _ _ w)
theorem catch_nil {Wout : WX} (hs : X.stack = X.env :: X.outer) (hf : X.env.frame = some X.env.locals) (tk : Takes X Wout) : Catch X [] fun _ => Wout := fun pins σ H cls d a s3 D k w => by
  obtain ⟨B, sI, s', h3, rfl, J, nb, up, up3, fl3, na, os, ag⟩ := k
  refine wpAny_handleBy_nil ?_
  obtain ⟨k1, k2, k3, oe, vs, T, oT, ts', he, hz, hd, h1, hr⟩ := id fl3
  unfold PySem.passOn
  refine wpAny_bind (wpAny_field he hd h1 ?_)
  rw [if_neg (show ¬ ((Value.ref T == Value.none) = true) from by simp)]
  have fin : wpAny (model X.prog X.w) X.A (setFlight (.ref a) X.env.frame) (fun _ s4 => wpAny (model X.prog X.w) X.A (throw (.ref a) : Sem Flow) (SP X pins D) X.xe s4) X.xe { s' with heap := h3 } := by
    rw [hf]
    refine HandSPX.setFlight_upZ fl3 fun h4 hh4 up4 => wpAny_throw (tk _ _ ?_)
    exact ⟨a, B, sI, pins, σ, H, cls, d, rfl, J, nb, (up.trans up3).trans up4, .inr (.inr (by rw [hs]; exact hh4)), na, os, ag, w⟩
  first
    | exact wpAny_bind (wpAny_pure (wpAny_bind fin))
    | exact wpAny_bind fin
/-- the clause's class is asked: the exception's object is at hand, the suite is entered by go -/
theorem catch_cons {x : Str} {c : Value} {np pos' : Pos} {nm : Option Str} {b₀ : Stmt} {suite : List Stmt} {hds : List ExceptHandler} {W1 W2 : Ends → WX} (hf : X.env.frame = some X.env.locals) (hc : Names X x c) (h2 : Catch X hds W2)
    (go : ∀ (pins : List (Addr × Obj)) (σ : L2.St) (H : Hp) (cls : Value) (d : Option Addr) (a : Addr) (s' : Shared) (h3 : Heap) (D : Ends) (B : Heap) (sI : Shared), Inv X pins σ H sI → (∀ b o, sI.heap.get? b = some o → b ∉ frs X.stack → B.get? b = some o) → sI.heap.UpToSlots s'.heap → s'.heap.UpToSlots h3 →
      HandSPX.FlyingZ B (X.env :: X.outer) a (Zc cls d) h3 → H a = none → s'.os = sI.os → AllBare s'.gens → a ≠ X.env.locals → a ∉ X.fs → W1 D cls d σ H →
      codeAny (model X.prog X.w) (X.A.mark (some (.ref a))) (.handlers (.ref a) [.ExceptHandler none nm (b₀ :: suite) pos'] X.env) (fun r s₂ => match r with
          | .ok f => (match nm with
            | none => SP X pins D f s₂
            | some n => wpAny (model X.prog X.w) X.A (do bindName X.env n .none; unbindBehindTheSuite X.env n pos') (fun _ s₃ => SP X pins D f s₃) X.xe s₂)
          | .error x => PySem.cameBackBy (model X.prog X.w) X.A X.env X.xe x s₂) { s' with heap := h3 }) :
    Catch X (.ExceptHandler (some (.Name x np)) nm (b₀ :: suite) pos' :: hds) fun D cls d σ H => ∃ b, PySem.W.exmOne X.K cls c = some b ∧ (b = true → W1 D cls d σ H) ∧ (b = false → W2 D cls d σ H) := fun pins σ H cls d a s3 D k w => by
  obtain ⟨b, hb1, hyes, hno⟩ := w
  obtain ⟨J3, nL, nF, na, oe3, vs3, he3, hz3, hd3⟩ := k.at hf
  have S3 := J3.suite he3 hd3 na nL nF
  refine wpAny_handleBy_cons (codeAny_handlers_test ?_) (by intro q; cases q)
  have LT : PySem.W.Looks (model X.prog X.w) s3.heap (typeOf (.ref a)) cls := fun A Q E s k q => wpAny_typeOf_ref (k _ _ he3) (by rw [hz3.1]; exact q)
  have LM := PySem.W.exm_one (M := model X.prog X.w) (J3.kIn) LT hb1
  have test : ∀ {Q : Value → Shared → Prop} {E : Value → Shared → Prop}, Q c s3 → wpAny (model X.prog X.w) (X.A.mark (some (.ref a))) (eval (.Name x np) X.env) Q E s3 := fun {Q E} q => by
    obtain ⟨hg, hdbg, hm | ⟨hm, hv, hnn⟩⟩ := hc
    · exact ld_glob (X := X.suite a ((a, oe3) :: (X.pn ++ pins))) S3 hg hm q hdbg
    · exact ld_blt (X := X.suite a ((a, oe3) :: (X.pn ++ pins))) S3 hg hm hv q hnn hdbg
  refine test (LM.here ?_)
  cases b with
  | false =>
    show wpAny _ X.A (handleBy (.ref a) X.env hds) _ _ _
    exact h2 pins σ H cls d a s3 D k (hno rfl)
  | true =>
    obtain ⟨B, sI, s', h3, rfl, J, nb, up, up3, fl3, na, os, ag⟩ := k
    exact go pins σ H cls d a s' h3 D B sI J nb up up3 fl3 na os ag nL nF (hyes rfl)
/-- a clause without `as` -/
theorem catch_plain {x : Str} {c : Value} {np pos' : Pos} {b₀ : Stmt} {suite : List Stmt} {hds : List ExceptHandler} {ts : TS} {W2 : Ends → WX} (hf : X.env.frame = some X.env.locals) (hc : Names X x c) (h2 : Catch X hds W2)
    (hsu : ∀ (a : Addr) (oe : Obj) (pn : List (Addr × Obj)), PSs (X.suite a ((a, oe) :: pn)) (b₀ :: suite) ts) :
    Catch X (.ExceptHandler (some (.Name x np)) none (b₀ :: suite) pos' :: hds) fun D cls d σ H => ∃ b, PySem.W.exmOne X.K cls c = some b ∧ (b = true → ts D σ H) ∧ (b = false → W2 D cls d σ H) :=
  catch_cons (W1 := fun D _ _ σ H => ts D σ H) hf hc h2 fun pins σ H cls d a s' h3 D B sI J nb up up3 fl3 na os ag nL nF w => by
    refine codeAny_handlers_suite ?_
    refine HandSPX.lands_againZ fl3 fun h4 fl4 up4 => ?_
    have J4 : Inv X pins σ H { s' with heap := h4 } := J.landed nb fl4.1 ((up.trans up3).trans up4) os ag
    obtain ⟨oe4, vs4, he4, hz4, hd4⟩ := fl4.there
    have S4 := J4.suite he4 hd4 na nL nF
    refine wpAny_mono ((hsu a oe4 (X.pn ++ pins)).run [] _ _ H _ S4 w) (fun f s6 hsp => ?_) (fun _ _ z => False.elim z)
    cases f with
    | next => obtain ⟨σ6, H6, S6, q6⟩ := hsp; exact ⟨_, _, S6.unsuite J.ok, q6⟩
    | brk => obtain ⟨σ6, H6, S6, q6⟩ := hsp; exact ⟨_, _, S6.unsuite J.ok, q6⟩
    | cont => obtain ⟨σ6, H6, S6, q6⟩ := hsp; exact ⟨_, _, S6.unsuite J.ok, q6⟩
    | ret u => obtain ⟨v6, σ6, H6, S6, r6, q6⟩ := hsp; exact ⟨_, _, _, S6.unsuite J.ok, r6, q6⟩
/-- the ends behind `as n`: the name (slot i) is gone -/
def goneE (i : Nat) (D : Ends) : Ends := { nx := fun σ' H' => D.nx (σ'.set i none) H', rt := D.rt, bk := fun σ' H' => D.bk (σ'.set i none) H', ct := fun σ' H' => D.ct (σ'.set i none) H' }
/-- a clause with `as n` -/
theorem catch_as {x n : Str} {i : Nat} {c : Value} {np pos' : Pos} {b₀ : Stmt} {suite : List Stmt} {hds : List ExceptHandler} {ts : Addr → Value → Option Addr → TS} {W2 : Ends → WX} (hf : X.env.frame = some X.env.locals) (hN : X.N.Nodup) (hi : X.N[i]? = some n) (hln : X.env.kindOf n = some .local) (hc : Names X x c) (h2 : Catch X hds W2)
    (hsu : ∀ (a : Addr) (oe : Obj) (cls : Value) (d : Option Addr) (pn : List (Addr × Obj)), Zc cls d oe → (∃ vs, oe.data = .fields vs) → PSs (X.suite a ((a, oe) :: pn)) (b₀ :: suite) (ts a cls d)) :
    Catch X (.ExceptHandler (some (.Name x np)) (some n) (b₀ :: suite) pos' :: hds) fun D cls d σ H => ∃ b, PySem.W.exmOne X.K cls c = some b ∧ (b = true → ∀ a, H a = none → ts a cls d (goneE i D) (σ.set i (some (.ref a))) H) ∧ (b = false → W2 D cls d σ H) :=
  catch_cons (W1 := fun D cls d σ H => ∀ a, H a = none → ts a cls d (goneE i D) (σ.set i (some (.ref a))) H) hf hc h2 fun pins σ H cls d a s' h3 D B sI J nb up up3 fl3 na os ag nL nF w => by
    refine codeAny_handlers_suite_as ?_
    refine HandSPX.lands_againZ fl3 fun h4 fl4 up4 => ?_
    have J4 : Inv X pins σ H { s' with heap := h4 } := J.landed nb fl4.1 ((up.trans up3).trans up4) os ag
    obtain ⟨oe4, vs4, he4, hz4, hd4⟩ := fl4.there
    have S4 := J4.suite he4 hd4 na nL nF
    refine store_ok (X := X.suite a ((a, oe4) :: (X.pn ++ pins))) (v := .ref a) S4 hN hi (.inl hln) rfl (fun s5 S5 => ?_) (.inr hln)
    refine wpAny_mono ((hsu a oe4 cls d (X.pn ++ pins) hz4 ⟨_, hd4⟩).run [] s5 _ H _ S5 (w a na)) (fun f s6 hsp => ?_) (fun _ _ z => False.elim z)
    have end_ : ∀ {σ6 : L2.St} {H6 : Hp} {Q : Shared → Prop}, Inv (X.suite a ((a, oe4) :: (X.pn ++ pins))) [] σ6 H6 s6 → (∀ s7, Inv X pins (σ6.set i none) H6 s7 → Q s7) →
        wpAny (model X.prog X.w) X.A (do bindName X.env n .none; unbindBehindTheSuite X.env n pos') (fun _ s7 => Q s7) X.xe s6 := fun {σ6 H6 Q} S6 hq => gone_ok (S6.unsuite J.ok) hN hi hln hq
    cases f with
    | next => obtain ⟨σ6, H6, S6, q6⟩ := hsp; exact end_ S6 fun s7 J7 => ⟨_, _, J7, q6⟩
    | brk => obtain ⟨σ6, H6, S6, q6⟩ := hsp; exact end_ S6 fun s7 J7 => ⟨_, _, J7, q6⟩
    | cont => obtain ⟨σ6, H6, S6, q6⟩ := hsp; exact end_ S6 fun s7 J7 => ⟨_, _, J7, q6⟩
    | ret u => obtain ⟨v6, σ6, H6, S6, r6, q6⟩ := hsp; exact end_ S6 fun s7 J7 => ⟨_, _, _, J7, r6, q6⟩
theorem ps_try_catch {h₀ : ExceptHandler} {hds : List ExceptHandler} {body : List Stmt} {pos : Pos} {tb : Ends → TS} {W : Ends → WX} (hs : X.stack = X.env :: X.outer) (hf : X.env.frame = some X.env.locals)
    (hb : ∀ (D : Ends) (pn : List (Addr × Obj)) (xe : Value → Shared → Prop), Takes (X.tr pn xe) (W D) → PassesOwn (model X.prog X.w) X.A X.env xe → PSs (X.tr pn xe) body (tb D)) (hh : Catch X (h₀ :: hds) W) :
    PS X (.Try body (h₀ :: hds) [] [] pos) (fun D σ H => tb D D σ H) := by
  refine ⟨fun pins s σ H D I h => ?_⟩
  have ok := I.ok
  have hfr : X.A.frames = some (X.env :: X.outer) := by rw [ok.frames, hs]
  refine wpAny_Try_except ?_
  refine wpAny_mono ((hb D (X.pn ++ pins) (fun e s₁ => wpAny (model X.prog X.w) X.A (noteFrame e X.env) (fun _ s₂ => wpAny (model X.prog X.w) X.A (setFlight e none) (fun _ s₃ =>
    wpAny (model X.prog X.w) X.A (handleBy e X.env (h₀ :: hds)) (SP X pins D) X.xe s₃) X.xe s₂) X.xe s₁) (fun u s' xx => ?_) PassesOwn.looking).run [] s σ H D (I.toTry _) h) (fun f s1 hsp => ?_) (fun e s1 he => he)
  · obtain ⟨a, B, sI, pins', σ', H', cls, d, rfl, J', nb, up, sky, na, os, ag, w⟩ := xx
    have J : Inv X pins σ' H' sI := J'.ofTry ok
    have sky' : Sky B (X.env :: X.outer) a (Zc cls d) X.env.locals s'.heap := by rw [← hs]; exact sky
    show wpAny (model X.prog X.w) X.A (noteFrame (.ref a) X.env) _ _ _
    exact Sky.land Zc.steady hfr hf sky' fun h3 fl3 up3 => hh pins σ' H' cls d a _ D ⟨B, sI, s', h3, rfl, J, nb, up, up3, fl3, na, os, ag⟩ w
  · cases f with
    | next => obtain ⟨σ', H', J', q⟩ := hsp; exact wpAny_execs_nil ⟨σ', H', J'.ofTry ok, q⟩
    | brk => obtain ⟨σ', H', J', q⟩ := hsp; exact ⟨σ', H', J'.ofTry ok, q⟩
    | cont => obtain ⟨σ', H', J', q⟩ := hsp; exact ⟨σ', H', J'.ofTry ok, q⟩
    | ret u => obtain ⟨v, σ', H', J', r, q⟩ := hsp; exact ⟨v, σ', H', J'.ofTry ok, r, q⟩
end
end Dz
namespace Dz
open PySem PySem.Spec PyProof.Rows L2
section
variable {c : Cfg} {n : Nm} {X : Cx} {sc : Scope} {W : WX}
theorem sCompT (hcm : n.cm = true) (k : NmOk c n) {own : List (Str × Nat)} {g : G} {it : It} {cond : Es} {elt : E} (hx : Sx X c n.N sc W n.cm) {i : Nat} {y : Str} {py spos : Pos} {v : Expr}
    (hy : n.N[i]? = some y) (hl : locB sc y = true) (hk : X.env.scope.kind = .function)
    (hv : (match v with
      | .ListComp _ [_] scope pos => (py.line == pos.line) && !(scope.names.any fun (m, k) => m == y && (k == .local || k == .cell))
      | _ => false) = true) (h : cE n (.comp own g it cond elt) sc v = true) :
    PS X (.Assign [.Name y py] v spos) (tDT X.K W (wT c (.setc i (.comp own g it cond elt)))) := by
  unfold cE at h
  split at h
  · simp only [Bool.and_eq_true] at h
    obtain ⟨⟨⟨⟨⟨⟨⟨⟨h0, h1⟩, h2⟩, h3⟩, h4⟩, h5⟩, h6⟩, h7⟩, h8⟩ := h
    simp only [Bool.and_eq_true, Bool.not_eq_true'] at hv
    have hyl : X.env.scope.names.lookup y = some .local := by rw [hx.hsc]; exact loc_of hl
    refine s_setc (hx.calm hcm) hx.nd (by rw [hx.hN]; exact hy) hyl (sw_true hk hyl hv.1 hv.2) (sI k it hx _ h3) (by rw [hx.hN, hx.hsc]; exact blkOk_by h1) (ix := g.ix) (fun i hi => ?_) (fun s H C cl fp => ?_) (fun s H C cl fp => ?_) (fun s H C cl fp => ?_) (nset_fold h2)
    · rw [List.all_eq_true] at h5
      simpa using h5 i hi
    · exact sG k g (sx_blk hx h0 s H _ C cl fp) (fun z => by cases z) _ h6
    · exact sC k cond (sx_blk hx h0 s H _ C cl fp) _ h7
    · exact (sE k elt (sx_blk hx h0 s H _ C cl fp) _ h8).1
  · cases h
theorem sl_aug {b : Expr} (h : isSl b = false) : ∀ ov iv new, augStore b ov iv new = (do holding [new, ov, iv] (setItem ov iv new); release [new, ov, iv] []; pure .next) := by
  intro ov iv new
  cases b <;> first | rfl | cases h
theorem st_try1 {X : Cx} {W : WX} {c : Cfg} {C : Addr} {x : Str} {j : Nat} {body suite : List Stmt} {b₀ : Stmt} {np pos pos' : Pos} {wb ws : WT} (hj : c.excs[j]? = some (x, C)) (hs : X.stack = X.env :: X.outer) (hf : X.env.frame = some X.env.locals) (hc : Names X x (.ref C)) (tk : Takes X W)
    (hm : ∀ p ∈ c.exm, PySem.W.exmOne X.K (.ref p.1) (.ref p.2.1) = some p.2.2)
    (hb : ∀ (W' : WX) (pn : List (Addr × Obj)) (xe : Value → Shared → Prop), Takes (X.tr pn xe) W' → PassesOwn (model X.prog X.w) X.A X.env xe → PSs (X.tr pn xe) body (tDT X.K W' wb))
    (hsu : ∀ (a : Addr) (oe : Obj) (pn : List (Addr × Obj)), PSs (X.suite a ((a, oe) :: pn)) (b₀ :: suite) (tDT X.K W00 ws)) :
    PS X (.Try body [.ExceptHandler (some (.Name x np)) none (b₀ :: suite) pos'] [] [] pos) (tDT X.K W fun Z ρ S => wb { Z with ex := fun x ρ' S' => ∃ p b, c.excs[j]? = some p ∧ (x.C, p.2, b) ∈ c.exm ∧ (b = true → ws { Z with ex := fun _ _ _ => False } ρ' S') ∧ (b = false → Z.ex x ρ' S') } ρ S) :=
  (ps_try_only (tb := fun W' => tDT X.K W' wb) (ts := fun _ _ _ => tDT X.K W00 ws) hs hf hc tk hb fun a oe cls d pn _ _ => hsu a oe pn).imp fun Z0 σ H h => by
  obtain ⟨ρ, S, Z, r, rr, h, k⟩ := t_un h
  refine t_mk r rr h ⟨k.nx, k.bk, k.ct, k.rt, fun cls dx σ' H' x ρ' S' r' f' rr' z ⟨p, b, e, m, q1, q2⟩ => ?_⟩
  rw [hj] at e
  cases e
  obtain ⟨ec, ed⟩ := id z
  subst ec
  have kk := k.fr f'
  exact ⟨b, hm _ m, fun eb a _ => t_mk r' rr' (q1 eb) ⟨kk.nx, kk.bk, kk.ct, kk.rt, fun _ _ _ _ _ _ _ _ _ _ _ q => q.elim⟩, fun eb => k.ex _ _ _ _ _ _ _ r' f' rr' z (q2 eb)⟩
/-- a wish that does not look at the names -/
def Fgt (W : WX) : Prop := ∀ cls d (σ σ' : L2.St) H, σ.length = σ'.length → W cls d σ H → W cls d σ' H
theorem fgt0 : Fgt W00 := fun _ _ _ _ _ _ h => h
def ActOk (X : Cx) (N : List Str) (p : ActD) : Prop := ∃ a, N[0]? = some a ∧ ∀ (pn : List (Addr × Obj)) (xe : Value → Shared → Prop) (W : WX), Takes (X.tr pn xe) W → Fgt W → ∀ p1 p2 : Pos, PE (X.tr pn xe) (.Call (.Name a p1) [] [] p2) (tDE X.K W fun ρ S Q Y => ρ[0]? = some (some p.d) ∧ p.sp S Q Y)
structure Sy (X : Cx) (c : Cfg) (N : List Str) (sc : Scope) (W : WX) (cm : Bool) : Prop extends Sx X c N sc W cm where
  stk : X.stack = X.env :: X.outer
  frm : X.env.frame = some X.env.locals
  po : PassesOwn (model X.prog X.w) X.A X.env X.xe
  fn : ∀ x, X.fn x = true
  kd : X.env.scope.kind = .function
  act : cm = true → ∀ p, c.act = some p → ActOk X N p
  fg : c.act.isSome = true → Fgt W
theorem loc_or {x : Str} (hx : Sy X c n.N sc W n.cm) (h : (locB sc x || celB sc x) = true) : Loc X.env.scope x := by
  rw [hx.hsc]
  rw [Bool.or_eq_true] at h
  rcases h with h | h
  · exact .inl (loc_of h)
  · exact .inr (cel_of h)
theorem nst_one {tg : Expr} {env : Env} (h : nst tg = true) : (assignEach [tg] env).map (·.2) = [assign tg env] := by
  rw [nst_assign h]
  rfl
/-- the clauses in the kit's form -/
def cwH (K : PySem.W.Frag) (c : Cfg) (Wout : WX) : Hd → Ends → WX
  | .nil, _ => Wout
  | .cons i o su r, D => fun cls d σ H => ∃ p b, c.excs[i]? = some p ∧ PySem.W.exmOne K cls (.ref p.2) = some b ∧ (b = true → match o with
      | none => tDT K W00 (wTs (c.suite none) su) D σ H
      | some j => ∀ a, H a = none → ∃ C, cls = .ref C ∧ tDT K W00 (wTs (c.suite (some (j, a, ⟨C, d⟩))) su) (goneE j D) (σ.set j (some (.ref a))) H) ∧ (b = false → cwH K c Wout r D cls d σ H)
def wwH (K : PySem.W.Frag) (c : Cfg) (Wout : WX) (hs : Hd) (D : Ends) : WX := fun cls d σ H => if c.act.isSome then ∀ σ' : L2.St, σ.length = σ'.length → cwH K c Wout hs D cls d σ' H else cwH K c Wout hs D cls d σ H
theorem wwH_fgt {K : PySem.W.Frag} {c : Cfg} {Wout : WX} {hs : Hd} {D : Ends} (z : c.act.isSome = true) : Fgt (wwH K c Wout hs D) := fun cls d σ σ' H e h => by
  unfold wwH at h ⊢
  rw [if_pos z] at h ⊢
  exact fun σ2 e2 => h σ2 (e.trans e2)
theorem wwH_c {K : PySem.W.Frag} {c : Cfg} {Wout : WX} {hs : Hd} {D : Ends} {cls : Value} {d : Option Addr} {σ : L2.St} {H : Hp} (h : wwH K c Wout hs D cls d σ H) : cwH K c Wout hs D cls d σ H := by
  unfold wwH at h
  split at h
  · exact h σ rfl
  · exact h
theorem rr_none {K : PySem.W.Frag} {S : Hs} {H : Hp} {σ : L2.St} {n : Nat} (h : σ.length = n) : Rr K S H σ (List.replicate n none) := ⟨by rw [h, List.length_replicate], fun i d e => by
  rw [List.getElem?_replicate] at e
  split at e <;> cases e⟩
theorem cwH_of {P : Program} {w : World} {K : PySem.W.Frag} {mg : Str → Option Value} {base : Heap} {kk : Nat} {c : Cfg} (g : CfgOk P w K mg base kk c) {W : WX} {Z : DE} {Z0 : Ends} {S S' : Hs} {H H' : Hp} {cls : Value} {dx : Option Addr} {x : XD} (k : Five K W S H Z Z0) (r : Rs K S' H') (f : Fr S H S' H') (z : XRel K S' H' cls dx x) :
    ∀ (hs : Hd) {σ : L2.St} {ρ : Ro}, Rr K S' H' σ ρ → wH c hs Z x ρ S' → cwH K c W hs Z0 cls dx σ H'
  | .nil, σ, ρ, rr, h => k.ex cls dx σ H' x ρ S' r f rr z (by unfold wH at h; exact h)
  | .cons i o su t, σ, ρ, rr, h => by
    unfold wH at h
    obtain ⟨p, b, e1, e2, e3, e4⟩ := h
    obtain ⟨ec, ed⟩ := id z
    have kk := k.fr f
    refine ⟨p, b, e1, by rw [ec]; exact g.exm _ e2, fun hb => ?_, fun hb => cwH_of g k r f z t rr (e4 hb)⟩
    cases o with
    | none => exact t_mk r rr (e3 hb) ⟨kk.nx, kk.bk, kk.ct, kk.rt, fun _ _ _ _ _ _ _ _ _ _ _ q => q.elim⟩
    | some j =>
      intro a ha
      refine ⟨x.C, ec, t_mk (Z := goneD j Z) r (rr.set j (.ref a)) (by subst ed; exact e3 hb a) ⟨fun σ' H' ρ' S' r' f' rr' q => kk.nx _ _ _ _ r' f' (rr'.setN j) q, fun σ' H' ρ' S' r' f' rr' q => kk.bk _ _ _ _ r' f' (rr'.setN j) q, fun σ' H' ρ' S' r' f' rr' q => kk.ct _ _ _ _ r' f' (rr'.setN j) q, kk.rt, fun _ _ _ _ _ _ _ _ _ _ _ q => q.elim⟩⟩
theorem st_tryN {P : Program} {w : World} {mg : Str → Option Value} {base : Heap} {kk : Nat} {c : Cfg} {X : Cx} {W : WX} {body : List Stmt} {h₀ : ExceptHandler} {hds : List ExceptHandler} {bd : Ts} {hs : Hd} {pos : Pos} (hst : X.stack = X.env :: X.outer) (hf : X.env.frame = some X.env.locals) (g : CfgOk P w X.K mg base kk c)
    (hb : ∀ (D : Ends) (pn : List (Addr × Obj)) (xe : Value → Shared → Prop), Takes (X.tr pn xe) (wwH X.K c W hs D) → PassesOwn (model X.prog X.w) X.A X.env xe → PSs (X.tr pn xe) body (tDT X.K (wwH X.K c W hs D) (wTs c bd))) (hh : Catch X (h₀ :: hds) (cwH X.K c W hs)) :
    PS X (.Try body (h₀ :: hds) [] [] pos) (tDT X.K W (wT c (.tryN bd hs))) :=
  (ps_try_catch (tb := fun D => tDT X.K (wwH X.K c W hs D) (wTs c bd)) hst hf hb (hh.imp fun D cls d σ H h => wwH_c h)).imp fun Z0 σ H h => by
  obtain ⟨ρ, S, Z, r, rr, h, k⟩ := t_un h
  unfold wT at h
  refine t_mk r rr h ⟨k.nx, k.bk, k.ct, k.rt, fun cls dx σ' H' x ρ' S' r' f' rr' z q => ?_⟩
  have q : wH c hs Z x (if c.act.isSome then List.replicate ρ'.length none else ρ') S' := q
  unfold wwH
  split
  · rename_i ha
    rw [if_pos ha] at q
    exact fun σ2 e2 => cwH_of g k r' f' z hs (rr_none (e2.symm.trans rr'.1)) q
  · rename_i ha
    rw [if_neg ha] at q
    exact cwH_of g k r' f' z hs rr' q
mutual
theorem sT : ∀ (t : T) {c : Cfg} {n : Nm} {X : Cx} {sc : Scope} {W : WX}, NmOk c n → Sy X c n.N sc W n.cm → ∀ st : Stmt, cT n t sc st = true → PS X st (tDT X.K W (wT c t))
  | .asg g e, c, n, X, sc, W, k, hx, st, h => by
    unfold cT at h
    split at h
    · simp only [Bool.and_eq_true] at h
      obtain ⟨⟨h1, h2⟩, h3⟩ := h
      unfold swOk at h3
      rw [Bool.and_eq_true, Bool.and_eq_true] at h3
      obtain ⟨⟨h4, h5⟩, h6⟩ := h3
      exact st_asg (sE k e hx.toSx _ h2).1 (sG k g hx.toSx (fun _ => hx.fn) _ h1) (sw_sole hx.kd (by rw [hx.hsc]; exact h4)) (sw_stores (by rw [hx.hsc]; exact h5)) (nst_one h6)
    · cases h
  | .setc i e, c, n, X, sc, W, k, hx, st, h => by
    unfold cT at h
    split at h
    · simp only [Bool.and_eq_true, decide_eq_true_eq] at h
      obtain ⟨⟨⟨⟨⟨h0, h1⟩, h2⟩, h3⟩, h4⟩, h5⟩ := h
      split at h4
      · exact sCompT h0 k hx.toSx h1 h2 hx.kd h3 h5
      · cases h4
    · cases h
  | .aug i o e, c, n, X, sc, W, k, hx, st, h => by
    unfold cT at h
    split at h
    · simp only [Bool.and_eq_true, decide_eq_true_eq] at h
      obtain ⟨⟨⟨h1, h2⟩, h3⟩, h4⟩ := h
      subst h3
      exact st_aug o hx.nd (by rw [hx.hN]; exact h1) (loc_or hx h2) (.inl (hx.fn _)) (sE k e hx.toSx _ h4).1
    · cases h
  | .ex e, c, n, X, sc, W, k, hx, st, h => by
    unfold cT at h
    split at h
    · rw [Bool.and_eq_true] at h
      exact st_ex (sE k e hx.toSx _ h.1).1 (sw_none h.2)
    · cases h
  | .ret e, c, n, X, sc, W, k, hx, st, h => by
    unfold cT at h
    split at h
    · exact st_ret (sE k e hx.toSx _ h).1
    · cases h
  | .retN, c, n, X, sc, W, k, hx, st, h => by
    unfold cT at h
    split at h
    · exact st_retN
    · cases h
  | .pass, c, n, X, sc, W, k, hx, st, h => by
    unfold cT at h
    split at h
    · exact st_pass
    · cases h
  | .brk, c, n, X, sc, W, k, hx, st, h => by
    unfold cT at h
    split at h
    · exact st_brk
    · cases h
  | .cont, c, n, X, sc, W, k, hx, st, h => by
    unfold cT at h
    split at h
    · exact st_cont
    · cases h
  | .never, c, n, X, sc, W, k, hx, st, h => st_never
  | .ite t a b, c, n, X, sc, W, k, hx, st, h => by
    unfold cT at h
    split at h
    · simp only [Bool.and_eq_true] at h
      exact st_ite (sE k t hx.toSx _ h.1.1).2 (sTs a k hx _ h.1.2) (sTs b k hx _ h.2)
    · cases h
  | .for_ g it body, c, n, X, sc, W, k, hx, st, h => by
    unfold cT at h
    split at h
    · simp only [Bool.and_eq_true] at h
      obtain ⟨⟨⟨⟨h0, h1⟩, h2⟩, h3⟩, h4⟩ := h
      exact st_for hx.po (hx.calm h0) (sI k it hx.toSx _ h2) (sG k g hx.toSx (fun _ => hx.fn) _ h3) (sTs body k hx _ h4) (nset_fold h1)
    · cases h
  | .whil t body, c, n, X, sc, W, k, hx, st, h => by
    unfold cT at h
    split at h
    · rw [Bool.and_eq_true] at h
      exact st_whil hx.po (sE k t hx.toSx _ h.1).2 (sTs body k hx _ h.2)
    · cases h
  | .fst o f e, c, n, X, sc, W, k, hx, st, h => by
    unfold cT at h
    split at h
    · simp only [Bool.and_eq_true, decide_eq_true_eq] at h
      obtain ⟨⟨h1, h2⟩, h3⟩ := h
      subst h1
      obtain ⟨_, _, g⟩ := hx.cfg
      exact st_fst g.flds (sE k e hx.toSx _ h3).1 (sE k o hx.toSx _ h2).1 sw_attr
    · cases h
  | .faug o f p e, c, n, X, sc, W, k, hx, st, h => by
    unfold cT at h
    split at h
    · simp only [Bool.and_eq_true, decide_eq_true_eq] at h
      obtain ⟨⟨⟨h1, h2⟩, h3⟩, h4⟩ := h
      subst h1 h2
      obtain ⟨_, _, g⟩ := hx.cfg
      exact st_faug p g.flds (sE k o hx.toSx _ h3).1 (sE k e hx.toSx _ h4).1
    · cases h
  | .saug o i p e, c, n, X, sc, W, k, hx, st, h => by
    unfold cT at h
    split at h
    · simp only [Bool.and_eq_true, decide_eq_true_eq, Bool.not_eq_true'] at h
      obtain ⟨⟨⟨⟨h0, h2⟩, h3⟩, h4⟩, h5⟩ := h
      subst h2
      exact st_saug p hx.hu (sE k o hx.toSx _ h3).1 (sE k i hx.toSx _ h4).1 (sE k e hx.toSx _ h5).1 (sl_aug h0)
    · cases h
  | .par2 i j a b, c, n, X, sc, W, k, hx, st, h => by
    unfold cT at h
    split at h
    · simp only [Bool.and_eq_true, decide_eq_true_eq, Bool.not_eq_true'] at h
      obtain ⟨⟨⟨⟨⟨⟨⟨⟨⟨⟨⟨⟨⟨h0, h1⟩, h2⟩, h3⟩, h4⟩, h5⟩, h6⟩, h7⟩, h8⟩, h9⟩, g1⟩, g2⟩, g5⟩, g6⟩ := h
      have lx := loc_of h8
      have ly := loc_of h9
      rw [← hx.hsc] at lx ly
      exact st_par2 (hx.calm h0) hx.nd (by rw [hx.hN]; exact h1) (by rw [hx.hN]; exact h2) h3 lx ly (sE k a hx.toSx _ g5).1 (sE k b hx.toSx _ g6).1 (nst_star g1) (nst_star g2) (sw_par2 hx.kd lx ly h5 h4 g1 g2 h6 h7) rfl
    · cases h
  | .par3 i j l a b e, c, n, X, sc, W, k, hx, st, h => by
    unfold cT at h
    split at h
    · simp only [Bool.and_eq_true, decide_eq_true_eq, Bool.not_eq_true'] at h
      obtain ⟨⟨⟨⟨⟨⟨⟨⟨⟨⟨⟨⟨⟨⟨⟨⟨⟨⟨⟨⟨⟨⟨h0, h1⟩, h2⟩, h3⟩, i1⟩, i2⟩, i3⟩, j1⟩, j2⟩, j3⟩, l1⟩, l2⟩, f1⟩, f2⟩, b1⟩, b2⟩, b3⟩, n1⟩, n2⟩, n3⟩, e1⟩, e2⟩, e3⟩ := h
      have lx := loc_of b1
      have ly := loc_of b2
      have lz := loc_of b3
      rw [← hx.hsc] at lx ly lz
      exact st_par3 (hx.calm h0) hx.nd (by rw [hx.hN]; exact h1) (by rw [hx.hN]; exact h2) (by rw [hx.hN]; exact h3) i1 i2 i3 lx ly lz (sE k a hx.toSx _ e1).1 (sE k b hx.toSx _ e2).1 (sE k e hx.toSx _ e3).1 (nst_star n1) (nst_star n2) (nst_star n3) (sw_par3 hx.kd lx ly lz l1 l2 j1 j2 j3 n1 n2 n3 f1 f2) rfl
    · cases h
  | .del o i, c, n, X, sc, W, k, hx, st, h => by
    unfold cT at h
    split at h
    · simp only [Bool.and_eq_true] at h
      exact st_del (sE k o hx.toSx _ h.1).1 (sE k i hx.toSx _ h.2).1
    · cases h
  | .lock t, c, n, X, sc, W, k, hx, st, h => by
    unfold cT at h
    rw [Bool.and_eq_true] at h
    exact st_lock (sT t k { hx with tk := takes0, fg := fun _ => fgt0 } _ h.2)
  | .rais i, c, n, X, sc, W, k, hx, st, h => by
    unfold cT at h
    split at h
    · simp only [Bool.and_eq_true, decide_eq_true_eq] at h
      obtain ⟨⟨⟨h0, h1⟩, h2⟩, h3⟩ := h
      rw [k.excs] at h1
      obtain ⟨q, e1, e2⟩ := get_map h1
      obtain ⟨_, _, g⟩ := hx.cfg
      obtain ⟨x, C⟩ := q
      subst e2
      exact st_rais e1 (hx.calm h0) hx.tk (g.excs _ (List.mem_of_getElem? e1)) (gl_of hx.toSx h2) (okn_of h3).1
    · cases h
  | .try1 body i suite, c, n, X, sc, W, k, hx, st, h => by
    unfold cT at h
    cases h
  | .tryN body hs, c, n, X, sc, W, k, hx, st, h => by
    unfold cT at h
    split at h
    · rename_i l h0 hds pos
      simp only [Bool.and_eq_true] at h
      obtain ⟨⟨g0, g1⟩, g2⟩ := h
      obtain ⟨kk, hr, g⟩ := hx.cfg
      exact st_tryN hx.stk hx.frm g (fun D pn xe tk po => sTs body (X := X.tr pn xe) k { hN := hx.hN, nd := hx.nd, hsc := hx.hsc, calm := hx.calm, hu := hx.hu, cfg := ⟨kk, hr, g⟩, lam := hx.lam, exv := fun z => (by rw [g0] at z; cases z), tk := tk, stk := hx.stk, frm := hx.frm, po := po, fn := hx.fn, kd := hx.kd, act := hx.act, fg := fun z => wwH_fgt z } _ g1) (sH hs k hx g0 _ g2)
    · cases h
  | .ac ak, c, n, X, sc, W, k, hx, st, h => by
    unfold cT at h
    simp only [Bool.and_eq_true] at h
    obtain ⟨⟨ha, h0⟩, h⟩ := h
    rw [k.am] at ha
    cases hp : c.act with
    | none => rw [hp] at ha; cases ha
    | some p =>
      obtain ⟨a, a1, a2⟩ := hx.act h0 p hp
      have call : ∀ p1 p2 : Pos, PE X (.Call (.Name a p1) [] [] p2) (tDE X.K W fun ρ S Q Y => ρ[0]? = some (some p.d) ∧ p.sp S Q Y) := fun p1 p2 => a2 X.pn X.xe W hx.tk (hx.fg ha) p1 p2
      have isC : ∀ e, cCall n e = true → ∃ p1 p2, e = .Call (.Name a p1) [] [] p2 := fun e he => by
        unfold cCall at he
        split at he
        · rw [decide_eq_true_eq, a1] at he
          cases he
          exact ⟨_, _, rfl⟩
        · cases he
      have fin : ∀ {t : TS}, (∀ D σ H, tDT X.K W (wT c (.ac ak)) D σ H → t D σ H) → PS X st t → PS X st (tDT X.K W (wT c (.ac ak))) := fun k h => h.imp k
      cases ak with
      | drop =>
        simp only at h
        split at h
        · obtain ⟨p1, p2, rfl⟩ := isC _ h
          refine (st_ex (call p1 p2) (sw_none rfl)).imp fun D σ H h' => ?_
          obtain ⟨ρ, S, Z, r, rr, hw, kf⟩ := t_un h'
          unfold wT at hw
          obtain ⟨q, e, e1, e2⟩ := hw
          rw [hp] at e
          cases e
          exact t_mk r rr ⟨e1, e2⟩ kf
        · cases h
      | set i =>
        simp only at h
        split at h
        · simp only [Bool.and_eq_true, decide_eq_true_eq] at h
          obtain ⟨⟨h1, h2⟩, h3⟩ := h
          obtain ⟨p1, p2, rfl⟩ := isC _ h1
          refine (st_asg (call p1 p2) (sG k (.name i) hx.toSx (blk := false) (fun _ => hx.fn) _ (by unfold cG; simp [h2, h3])) (sw_sole hx.kd rfl) (sw_stores rfl) (nst_one rfl)).imp fun D σ H h' => ?_
          obtain ⟨ρ, S, Z, r, rr, hw, kf⟩ := t_un h'
          unfold wT at hw
          obtain ⟨q, e, e1, e2⟩ := hw
          rw [hp] at e
          cases e
          exact t_mk r rr ⟨e1, by unfold wG; exact e2⟩ kf
        · cases h
      | tupS i s =>
        simp only at h
        split at h
        · simp only [Bool.and_eq_true, decide_eq_true_eq] at h
          obtain ⟨⟨⟨h1, hz⟩, h2⟩, h3⟩ := h
          subst hz
          obtain ⟨p1, p2, rfl⟩ := isC _ h1
          refine (st_asg (s_tup (s_cons (s_con pe_str fun _ _ => .str _) (s_cons (call p1 p2) s_nil rfl) rfl)) (sG k (.name i) hx.toSx (blk := false) (fun _ => hx.fn) _ (by unfold cG; simp [h2, h3])) (sw_sole hx.kd rfl) (sw_stores rfl) (nst_one rfl)).imp fun D σ H h' => ?_
          obtain ⟨ρ, S, Z, r, rr, hw, kf⟩ := t_un h'
          unfold wT at hw
          obtain ⟨q, e, e1, e2⟩ := hw
          rw [hp] at e
          cases e
          exact t_mk r rr ⟨e1, by unfold wG; exact e2⟩ kf
        · cases h
theorem sTs : ∀ (ts : Ts) {c : Cfg} {n : Nm} {X : Cx} {sc : Scope} {W : WX}, NmOk c n → Sy X c n.N sc W n.cm → ∀ ls : List Stmt, cTs n ts sc ls = true → PSs X ls (tDT X.K W (wTs c ts))
  | .nil, c, n, X, sc, W, k, hx, ls, h => by
    unfold cTs at h
    split at h
    · exact ss_nil
    · cases h
  | .cons t r, c, n, X, sc, W, k, hx, ls, h => by
    unfold cTs at h
    split at h
    · rw [Bool.and_eq_true] at h
      exact ss_cons (wt := wT c t) (wu := wTs c r) (sT t k hx _ h.1) (sTs r k hx _ h.2)
    · cases h
theorem sH : ∀ (hs : Hd) {c : Cfg} {n : Nm} {X : Cx} {sc : Scope} {W : WX}, NmOk c n → Sy X c n.N sc W n.cm → n.cm = true → ∀ hds, cH n hs sc hds = true → Catch X hds (cwH X.K c W hs)
  | .nil, c, n, X, sc, W, k, hx, hcm, hds, h => by
    unfold cH at h
    split at h
    · exact (catch_nil hx.stk hx.frm hx.tk).imp fun D cls d σ H h => h
    · cases h
  | .cons i o su r, c, n, X, sc, W, k, hx, hcm, hds, h => by
    unfold cH at h
    split at h
    · rename_i x np nm b q hp ls
      simp only [Bool.and_eq_true, decide_eq_true_eq] at h
      obtain ⟨⟨⟨⟨⟨h1, h2⟩, h3⟩, h4⟩, h5⟩, h6⟩ := h
      rw [k.excs] at h1
      obtain ⟨pe, e1, e2⟩ := get_map h1
      obtain ⟨kk, hr, g⟩ := hx.cfg
      obtain ⟨x', C⟩ := pe
      subst e2
      have hn : Names X x' (.ref C) := ⟨gl_of hx.toSx h2, (okn_of h3).1, .inl (g.excs _ (List.mem_of_getElem? e1)).g⟩
      have gs : ∀ v, CfgOk X.prog X.w X.K X.mg X.base kk (c.suite v) := fun v => ⟨g.fns, g.cons, g.nob, g.flds, g.mths, g.mks, g.excs, g.exm, g.clss, g.exn, g.exis, g.xfl⟩
      have ks : ∀ v, NmOk (c.suite v) n.suite := fun v => ⟨k.fns, k.cons, k.nob, k.mks, k.excs, k.clss, rfl, k.exn, rfl⟩
      match o, nm, h4 with
      | none, none, h4 =>
        refine (catch_plain (ts := tDT X.K W00 (wTs (c.suite none) su)) hx.frm hn (sH r k hx hcm ls h6) fun a oe pn => sTs su (X := X.suite a ((a, oe) :: pn)) (W := W00) (ks none)
          { hN := hx.hN, nd := hx.nd, hsc := hx.hsc, calm := fun z => (by cases z), hu := hx.hu, cfg := ⟨kk, fun z => (by cases z), gs none⟩, lam := fun p hp => (by cases hp), exv := fun _ _ _ _ z => (by cases z), tk := takes0, stk := hx.stk, frm := hx.frm, po := PassesOwn.never, fn := hx.fn, kd := hx.kd, act := fun z => (by cases z), fg := fun z => (by cases z) } _ h5).imp fun D cls d σ H h => ?_
        obtain ⟨p, b, q1, q2, q3, q4⟩ := h
        rw [e1] at q1
        cases q1
        exact ⟨b, q2, q3, q4⟩
      | some j, some y, h4 =>
        simp only [Bool.and_eq_true, decide_eq_true_eq] at h4
        refine (catch_as hx.frm hx.nd (by rw [hx.hN]; exact h4.1) (show X.env.scope.names.lookup y = some .local by rw [hx.hsc]; exact loc_of h4.2) hn (sH r k hx hcm ls h6)
          (ts := fun a cls d D σ H => ∃ C, cls = .ref C ∧ tDT X.K W00 (wTs (c.suite (some (j, a, ⟨C, d⟩))) su) D σ H) fun a oe cls d pn hz hf => ⟨fun pins s σ H D I ⟨C, e, h⟩ => ?_⟩).imp fun D cls d σ H h => ?_
        · subst e
          exact (sTs su (X := X.suite a ((a, oe) :: pn)) (W := W00) (ks (some (j, a, ⟨C, d⟩)))
            { hN := hx.hN, nd := hx.nd, hsc := hx.hsc, calm := fun z => (by cases z), hu := hx.hu, cfg := ⟨kk, fun z => (by cases z), gs _⟩, lam := fun p hp => (by cases hp), exv := fun _ i a' x' z => (by cases z; exact ⟨X, oe, pn, rfl, hz, hf⟩), tk := takes0, stk := hx.stk, frm := hx.frm, po := PassesOwn.never, fn := hx.fn, kd := hx.kd, act := fun z => (by cases z), fg := fun z => (by cases z) } _ h5).run pins s σ H D I h
        · obtain ⟨p, b, q1, q2, q3, q4⟩ := h
          rw [e1] at q1
          cases q1
          exact ⟨b, q2, q3, q4⟩
      | none, some _, h4 => cases h4
      | some _, none, h4 => cases h4
    · cases h
end

/-! ### THE RULE for a def -/
def startD (N : List Str) (ds : List D) : Ro := ds.map some ++ List.replicate (N.length - ds.length) none
theorem rr_start {K : PySem.W.Frag} {S : Hs} {H : Hp} {N : List Str} {vs : List V} {ds : List D} (h : DvA K S H vs ds) : Rr K S H (L2.start N vs) (startD N ds) := by
  unfold L2.start startD
  rw [h.len]
  refine ⟨by simp [h.len], fun i d e => ?_⟩
  by_cases hi : i < ds.length
  · rw [List.getElem?_append_left (by simpa using hi), List.getElem?_map] at e
    cases q : ds[i]? with
    | none => rw [q] at e; cases e
    | some d' =>
      rw [q] at e
      cases e
      obtain ⟨v, e1, e2⟩ := h.get q
      exact ⟨v, by rw [List.getElem?_append_left (by rw [List.length_map, h.len]; exact hi), List.getElem?_map, e1]; rfl, e2⟩
  · rw [List.getElem?_append_right (by simpa using hi), List.getElem?_replicate] at e
    split at e <;> cases e
theorem fn_D {P : Program} {w : World} {K : PySem.W.Frag} {mg : Str → Option Value} {base : Heap} {x qual : Str} {st : Stmt} {f : Addr} {fd : FuncData} {ps : List Str} {kk : Nat} {sp : DSp} {body : Ts} {c : Cfg} {n : Nm} (F : Fun K x qual st f fd) (Sc : FnScope n.N ps (defScope st))
    (nk : NmOk c n) (cfg : CfgOk P w K mg base kk c) (hc : cTs n body (defScope st) (defBody st) = true)
    (vc : ∀ ds S Q Y, sp ds S Q Y → ds.length = ps.length ∧ wTs c body { nx := fun _ S' => Q .non S', rt := Q, ex := fun x _ S' => Y x S' } (startD n.N ds) S)
    (hlam : ∀ p ∈ c.lams, (qual ++ ".<locals>.") ++ "<lambda>" = p.q ∧ (∃ cc, fd.code = .ref cc ∧ LamX.TabB base mg cc p.tab) ∧ ∃ j, j + 2 ≤ kk ∧ CfgOk P w K mg base j c.inner ∧ LamAt P w K mg base (j + 2) p := by intro _ h; cases h) (hact : c.act = none := by rfl) (hexv : c.exv = none := by rfl) : FnOk P w K mg base (L2.CX P w) (kk + 1) f fd ps (toSp K sp) := by
  obtain ⟨oc, od, kV, doc, pm, an, cdv, ct, osl, rfl, lk, hcd⟩ := F.ex
  refine fn_of lk hcd Sc (fun vs H Q E h => ?_) (fun A outer s H vs Q E hr h => ?_)
  · obtain ⟨ds, S, Q', X', r, da, hs, k, kx⟩ := h
    rw [da.len]
    exact (vc ds S Q' X' hs).1
  · obtain ⟨ds, S, Q', X', r, da, hs, k, kx⟩ := h
    have tk : Takes (cxOf (L2.CX P w) P w K mg base n.N qual (defScope st) f cdv A outer s H E) (fun cls d _ H => E cls d H) := takes_of rfl rfl rfl rfl
    have hx : Sy (cxOf (L2.CX P w) P w K mg base n.N qual (defScope st) f cdv A outer s H E) c n.N (defScope st) (fun cls d _ H => E cls d H) n.cm :=
      { hN := rfl, nd := Sc.nd, hsc := rfl, calm := fun _ => rfl, hu := (by have := hr.un; show (A.deeper _).units + 65 < cLine; omega), cfg := ⟨kk, fun _ => hr, cfg⟩, lam := fun p hp => (by obtain ⟨a1, ⟨cc, a2, a3⟩, j, a4, a5, a6⟩ := hlam p hp; exact ⟨a1, ⟨cc, a2, a3⟩, j, fun _ => hr.mono a4, a5, a6⟩), stk := rfl, frm := rfl, tk := tk, po := passes_of rfl, fn := fun _ => rfl, kd := Sc.kind, exv := fun _ i a x z => (by rw [hexv] at z; cases z), act := fun _ p z => (by rw [hact] at z; cases z), fg := fun z => (by rw [hact] at z; cases z) }
    refine ⟨_, sTs body nk hx _ hc, ?_⟩
    refine ⟨startD n.N ds, S, _, r, rr_start da, (vc ds S Q' X' hs).2, ?_, ?_, ?_, ?_, ?_⟩
    · exact fun σ' H' ρ' S' r' f' rr' q => k _ _ _ _ r' f' .non q
    · exact fun σ' H' ρ' S' r' f' rr' q => q.elim
    · exact fun σ' H' ρ' S' r' f' rr' q => q.elim
    · exact fun v H' d S' r' f' x' q => k _ _ _ _ r' f' x' q
    · exact fun cls dx σ' H' x ρ' S' r' f' rr' z q => kx _ _ _ _ _ r' f' z q
end
end Dz
namespace Dz
open PySem L2
theorem kit_NoneType_int : kitB "NoneType" "int" = some false := by decide +kernel
theorem kit_NoneType_bool : kitB "NoneType" "bool" = some false := by decide +kernel
theorem kit_NoneType_str : kitB "NoneType" "str" = some false := by decide +kernel
theorem kit_NoneType_tuple : kitB "NoneType" "tuple" = some false := by decide +kernel
theorem kit_NoneType_list : kitB "NoneType" "list" = some false := by decide +kernel
theorem kit_NoneType_dict : kitB "NoneType" "dict" = some false := by decide +kernel
theorem kit_bool_int : kitB "bool" "int" = some true := by decide +kernel
theorem kit_bool_bool : kitB "bool" "bool" = some true := by decide +kernel
theorem kit_bool_str : kitB "bool" "str" = some false := by decide +kernel
theorem kit_bool_tuple : kitB "bool" "tuple" = some false := by decide +kernel
theorem kit_bool_list : kitB "bool" "list" = some false := by decide +kernel
theorem kit_bool_dict : kitB "bool" "dict" = some false := by decide +kernel
theorem kit_int_int : kitB "int" "int" = some true := by decide +kernel
theorem kit_int_bool : kitB "int" "bool" = some false := by decide +kernel
theorem kit_int_str : kitB "int" "str" = some false := by decide +kernel
theorem kit_int_tuple : kitB "int" "tuple" = some false := by decide +kernel
theorem kit_int_list : kitB "int" "list" = some false := by decide +kernel
theorem kit_int_dict : kitB "int" "dict" = some false := by decide +kernel
theorem kit_str_int : kitB "str" "int" = some false := by decide +kernel
theorem kit_str_bool : kitB "str" "bool" = some false := by decide +kernel
theorem kit_str_str : kitB "str" "str" = some true := by decide +kernel
theorem kit_str_tuple : kitB "str" "tuple" = some false := by decide +kernel
theorem kit_str_list : kitB "str" "list" = some false := by decide +kernel
theorem kit_str_dict : kitB "str" "dict" = some false := by decide +kernel
theorem kit_list_int : kitB "list" "int" = some false := by decide +kernel
theorem kit_list_bool : kitB "list" "bool" = some false := by decide +kernel
theorem kit_list_str : kitB "list" "str" = some false := by decide +kernel
theorem kit_list_tuple : kitB "list" "tuple" = some false := by decide +kernel
theorem kit_list_list : kitB "list" "list" = some true := by decide +kernel
theorem kit_list_dict : kitB "list" "dict" = some false := by decide +kernel
theorem kit_tuple_int : kitB "tuple" "int" = some false := by decide +kernel
theorem kit_tuple_bool : kitB "tuple" "bool" = some false := by decide +kernel
theorem kit_tuple_str : kitB "tuple" "str" = some false := by decide +kernel
theorem kit_tuple_tuple : kitB "tuple" "tuple" = some true := by decide +kernel
theorem kit_tuple_list : kitB "tuple" "list" = some false := by decide +kernel
theorem kit_tuple_dict : kitB "tuple" "dict" = some false := by decide +kernel
theorem kit_dict_int : kitB "dict" "int" = some false := by decide +kernel
theorem kit_dict_bool : kitB "dict" "bool" = some false := by decide +kernel
theorem kit_dict_str : kitB "dict" "str" = some false := by decide +kernel
theorem kit_dict_tuple : kitB "dict" "tuple" = some false := by decide +kernel
theorem kit_dict_list : kitB "dict" "list" = some false := by decide +kernel
theorem kit_dict_dict : kitB "dict" "dict" = some true := by decide +kernel
theorem isiAny_nil {t : String} : isiAny t [] = some false := rfl
theorem isiAny_cons {t c : String} {cs : List String} : isiAny t (c :: cs) = (match kitB t c with | some true => some true | some false => isiAny t cs | none => none) := rfl

section
variable {S : Hs} {rt : QD} {Q : QD} {a : Addr} {xs ys : List D}
theorem ret_any {d : D} (h : rt d S) : retW d S rt := .inl h
theorem ret_frz (h : S a = some (.lst xs)) (q : rt (.lst xs) (sdel S a)) : retW (.ref a) S rt := .inr ⟨a, xs, rfl, h, q⟩
theorem ret_non : retW .non S rt = rt .non S := propext ⟨fun h => h.elim id fun ⟨_, _, e, _⟩ => (by cases e), .inl⟩
theorem ret_bl {b : Bool} : retW (.bl b) S rt = rt (.bl b) S := propext ⟨fun h => h.elim id fun ⟨_, _, e, _⟩ => (by cases e), .inl⟩
theorem ret_int {b : Int} : retW (.int b) S rt = rt (.int b) S := propext ⟨fun h => h.elim id fun ⟨_, _, e, _⟩ => (by cases e), .inl⟩
theorem ret_str {b : Str} : retW (.str b) S rt = rt (.str b) S := propext ⟨fun h => h.elim id fun ⟨_, _, e, _⟩ => (by cases e), .inl⟩
theorem ret_tup : retW (.tup xs) S rt = rt (.tup xs) S := propext ⟨fun h => h.elim id fun ⟨_, _, e, _⟩ => (by cases e), .inl⟩
theorem ret_lst : retW (.lst xs) S rt = rt (.lst xs) S := propext ⟨fun h => h.elim id fun ⟨_, _, e, _⟩ => (by cases e), .inl⟩
theorem newL_f (h : Q (.lst xs) S) : NewL xs S Q := .inl h
theorem newL_l (h : ∀ p, S p = none → Q (.ref p) (sup S p (.lst xs))) : NewL xs S Q := .inr h
theorem atI_0 {α : Type} {x : α} {xs : List α} : atI (x :: xs) 0 = some x := by
  have := atI_nat (xs := x :: xs) (j := 0) (v := x) rfl
  simpa using this
theorem atI_1 {α : Type} {x y : α} {xs : List α} : atI (x :: y :: xs) 1 = some y := by
  have := atI_nat (xs := x :: y :: xs) (j := 1) (v := y) rfl
  simpa using this
theorem atI_2 {α : Type} {x y z : α} {xs : List α} : atI (x :: y :: z :: xs) 2 = some z := by
  have := atI_nat (xs := x :: y :: z :: xs) (j := 2) (v := z) rfl
  simpa using this
theorem atI_3 {α : Type} {x y z u : α} {xs : List α} : atI (x :: y :: z :: u :: xs) 3 = some u := by
  have := atI_nat (xs := x :: y :: z :: u :: xs) (j := 3) (v := u) rfl
  simpa using this
theorem atI_4 {α : Type} {x y z u w : α} {xs : List α} : atI (x :: y :: z :: u :: w :: xs) 4 = some w := by
  have := atI_nat (xs := x :: y :: z :: u :: w :: xs) (j := 4) (v := w) rfl
  simpa using this
theorem ixN_lit {n : Nat} {i : Nat} (h : i < n) : ixN n (i : Int) = some i := by
  unfold ixN
  rw [if_pos (by omega), if_pos (by omega)]
  simp
theorem lstOf_live (h : S a = some (.lst xs)) : lstOf S (.ref a) = some xs := by
  unfold lstOf
  simp only [h]
theorem lstOf_lst : lstOf S (.lst xs) = some xs := rfl
theorem seqOf_lst : seqOf S (.lst xs) = some xs := rfl
theorem seqOf_tup : seqOf S (.tup xs) = some xs := rfl
theorem seqOf_live (h : S a = some (.lst xs)) : seqOf S (.ref a) = some xs := lstOf_live h
end
/-! ### comprehensions -/
section
variable {vs : List Nat} {wg : D → Ro → Hs → (Ro → Hs → Prop) → XQ → Prop} {wc : WB} {we : WE} {ρ : Ro} {Q : QD} {ds : List D} {Pr : Hs → Prop} {S : Hs}
/-- by an invariant over the live objects without the new list -/
theorem comp_inv (W : Nat → List D → Hs → Prop) (hl : ds.length ≤ sizeLine) (w0 : ∀ L, S L = none → W 0 [] (sup S L (.lst [])))
    (turn : ∀ L, S L = none → ∀ i x acc S2, ds[i]? = some x → acc.length ≤ i → W i acc S2 → S2 L = some (.lst acc) ∧ Pr S2 ∧ wg x (wipeD ρ vs) S2 (fun ρ' S3 =>
        wc ρ' S3 (fun b S4 => if b = true then we ρ' S4 (fun y S5 => S5 L = some (.lst acc) ∧ W (i + 1) (acc ++ [y]) (sup S5 L (.lst (acc ++ [y])))) X0 else W (i + 1) acc S4) X0) X0)
    (done : ∀ L, S L = none → ∀ acc S2, acc.length ≤ ds.length → W ds.length acc S2 → S2 L = some (.lst acc) ∧ Pr S2 ∧ (Q (.lst acc) (sdel S2 L) ∨ Q (.ref L) S2)) : compB vs wg wc we ρ Q ds Pr S :=
  ⟨hl, fun L hL => ⟨W, w0 L hL, turn L hL, done L hL⟩⟩
/-- each item gives by f a value or none; nothing else changes -/
theorem comp_pure (f : D → Option D) (hl : ds.length ≤ sizeLine) (hp : ∀ S2 : Hs, (∀ a o, S a = some o → S2 a = some o) → Pr S2)
    (turn : ∀ (i : Nat) x S2 (K : QD) (K' : Hs → Prop), ds[i]? = some x → (∀ a o, S a = some o → S2 a = some o) → (∀ y, f x = some y → K y S2) → (f x = none → K' S2) → wg x (wipeD ρ vs) S2 (fun ρ' S3 =>
        wc ρ' S3 (fun b S4 => if b = true then we ρ' S4 K X0 else K' S4) X0) X0)
    (q : Q (.lst (ds.filterMap f)) S) : compB vs wg wc we ρ Q ds Pr S := by
  refine ⟨hl, fun L hL => ⟨fun i acc S2 => acc = (ds.take i).filterMap f ∧ S2 = sup S L (.lst acc), ⟨rfl, rfl⟩, ?_, ?_⟩⟩
  · rintro i x acc S2 hi _ ⟨rfl, rfl⟩
    have ext : ∀ a o, S a = some o → (sup S L (.lst ((ds.take i).filterMap f))) a = some o := fun a o h => by rw [sup_ne (sne h hL)]; exact h
    have hlt : i < ds.length := (List.getElem?_eq_some_iff.mp hi).1
    have ht : ds.take (i + 1) = ds.take i ++ [x] := by
      rw [List.take_succ, hi]
      rfl
    refine ⟨sup_same, hp _ ext, turn i x _ _ _ hi ext (fun y hy => ⟨sup_same, ?_, ?_⟩) fun hn => ⟨?_, rfl⟩⟩
    · rw [ht, List.filterMap_append]; simp [hy]
    · rw [sup_sup]
    · rw [ht, List.filterMap_append]; simp [hn]
  · rintro acc S2 _ ⟨rfl, rfl⟩
    rw [List.take_length]
    refine ⟨sup_same, hp _ fun a o h => by rw [sup_ne (sne h hL)]; exact h, .inl ?_⟩
    rw [sdel_sup hL]
    exact q
end
end Dz
namespace Dz
open PySem L2
/-! ### data that can be compared -/
def D.dok (n : Nat) (d : D) : Prop := d.pure = true ∧ d.py.canLay0 = true ∧ d.py.depth ≤ n
theorem dok_int {n : Nat} (i : Int) : D.dok n (.int i) := ⟨rfl, rfl, Nat.zero_le _⟩
theorem dok_bl {n : Nat} (i : Bool) : D.dok n (.bl i) := ⟨rfl, rfl, Nat.zero_le _⟩
theorem dok_non {n : Nat} : D.dok n .non := ⟨rfl, rfl, Nat.zero_le _⟩
theorem dok_str {n : Nat} {x : Str} (h : PyData.canLay0 (.str x) = true) : D.dok n (.str x) := ⟨rfl, h, Nat.zero_le _⟩
theorem dok_all {n : Nat} : ∀ {xs : List D}, (∀ x ∈ xs, D.dok n x) → D.pures xs = true ∧ PyData.canLayAll0 (D.pys xs) = true ∧ PyData.depthAll (D.pys xs) ≤ n
  | [], _ => ⟨rfl, rfl, Nat.zero_le _⟩
  | x :: r, h => by
    obtain ⟨h1, h2, h3⟩ := h x (List.mem_cons_self ..)
    obtain ⟨k1, k2, k3⟩ := dok_all (xs := r) fun y hy => h y (List.mem_cons_of_mem _ hy)
    exact ⟨by simp [D.pures, h1, k1], by simp [D.pys, PyData.canLayAll0, h2, k2], by simp only [D.pys, PyData.depthAll]; omega⟩
theorem dok_tup {n : Nat} {xs : List D} (h : ∀ x ∈ xs, D.dok n x) : D.dok (n + 1) (.tup xs) := by
  obtain ⟨k1, k2, k3⟩ := dok_all h
  exact ⟨k1, k2, by simp only [D.py, PyData.depth]; omega⟩
theorem dok_lst {n : Nat} {xs : List D} (h : ∀ x ∈ xs, D.dok n x) : D.dok (n + 1) (.lst xs) := by
  obtain ⟨k1, k2, k3⟩ := dok_all h
  exact ⟨k1, k2, by simp only [D.py, PyData.depth]; omega⟩
theorem dok_mono {n m : Nat} {d : D} (h : D.dok n d) (l : n ≤ m) : D.dok m d := ⟨h.1, h.2.1, Nat.le_trans h.2.2 l⟩
theorem ok_of {n : Nat} {d : D} (h : D.dok n d) (l : n ≤ 64 := by decide) : d.ok = true := by
  unfold D.ok SeqAt.shaped
  rw [h.1, h.2.1]
  simp only [Bool.true_and, decide_eq_true_eq]
  exact Nat.le_trans h.2.2 l
theorem ok_int {i : Int} : D.ok (.int i) = true := ok_of (n := 0) (dok_int i)
theorem ok_bl {i : Bool} : D.ok (.bl i) = true := ok_of (n := 0) (dok_bl i)
theorem ok_non : D.ok .non = true := ok_of (n := 0) dok_non
/-! ### no bools in it: alike is the same -/
mutual
def D.nb : D → Bool
  | .non => true | .int _ => true | .str _ => true | .tup xs => D.nbs xs | .lst xs => D.nbs xs
  | .bl _ => false | .ref _ => false | .ty _ => false | .ctp _ => false | .fnp _ _ _ _ _ => false
def D.nbs : List D → Bool
  | [] => true
  | x :: r => x.nb && D.nbs r
end
theorem nbs_all : ∀ {xs : List D}, (∀ x ∈ xs, x.nb = true) → D.nbs xs = true
  | [], _ => rfl
  | x :: r, h => by
    unfold D.nbs
    rw [h x (List.mem_cons_self ..), nbs_all fun y hy => h y (List.mem_cons_of_mem _ hy)]
    rfl
theorem nb_tup {xs : List D} (h : ∀ x ∈ xs, x.nb = true) : (D.tup xs).nb = true := nbs_all h
theorem nb_lst {xs : List D} (h : ∀ x ∈ xs, x.nb = true) : (D.lst xs).nb = true := nbs_all h
mutual
theorem eq_iff : ∀ {d e : D}, d.nb = true → e.nb = true → (D.eq d e = true ↔ d = e)
  | .non, e, _, h => by cases e <;> simp_all [D.eq, D.py, PyData.eqv, D.nb]
  | .int i, e, _, h => by cases e <;> simp_all [D.eq, D.py, PyData.eqv, D.nb]
  | .str x, e, _, h => by cases e <;> simp_all [D.eq, D.py, PyData.eqv, D.nb]
  | .tup xs, e, h', h => by
    cases e with
    | tup ys =>
      have := eqs_iff (xs := xs) (ys := ys) h' h
      simpa [D.eq, D.py, PyData.eqv] using this
    | _ => simp_all [D.eq, D.py, PyData.eqv, D.nb]
  | .lst xs, e, h', h => by
    cases e with
    | lst ys =>
      have := eqs_iff (xs := xs) (ys := ys) h' h
      simpa [D.eq, D.py, PyData.eqv] using this
    | _ => simp_all [D.eq, D.py, PyData.eqv, D.nb]
  | .bl _, _, h, _ => by cases h
  | .ref _, _, h, _ => by cases h
  | .ty _, _, h, _ => by cases h
  | .ctp _, _, h, _ => by cases h
  | .fnp _ _ _ _ _, _, h, _ => by cases h
theorem eqs_iff : ∀ {xs ys : List D}, D.nbs xs = true → D.nbs ys = true → (PyData.eqvAll (D.pys xs) (D.pys ys) = true ↔ xs = ys)
  | [], [], _, _ => by simp [D.pys, PyData.eqvAll]
  | [], _ :: _, _, _ => by simp [D.pys, PyData.eqvAll]
  | _ :: _, [], _, _ => by simp [D.pys, PyData.eqvAll]
  | x :: xs, y :: ys, h, k => by
    unfold D.nbs at h k
    rw [Bool.and_eq_true] at h k
    have h1 := eq_iff h.1 k.1
    have h2 := eqs_iff h.2 k.2
    simp only [D.pys, PyData.eqvAll, Bool.and_eq_true]
    rw [show (PyData.eqv x.py y.py = true ↔ x = y) from h1, h2]
    simp
end
theorem eq_dec {d e : D} {p : Prop} [Decidable p] (h : d.nb = true) (k : e.nb = true) (q : d = e ↔ p) : D.eq d e = decide p := by
  have := eq_iff h k
  by_cases hp : p
  · rw [decide_eq_true hp]
    exact this.mpr (q.mpr hp)
  · rw [decide_eq_false hp]
    cases z : D.eq d e
    · rfl
    · exact (hp (q.mp (this.mp z))).elim
theorem eq_self {d : D} (h : d.nb = true) : D.eq d d = true := (eq_iff h h).mpr rfl
theorem eq_int {i j : Int} : D.eq (.int i) (.int j) = decide (i = j) := eq_dec rfl rfl (by simp)
theorem eq_str {i j : Str} : D.eq (.str i) (.str j) = decide (i = j) := eq_dec rfl rfl (by simp)
theorem eq_bl {i j : Bool} : D.eq (.bl i) (.bl j) = decide (i = j) := by cases i <;> cases j <;> rfl
theorem eq_ni {i : Int} : D.eq .non (.int i) = false := rfl
theorem eq_in {i : Int} : D.eq (.int i) .non = false := rfl
theorem any_eq {d : D} {xs : List D} (h : d.nb = true) (k : ∀ x ∈ xs, x.nb = true) : (xs.any fun z => D.eq z d) = true ↔ d ∈ xs := by
  rw [List.any_eq_true]
  constructor
  · rintro ⟨x, hx, q⟩
    rw [(eq_iff (k x hx) h).mp q] at hx
    exact hx
  · intro hx
    exact ⟨d, hx, eq_self h⟩
theorem any_int {i : Int} {ns : List Int} : ((ns.map D.int).any fun z => D.eq z (.int i)) = decide (i ∈ ns) := by
  rw [Bool.eq_iff_iff, any_eq rfl (by simp only [List.mem_map]; rintro x ⟨a, _, rfl⟩; rfl)]
  simp
/-! ### what stays, where something is live besides -/
def Sub (S S' : Hs) : Prop := ∀ a o, S a = some o → S' a = some o
theorem Sub.refl (S : Hs) : Sub S S := fun _ _ h => h
theorem Sub.sup_new {S S' : Hs} {a : Addr} {o : MO} (h : S a = none) (k : Sub S S') : Sub S (sup S' a o) := fun b u e => by
  rw [sup_ne (sne e h)]
  exact k b u e
theorem Sub.sup {S S' : Hs} {a : Addr} {o : MO} (k : Sub S S') : Sub (sup S a o) (sup S' a o) := fun b u e => by
  by_cases z : b = a
  · subst z; rw [sup_same] at e ⊢; exact e
  · rw [sup_ne z] at e ⊢; exact k b u e
section
variable {K : PySem.W.Frag} {S S' : Hs} {H H' : Hp}
theorem fr_sub (k : Sub S' S) : Fr S H S' H := ⟨fun a u e s _ => ⟨e, by
  cases z : S' a with
  | none => rfl
  | some o => rw [k a o z] at s; cases s⟩, fun _ _ _ e => e⟩
theorem rs_sub (r : Rs K S H) (k : Sub S' S) : Rs K S' H := fun a u e => by
  obtain ⟨w, e1, e2⟩ := r a u (k a u e)
  exact ⟨w, e1, e2.mono (fr_sub k)⟩
end
def dropQ (Q : QD) : QD := fun d S => ∃ S', Sub S' S ∧ Q d S'
def dropX (Q : XQ) : XQ := fun d S => ∃ S', Sub S' S ∧ Q d S'
theorem endQ_drop {K : PySem.W.Frag} {S : Hs} {H : Hp} {Q' : QD} {Q : VK} (k : EndQ K S H Q' Q) : EndQ K S H (dropQ Q') Q := fun v H' d S' r f x q => by
  obtain ⟨S2, hs, q⟩ := q
  exact k v H' d S2 (rs_sub r hs) (f.trans (fr_sub hs)) (x.mono (fr_sub hs)) q
/-- THE RULE, where live objects of the def's own are left behind -/
theorem fn_Dd {P : Program} {w : World} {K : PySem.W.Frag} {mg : Str → Option Value} {base : Heap} {x qual : Str} {st : Stmt} {f : Addr} {fd : FuncData} {ps : List Str} {kk : Nat} {sp : DSp} {body : Ts} {c : Cfg} {n : Nm} (F : Fun K x qual st f fd) (Sc : FnScope n.N ps (defScope st))
    (nk : NmOk c n) (cfg : CfgOk P w K mg base kk c) (hc : cTs n body (defScope st) (defBody st) = true)
    (vc : ∀ ds S Q Y, sp ds S Q Y → ds.length = ps.length ∧ wTs c body { nx := fun _ S' => dropQ Q .non S', rt := dropQ Q, ex := fun x _ S' => Y x S' } (startD n.N ds) S)
    (hlam : ∀ p ∈ c.lams, (qual ++ ".<locals>.") ++ "<lambda>" = p.q ∧ (∃ cc, fd.code = .ref cc ∧ LamX.TabB base mg cc p.tab) ∧ ∃ j, j + 2 ≤ kk ∧ CfgOk P w K mg base j c.inner ∧ LamAt P w K mg base (j + 2) p := by intro _ h; cases h) (hact : c.act = none := by rfl) (hexv : c.exv = none := by rfl) : FnOk P w K mg base (L2.CX P w) (kk + 1) f fd ps (toSp K sp) := by
  refine (fn_D (sp := fun ds S Q Y => ∃ Q0, sp ds S Q0 Y ∧ Q = dropQ Q0) F Sc nk cfg hc (fun ds S Q Y h => ?_) hlam hact hexv).imp ?_
  · obtain ⟨Q0, h, rfl⟩ := h
    exact vc ds S Q0 Y h
  · rintro vs H Q E ⟨ds, S, Q', X', r, da, hs, k, kx⟩
    exact ⟨ds, S, dropQ Q', X', r, da, ⟨Q', hs, rfl⟩, endQ_drop k, kx⟩
end Dz
namespace Dz
open PySem L2
theorem for_inv {wg : D → Ro → Hs → (Ro → Hs → Prop) → XQ → Prop} {wt : WT} {Z : DE} {ρ : Ro} {ds : List D} {Pr : Hs → Prop} {S1 : Hs} (W : Nat → Ro → Hs → Prop) (w0 : W 0 ρ S1)
    (turn : ∀ i x ρ2 S2, ds[i]? = some x → W i ρ2 S2 → Pr S2 ∧ wg x ρ2 S2 (fun ρ3 S3 => wt { nx := W (i + 1), rt := Z.rt, bk := Z.nx, ct := W (i + 1), ex := Z.ex } ρ3 S3) (fun x S' => Z.ex x ρ2 S'))
    (done : ∀ ρ2 S2, W ds.length ρ2 S2 → Pr S2 ∧ Z.nx ρ2 S2) : forB wg wt Z ρ ds Pr S1 := ⟨W, w0, turn, done⟩
theorem drop_of {α : Type} : ∀ {xs : List α} {i : Nat} {x : α}, xs[i]? = some x → xs.drop i = x :: xs.drop (i + 1)
  | [], _, _, h => by simp at h
  | y :: r, 0, x, h => by simp at h; simp [h]
  | y :: r, i + 1, x, h => by
    have := drop_of (xs := r) (i := i) (x := x) (by simpa using h)
    simpa using this
theorem take_of {α : Type} {xs : List α} {i : Nat} {x : α} (h : xs[i]? = some x) : xs.take (i + 1) = xs.take i ++ [x] := by
  rw [List.take_add_one, h]; rfl
theorem map_of {α β : Type} {f : α → β} {xs : List α} {i : Nat} {y : β} (h : (xs.map f)[i]? = some y) : ∃ x, xs[i]? = some x ∧ y = f x := by
  rw [List.getElem?_map] at h
  cases e : xs[i]? with
  | none => rw [e] at h; cases h
  | some x => rw [e] at h; cases h; exact ⟨x, rfl, rfl⟩
theorem lt_of {α : Type} {xs : List α} {i : Nat} {x : α} (h : xs[i]? = some x) : i < xs.length := (List.getElem?_eq_some_iff.mp h).1
theorem mem_of {α : Type} {xs : List α} {i : Nat} {x : α} (h : xs[i]? = some x) : x ∈ xs := List.mem_of_getElem? h
theorem enum_of {xs : List D} {i : Nat} {y : D} (h : (enumD xs)[i]? = some y) : ∃ x, xs[i]? = some x ∧ y = .tup [.int (i : Nat), x] := by
  unfold enumD at h
  rw [List.getElem?_mapIdx] at h
  cases e : xs[i]? with
  | none => rw [e] at h; cases h
  | some x => rw [e] at h; cases h; exact ⟨x, rfl, rfl⟩
theorem enum_len {xs : List D} : (enumD xs).length = xs.length := by unfold enumD; simp
theorem rng_of {lo : Int} {n i : Nat} {y : D} (h : (rngD lo n)[i]? = some y) : i < n ∧ y = .int (lo + (i : Nat)) := by
  unfold rngD at h
  obtain ⟨j, e, rfl⟩ := map_of h
  have := lt_of e
  rw [List.length_range] at this
  rw [List.getElem?_range this] at e
  cases e
  exact ⟨this, rfl⟩
theorem rng_len {lo : Int} {n : Nat} : (rngD lo n).length = n := by unfold rngD; simp
theorem atI_of {α : Type} {xs : List α} {i : Nat} {x : α} (h : xs[i]? = some x) : atI xs (i : Int) = some x := atI_nat h
theorem atI_i {α : Type} {xs : List α} {k : Int} {i : Nat} {x : α} (e : k = (i : Int)) (h : xs[i]? = some x) : atI xs k = some x := by rw [e]; exact atI_nat h
theorem get_lt {α : Type} {xs : List α} {i : Nat} (h : i < xs.length) : ∃ x, xs[i]? = some x := ⟨_, List.getElem?_eq_getElem h⟩
theorem comp_pureM {vs : List Nat} {wg : D → Ro → Hs → (Ro → Hs → Prop) → XQ → Prop} {wc : WB} {we : WE} {ρ : Ro} {Q : QD} {Pr : Hs → Prop} {S : Hs} {α : Type} {xs : List α} {g : α → D} (f : α → Option D) (hl : xs.length ≤ sizeLine) (hp : ∀ S2 : Hs, (∀ a o, S a = some o → S2 a = some o) → Pr S2)
    (turn : ∀ (i : Nat) x S2 (K : QD) (K' : Hs → Prop), xs[i]? = some x → (∀ a o, S a = some o → S2 a = some o) → (∀ y, f x = some y → K y S2) → (f x = none → K' S2) → wg (g x) (wipeD ρ vs) S2 (fun ρ' S3 =>
        wc ρ' S3 (fun b S4 => if b = true then we ρ' S4 K X0 else K' S4) X0) X0)
    (q : Q (.lst (xs.filterMap f)) S) : compB vs wg wc we ρ Q (xs.map g) Pr S := by
  refine ⟨by rw [List.length_map]; exact hl, fun L hL => ⟨fun i acc S2 => acc = (xs.take i).filterMap f ∧ S2 = sup S L (.lst acc), ⟨rfl, rfl⟩, ?_, ?_⟩⟩
  · rintro i x acc S2 hi _ ⟨rfl, rfl⟩
    obtain ⟨x, hi2, rfl⟩ := map_of hi
    clear hi
    have hi := hi2
    have ext : ∀ a o, S a = some o → (sup S L (.lst ((xs.take i).filterMap f))) a = some o := fun a o h => by rw [sup_ne (sne h hL)]; exact h
    have ht := take_of hi
    refine ⟨sup_same, hp _ ext, turn i x _ _ _ hi ext (fun y hy => ⟨sup_same, ?_, ?_⟩) fun hn => ⟨?_, rfl⟩⟩
    · rw [ht, List.filterMap_append]; simp [hy]
    · rw [sup_sup]
    · rw [ht, List.filterMap_append]; simp [hn]
  · rintro acc S2 _ ⟨rfl, rfl⟩
    rw [List.length_map, List.take_length]
    refine ⟨sup_same, hp _ fun a o h => by rw [sup_ne (sne h hL)]; exact h, .inl ?_⟩
    rw [sdel_sup hL]
    exact q
theorem filterMap_if {α β : Type} {p : α → Bool} {f : α → β} {xs : List α} : xs.filterMap (fun x => if p x = true then some (f x) else none) = (xs.filter p).map f := by
  induction xs with
  | nil => rfl
  | cons a r ih => by_cases h : p a = true <;> simp [h, ih]
theorem filterMap_all {α β : Type} {f : α → β} {xs : List α} : xs.filterMap (fun x => some (f x)) = xs.map f := by
  induction xs with
  | nil => rfl
  | cons a r ih => simp [ih]
theorem cut_map {α : Type} {g : α → D} {xs : List α} {lo hi : Option Int} : ∃ ys : List α, cutD (xs.map g) lo hi = ys.map g ∧ ys.length ≤ xs.length ∧ (∀ y ∈ ys, y ∈ xs) := by
  unfold cutD
  rw [List.length_map, ← List.map_drop, ← List.map_take]
  refine ⟨_, rfl, ?_, fun y h => List.mem_of_mem_drop (List.mem_of_mem_take h)⟩
  rw [List.length_take, List.length_drop]
  omega
theorem cut_len {xs : List D} {k : Nat} : (cutD xs none (some (k : Int))).length ≤ k := by
  unfold cutD
  rw [HT.sIx_none, HT.sIx_nat, List.length_take]
  omega
theorem sup_3 {S : Hs} {a b : Addr} {o u v : MO} (h : a ≠ b) : sup (sup (sup S a o) b u) a v = sup (sup S a v) b u := by
  rw [← sup_comm (S := sup S a o) h, sup_sup]
theorem none_sup {S : Hs} {a b : Addr} {o : MO} (h : sup S a o b = none) : b ≠ a ∧ S b = none := by
  unfold sup at h
  by_cases e : b = a
  · rw [if_pos e] at h; cases h
  · rw [if_neg e] at h; exact ⟨e, h⟩
theorem cdw {i j : Int} (h : 0 < j) (h' : j < 2 ^ 64) : CDivW i j := by
  refine ⟨h, ?_⟩
  have : j.natAbs < 2 ^ 64 := by omega
  have := (Nat.log2_lt (by omega)).mpr this
  omega
theorem sort_mem {ns : List Int} {i : Int} : i ∈ sortI ns ↔ i ∈ ns := by unfold sortI; exact List.mem_mergeSort
theorem sort_len {ns : List Int} : (sortI ns).length = ns.length := by unfold sortI; exact List.length_mergeSort ..
theorem sort_le (ns : List Int) : (sortI ns).Pairwise (· ≤ ·) := by
  have := List.pairwise_mergeSort (le := fun a b : Int => decide (a ≤ b)) (by intro a b c; simp; omega) (by intro a b; simp; omega) ns
  unfold sortI
  refine this.imp ?_
  intro a b h; simpa using h
theorem sort_nodup {ns : List Int} (h : ns.Nodup) : (sortI ns).Nodup := by
  unfold sortI
  exact (List.mergeSort_perm ns _).nodup_iff.mpr h
theorem sort_lt {ns : List Int} (h : ns.Nodup) : (sortI ns).Pairwise (· < ·) := by
  have a := sort_le ns
  have b := sort_nodup h
  exact (a.and b).imp fun h => by omega
end Dz
namespace Dz
open PySem L2
def ForK (c : Cfg) (g : G) (body : Ts) (Z : DE) (ρ : Ro) : QI := forB (wG c g) (wTs c body) Z ρ
def WhilK (c : Cfg) (t : E) (body : Ts) (Z : DE) (ρ : Ro) (S : Hs) : Prop := whilB (wB c t) (wTs c body) Z ρ S
def CompK (c : Cfg) (own : List (Str × Nat)) (g : G) (cond : Es) (elt : E) (ρ : Ro) (Q : QD) : QI := compB (own.map (·.2)) (wG c g) (wC c cond) (wE c elt) ρ Q
def DCompK (c : Cfg) (own : List (Str × Nat)) (g : G) (cond : Es) (ke ve : E) (ρ : Ro) (Q : QD) : QI := dcompB (own.map (·.2)) (wG c g) (wC c cond) (wE c ke) (wE c ve) ρ Q
section
variable {c : Cfg}
theorem wE_var {i : Nat} {ρ : Ro} {S : Hs} {X : XQ} {Q : QD} : wE c (E.var i) ρ S Q X = (∃ d, ρ[i]? = some (some d) ∧ Q d S) := by first | rfl | simp only [wE, ForK, WhilK, CompK, DCompK]
theorem wE_int {i : Int} {ρ : Ro} {S : Hs} {X : XQ} {Q : QD} : wE c (E.int i) ρ S Q X = (Q (.int i) S) := by first | rfl | simp only [wE, ForK, WhilK, CompK, DCompK]
theorem wE_str {x : Str} {ρ : Ro} {S : Hs} {X : XQ} {Q : QD} : wE c (E.str x) ρ S Q X = (Q (.str x) S) := by first | rfl | simp only [wE, ForK, WhilK, CompK, DCompK]
theorem wE_bl {b : Bool} {ρ : Ro} {S : Hs} {X : XQ} {Q : QD} : wE c (E.bl b) ρ S Q X = (Q (.bl b) S) := by first | rfl | simp only [wE, ForK, WhilK, CompK, DCompK]
theorem wE_non  {ρ : Ro} {S : Hs} {X : XQ} {Q : QD} : wE c (E.non) ρ S Q X = (Q .non S) := by first | rfl | simp only [wE, ForK, WhilK, CompK, DCompK]
theorem wE_glob {i : Nat} {ρ : Ro} {S : Hs} {X : XQ} {Q : QD} : wE c (E.glob i) ρ S Q X = (∃ p, c.cons[i]? = some p ∧ Q p.2 S) := by first | rfl | simp only [wE, ForK, WhilK, CompK, DCompK]
theorem wE_b2 {o : B2} {a : E} {b : E} {ρ : Ro} {S : Hs} {X : XQ} {Q : QD} : wE c (E.b2 o a b) ρ S Q X = (wE c a ρ S (fun x S1 => wE c b ρ S1 (fun y S2 => o.w x y S2 Q) X) X) := by first | rfl | simp only [wE, ForK, WhilK, CompK, DCompK]
theorem wE_neg {a : E} {ρ : Ro} {S : Hs} {X : XQ} {Q : QD} : wE c (E.neg a) ρ S Q X = (wE c a ρ S (fun x S1 => negW x S1 Q) X) := by first | rfl | simp only [wE, ForK, WhilK, CompK, DCompK]
theorem wE_cm {o : Cm} {a : E} {b : E} {ρ : Ro} {S : Hs} {X : XQ} {Q : QD} : wE c (E.cm o a b) ρ S Q X = (wE c a ρ S (fun x S1 => wE c b ρ S1 (fun y S2 => o.w x y S2 Q) X) X) := by first | rfl | simp only [wE, ForK, WhilK, CompK, DCompK]
theorem wE_ch {o : Cm} {o' : Cm} {a : E} {b : E} {e : E} {ρ : Ro} {S : Hs} {X : XQ} {Q : QD} : wE c (E.ch o o' a b e) ρ S Q X = (wE c a ρ S (fun x S1 => wE c b ρ S1 (fun y S2 => o.w x y S2 fun z S3 => ∃ k, z = .bl k ∧ if k = true then wE c e ρ S3 (fun w S4 => o'.w y w S4 Q) X else Q (.bl false) S3) X) X) := by first | rfl | simp only [wE, ForK, WhilK, CompK, DCompK]
theorem wE_not {a : E} {ρ : Ro} {S : Hs} {X : XQ} {Q : QD} : wE c (E.not a) ρ S Q X = (wE c a ρ S (fun x S1 => ∃ k, x = .bl k ∧ Q (.bl (!k)) S1) X) := by first | rfl | simp only [wE, ForK, WhilK, CompK, DCompK]
theorem wE_and {es : Es} {ρ : Ro} {S : Hs} {X : XQ} {Q : QD} : wE c (E.and es) ρ S Q X = (wAnd c es ρ S Q X) := by first | rfl | simp only [wE, ForK, WhilK, CompK, DCompK]
theorem wE_or {es : Es} {ρ : Ro} {S : Hs} {X : XQ} {Q : QD} : wE c (E.or es) ρ S Q X = (wOr c es ρ S Q X) := by first | rfl | simp only [wE, ForK, WhilK, CompK, DCompK]
theorem wE_ife {t : E} {a : E} {b : E} {ρ : Ro} {S : Hs} {X : XQ} {Q : QD} : wE c (E.ife t a b) ρ S Q X = (wB c t ρ S (fun k S1 => if k = true then wE c a ρ S1 Q X else wE c b ρ S1 Q X) X) := by first | rfl | simp only [wE, ForK, WhilK, CompK, DCompK]
theorem wE_tup {es : Es} {ρ : Ro} {S : Hs} {X : XQ} {Q : QD} : wE c (E.tup es) ρ S Q X = (wEs c es ρ S (fun ds S1 => ds.length ≤ sizeLine ∧ Q (.tup ds) S1) X) := by first | rfl | simp only [wE, ForK, WhilK, CompK, DCompK]
theorem wE_lst {es : Es} {ρ : Ro} {S : Hs} {X : XQ} {Q : QD} : wE c (E.lst es) ρ S Q X = (wEs c es ρ S (fun ds S1 => ds.length ≤ sizeLine ∧ NewL ds S1 Q) X) := by first | rfl | simp only [wE, ForK, WhilK, CompK, DCompK]
theorem wE_ix {a : E} {i : E} {ρ : Ro} {S : Hs} {X : XQ} {Q : QD} : wE c (E.ix a i) ρ S Q X = (wE c a ρ S (fun x S1 => wE c i ρ S1 (fun y S2 => ixW x y S2 Q) X) X) := by first | rfl | simp only [wE, ForK, WhilK, CompK, DCompK]
theorem wE_sl {a : E} {lo : O} {hi : O} {ρ : Ro} {S : Hs} {X : XQ} {Q : QD} : wE c (E.sl a lo hi) ρ S Q X = (wE c a ρ S (fun x S1 => wO c lo ρ S1 (fun l S2 => wO c hi ρ S2 (fun h S3 => slW x l h S3 Q) X) X) X) := by first | rfl | simp only [wE, ForK, WhilK, CompK, DCompK]
theorem wE_rev {a : E} {ρ : Ro} {S : Hs} {X : XQ} {Q : QD} : wE c (E.rev a) ρ S Q X = (wE c a ρ S (fun x S1 => revW x S1 Q) X) := by first | rfl | simp only [wE, ForK, WhilK, CompK, DCompK]
theorem wE_bi {f : Bi} {es : Es} {ρ : Ro} {S : Hs} {X : XQ} {Q : QD} : wE c (E.bi f es) ρ S Q X = (wEs c es ρ S (fun ds S1 => f.w ds S1 Q) X) := by first | rfl | simp only [wE, ForK, WhilK, CompK, DCompK]
theorem wE_isi {a : E} {ts : List String} {ρ : Ro} {S : Hs} {X : XQ} {Q : QD} : wE c (E.isi a ts) ρ S Q X = (wE c a ρ S (fun x S1 => ∃ t b, tyName S1 x = some t ∧ isiAny t ts = some b ∧ Q (.bl b) S1) X) := by first | rfl | simp only [wE, ForK, WhilK, CompK, DCompK]
theorem wE_call {i : Nat} {es : Es} {ρ : Ro} {S : Hs} {X : XQ} {Q : QD} : wE c (E.call i es) ρ S Q X = (wEs c es ρ S (fun ds S1 => ∃ p, c.fns[i]? = some p ∧ p.2 ds S1 Q X) X) := by first | rfl | simp only [wE, ForK, WhilK, CompK, DCompK]
theorem wE_bm {f : Bm} {o : E} {es : Es} {ρ : Ro} {S : Hs} {X : XQ} {Q : QD} : wE c (E.bm f o es) ρ S Q X = (wE c o ρ S (fun x S1 => f.ty S1 x ∧ wEs c es ρ S1 (fun ds S2 => f.w (x :: ds) S2 Q) X) X) := by first | rfl | simp only [wE, ForK, WhilK, CompK, DCompK]
theorem wE_comp {own : List (Str × Nat)} {g : G} {it : It} {cond : Es} {elt : E} {ρ : Ro} {S : Hs} {X : XQ} {Q : QD} : wE c (E.comp own g it cond elt) ρ S Q X = (wI c it ρ S (CompK c own g cond elt ρ Q) X) := by first | rfl | simp only [wE, ForK, WhilK, CompK, DCompK]
theorem wE_call0 {i : Nat} {ρ : Ro} {S : Hs} {X : XQ} {Q : QD} : wE c (E.call0 i) ρ S Q X = (∃ p, c.fns[i]? = some p ∧ p.2 [] S Q X) := by first | rfl | simp only [wE, ForK, WhilK, CompK, DCompK]
theorem wE_fld {o : E} {f : Str} {ρ : Ro} {S : Hs} {X : XQ} {Q : QD} : wE c (E.fld o f) ρ S Q X = (wE c o ρ S (fun x S1 => ∃ a C fs d, x = .ref a ∧ S1 a = some (.ins C fs) ∧ (C, f) ∈ c.flds ∧ fs.lookup f = some d ∧ Q d S1) X) := by first | rfl | simp only [wE, ForK, WhilK, CompK, DCompK]
theorem wE_mt {o : E} {i : Nat} {m : Str} {es : Es} {ρ : Ro} {S : Hs} {X : XQ} {Q : QD} : wE c (E.mt o i m es) ρ S Q X = (wE c o ρ S (fun x S1 => ∃ a fs p, x = .ref a ∧ c.mths[i]? = some p ∧ p.name = m ∧ S1 a = some (.ins p.C fs) ∧ fs.lookup m = none ∧ wEs c es ρ S1 (fun ds S2 => p.sp (x :: ds) S2 Q X) X) X) := by first | rfl | simp only [wE, ForK, WhilK, CompK, DCompK]
theorem wE_mk {i : Nat} {es : Es} {ρ : Ro} {S : Hs} {X : XQ} {Q : QD} : wE c (E.mk i es) ρ S Q X = (wEs c es ρ S (fun ds S1 => ∃ p, c.mks[i]? = some p ∧ ∀ y, S1 y = none → p.sp (.ref y :: ds) (sup S1 y (.ins p.C [])) (fun d S2 => d = .non ∧ Q (.ref y) S2) X) X) := by first | rfl | simp only [wE, ForK, WhilK, CompK, DCompK]
theorem wE_dic {kvs : Es} {ρ : Ro} {S : Hs} {X : XQ} {Q : QD} : wE c (E.dic kvs) ρ S Q X = (∀ y, S y = none → wPr c kvs ρ (sup S y (.dK [])) (fun ps S2 => S2 y = some (.dK []) ∧ ∃ kvs : List (Key × D), ps = kvs.map (fun p => (keyD p.1, p.2)) ∧ kvs.length ≤ 15 ∧ Q (.ref y) (sup S2 y (.dK (mergeD [] kvs)))) X) := by first | rfl | simp only [wE, ForK, WhilK, CompK, DCompK]
theorem wE_dic0  {ρ : Ro} {S : Hs} {X : XQ} {Q : QD} : wE c (E.dic0) ρ S Q X = (NewD S Q) := by first | rfl | simp only [wE, ForK, WhilK, CompK, DCompK]
theorem wE_dcomp {own : List (Str × Nat)} {g : G} {it : It} {cond : Es} {ke : E} {ve : E} {ρ : Ro} {S : Hs} {X : XQ} {Q : QD} : wE c (E.dcomp own g it cond ke ve) ρ S Q X = (wI c it ρ S (DCompK c own g cond ke ve ρ Q) X) := by first | rfl | simp only [wE, ForK, WhilK, CompK, DCompK]
theorem wE_lock {e : E} {ρ : Ro} {S : Hs} {X : XQ} {Q : QD} : wE c (E.lock e) ρ S Q X = (∃ a o z, S a = some o ∧ o.lk = some z ∧ wE c e ρ (sup S a z) (fun d S1 => S1 a = some z ∧ Q d (sup S1 a o)) X0) := by first | rfl | simp only [wE, ForK, WhilK, CompK, DCompK]
theorem wE_xt {k : Xt} {es : Es} {ρ : Ro} {S : Hs} {X : XQ} {Q : QD} : wE c (E.xt k es) ρ S Q X = (wEs c es ρ S (fun ds S1 => k.w c ds S1 Q) X) := by first | rfl | simp only [wE, ForK, WhilK, CompK, DCompK]
theorem wE_tcall {i : Nat} {e : E} {ρ : Ro} {S : Hs} {X : XQ} {Q : QD} : wE c (E.tcall i e) ρ S Q X = (∃ p, c.lams[i]? = some p ∧ S p.tab = some (.tab p.q) ∧ p.sp (fun S1 Q1 X1 => wE c.inner e ρ S1 Q1 X1) S Q) := by first | rfl | simp only [wE, ForK, WhilK, CompK, DCompK]
theorem wE_isE {i : Nat} {k : Nat} {ρ : Ro} {S : Hs} {X : XQ} {Q : QD} : wE c (E.isE i k) ρ S Q X = (∃ a C b, c.exv = some (i, a, ⟨C, none⟩) ∧ ρ[i]? = some (some (.ref a)) ∧ (C, k, b) ∈ c.exis ∧ Q (.bl b) S) := by first | rfl | simp only [wE, ForK, WhilK, CompK, DCompK]
theorem wE_fldE {i : Nat} {f : Str} {ρ : Ro} {S : Hs} {X : XQ} {Q : QD} : wE c (E.fldE i f) ρ S Q X = (∃ a C p fs d, c.exv = some (i, a, ⟨C, some p⟩) ∧ ρ[i]? = some (some (.ref a)) ∧ (C, f) ∈ c.xfl ∧ S p = some (.xd fs) ∧ fs.lookup f = some d ∧ Q d S) := by first | rfl | simp only [wE, ForK, WhilK, CompK, DCompK]
theorem wB_not {a : E} {ρ : Ro} {S : Hs} {X : XQ} {Q : Bool → Hs → Prop} : wB c (E.not a) ρ S Q X = (wB c a ρ S (fun k S1 => Q (!k) S1) X) := by first | rfl | simp only [wB, ForK, WhilK, CompK, DCompK]
theorem wB_and {es : Es} {ρ : Ro} {S : Hs} {X : XQ} {Q : Bool → Hs → Prop} : wB c (E.and es) ρ S Q X = (wBAnd c es ρ S Q X) := by first | rfl | simp only [wB, ForK, WhilK, CompK, DCompK]
theorem wB_or {es : Es} {ρ : Ro} {S : Hs} {X : XQ} {Q : Bool → Hs → Prop} : wB c (E.or es) ρ S Q X = (wBOr c es ρ S Q X) := by first | rfl | simp only [wB, ForK, WhilK, CompK, DCompK]
theorem wB_cm {o : Cm} {a : E} {b : E} {ρ : Ro} {S : Hs} {X : XQ} {Q : Bool → Hs → Prop} : wB c (E.cm o a b) ρ S Q X = (wE c a ρ S (fun x S1 => wE c b ρ S1 (fun y S2 => o.w x y S2 fun z S3 => ∃ k, z = .bl k ∧ Q k S3) X) X) := by first | rfl | simp only [wB, ForK, WhilK, CompK, DCompK]
theorem wB_ch {o : Cm} {o' : Cm} {a : E} {b : E} {e : E} {ρ : Ro} {S : Hs} {X : XQ} {Q : Bool → Hs → Prop} : wB c (E.ch o o' a b e) ρ S Q X = (wE c a ρ S (fun x S1 => wE c b ρ S1 (fun y S2 => o.w x y S2 fun z S3 => ∃ k, z = .bl k ∧ if k = true then wE c e ρ S3 (fun w S4 => o'.w y w S4 fun z' S5 => ∃ k', z' = .bl k' ∧ Q k' S5) X else ∃ k', D.bl false = .bl k' ∧ Q k' S3) X) X) := by first | rfl | simp only [wB, ForK, WhilK, CompK, DCompK]
theorem wB_var {i : Nat} {ρ : Ro} {S : Hs} {X : XQ} {Q : Bool → Hs → Prop} : wB c (E.var i) ρ S Q X = (∃ d, ρ[i]? = some (some d) ∧ ∃ k, TruD S d k ∧ Q k S) := by first | rfl | simp only [wB, ForK, WhilK, CompK, DCompK]
theorem wB_ix {a : E} {i : E} {ρ : Ro} {S : Hs} {X : XQ} {Q : Bool → Hs → Prop} : wB c (E.ix a i) ρ S Q X = (wE c a ρ S (fun x S1 => wE c i ρ S1 (fun y S2 => ixW x y S2 fun d S3 => ∃ k, TruD S3 d k ∧ Q k S3) X) X) := by first | rfl | simp only [wB, ForK, WhilK, CompK, DCompK]
theorem wB_bi {f : Bi} {es : Es} {ρ : Ro} {S : Hs} {X : XQ} {Q : Bool → Hs → Prop} : wB c (E.bi f es) ρ S Q X = (wEs c es ρ S (fun ds S1 => f.w ds S1 fun d S3 => ∃ k, TruD S3 d k ∧ Q k S3) X) := by first | rfl | simp only [wB, ForK, WhilK, CompK, DCompK]
theorem wB_isi {a : E} {ts : List String} {ρ : Ro} {S : Hs} {X : XQ} {Q : Bool → Hs → Prop} : wB c (E.isi a ts) ρ S Q X = (wE c a ρ S (fun x S1 => ∃ t b, tyName S1 x = some t ∧ isiAny t ts = some b ∧ Q b S1) X) := by first | rfl | simp only [wB, ForK, WhilK, CompK, DCompK]
theorem wB_call {i : Nat} {es : Es} {ρ : Ro} {S : Hs} {X : XQ} {Q : Bool → Hs → Prop} : wB c (E.call i es) ρ S Q X = (wEs c es ρ S (fun ds S1 => ∃ p, c.fns[i]? = some p ∧ p.2 ds S1 (fun d S3 => ∃ k, TruD S3 d k ∧ Q k S3) X) X) := by first | rfl | simp only [wB, ForK, WhilK, CompK, DCompK]
theorem wB_bm {f : Bm} {o : E} {es : Es} {ρ : Ro} {S : Hs} {X : XQ} {Q : Bool → Hs → Prop} : wB c (E.bm f o es) ρ S Q X = (wE c o ρ S (fun x S1 => f.ty S1 x ∧ wEs c es ρ S1 (fun ds S2 => f.w (x :: ds) S2 fun d S3 => ∃ k, TruD S3 d k ∧ Q k S3) X) X) := by first | rfl | simp only [wB, ForK, WhilK, CompK, DCompK]
theorem wB_call0 {i : Nat} {ρ : Ro} {S : Hs} {X : XQ} {Q : Bool → Hs → Prop} : wB c (E.call0 i) ρ S Q X = (∃ p, c.fns[i]? = some p ∧ p.2 [] S (fun d S3 => ∃ k, TruD S3 d k ∧ Q k S3) X) := by first | rfl | simp only [wB, ForK, WhilK, CompK, DCompK]
theorem wB_xt {k : Xt} {es : Es} {ρ : Ro} {S : Hs} {X : XQ} {Q : Bool → Hs → Prop} : wB c (E.xt k es) ρ S Q X = (wEs c es ρ S (fun ds S1 => k.w c ds S1 fun d S3 => ∃ b, TruD S3 d b ∧ Q b S3) X) := by first | rfl | simp only [wB, ForK, WhilK, CompK, DCompK]
theorem wB_isE {i : Nat} {k : Nat} {ρ : Ro} {S : Hs} {X : XQ} {Q : Bool → Hs → Prop} : wB c (E.isE i k) ρ S Q X = (∃ a C b, c.exv = some (i, a, ⟨C, none⟩) ∧ ρ[i]? = some (some (.ref a)) ∧ (C, k, b) ∈ c.exis ∧ Q b S) := by first | rfl | simp only [wB, ForK, WhilK, CompK, DCompK]
theorem wB_fld {o : E} {f : Str} {ρ : Ro} {S : Hs} {X : XQ} {Q : Bool → Hs → Prop} : wB c (E.fld o f) ρ S Q X = (wE c o ρ S (fun x S1 => ∃ a C fs d, x = .ref a ∧ S1 a = some (.ins C fs) ∧ (C, f) ∈ c.flds ∧ fs.lookup f = some d ∧ ∃ k, TruD S1 d k ∧ Q k S1) X) := by first | rfl | simp only [wB, ForK, WhilK, CompK, DCompK]
theorem wB_mt {o : E} {i : Nat} {m : Str} {es : Es} {ρ : Ro} {S : Hs} {X : XQ} {Q : Bool → Hs → Prop} : wB c (E.mt o i m es) ρ S Q X = (wE c o ρ S (fun x S1 => ∃ a fs p, x = .ref a ∧ c.mths[i]? = some p ∧ p.name = m ∧ S1 a = some (.ins p.C fs) ∧ fs.lookup m = none ∧ wEs c es ρ S1 (fun ds S2 => p.sp (x :: ds) S2 (fun d S3 => ∃ k, TruD S3 d k ∧ Q k S3) X) X) X) := by first | rfl | simp only [wB, ForK, WhilK, CompK, DCompK]
theorem wAnd_cons1 {e : E} {ρ : Ro} {S : Hs} {X : XQ} {Q : QD} : wAnd c (Es.cons e Es.nil) ρ S Q X = (wE c e ρ S Q X) := by first | rfl | simp only [wAnd, ForK, WhilK, CompK, DCompK]
theorem wAnd_cons {e : E} {e2 : E} {r2 : Es} {ρ : Ro} {S : Hs} {X : XQ} {Q : QD} : wAnd c (Es.cons e (.cons e2 r2)) ρ S Q X = (wE c e ρ S (fun x S1 => ∃ k, x = .bl k ∧ if k = true then wAnd c (Es.cons e2 r2) ρ S1 Q X else Q (.bl false) S1) X) := by first | rfl | simp only [wAnd, ForK, WhilK, CompK, DCompK]
theorem wOr_cons1 {e : E} {ρ : Ro} {S : Hs} {X : XQ} {Q : QD} : wOr c (Es.cons e Es.nil) ρ S Q X = (wE c e ρ S Q X) := by first | rfl | simp only [wOr, ForK, WhilK, CompK, DCompK]
theorem wOr_cons {e : E} {e2 : E} {r2 : Es} {ρ : Ro} {S : Hs} {X : XQ} {Q : QD} : wOr c (Es.cons e (.cons e2 r2)) ρ S Q X = (wE c e ρ S (fun x S1 => ∃ k, x = .bl k ∧ if k = true then Q (.bl true) S1 else wOr c (Es.cons e2 r2) ρ S1 Q X) X) := by first | rfl | simp only [wOr, ForK, WhilK, CompK, DCompK]
theorem wBAnd_cons1 {e : E} {ρ : Ro} {S : Hs} {X : XQ} {Q : Bool → Hs → Prop} : wBAnd c (Es.cons e Es.nil) ρ S Q X = (wB c e ρ S Q X) := by first | rfl | simp only [wBAnd, ForK, WhilK, CompK, DCompK]
theorem wBAnd_cons {e : E} {e2 : E} {r2 : Es} {ρ : Ro} {S : Hs} {X : XQ} {Q : Bool → Hs → Prop} : wBAnd c (Es.cons e (.cons e2 r2)) ρ S Q X = (wB c e ρ S (fun k S1 => if k = true then wBAnd c (Es.cons e2 r2) ρ S1 Q X else Q false S1) X) := by first | rfl | simp only [wBAnd, ForK, WhilK, CompK, DCompK]
theorem wBOr_cons1 {e : E} {ρ : Ro} {S : Hs} {X : XQ} {Q : Bool → Hs → Prop} : wBOr c (Es.cons e Es.nil) ρ S Q X = (wB c e ρ S Q X) := by first | rfl | simp only [wBOr, ForK, WhilK, CompK, DCompK]
theorem wBOr_cons {e : E} {e2 : E} {r2 : Es} {ρ : Ro} {S : Hs} {X : XQ} {Q : Bool → Hs → Prop} : wBOr c (Es.cons e (.cons e2 r2)) ρ S Q X = (wB c e ρ S (fun k S1 => if k = true then Q true S1 else wBOr c (Es.cons e2 r2) ρ S1 Q X) X) := by first | rfl | simp only [wBOr, ForK, WhilK, CompK, DCompK]
theorem wEs_nil  {ρ : Ro} {S : Hs} {X : XQ} {Q : List Dz.D → Hs → Prop} : wEs c (Es.nil) ρ S Q X = (Q [] S) := by first | rfl | simp only [wEs, ForK, WhilK, CompK, DCompK]
theorem wEs_cons {e : E} {r : Es} {ρ : Ro} {S : Hs} {X : XQ} {Q : List Dz.D → Hs → Prop} : wEs c (Es.cons e r) ρ S Q X = (wE c e ρ S (fun x S1 => wEs c r ρ S1 (fun xs S2 => Q (x :: xs) S2) X) X) := by first | rfl | simp only [wEs, ForK, WhilK, CompK, DCompK]
theorem wPr_nil  {ρ : Ro} {S : Hs} {X : XQ} {Q : List (Dz.D × Dz.D) → Hs → Prop} : wPr c (Es.nil) ρ S Q X = (Q [] S) := by first | rfl | simp only [wPr, ForK, WhilK, CompK, DCompK]
theorem wPr_cons {e : E} {e2 : E} {r2 : Es} {ρ : Ro} {S : Hs} {X : XQ} {Q : List (Dz.D × Dz.D) → Hs → Prop} : wPr c (Es.cons e (.cons e2 r2)) ρ S Q X = (wE c e ρ S (fun x S1 => wE c e2 ρ S1 (fun y S2 => wPr c r2 ρ S2 (fun ps S3 => Q ((x, y) :: ps) S3) X) X) X) := by first | rfl | simp only [wPr, ForK, WhilK, CompK, DCompK]
theorem wC_nil  {ρ : Ro} {S : Hs} {X : XQ} {Q : Bool → Hs → Prop} : wC c (Es.nil) ρ S Q X = (Q true S) := by first | rfl | simp only [wC, ForK, WhilK, CompK, DCompK]
theorem wC_cons1 {e : E} {ρ : Ro} {S : Hs} {X : XQ} {Q : Bool → Hs → Prop} : wC c (Es.cons e Es.nil) ρ S Q X = (wB c e ρ S Q X) := by first | rfl | simp only [wC, ForK, WhilK, CompK, DCompK]
theorem wO_no  {ρ : Ro} {S : Hs} {X : XQ} {Q : Option Int → Hs → Prop} : wO c (O.no) ρ S Q X = (Q none S) := by first | rfl | simp only [wO, ForK, WhilK, CompK, DCompK]
theorem wO_yes {e : E} {ρ : Ro} {S : Hs} {X : XQ} {Q : Option Int → Hs → Prop} : wO c (O.yes e) ρ S Q X = (wE c e ρ S (fun x S1 => ∃ i, x = .int i ∧ Q (some i) S1) X) := by first | rfl | simp only [wO, ForK, WhilK, CompK, DCompK]
theorem wG_name {i : Nat} {d : Dz.D} {ρ : Ro} {S : Hs} {X : XQ} {Q : Ro → Hs → Prop} : wG c (G.name i) d ρ S Q X = (Q (ρ.set i (some d)) S) := by first | rfl | simp only [wG, ForK, WhilK, CompK, DCompK]
theorem wG_tup {gs : Gs} {d : Dz.D} {ρ : Ro} {S : Hs} {X : XQ} {Q : Ro → Hs → Prop} : wG c (G.tup gs) d ρ S Q X = (∃ ds, d = .tup ds ∧ ds.length = gs.len ∧ wGs c gs ds ρ S Q X) := by first | rfl | simp only [wG, ForK, WhilK, CompK, DCompK]
theorem wG_sub {o : E} {i : E} {d : Dz.D} {ρ : Ro} {S : Hs} {X : XQ} {Q : Ro → Hs → Prop} : wG c (G.sub o i) d ρ S Q X = (wE c o ρ S (fun x S1 => wE c i ρ S1 (fun y S2 => setW x y d S2 fun S3 => Q ρ S3) X) X) := by first | rfl | simp only [wG, ForK, WhilK, CompK, DCompK]
theorem wGs_nil  {ds : List Dz.D} {ρ : Ro} {S : Hs} {X : XQ} {Q : Ro → Hs → Prop} : wGs c (Gs.nil) ds ρ S Q X = (ds = [] ∧ Q ρ S) := by first | rfl | simp only [wGs, ForK, WhilK, CompK, DCompK]
theorem wGs_cons {g : G} {r : Gs} {ds : List Dz.D} {ρ : Ro} {S : Hs} {X : XQ} {Q : Ro → Hs → Prop} : wGs c (Gs.cons g r) ds ρ S Q X = (∃ d t, ds = d :: t ∧ wG c g d ρ S (fun ρ' S' => wGs c r t ρ' S' Q X) X0) := by first | rfl | simp only [wGs, ForK, WhilK, CompK, DCompK]
theorem wI_seq {e : E} {ρ : Ro} {S : Hs} {X : XQ} {Q : QI} : wI c (It.seq e) ρ S Q X = (wE c e ρ S (fun d S1 => seqI d S1 Q) X) := by first | rfl | simp only [wI, ForK, WhilK, CompK, DCompK]
theorem wI_rng {es : Es} {ρ : Ro} {S : Hs} {X : XQ} {Q : QI} : wI c (It.rng es) ρ S Q X = (wEs c es ρ S (fun ds S1 => rngI ds S1 Q) X) := by first | rfl | simp only [wI, ForK, WhilK, CompK, DCompK]
theorem wI_enum {e : E} {ρ : Ro} {S : Hs} {X : XQ} {Q : QI} : wI c (It.enum e) ρ S Q X = (wE c e ρ S (fun d S1 => enumI d S1 Q) X) := by first | rfl | simp only [wI, ForK, WhilK, CompK, DCompK]
theorem wI_items {e : E} {ρ : Ro} {S : Hs} {X : XQ} {Q : QI} : wI c (It.items e) ρ S Q X = (wE c e ρ S (fun d S1 => itemsI d S1 Q) X) := by first | rfl | simp only [wI, ForK, WhilK, CompK, DCompK]
theorem wT_asg {g : G} {e : E} {D : DE} {ρ : Ro} {S : Hs}  : wT c (T.asg g e) D ρ S = (wE c e ρ S (fun d S1 => wG c g d ρ S1 D.nx (fun x S' => D.ex x ρ S')) (fun x S' => D.ex x ρ S')) := by first | rfl | simp only [wT, ForK, WhilK, CompK, DCompK]
theorem wT_setc {i : Nat} {e : E} {D : DE} {ρ : Ro} {S : Hs}  : wT c (T.setc i e) D ρ S = (wE c e ρ S (fun d S1 => D.nx (ρ.set i (some d)) S1) (fun x S' => D.ex x ρ S')) := by first | rfl | simp only [wT, ForK, WhilK, CompK, DCompK]
theorem wT_aug {i : Nat} {o : B2} {e : E} {D : DE} {ρ : Ro} {S : Hs}  : wT c (T.aug i o e) D ρ S = (∃ x, ρ[i]? = some (some x) ∧ wE c e ρ S (fun y S1 => augW o x y S1 fun z S2 => D.nx (ρ.set i (some z)) S2) (fun x S' => D.ex x ρ S')) := by first | rfl | simp only [wT, ForK, WhilK, CompK, DCompK]
theorem wT_ex {e : E} {D : DE} {ρ : Ro} {S : Hs}  : wT c (T.ex e) D ρ S = (wE c e ρ S (fun _ S1 => D.nx ρ S1) (fun x S' => D.ex x ρ S')) := by first | rfl | simp only [wT, ForK, WhilK, CompK, DCompK]
theorem wT_ret {e : E} {D : DE} {ρ : Ro} {S : Hs}  : wT c (T.ret e) D ρ S = (wE c e ρ S (fun d S1 => retW d S1 D.rt) (fun x S' => D.ex x ρ S')) := by first | rfl | simp only [wT, ForK, WhilK, CompK, DCompK]
theorem wT_retN  {D : DE} {ρ : Ro} {S : Hs}  : wT c (T.retN) D ρ S = (D.rt .non S) := by first | rfl | simp only [wT, ForK, WhilK, CompK, DCompK]
theorem wT_pass  {D : DE} {ρ : Ro} {S : Hs}  : wT c (T.pass) D ρ S = (D.nx ρ S) := by first | rfl | simp only [wT, ForK, WhilK, CompK, DCompK]
theorem wT_brk  {D : DE} {ρ : Ro} {S : Hs}  : wT c (T.brk) D ρ S = (D.bk ρ S) := by first | rfl | simp only [wT, ForK, WhilK, CompK, DCompK]
theorem wT_cont  {D : DE} {ρ : Ro} {S : Hs}  : wT c (T.cont) D ρ S = (D.ct ρ S) := by first | rfl | simp only [wT, ForK, WhilK, CompK, DCompK]
theorem wT_ite {t : E} {a : Ts} {b : Ts} {D : DE} {ρ : Ro} {S : Hs}  : wT c (T.ite t a b) D ρ S = (wB c t ρ S (fun k S1 => if k = true then wTs c a D ρ S1 else wTs c b D ρ S1) (fun x S' => D.ex x ρ S')) := by first | rfl | simp only [wT, ForK, WhilK, CompK, DCompK]
theorem wT_for {g : G} {it : It} {body : Ts} {D : DE} {ρ : Ro} {S : Hs}  : wT c (T.for_ g it body) D ρ S = (wI c it ρ S (ForK c g body D ρ) (fun x S' => D.ex x ρ S')) := by first | rfl | simp only [wT, ForK, WhilK, CompK, DCompK]
theorem wT_whil {t : E} {body : Ts} {D : DE} {ρ : Ro} {S : Hs}  : wT c (T.whil t body) D ρ S = (WhilK c t body D ρ S) := by first | rfl | simp only [wT, ForK, WhilK, CompK, DCompK]
theorem wT_fst {o : E} {f : Str} {e : E} {D : DE} {ρ : Ro} {S : Hs}  : wT c (T.fst o f e) D ρ S = (wE c e ρ S (fun d S1 => wE c o ρ S1 (fun x S2 => ∃ a C fs, x = .ref a ∧ S2 a = some (.ins C fs) ∧ (C, f) ∈ c.flds ∧ fs.length < 1000 ∧ D.nx ρ (sup S2 a (.ins C (putFD f d fs)))) (fun x S' => D.ex x ρ S')) (fun x S' => D.ex x ρ S')) := by first | rfl | simp only [wT, ForK, WhilK, CompK, DCompK]
theorem wT_faug {o : E} {f : Str} {p : B2} {e : E} {D : DE} {ρ : Ro} {S : Hs}  : wT c (T.faug o f p e) D ρ S = (wE c o ρ S (fun x S1 => ∃ a C fs d, x = .ref a ∧ S1 a = some (.ins C fs) ∧ (C, f) ∈ c.flds ∧ fs.lookup f = some d ∧ wE c e ρ S1 (fun y S2 => augW p d y S2 fun z S3 => ∃ fs', S3 a = some (.ins C fs') ∧ fs'.length < 1000 ∧ D.nx ρ (sup S3 a (.ins C (putFD f z fs')))) (fun x S' => D.ex x ρ S')) (fun x S' => D.ex x ρ S')) := by first | rfl | simp only [wT, ForK, WhilK, CompK, DCompK]
theorem wT_saug {o : E} {i : E} {p : B2} {e : E} {D : DE} {ρ : Ro} {S : Hs}  : wT c (T.saug o i p e) D ρ S = (wE c o ρ S (fun x S1 => wE c i ρ S1 (fun k S2 => augIx x k S2 fun d S3 => wE c e ρ S3 (fun y S4 => augW p d y S4 fun z S5 => setW x k z S5 fun S6 => D.nx ρ S6) (fun x S' => D.ex x ρ S')) (fun x S' => D.ex x ρ S')) (fun x S' => D.ex x ρ S')) := by first | rfl | simp only [wT, ForK, WhilK, CompK, DCompK]
theorem wT_par2 {i : Nat} {j : Nat} {a : E} {b : E} {D : DE} {ρ : Ro} {S : Hs}  : wT c (T.par2 i j a b) D ρ S = (wE c a ρ S (fun x S1 => wE c b ρ S1 (fun y S2 => D.nx ((ρ.set i (some x)).set j (some y)) S2) (fun x S' => D.ex x ρ S')) (fun x S' => D.ex x ρ S')) := by first | rfl | simp only [wT, ForK, WhilK, CompK, DCompK]
theorem wT_par3 {i : Nat} {j : Nat} {l : Nat} {a : E} {b : E} {e : E} {D : DE} {ρ : Ro} {S : Hs}  : wT c (T.par3 i j l a b e) D ρ S = (wE c a ρ S (fun x S1 => wE c b ρ S1 (fun y S2 => wE c e ρ S2 (fun z S3 => D.nx (((ρ.set i (some x)).set j (some y)).set l (some z)) S3) (fun x S' => D.ex x ρ S')) (fun x S' => D.ex x ρ S')) (fun x S' => D.ex x ρ S')) := by first | rfl | simp only [wT, ForK, WhilK, CompK, DCompK]
theorem wT_del {o : E} {i : E} {D : DE} {ρ : Ro} {S : Hs}  : wT c (T.del o i) D ρ S = (wE c o ρ S (fun x S1 => wE c i ρ S1 (fun y S2 => ∃ a kvs k v, x = .ref a ∧ S2 a = some (.dK kvs) ∧ y.key = some k ∧ valD kvs k = some v ∧ D.nx ρ (sup S2 a (.dK (dropD kvs k)))) (fun x S' => D.ex x ρ S')) (fun x S' => D.ex x ρ S')) := by first | rfl | simp only [wT, ForK, WhilK, CompK, DCompK]
theorem wT_lock {t : T} {D : DE} {ρ : Ro} {S : Hs}  : wT c (T.lock t) D ρ S = (∃ a o z, S a = some o ∧ o.lk = some z ∧ wT c t { nx := fun ρ' S' => S' a = some z ∧ D.nx ρ' (sup S' a o), rt := fun d S' => S' a = some z ∧ D.rt d (sup S' a o), bk := fun ρ' S' => S' a = some z ∧ D.bk ρ' (sup S' a o), ct := fun ρ' S' => S' a = some z ∧ D.ct ρ' (sup S' a o) } ρ (sup S a z)) := by first | rfl | simp only [wT, ForK, WhilK, CompK, DCompK]
theorem wT_rais {i : Nat} {D : DE} {ρ : Ro} {S : Hs}  : wT c (T.rais i) D ρ S = (∃ p, c.excs[i]? = some p ∧ D.ex ⟨p.2, none⟩ ρ S) := by first | rfl | simp only [wT, ForK, WhilK, CompK, DCompK]
theorem wT_try1 {body : Ts} {i : Nat} {suite : Ts} {D : DE} {ρ : Ro} {S : Hs}  : wT c (T.try1 body i suite) D ρ S = (wTs c body { D with ex := fun x ρ' S' => ∃ p b, c.excs[i]? = some p ∧ (x.C, p.2, b) ∈ c.exm ∧ (b = true → wTs c suite { D with ex := fun _ _ _ => False } ρ' S') ∧ (b = false → D.ex x ρ' S') } ρ S) := by first | rfl | simp only [wT, ForK, WhilK, CompK, DCompK]
theorem wT_tryN {body : Ts} {hs : Hd} {D : DE} {ρ : Ro} {S : Hs}  : wT c (T.tryN body hs) D ρ S = (wTs c body { D with ex := fun x ρ' S' => wH c hs D x (if c.act.isSome then List.replicate ρ'.length none else ρ') S' } ρ S) := by first | rfl | simp only [wT, ForK, WhilK, CompK, DCompK]
theorem wT_ac {k : Ak} {D : DE} {ρ : Ro} {S : Hs}  : wT c (T.ac k) D ρ S = (∃ p, c.act = some p ∧ ρ[0]? = some (some p.d) ∧ p.sp S (fun d S1 => acW k d D ρ S1) (fun x S1 => D.ex x ρ S1)) := by first | rfl | simp only [wT, ForK, WhilK, CompK, DCompK]
theorem wTs_nil  {D : DE} {ρ : Ro} {S : Hs}  : wTs c (Ts.nil) D ρ S = (D.nx ρ S) := by first | rfl | simp only [wTs, ForK, WhilK, CompK, DCompK]
theorem wTs_cons {t : T} {r : Ts} {D : DE} {ρ : Ro} {S : Hs}  : wTs c (Ts.cons t r) D ρ S = (wT c t { D with nx := wTs c r D } ρ S) := by first | rfl | simp only [wTs, ForK, WhilK, CompK, DCompK]
theorem wH_nil  {D : DE} {x : XD} {ρ : Ro} {S : Hs}  : wH c (Hd.nil) D x ρ S = (D.ex x ρ S) := by first | rfl | simp only [wH, ForK, WhilK, CompK, DCompK]
theorem wH_cons {i : Nat} {o : Option Nat} {su : Ts} {r : Hd} {D : DE} {x : XD} {ρ : Ro} {S : Hs}  : wH c (Hd.cons i o su r) D x ρ S = (∃ p b, c.excs[i]? = some p ∧ (x.C, p.2, b) ∈ c.exm ∧ (b = true → match o with | none => wTs (c.suite none) su { D with ex := fun _ _ _ => False } ρ S | some j => ∀ a, wTs (c.suite (some (j, a, x))) su (goneD j D) (ρ.set j (some (.ref a))) S) ∧ (b = false → wH c r D x ρ S)) := by first | rfl | simp only [wH, ForK, WhilK, CompK, DCompK]
end
end Dz
namespace Dz
open PySem L2
theorem addW_int {i j : Int} {S : Hs} {Q : QD} : (addW (.int i) (.int j) S Q) = (Q (.int (i + j)) S) := rfl
theorem addW_str {x y : Str} {S : Hs} {Q : QD} : (addW (.str x) (.str y) S Q) = (x.length + y.length ≤ sizeLine ∧ Q (.str (x ++ y)) S) := rfl
theorem addW_tup {xs ys : List D} {S : Hs} {Q : QD} : (addW (.tup xs) (.tup ys) S Q) = (xs.length + ys.length ≤ sizeLine ∧ Q (.tup (xs ++ ys)) S) := rfl
theorem addW_ll {xs ys : List D} {S : Hs} {Q : QD} : (addW (.lst xs) (.lst ys) S Q) = (xs.length + ys.length ≤ sizeLine ∧ NewL (xs ++ ys) S Q) := by simp only [addW, lstOf_lst, Option.some.injEq, exists_and_left, exists_eq_left']
theorem addW_lr {xs : List D} {b : Addr} {S : Hs} {Q : QD} : (addW (.lst xs) (.ref b) S Q) = (∃ ys, lstOf S (.ref b) = some ys ∧ xs.length + ys.length ≤ sizeLine ∧ NewL (xs ++ ys) S Q) := by simp only [addW, lstOf_lst, Option.some.injEq, exists_and_left, exists_eq_left']
theorem addW_rl {ys : List D} {b : Addr} {S : Hs} {Q : QD} : (addW (.ref b) (.lst ys) S Q) = (∃ xs, lstOf S (.ref b) = some xs ∧ xs.length + ys.length ≤ sizeLine ∧ NewL (xs ++ ys) S Q) := by simp only [addW, lstOf_lst, Option.some.injEq, exists_and_left, exists_eq_left']
theorem addW_rr {a b : Addr} {S : Hs} {Q : QD} : (addW (.ref a) (.ref b) S Q) = (∃ xs, lstOf S (.ref a) = some xs ∧ ∃ ys, lstOf S (.ref b) = some ys ∧ xs.length + ys.length ≤ sizeLine ∧ NewL (xs ++ ys) S Q) := by simp only [addW, exists_and_left]
theorem subW_int {i j : Int} {S : Hs} {Q : QD} : (subW (.int i) (.int j) S Q) = (Q (.int (i - j)) S) := rfl
theorem mulW_int {i j : Int} {S : Hs} {Q : QD} : (mulW (.int i) (.int j) S Q) = ((CMul i j ∨ CMulW i j) ∧ Q (.int (i * j)) S) := rfl
theorem mulW_tup {xs : List D} {k : Int} {S : Hs} {Q : QD} : (mulW (.tup xs) (.int k) S Q) = (xs ≠ [] ∧ k ≠ 1 ∧ -(2 ^ 63) ≤ k ∧ k < 2 ^ 63 ∧ k.toNat * xs.length ≤ 1000000 ∧ Q (.tup (List.replicate k.toNat xs).flatten) S) := rfl
theorem mulW_ref {a : Addr} {k : Int} {S : Hs} {Q : QD} : (mulW (.ref a) (.int k) S Q) = (∃ xs, S a = some (.lst xs) ∧ -(2 ^ 63) ≤ k ∧ k < 2 ^ 63 ∧ xs.length * k.toNat ≤ sizeLine ∧ NewL (List.replicate k.toNat xs).flatten (sdel S a) Q) := rfl
theorem fdivW_int {i j : Int} {S : Hs} {Q : QD} : (fdivW (.int i) (.int j) S Q) = (CDivW i j ∧ Q (.int (i / j)) S) := rfl
theorem modW_int {i j : Int} {S : Hs} {Q : QD} : (modW (.int i) (.int j) S Q) = (0 < j ∧ Q (.int (i % j)) S) := rfl
theorem powW_int {i j : Int} {S : Hs} {Q : QD} : (powW (.int i) (.int j) S Q) = (CPow i j ∧ Q (.int (i ^ j.toNat)) S) := rfl
theorem ltW_int {i j : Int} {S : Hs} {Q : QD} : (ltW (.int i) (.int j) S Q) = (Q (.bl (decide (i < j))) S) := rfl
theorem leW_int {i j : Int} {S : Hs} {Q : QD} : (leW (.int i) (.int j) S Q) = (Q (.bl (decide (i ≤ j))) S) := rfl
theorem gtW_int {i j : Int} {S : Hs} {Q : QD} : (gtW (.int i) (.int j) S Q) = (Q (.bl (decide (j < i))) S) := rfl
theorem geW_int {i j : Int} {S : Hs} {Q : QD} : (geW (.int i) (.int j) S Q) = (Q (.bl (decide (j ≤ i))) S) := rfl
theorem ltW_str {x y : Str} {S : Hs} {Q : QD} : (ltW (.str x) (.str y) S Q) = (Q (.bl (decide (x.cps.toList < y.cps.toList))) S) := rfl
theorem leW_str {x y : Str} {S : Hs} {Q : QD} : (leW (.str x) (.str y) S Q) = (Q (.bl (!decide (y.cps.toList < x.cps.toList))) S) := rfl
theorem gtW_str {x y : Str} {S : Hs} {Q : QD} : (gtW (.str x) (.str y) S Q) = (Q (.bl (decide (y.cps.toList < x.cps.toList))) S) := rfl
theorem geW_str {x y : Str} {S : Hs} {Q : QD} : (geW (.str x) (.str y) S Q) = (Q (.bl (!decide (x.cps.toList < y.cps.toList))) S) := rfl
theorem isNW_n {d : D} {S : Hs} {Q : QD} : (isNW d .non S Q) = (Q (.bl (isNone d)) S) := by cases d <;> rfl
theorem notNW_n {d : D} {S : Hs} {Q : QD} : (notNW d .non S Q) = (Q (.bl (!isNone d)) S) := by cases d <;> rfl
theorem isNone_non  : (isNone .non) = (true) := rfl
theorem isNone_bl {b : Bool} : (isNone (.bl b)) = (false) := rfl
theorem isNone_int {i : Int} : (isNone (.int i)) = (false) := rfl
theorem isNone_str {x : Str} : (isNone (.str x)) = (false) := rfl
theorem isNone_tup {xs : List D} : (isNone (.tup xs)) = (false) := rfl
theorem isNone_lst {xs : List D} : (isNone (.lst xs)) = (false) := rfl
theorem isNone_ref {a : Addr} : (isNone (.ref a)) = (false) := rfl
theorem isNone_ty {n : String} : (isNone (.ty n)) = (false) := rfl
theorem tyName_non  {S : Hs} : (tyName S .non) = (some "NoneType") := rfl
theorem tyName_bl {b : Bool} {S : Hs} : (tyName S (.bl b)) = (some "bool") := rfl
theorem tyName_int {i : Int} {S : Hs} : (tyName S (.int i)) = (some "int") := rfl
theorem tyName_str {x : Str} {S : Hs} : (tyName S (.str x)) = (some "str") := rfl
theorem tyName_tup {xs : List D} {S : Hs} : (tyName S (.tup xs)) = (some "tuple") := rfl
theorem tyName_lst {xs : List D} {S : Hs} : (tyName S (.lst xs)) = (some "list") := rfl
theorem negW_int {i : Int} {S : Hs} {Q : QD} : (negW (.int i) S Q) = (Q (.int (-i)) S) := rfl
theorem intW_int {i : Int} {S : Hs} {Q : QD} : (intW (.int i) S Q) = (Q (.int i) S) := rfl
theorem intW_bl {b : Bool} {S : Hs} {Q : QD} : (intW (.bl b) S Q) = (Q (.int (if b then 1 else 0)) S) := rfl
theorem absW_int {i : Int} {S : Hs} {Q : QD} : (absW (.int i) S Q) = (Q (.int (if i < 0 then -i else i)) S) := rfl
theorem minW_int {i j : Int} {S : Hs} {Q : QD} : (minW (.int i) (.int j) S Q) = (Q (.int (if j < i then j else i)) S) := rfl
theorem maxW_int {i j : Int} {S : Hs} {Q : QD} : (maxW (.int i) (.int j) S Q) = (Q (.int (if j > i then j else i)) S) := rfl
theorem lenW_str {x : Str} {S : Hs} {Q : QD} : (lenW (.str x) S Q) = (x.length ≤ sizeLine ∧ Q (.int x.length) S) := rfl
theorem lenW_lst {xs : List D} {S : Hs} {Q : QD} : (lenW (.lst xs) S Q) = (Q (.int xs.length) S) := by simp only [lenW, seqOf_lst, seqOf_tup, Option.some.injEq, exists_eq_left', exists_and_left]
theorem lenW_tup {xs : List D} {S : Hs} {Q : QD} : (lenW (.tup xs) S Q) = (Q (.int xs.length) S) := by simp only [lenW, seqOf_lst, seqOf_tup, Option.some.injEq, exists_eq_left', exists_and_left]
theorem lenW_ref {a : Addr} {S : Hs} {Q : QD} : (lenW (.ref a) S Q) = (∃ o, S a = some o ∧ ∃ n, o.len = some n ∧ Q (.int (n : Nat)) S) := by simp only [lenW, exists_and_left]
theorem len_lst {xs : List D} : (MO.len (.lst xs)) = (some xs.length) := rfl
theorem len_dK {xs : List (Key × D)} : (MO.len (.dK xs)) = (some xs.length) := rfl
theorem len_dT {xs : List (List Key × D)} : (MO.len (.dT xs)) = (some xs.length) := rfl
theorem tupleW_lst {xs : List D} {S : Hs} {Q : QD} : (tupleW (.lst xs) S Q) = (Q (.tup xs) S) := by simp only [tupleW, seqOf_lst, seqOf_tup, Option.some.injEq, exists_eq_left', exists_and_left]
theorem tupleW_tup {xs : List D} {S : Hs} {Q : QD} : (tupleW (.tup xs) S Q) = (Q (.tup xs) S) := by simp only [tupleW, seqOf_lst, seqOf_tup, Option.some.injEq, exists_eq_left', exists_and_left]
theorem tupleW_ref {a : Addr} {S : Hs} {Q : QD} : (tupleW (.ref a) S Q) = (∃ xs, seqOf S (.ref a) = some xs ∧ Q (.tup xs) S) := rfl
theorem listW_lst {xs : List D} {S : Hs} {Q : QD} : (listW (.lst xs) S Q) = (NewL xs S Q) := by simp only [listW, seqOf_lst, seqOf_tup, Option.some.injEq, exists_eq_left', exists_and_left]
theorem listW_tup {xs : List D} {S : Hs} {Q : QD} : (listW (.tup xs) S Q) = (NewL xs S Q) := by simp only [listW, seqOf_lst, seqOf_tup, Option.some.injEq, exists_eq_left', exists_and_left]
theorem listW_ref {a : Addr} {S : Hs} {Q : QD} : (listW (.ref a) S Q) = (∃ xs, seqOf S (.ref a) = some xs ∧ NewL xs S Q) := rfl
theorem ixW_str {x : Str} {i : Int} {S : Hs} {Q : QD} : (ixW (.str x) (.int i) S Q) = (x.length ≤ sizeLine ∧ ∃ c, atI x.cps.toList i = some c ∧ Q (.str ⟨#[c]⟩) S) := rfl
theorem ixW_lst {xs : List D} {i : Int} {S : Hs} {Q : QD} : (ixW (.lst xs) (.int i) S Q) = (∃ x, atI xs i = some x ∧ Q x S) := by simp only [ixW, seqOf_lst, seqOf_tup, Option.some.injEq, exists_eq_left', exists_and_left]
theorem ixW_tup {xs : List D} {i : Int} {S : Hs} {Q : QD} : (ixW (.tup xs) (.int i) S Q) = (∃ x, atI xs i = some x ∧ Q x S) := by simp only [ixW, seqOf_lst, seqOf_tup, Option.some.injEq, exists_eq_left', exists_and_left]
theorem slW_str {x : Str} {lo hi : Option Int} {S : Hs} {Q : QD} : (slW (.str x) lo hi S Q) = (x.length ≤ sizeLine ∧ Q (.str (cutS x lo hi)) S) := rfl
theorem slW_tup {xs : List D} {lo hi : Option Int} {S : Hs} {Q : QD} : (slW (.tup xs) lo hi S Q) = (Q (.tup (cutD xs lo hi)) S) := rfl
theorem slW_lst {xs : List D} {lo hi : Option Int} {S : Hs} {Q : QD} : (slW (.lst xs) lo hi S Q) = (NewL (cutD xs lo hi) S Q) := by simp only [slW, lstOf_lst, Option.some.injEq, exists_eq_left']
theorem slW_ref {a : Addr} {lo hi : Option Int} {S : Hs} {Q : QD} : (slW (.ref a) lo hi S Q) = (∃ xs, lstOf S (.ref a) = some xs ∧ NewL (cutD xs lo hi) S Q) := rfl
theorem revW_tup {xs : List D} {S : Hs} {Q : QD} : (revW (.tup xs) S Q) = (xs.length ≤ sizeLine ∧ Q (.tup xs.reverse) S) := rfl
theorem revW_lst {xs : List D} {S : Hs} {Q : QD} : (revW (.lst xs) S Q) = (NewL xs.reverse S Q) := by simp only [revW, lstOf_lst, Option.some.injEq, exists_eq_left']
theorem revW_ref {a : Addr} {S : Hs} {Q : QD} : (revW (.ref a) S Q) = (∃ xs, lstOf S (.ref a) = some xs ∧ NewL xs.reverse S Q) := rfl
theorem appW_ref {a : Addr} {y : D} {S : Hs} {Q : QD} : (appendW (.ref a) y S Q) = (∃ xs, S a = some (.lst xs) ∧ xs.length < sizeLine ∧ Q .non (sup S a (.lst (xs ++ [y])))) := rfl
theorem appTy {d : D} {S : Hs} : (Bm.ty S d .append) = (∃ xs, lstOf S d = some xs) := rfl
theorem extTy {d : D} {S : Hs} : (Bm.ty S d .extend) = (∃ xs, lstOf S d = some xs) := rfl
theorem remTy {d : D} {S : Hs} : (Bm.ty S d .remove) = (∃ xs, lstOf S d = some xs) := rfl
theorem extW_ref {a b : Addr} {S : Hs} {Q : QD} : (extendW (.ref a) (.ref b) S Q) = (∃ xs ys, S a = some (.lst xs) ∧ S b = some (.lst ys) ∧ xs.length + ys.length ≤ sizeLine ∧ Q .non (sup S a (.lst (xs ++ ys)))) := rfl
theorem remW_ref {a : Addr} {k : Int} {S : Hs} {Q : QD} : (removeW (.ref a) (.int k) S Q) = (∃ ns : List Int, S a = some (.lst (ns.map D.int)) ∧ k ∈ ns ∧ Q .non (sup S a (.lst ((ns.erase k).map D.int)))) := rfl
theorem lrngW_1 {j : Int} {S : Hs} {Q : QD} : (lrngW [.int j] S Q) = (RgOk 0 j ∧ NewL (rngD 0 j.toNat) S Q) := rfl
theorem lrngW_2 {i j : Int} {S : Hs} {Q : QD} : (lrngW [.int i, .int j] S Q) = (RgOk i j ∧ NewL (rngD i (j - i).toNat) S Q) := rfl
theorem iscW_ref {c : Cfg} {i : Nat} {a : Addr} {S : Hs} {Q : QD} : (iscW c i (.ref a) S Q) = (∃ p, c.clss[i]? = some p ∧ ∃ fs, S a = some (.ins p.2 fs) ∧ Q (.bl true) S) := by simp only [iscW, exists_and_left]
theorem tru_bl {b k : Bool} {S : Hs} : (TruD S (.bl b) k) = (k = b) := rfl
theorem tru_non {k : Bool} {S : Hs} : (TruD S .non k) = (k = false) := rfl
theorem tru_int {i : Int} {k : Bool} {S : Hs} : (TruD S (.int i) k) = (k = (i != 0)) := rfl
theorem tru_str {y : Str} {b : Bool} {S : Hs} : (TruD S (.str y) b) = (y.length ≤ sizeLine ∧ b = ((y.length : Int) != 0)) := rfl
theorem tru_tup {xs : List D} {k : Bool} {S : Hs} : (TruD S (.tup xs) k) = (k = !xs.isEmpty) := rfl
theorem tru_lst {xs : List D} {k : Bool} {S : Hs} : (TruD S (.lst xs) k) = (k = !xs.isEmpty) := rfl
theorem seqI_lst {xs : List D} {S : Hs} {Q : QI} : (seqI (.lst xs) S Q) = (Q xs (fun _ => True) S) := rfl
theorem seqI_tup {xs : List D} {S : Hs} {Q : QI} : (seqI (.tup xs) S Q) = (Q xs (fun _ => True) S) := rfl
theorem seqI_ref {a : Addr} {S : Hs} {Q : QI} : (seqI (.ref a) S Q) = (∃ o, S a = some o ∧ ∃ xs, o.items = some xs ∧ Q xs (fun S' => S' a = some o) S) := by simp only [seqI, exists_and_left]
theorem seqI_str {z : Str} {S : Hs} {Q : QI} : (seqI (.str z) S Q) = (Q (strD z) (fun _ => True) S) := rfl
theorem seqI_ctp {xs : List D} {S : Hs} {Q : QI} : (seqI (.ctp xs) S Q) = (Q xs (fun _ => True) S) := rfl
theorem items_lst {xs : List D} : (MO.items (.lst xs)) = (some xs) := rfl
theorem items_zK {xs : List (Key × D)} : (MO.items (.zK xs)) = (some (xs.map fun p => keyD p.1)) := rfl
theorem items_zT {xs : List (List Key × D)} : (MO.items (.zT xs)) = (some (xs.map fun p => D.tup (p.1.map keyD))) := rfl
theorem enumI_lst {xs : List D} {S : Hs} {Q : QI} : (enumI (.lst xs) S Q) = (Q (enumD xs) (fun _ => True) S) := rfl
theorem enumI_tup {xs : List D} {S : Hs} {Q : QI} : (enumI (.tup xs) S Q) = (Q (enumD xs) (fun _ => True) S) := rfl
theorem enumI_ref {a : Addr} {S : Hs} {Q : QI} : (enumI (.ref a) S Q) = (∃ xs, S a = some (.lst xs) ∧ Q (enumD xs) (fun S' => S' a = some (.lst xs)) S) := rfl
theorem rngI_1 {j : Int} {S : Hs} {Q : QI} : (rngI [.int j] S Q) = (-(2 ^ 62) ≤ j ∧ j < 2 ^ 62 ∧ Q (rngD 0 j.toNat) (fun _ => True) S) := rfl
theorem rngI_3 {i j k : Int} {S : Hs} {Q : QI} : (rngI [.int i, .int j, .int k] S Q) = (∃ n, RgC i j k n ∧ Q (rng3D i k n) (fun _ => True) S) := rfl
theorem rngI_2 {i j : Int} {S : Hs} {Q : QI} : (rngI [.int i, .int j] S Q) = ((-(2 ^ 62) ≤ i ∧ i < 2 ^ 62 ∧ -(2 ^ 62) ≤ j ∧ j < 2 ^ 62) ∧ Q (rngD i (j - i).toNat) (fun _ => True) S) := rfl
theorem inW_e {d e : D} {S : Hs} {Q : QD} : (inW d e S Q) = (∃ b, inR S d e b ∧ Q (.bl b) S) := rfl
theorem notInW_e {d e : D} {S : Hs} {Q : QD} : (notInW d e S Q) = (∃ b, inR S d e b ∧ Q (.bl (!b)) S) := rfl
theorem inR_int {i : Int} {ns : List Int} {b : Bool} {S : Hs} : (inR S (.int i) (.tup (ns.map D.int)) b) = (b = decide (i ∈ ns)) := by simp only [inR, any_int, D.flat, true_and, List.all_map]; simp [Function.comp_def, D.flat]
theorem inR_lst {d : D} {xs : List D} {b : Bool} {S : Hs} : (inR S d (.lst xs) b) = (d.ok = true ∧ D.ok (.lst xs) = true ∧ b = xs.any fun z => D.eq z d) := by cases d <;> rfl
theorem inR_tup {d : D} {xs : List D} {b : Bool} {S : Hs} : (inR S d (.tup xs) b) = (d.flat = true ∧ xs.all D.flat = true ∧ b = xs.any fun z => D.eq z d) := by cases d <;> rfl
theorem flat_int {i : Int} : (D.flat (.int i)) = (true) := rfl
theorem flat_str {i : Str} : (D.flat (.str i)) = (true) := rfl
theorem flat_non  : (D.flat .non) = (true) := rfl
theorem flat_bl {i : Bool} : (D.flat (.bl i)) = (true) := rfl
theorem ixN_1_0  : (ixN 1 0) = (some 0) := by decide
theorem ixN_2_0  : (ixN 2 0) = (some 0) := by decide
theorem ixN_2_1  : (ixN 2 1) = (some 1) := by decide
theorem ixN_3_0  : (ixN 3 0) = (some 0) := by decide
theorem ixN_3_1  : (ixN 3 1) = (some 1) := by decide
theorem ixN_3_2  : (ixN 3 2) = (some 2) := by decide
theorem ixN_4_0  : (ixN 4 0) = (some 0) := by decide
theorem ixN_4_1  : (ixN 4 1) = (some 1) := by decide
theorem ixN_4_2  : (ixN 4 2) = (some 2) := by decide
theorem ixN_4_3  : (ixN 4 3) = (some 3) := by decide
theorem ixN_5_0  : (ixN 5 0) = (some 0) := by decide
theorem ixN_5_1  : (ixN 5 1) = (some 1) := by decide
theorem ixN_5_2  : (ixN 5 2) = (some 2) := by decide
theorem ixN_5_3  : (ixN 5 3) = (some 3) := by decide
theorem ixN_5_4  : (ixN 5 4) = (some 4) := by decide
theorem ixN_6_0  : (ixN 6 0) = (some 0) := by decide
theorem ixN_6_1  : (ixN 6 1) = (some 1) := by decide
theorem ixN_6_2  : (ixN 6 2) = (some 2) := by decide
theorem ixN_6_3  : (ixN 6 3) = (some 3) := by decide
theorem ixN_6_4  : (ixN 6 4) = (some 4) := by decide
theorem ixN_6_5  : (ixN 6 5) = (some 5) := by decide
theorem ixN_7_0  : (ixN 7 0) = (some 0) := by decide
theorem ixN_7_1  : (ixN 7 1) = (some 1) := by decide
theorem ixN_7_2  : (ixN 7 2) = (some 2) := by decide
theorem ixN_7_3  : (ixN 7 3) = (some 3) := by decide
theorem ixN_7_4  : (ixN 7 4) = (some 4) := by decide
theorem ixN_7_5  : (ixN 7 5) = (some 5) := by decide
theorem ixN_7_6  : (ixN 7 6) = (some 6) := by decide
theorem ixN_8_0  : (ixN 8 0) = (some 0) := by decide
theorem ixN_8_1  : (ixN 8 1) = (some 1) := by decide
theorem ixN_8_2  : (ixN 8 2) = (some 2) := by decide
theorem ixN_8_3  : (ixN 8 3) = (some 3) := by decide
theorem ixN_8_4  : (ixN 8 4) = (some 4) := by decide
theorem ixN_8_5  : (ixN 8 5) = (some 5) := by decide
theorem ixN_8_6  : (ixN 8 6) = (some 6) := by decide
theorem ixN_8_7  : (ixN 8 7) = (some 7) := by decide
theorem seqOf_sup {S : Hs} {p : Addr} {xs : List D} : (seqOf (sup S p (.lst xs)) (.ref p)) = (some xs) := seqOf_live sup_same
theorem lstOf_sup {S : Hs} {p : Addr} {xs : List D} : (lstOf (sup S p (.lst xs)) (.ref p)) = (some xs) := lstOf_live sup_same
theorem cp10_1  : (CPow 10 1) = (True) := eq_true (by unfold CPow; decide)
theorem cp2_1  : (CPow 2 1) = (True) := eq_true (by unfold CPow; decide)
theorem cp10_2  : (CPow 10 2) = (True) := eq_true (by unfold CPow; decide)
theorem cp2_2  : (CPow 2 2) = (True) := eq_true (by unfold CPow; decide)
theorem cp10_3  : (CPow 10 3) = (True) := eq_true (by unfold CPow; decide)
theorem cp2_3  : (CPow 2 3) = (True) := eq_true (by unfold CPow; decide)
theorem cp10_4  : (CPow 10 4) = (True) := eq_true (by unfold CPow; decide)
theorem cp2_4  : (CPow 2 4) = (True) := eq_true (by unfold CPow; decide)
theorem cp10_5  : (CPow 10 5) = (True) := eq_true (by unfold CPow; decide)
theorem cp2_5  : (CPow 2 5) = (True) := eq_true (by unfold CPow; decide)
theorem cp10_6  : (CPow 10 6) = (True) := eq_true (by unfold CPow; decide)
theorem cp2_6  : (CPow 2 6) = (True) := eq_true (by unfold CPow; decide)
theorem cp10_7  : (CPow 10 7) = (True) := eq_true (by unfold CPow; decide)
theorem cp2_7  : (CPow 2 7) = (True) := eq_true (by unfold CPow; decide)
theorem cp10_8  : (CPow 10 8) = (True) := eq_true (by unfold CPow; decide)
theorem cp2_8  : (CPow 2 8) = (True) := eq_true (by unfold CPow; decide)
theorem cp10_9  : (CPow 10 9) = (True) := eq_true (by unfold CPow; decide)
theorem cp2_9  : (CPow 2 9) = (True) := eq_true (by unfold CPow; decide)
theorem cp10_10  : (CPow 10 10) = (True) := eq_true (by unfold CPow; decide)
theorem cp2_10  : (CPow 2 10) = (True) := eq_true (by unfold CPow; decide)
theorem cp10_11  : (CPow 10 11) = (True) := eq_true (by unfold CPow; decide)
theorem cp2_11  : (CPow 2 11) = (True) := eq_true (by unfold CPow; decide)
theorem cp10_12  : (CPow 10 12) = (True) := eq_true (by unfold CPow; decide)
theorem cp2_12  : (CPow 2 12) = (True) := eq_true (by unfold CPow; decide)
theorem cp10_13  : (CPow 10 13) = (True) := eq_true (by unfold CPow; decide)
theorem cp2_13  : (CPow 2 13) = (True) := eq_true (by unfold CPow; decide)
theorem cp10_14  : (CPow 10 14) = (True) := eq_true (by unfold CPow; decide)
theorem cp2_14  : (CPow 2 14) = (True) := eq_true (by unfold CPow; decide)
theorem cp10_15  : (CPow 10 15) = (True) := eq_true (by unfold CPow; decide)
theorem cp2_15  : (CPow 2 15) = (True) := eq_true (by unfold CPow; decide)
theorem cp10_16  : (CPow 10 16) = (True) := eq_true (by unfold CPow; decide)
theorem cp2_16  : (CPow 2 16) = (True) := eq_true (by unfold CPow; decide)
theorem cp10_17  : (CPow 10 17) = (True) := eq_true (by unfold CPow; decide)
theorem cp2_17  : (CPow 2 17) = (True) := eq_true (by unfold CPow; decide)
theorem cp10_18  : (CPow 10 18) = (True) := eq_true (by unfold CPow; decide)
theorem cp2_18  : (CPow 2 18) = (True) := eq_true (by unfold CPow; decide)
theorem cp10_19  : (CPow 10 19) = (True) := eq_true (by unfold CPow; decide)
theorem cp2_19  : (CPow 2 19) = (True) := eq_true (by unfold CPow; decide)
theorem cp10_20  : (CPow 10 20) = (True) := eq_true (by unfold CPow; decide)
theorem cp2_20  : (CPow 2 20) = (True) := eq_true (by unfold CPow; decide)
theorem cp10_21  : (CPow 10 21) = (True) := eq_true (by unfold CPow; decide)
theorem cp2_21  : (CPow 2 21) = (True) := eq_true (by unfold CPow; decide)
theorem cp10_22  : (CPow 10 22) = (True) := eq_true (by unfold CPow; decide)
theorem cp2_22  : (CPow 2 22) = (True) := eq_true (by unfold CPow; decide)
theorem cp10_23  : (CPow 10 23) = (True) := eq_true (by unfold CPow; decide)
theorem cp2_23  : (CPow 2 23) = (True) := eq_true (by unfold CPow; decide)
theorem cp10_24  : (CPow 10 24) = (True) := eq_true (by unfold CPow; decide)
theorem cp2_24  : (CPow 2 24) = (True) := eq_true (by unfold CPow; decide)
theorem cp10_25  : (CPow 10 25) = (True) := eq_true (by unfold CPow; decide)
theorem cp2_25  : (CPow 2 25) = (True) := eq_true (by unfold CPow; decide)
theorem cp10_26  : (CPow 10 26) = (True) := eq_true (by unfold CPow; decide)
theorem cp2_26  : (CPow 2 26) = (True) := eq_true (by unfold CPow; decide)
theorem cp10_27  : (CPow 10 27) = (True) := eq_true (by unfold CPow; decide)
theorem cp2_27  : (CPow 2 27) = (True) := eq_true (by unfold CPow; decide)
theorem cp10_28  : (CPow 10 28) = (True) := eq_true (by unfold CPow; decide)
theorem cp2_28  : (CPow 2 28) = (True) := eq_true (by unfold CPow; decide)
theorem cp10_29  : (CPow 10 29) = (True) := eq_true (by unfold CPow; decide)
theorem cp2_29  : (CPow 2 29) = (True) := eq_true (by unfold CPow; decide)
theorem cp10_30  : (CPow 10 30) = (True) := eq_true (by unfold CPow; decide)
theorem cp2_30  : (CPow 2 30) = (True) := eq_true (by unfold CPow; decide)
theorem cp10_31  : (CPow 10 31) = (True) := eq_true (by unfold CPow; decide)
theorem cp2_31  : (CPow 2 31) = (True) := eq_true (by unfold CPow; decide)
theorem cp10_32  : (CPow 10 32) = (True) := eq_true (by unfold CPow; decide)
theorem cp2_32  : (CPow 2 32) = (True) := eq_true (by unfold CPow; decide)
theorem cp10_33  : (CPow 10 33) = (True) := eq_true (by unfold CPow; decide)
theorem cp2_33  : (CPow 2 33) = (True) := eq_true (by unfold CPow; decide)
theorem cp10_34  : (CPow 10 34) = (True) := eq_true (by unfold CPow; decide)
theorem cp2_34  : (CPow 2 34) = (True) := eq_true (by unfold CPow; decide)
theorem cp10_35  : (CPow 10 35) = (True) := eq_true (by unfold CPow; decide)
theorem cp2_35  : (CPow 2 35) = (True) := eq_true (by unfold CPow; decide)
theorem cp10_36  : (CPow 10 36) = (True) := eq_true (by unfold CPow; decide)
theorem cp2_36  : (CPow 2 36) = (True) := eq_true (by unfold CPow; decide)
theorem cp10_37  : (CPow 10 37) = (True) := eq_true (by unfold CPow; decide)
theorem cp2_37  : (CPow 2 37) = (True) := eq_true (by unfold CPow; decide)
theorem cp10_38  : (CPow 10 38) = (True) := eq_true (by unfold CPow; decide)
theorem cp2_38  : (CPow 2 38) = (True) := eq_true (by unfold CPow; decide)
theorem cp10_39  : (CPow 10 39) = (True) := eq_true (by unfold CPow; decide)
theorem cp2_39  : (CPow 2 39) = (True) := eq_true (by unfold CPow; decide)
theorem cp10_40  : (CPow 10 40) = (True) := eq_true (by unfold CPow; decide)
theorem cp2_40  : (CPow 2 40) = (True) := eq_true (by unfold CPow; decide)
theorem lsl_0  : (0 ≤ sizeLine) = (True) := eq_true (by decide)
theorem lsl_1  : (1 ≤ sizeLine) = (True) := eq_true (by decide)
theorem lsl_2  : (2 ≤ sizeLine) = (True) := eq_true (by decide)
theorem lsl_3  : (3 ≤ sizeLine) = (True) := eq_true (by decide)
theorem lsl_4  : (4 ≤ sizeLine) = (True) := eq_true (by decide)
theorem lsl_5  : (5 ≤ sizeLine) = (True) := eq_true (by decide)
theorem lsl_6  : (6 ≤ sizeLine) = (True) := eq_true (by decide)
theorem lsl_7  : (7 ≤ sizeLine) = (True) := eq_true (by decide)
theorem lsl_8  : (8 ≤ sizeLine) = (True) := eq_true (by decide)
theorem lsl_9  : (9 ≤ sizeLine) = (True) := eq_true (by decide)
theorem lsl_10  : (10 ≤ sizeLine) = (True) := eq_true (by decide)
theorem lsl_11  : (11 ≤ sizeLine) = (True) := eq_true (by decide)
theorem lsl_12  : (12 ≤ sizeLine) = (True) := eq_true (by decide)
theorem lsl_13  : (13 ≤ sizeLine) = (True) := eq_true (by decide)
theorem lsl_14  : (14 ≤ sizeLine) = (True) := eq_true (by decide)
theorem lsl_15  : (15 ≤ sizeLine) = (True) := eq_true (by decide)
theorem lsl_16  : (16 ≤ sizeLine) = (True) := eq_true (by decide)
theorem lsl_17  : (17 ≤ sizeLine) = (True) := eq_true (by decide)
theorem lsl_18  : (18 ≤ sizeLine) = (True) := eq_true (by decide)
theorem lsl_19  : (19 ≤ sizeLine) = (True) := eq_true (by decide)
theorem lsl_20  : (20 ≤ sizeLine) = (True) := eq_true (by decide)
theorem isNW_b {a b : Bool} {S : Hs} {Q : QD} : (isNW (.bl a) (.bl b) S Q) = (Q (.bl (decide (a = b))) S) := rfl
theorem notNW_b {a b : Bool} {S : Hs} {Q : QD} : (notNW (.bl a) (.bl b) S Q) = (Q (.bl (!decide (a = b))) S) := rfl
theorem three_c {f : D → D → D → Hs → QD → Prop} {x y z : D} {S : Hs} {Q : QD} : (three f [x, y, z] S Q) = (f x y z S Q) := rfl
theorem isDic_dK {kvs : List (Key × D)} : (isDic (.dK kvs)) = (true) := rfl
theorem isDic_dT {kvs : List (List Key × D)} : (isDic (.dT kvs)) = (true) := rfl
theorem isDic_zK {kvs : List (Key × D)} : (isDic (.zK kvs)) = (true) := rfl
theorem isDic_zT {kvs : List (List Key × D)} : (isDic (.zT kvs)) = (true) := rfl
theorem lk_dK {kvs : List (Key × D)} : (MO.lk (.dK kvs)) = (some (.zK kvs)) := rfl
theorem lk_dT {kvs : List (List Key × D)} : (MO.lk (.dT kvs)) = (some (.zT kvs)) := rfl
theorem key_int {i : Int} : (D.key (.int i)) = (some (Sum.inl i)) := rfl
theorem key_str {i : Str} : (D.key (.str i)) = (some (Sum.inr i)) := rfl
theorem keysOf_nil  : (keysOf []) = (some []) := rfl
theorem augIx_ref {a : Addr} {d : D} {S : Hs} {Q : QD} : (augIx (.ref a) d S Q) = (ixR S a d fun x => Q x S) := rfl
theorem tupleW_ctp {xs : List D} {S : Hs} {Q : QD} : (tupleW (.ctp xs) S Q) = (Q (.ctp xs) S) := rfl
theorem ixW_ctp {xs : List D} {i : Int} {S : Hs} {Q : QD} : (ixW (.ctp xs) (.int i) S Q) = (∃ x, atI xs i = some x ∧ Q x S) := rfl
theorem tyName_ctp {xs : List D} {S : Hs} : (tyName S (.ctp xs)) = (some "tuple") := rfl
theorem tru_ctp {xs : List D} {k : Bool} {S : Hs} : (TruD S (.ctp xs) k) = (k = !xs.isEmpty) := rfl
theorem inR_ctp {d : D} {xs : List D} {b : Bool} {S : Hs} : (inR S d (.ctp xs) b) = (d.flat = true ∧ xs.all D.flat = true ∧ b = xs.any fun z => D.eq z d) := by cases d <;> rfl
theorem seqOf_ctp {S : Hs} {xs : List D} : (seqOf S (.ctp xs)) = (some xs) := rfl
theorem lenW_ctp {xs : List D} {S : Hs} {Q : QD} : (lenW (.ctp xs) S Q) = (Q (.int xs.length) S) := by simp only [lenW, seqOf, Option.some.injEq, exists_eq_left', exists_and_left]
theorem isNone_ctp {xs : List D} : (isNone (.ctp xs)) = (false) := rfl
theorem augW_int {i j : Int} {S : Hs} {Q : QD} : (augW .add (.int i) (.int j) S Q) = (Q (.int (i + j)) S) := rfl
theorem augS_int {i j : Int} {S : Hs} {Q : QD} : (augW .sub (.int i) (.int j) S Q) = (Q (.int (i - j)) S) := rfl
theorem one_c {f : D → Hs → QD → Prop} {x : D} {S : Hs} {Q : QD} : (one f [x] S Q) = (f x S Q) := rfl
theorem two_c {f : D → D → Hs → QD → Prop} {x y : D} {S : Hs} {Q : QD} : (two f [x, y] S Q) = (f x y S Q) := rfl
theorem wGs_c {c : Cfg} {g : G} {r : Gs} {d : D} {t : List D} {ρ : Ro} {S : Hs} {Q : Ro → Hs → Prop} {X : XQ} : (wGs c (.cons g r) (d :: t) ρ S Q X) = (wG c g d ρ S (fun ρ' S' => wGs c r t ρ' S' Q X) X0) := by simp only [wGs, List.cons.injEq]; exact propext ⟨fun ⟨_, _, ⟨e1, e2⟩, h⟩ => by subst e1 e2; exact h, fun h => ⟨_, _, ⟨rfl, rfl⟩, h⟩⟩
theorem wGs_n {c : Cfg} {ρ : Ro} {S : Hs} {Q : Ro → Hs → Prop} {X : XQ} : (wGs c .nil [] ρ S Q X) = (Q ρ S) := by simp only [wGs, true_and]
theorem wT_never {c : Cfg} {Z : DE} {ρ : Ro} {S : Hs} : (wT c .never Z ρ S) = (False) := rfl
theorem inner_mk {a : List (Str × DSp)} {b : List (Str × D)} {cc : List Str} {d : List (Addr × Str)} {e f : List MthD} {g : List (Str × Addr)} {h : List (Addr × Addr × Bool)} {i : List (Str × Addr)} {j : List LamD} {k : List (Str × Value)} {l : List (Addr × Nat × Bool)} {m : List (Addr × Str)} {o : Option (Nat × Addr × XD)} {p : Option ActD} : (Cfg.inner ⟨a, b, cc, d, e, f, g, h, i, j, k, l, m, o, p⟩) = (({ fns := a, cons := b, nob := cc, flds := d, mths := e, mks := f, excs := g, exm := h, clss := i, exn := k, exis := l, xfl := m } : Cfg)) := rfl
theorem suite_mk {a : List (Str × DSp)} {b : List (Str × D)} {cc : List Str} {d : List (Addr × Str)} {e f : List MthD} {g : List (Str × Addr)} {h : List (Addr × Addr × Bool)} {i : List (Str × Addr)} {j : List LamD} {k : List (Str × Value)} {l : List (Addr × Nat × Bool)} {m : List (Addr × Str)} {o : Option (Nat × Addr × XD)} {p : Option ActD} {v : Option (Nat × Addr × XD)} : (Cfg.suite ⟨a, b, cc, d, e, f, g, h, i, j, k, l, m, o, p⟩ v) = (({ fns := a, cons := b, nob := cc, flds := d, mths := e, mks := f, excs := g, exm := h, clss := i, exn := k, exis := l, xfl := m, exv := v } : Cfg)) := rfl
theorem goneD_nx {j : Nat} {Z : DE} {ρ : Ro} {S : Hs} : ((goneD j Z).nx ρ S) = (Z.nx (ρ.set j none) S) := rfl
theorem goneD_rt {j : Nat} {Z : DE} : ((goneD j Z).rt) = (Z.rt) := rfl
theorem acW_d {d : D} {Z : DE} {ρ : Ro} {S : Hs} : (acW .drop d Z ρ S) = (Z.nx ρ S) := rfl
theorem acW_s {i : Nat} {d : D} {Z : DE} {ρ : Ro} {S : Hs} : (acW (.set i) d Z ρ S) = (Z.nx (ρ.set i (some d)) S) := rfl
theorem acW_t {i : Nat} {s : Str} {d : D} {Z : DE} {ρ : Ro} {S : Hs} : (acW (.tupS i s) d Z ρ S) = (Z.nx (ρ.set i (some (.tup [.str s, d]))) S) := by simp only [acW]; simp [sizeLine]
theorem wG_tup1 {c : Cfg} {gs : Gs} {ds : List D} {ρ : Ro} {S : Hs} {Q : Ro → Hs → Prop} {X : XQ} : (wG c (.tup gs) (.tup ds) ρ S Q X) = (ds.length = gs.len ∧ wGs c gs ds ρ S Q X) := by simp only [wG, D.tup.injEq, exists_eq_left']
theorem ixW_live {S : Hs} {Q : QD} {a : Addr} {xs : List D} {i : Int} : ixW (.ref a) (.int i) (sup S a (.lst xs)) Q = (∃ x, atI xs i = some x ∧ Q x (sup S a (.lst xs))) := propext ⟨fun h => by
  rcases h with ⟨ys, j, x, e, e2, e3, q⟩ | ⟨x, g, q⟩
  · rw [sup_same] at e
    cases e
    cases e2
    exact ⟨x, e3, q⟩
  · rcases g with ⟨k, _, e | e, _⟩ | ⟨k, _, _, e | e, _⟩ <;> (rw [sup_same] at e; cases e), fun ⟨x, e, q⟩ => .inl ⟨xs, i, x, sup_same, rfl, e, q⟩⟩
theorem setW_live {S : Hs} {Q : Hs → Prop} {a : Addr} {xs : List D} {i : Int} {v : D} : setW (.ref a) (.int i) v (sup S a (.lst xs)) Q = (∃ j, ixN xs.length i = some j ∧ Q (sup S a (.lst (xs.set j v)))) := propext ⟨fun h => by
  rcases h with ⟨ys, k, j, e, e2, e3, q⟩ | h
  · rw [sup_same] at e
    cases e
    cases e2
    rw [sup_sup] at q
    exact ⟨j, e3, q⟩
  · rcases h with ⟨k, _, e, _⟩ | ⟨k, _, _, e, _⟩ <;> (rw [sup_same] at e; cases e), fun ⟨j, e, q⟩ => .inl ⟨xs, i, j, sup_same, rfl, e, by rw [sup_sup]; exact q⟩⟩
theorem ixW_dK {S : Hs} {Q : QD} {a : Addr} {kvs : List (Key × D)} {d : D} : ixW (.ref a) d (sup S a (.dK kvs)) Q = (∃ k, d.key = some k ∧ ∃ x, valD kvs k = some x ∧ Q x (sup S a (.dK kvs))) := propext ⟨fun h => by
  rcases h with ⟨ys, j, x, e, _⟩ | ⟨x, g, q⟩
  · rw [sup_same] at e; cases e
  · rcases g with ⟨l, k, e | e, ek, ev⟩ | ⟨l, _, _, e | e, _⟩
    · rw [sup_same] at e; cases e; exact ⟨k, ek, x, ev.symm, q⟩
    all_goals (rw [sup_same] at e; cases e), fun ⟨k, ek, x, ev, q⟩ => .inr ⟨x, .inl ⟨kvs, k, .inl sup_same, ek, ev.symm⟩, q⟩⟩
theorem ixW_zK {S : Hs} {Q : QD} {a : Addr} {kvs : List (Key × D)} {d : D} : ixW (.ref a) d (sup S a (.zK kvs)) Q = (∃ k, d.key = some k ∧ ∃ x, valD kvs k = some x ∧ Q x (sup S a (.zK kvs))) := propext ⟨fun h => by
  rcases h with ⟨ys, j, x, e, _⟩ | ⟨x, g, q⟩
  · rw [sup_same] at e; cases e
  · rcases g with ⟨l, k, e | e, ek, ev⟩ | ⟨l, _, _, e | e, _⟩
    · rw [sup_same] at e; cases e
    · rw [sup_same] at e; cases e; exact ⟨k, ek, x, ev.symm, q⟩
    all_goals (rw [sup_same] at e; cases e), fun ⟨k, ek, x, ev, q⟩ => .inr ⟨x, .inl ⟨kvs, k, .inr sup_same, ek, ev.symm⟩, q⟩⟩
theorem setW_dK {S : Hs} {Q : Hs → Prop} {a : Addr} {kvs : List (Key × D)} {d v : D} : setW (.ref a) d v (sup S a (.dK kvs)) Q = (∃ k, d.key = some k ∧ kvs.length < sizeLine ∧ Q (sup S a (.dK (putD kvs k v)))) := propext ⟨fun h => by
  rcases h with ⟨ys, j, x, e, _⟩ | h
  · rw [sup_same] at e; cases e
  · rcases h with ⟨l, k, e, ek, hl, q⟩ | ⟨l, _, _, e, _⟩
    · rw [sup_same] at e; cases e; rw [sup_sup] at q; exact ⟨k, ek, hl, q⟩
    all_goals (rw [sup_same] at e; cases e), fun ⟨k, ek, hl, q⟩ => .inr (.inl ⟨kvs, k, sup_same, ek, hl, by rw [sup_sup]; exact q⟩)⟩
theorem inR_live {S : Hs} {a : Addr} {xs : List D} {d : D} {b : Bool} : inR (sup S a (.lst xs)) d (.ref a) b = (d.flat = true ∧ xs.all D.flat = true ∧ b = xs.any fun z => D.eq z d) := propext ⟨fun h => by
  have h : (∃ ys, sup S a (.lst xs) a = some (.lst ys) ∧ d.flat = true ∧ ys.all D.flat = true ∧ b = ys.any fun z => D.eq z d) ∨ ∃ o, dgetR (sup S a (.lst xs)) a d o ∧ b = o.isSome := by cases d <;> exact h
  rcases h with ⟨ys, e, h⟩ | ⟨o, g, _⟩
  · rw [sup_same] at e; cases e; exact h
  · rcases g with ⟨k, _, e | e, _⟩ | ⟨k, _, _, e | e, _⟩ <;> (rw [sup_same] at e; cases e), fun h => by
  have : (∃ ys, sup S a (.lst xs) a = some (.lst ys) ∧ d.flat = true ∧ ys.all D.flat = true ∧ b = ys.any fun z => D.eq z d) ∨ ∃ o, dgetR (sup S a (.lst xs)) a d o ∧ b = o.isSome := .inl ⟨xs, sup_same, h⟩
  cases d <;> exact this⟩
theorem dget_dK {S : Hs} {a : Addr} {kvs : List (Key × D)} {d : D} {o : Option D} : dgetR (sup S a (.dK kvs)) a d o = (∃ k, d.key = some k ∧ o = valD kvs k) := propext ⟨fun h => by
  rcases h with ⟨l, k, e | e, ek, ev⟩ | ⟨l, _, _, e | e, _⟩
  · rw [sup_same] at e; cases e; exact ⟨k, ek, ev⟩
  all_goals (rw [sup_same] at e; cases e), fun ⟨k, ek, ev⟩ => .inl ⟨kvs, k, .inl sup_same, ek, ev⟩⟩
theorem inR_dK {S : Hs} {a : Addr} {kvs : List (Key × D)} {d : D} {b : Bool} : inR (sup S a (.dK kvs)) d (.ref a) b = (∃ k, d.key = some k ∧ b = (valD kvs k).isSome) := propext ⟨fun h => by
  have h : (∃ ys, sup S a (.dK kvs) a = some (.lst ys) ∧ d.flat = true ∧ ys.all D.flat = true ∧ b = ys.any fun z => D.eq z d) ∨ ∃ o, dgetR (sup S a (.dK kvs)) a d o ∧ b = o.isSome := by cases d <;> exact h
  rcases h with ⟨ys, e, h⟩ | ⟨o, g, e⟩
  · rw [sup_same] at e; cases e
  · rw [dget_dK] at g
    obtain ⟨k, ek, rfl⟩ := g
    exact ⟨k, ek, e⟩, fun ⟨k, ek, e⟩ => by
  have : (∃ ys, sup S a (.dK kvs) a = some (.lst ys) ∧ d.flat = true ∧ ys.all D.flat = true ∧ b = ys.any fun z => D.eq z d) ∨ ∃ o, dgetR (sup S a (.dK kvs)) a d o ∧ b = o.isSome := .inr ⟨_, by rw [dget_dK]; exact ⟨k, ek, rfl⟩, e⟩
  cases d <;> exact this⟩

theorem wH_c0 {c : Cfg} {i : Nat} {su : Ts} {r : Hd} {D : DE} {x : XD} {ρ : Ro} {S : Hs} : wH c (Hd.cons i none su r) D x ρ S = (∃ p b, c.excs[i]? = some p ∧ (x.C, p.2, b) ∈ c.exm ∧ (b = true → wTs (c.suite none) su { D with ex := fun _ _ _ => False } ρ S) ∧ (b = false → wH c r D x ρ S)) := by simp only [wH]
theorem wH_c1 {c : Cfg} {i j : Nat} {su : Ts} {r : Hd} {D : DE} {x : XD} {ρ : Ro} {S : Hs} : wH c (Hd.cons i (some j) su r) D x ρ S = (∃ p b, c.excs[i]? = some p ∧ (x.C, p.2, b) ∈ c.exm ∧ (b = true → ∀ a, wTs (c.suite (some (j, a, x))) su (goneD j D) (ρ.set j (some (.ref a))) S) ∧ (b = false → wH c r D x ρ S)) := by simp only [wH]
theorem true_and_of {p q : Prop} (h : p) : (p ∧ q) = q := by simp [h]
end Dz
namespace Dz
open PySem PySem.Spec PyProof.Rows L2
section
variable {P : Program} {w : World} {K : PySem.W.Frag} {mg : Str → Option Value} {base : Heap} {k : Nat}
theorem FnAt.mono {j : Nat} {p : Str × DSp} (h : FnAt P w K mg base j p) (l : j ≤ k) : FnAt P w K mg base k p := by
  obtain ⟨f, fd, ps, h1, h2, h3, h4⟩ := h
  exact ⟨f, fd, ps, h1, h2, h3, h4.mono l⟩
theorem fns_nil : ∀ p ∈ ([] : List (Str × DSp)), FnAt P w K mg base k p := fun _ h => by cases h
theorem fns_cons {j : Nat} {p : Str × DSp} {ps : List (Str × DSp)} (h : FnAt P w K mg base j p) (l : j ≤ k) (t : ∀ q ∈ ps, FnAt P w K mg base k q) : ∀ q ∈ p :: ps, FnAt P w K mg base k q := fun q hq => by
  rcases List.mem_cons.mp hq with rfl | hq
  · exact h.mono l
  · exact t q hq
theorem all_nil {α : Type} {Z : α → Prop} : ∀ p ∈ ([] : List α), Z p := fun _ h => by cases h
theorem all_cons {α : Type} {Z : α → Prop} {a : α} {l : List α} (h : Z a) (t : ∀ p ∈ l, Z p) : ∀ p ∈ a :: l, Z p := fun p hp => by
  rcases List.mem_cons.mp hp with rfl | hp
  · exact h
  · exact t p hp
theorem MthAt.mono {j : Nat} {p : MthD} (h : MthAt P w K base mg j p) (l : j ≤ k) : MthAt P w K base mg k p := by
  obtain ⟨h0, f, fd, ps, h1, h2, h3⟩ := h
  exact ⟨h0, f, fd, ps, h1, h2, h3.mono l⟩
theorem MkAt.mono {j : Nat} {p : MthD} (h : MkAt P w K base mg j p) (l : j ≤ k) : MkAt P w K base mg k p := by
  obtain ⟨h0, f, fd, ps, i, hi, h1, h2, h3⟩ := h
  exact ⟨h0, f, fd, ps, i, Nat.le_trans hi l, h1, h2, h3⟩
theorem con_nil : ∀ p ∈ ([] : List (Str × D)), ∃ v u, mg p.1 = some u ∧ RelV v u ∧ ∀ S H, Dv K S H v p.2 := fun _ h => by cases h
theorem con_int {x : Str} {i : Int} {ps : List (Str × D)} {t0 : Tok} (h : mg x = some (.int i t0)) (t : ∀ p ∈ ps, ∃ v u, mg p.1 = some u ∧ RelV v u ∧ ∀ S H, Dv K S H v p.2) : ∀ p ∈ (x, D.int i) :: ps, ∃ v u, mg p.1 = some u ∧ RelV v u ∧ ∀ S H, Dv K S H v p.2 := fun q hq => by
  rcases List.mem_cons.mp hq with rfl | hq
  · exact ⟨.int i, .int i t0, h, ⟨_, rfl⟩, fun S H => .int i⟩
  · exact t q hq
theorem con_str {x s : Str} {ps : List (Str × D)} {t0 : Tok} (h : mg x = some (.str s t0)) (t : ∀ p ∈ ps, ∃ v u, mg p.1 = some u ∧ RelV v u ∧ ∀ S H, Dv K S H v p.2) : ∀ p ∈ (x, D.str s) :: ps, ∃ v u, mg p.1 = some u ∧ RelV v u ∧ ∀ S H, Dv K S H v p.2 := fun q hq => by
  rcases List.mem_cons.mp hq with rfl | hq
  · exact ⟨.str s, .str s t0, h, ⟨_, rfl⟩, fun S H => .str s⟩
  · exact t q hq
theorem nob_nil : ∀ x ∈ ([] : List Str), mg x = none := fun _ h => by cases h
theorem nob_cons {x : Str} {xs : List Str} (h : mg x = none) (t : ∀ x ∈ xs, mg x = none) : ∀ y ∈ x :: xs, mg y = none := fun y hy => by
  rcases List.mem_cons.mp hy with rfl | hy
  · exact h
  · exact t y hy
end
theorem dva_iD {K : PySem.W.Frag} {S : Hs} {H : Hp} (ns : List Int) : DvA K S H (ns.map V.int) (ns.map D.int) := DvA.ints ns
/-- the law's own head -/
theorem walk_D {l : PySem.W.OpenLaw} {n k : Nat} {q : Program} {loose : List Str} {XP : (Str → Option Value) → Heap → Prop} {YP : World → Heap → Prop} {d : DefRec} {K : Params → PySem.W.Frag} {sp : DSp} {x : Str}
    (hn : l.most = some n) (hn2 : n ≤ sizeLine) (hdf : d.params.defaults = []) (hr : Room k callerA)
    (hY : ∀ (w : World) (h : Heap), YP w h → (K w.params).In h)
    (F : ∀ (w : World) (mg : Str → Option Value) (h : Heap), (K w.params).In h → h.Ns mainGlobals mg → XP mg h → ∀ fa, mg d.name = some (.ref fa) →
      ∃ fd : FuncData, (∀ (s : Shared) (u : Value), BindsTo s fd ⟨[u], []⟩ [(x, u)]) ∧
        ∀ base : Heap, (K w.params).In base → base.Ns mainGlobals mg → FnOk l.prog w (K w.params) mg base (L2.CX l.prog w) k fa fd [x] (toSp (K w.params) sp))
    (hsp : ∀ (ns : List Int), ns.length ≤ n → (∀ z ∈ ns, Builtin.Int.intBits z ≤ 1048576) → sp [.lst (ns.map D.int)] (fun _ => none) (fun d _ => d = .bl true) X0) :
    PySem.W.WalkO q loose XP YP l.row.toRowW d [] (fun f vs => PySem.call f vs) := by
  refine Att.attach_callB hn hdf fun w s₀ s₁ mg mb fa o pm cd doc a vs ns G Y ho hd hcd hmg hobj hints hlen hbits hg => ?_
  have KX := hY w _ Y
  obtain ⟨fd, hb, hF⟩ := F w mg _ KX G.T.g G.X fa hmg
  refine law_call KX G.T.g G.T.b G.T.builtins G.T.nolimit hg hobj hints (Nat.le_trans hlen hn2) hr hF hb (fun H hO hS => ?_) fun H e s' z => ?_
  · refine ⟨[.lst (ns.map D.int)], fun _ => none, _, X0, fun a o e => (by cases e), .cons ?_ .nil, hsp ns hlen hbits, ?_, EndX.X0⟩
    · rcases hS with h | h
      · exact .lst rfl h (DvA.ints ns)
      · exact .lstK h (DvA.ints ns)
    · intro v H' d S' r f x e
      subst e
      cases x
      rfl
  · obtain ⟨_, _, _, _, _, _, _, _, _, _, _, _, z⟩ := z
    exact z
end Dz
namespace Dz
open PySem L2
theorem mergeD_snoc {κ : Type} [DecidableEq κ] {a b : List (κ × D)} {k : κ} {v : D} : mergeD a (b ++ [(k, v)]) = putD (mergeD a b) k v := by
  unfold mergeD; rw [List.foldl_append]; rfl
theorem dcomp_pureM {vs : List Nat} {wg : D → Ro → Hs → (Ro → Hs → Prop) → XQ → Prop} {wc : WB} {wk wv : WE} {ρ : Ro} {Q : QD} {Pr : Hs → Prop} {S : Hs} {α : Type} {xs : List α} {g : α → D} (f : α → Option (Key × D)) (hl : xs.length < sizeLine) (hp : ∀ S2 : Hs, (∀ a o, S a = some o → S2 a = some o) → Pr S2)
    (turn : ∀ (i : Nat) x S2 (K : D → D → Hs → Prop) (K' : Hs → Prop), xs[i]? = some x → (∀ a o, S a = some o → S2 a = some o) → (∀ k y z, y.key = some k → f x = some (k, z) → K y z S2) → (f x = none → K' S2) → wg (g x) (wipeD ρ vs) S2 (fun ρ' S3 =>
        wc ρ' S3 (fun b S4 => if b = true then wk ρ' S4 (fun y S5 => wv ρ' S5 (fun z S6 => K y z S6) X0) X0 else K' S4) X0) X0)
    (q : ∀ L, S L = none → Q (.ref L) (sup S L (.dK (mergeD [] (xs.filterMap f))))) : dcompB vs wg wc wk wv ρ Q (xs.map g) Pr S := by
  refine ⟨by rw [List.length_map]; exact hl, fun L hL => ⟨fun i acc S2 => acc = mergeD [] ((xs.take i).filterMap f) ∧ S2 = sup S L (.dK acc), ⟨rfl, rfl⟩, ?_, ?_⟩⟩
  · rintro i x acc S2 hi _ ⟨rfl, rfl⟩
    obtain ⟨x, hi2, rfl⟩ := map_of hi
    clear hi
    have hi := hi2
    have ext : ∀ a o, S a = some o → (sup S L (.dK (mergeD [] ((xs.take i).filterMap f)))) a = some o := fun a o h => by rw [sup_ne (sne h hL)]; exact h
    have ht := take_of hi
    refine ⟨sup_same, hp _ ext, turn i x _ (fun y z S6 => S6 L = some (.dK (mergeD [] ((xs.take i).filterMap f))) ∧ ∃ k, y.key = some k ∧ putD (mergeD [] ((xs.take i).filterMap f)) k z = mergeD [] ((xs.take (i + 1)).filterMap f) ∧ sup S6 L (.dK (putD (mergeD [] ((xs.take i).filterMap f)) k z)) = sup S L (.dK (putD (mergeD [] ((xs.take i).filterMap f)) k z))) _ hi ext (fun k y z hk hy => ⟨sup_same, k, hk, ?_, ?_⟩) fun hn => ⟨?_, rfl⟩⟩
    · rw [ht, List.filterMap_append]; simp [hy, mergeD_snoc]
    · rw [sup_sup]
    · rw [ht, List.filterMap_append]; simp [hn]
  · rintro acc S2 _ ⟨rfl, rfl⟩
    rw [List.length_map, List.take_length]
    exact ⟨sup_same, hp _ fun a o h => by rw [sup_ne (sne h hL)]; exact h, q L hL⟩
theorem put_new {κ : Type} [DecidableEq κ] {kvs : List (κ × D)} {k : κ} {v : D} (h : k ∉ kvs.map (·.1)) : putD kvs k v = kvs ++ [(k, v)] := by
  unfold putD
  rw [if_neg]
  rw [List.any_eq_true]
  rintro ⟨p, hp, e⟩
  exact h (List.mem_map.mpr ⟨p, hp, by simpa using e⟩)
theorem put_keys {κ : Type} [DecidableEq κ] {kvs : List (κ × D)} {k : κ} {v : D} (h : k ∈ kvs.map (·.1)) : (putD kvs k v).map (·.1) = kvs.map (·.1) := by
  unfold putD
  rw [if_pos]
  · rw [List.map_map]
    refine List.map_congr_left fun p _ => ?_
    by_cases e : p.1 = k <;> simp [e]
  · obtain ⟨p, hp, e⟩ := List.mem_map.mp h
    exact List.any_eq_true.mpr ⟨p, hp, by simpa using e⟩
theorem put_mem {κ : Type} [DecidableEq κ] {kvs : List (κ × D)} {k j : κ} {v : D} : j ∈ (putD kvs k v).map (·.1) ↔ j ∈ kvs.map (·.1) ∨ j = k := by
  by_cases h : k ∈ kvs.map (·.1)
  · rw [put_keys h]
    constructor
    · exact .inl
    · rintro (x | rfl)
      · exact x
      · exact h
  · rw [put_new h]; simp
/-- as many keys as things: no thing is twice -/
theorem merge_len {κ : Type} [DecidableEq κ] : ∀ (b a : List (κ × D)), (mergeD a b).length ≤ a.length + b.length ∧ ((mergeD a b).length = a.length + b.length ↔ (b.map (·.1)).Nodup ∧ ∀ k ∈ b.map (·.1), k ∉ a.map (·.1))
  | [], a => by simp [mergeD]
  | (k, v) :: r, a => by
    have ih := merge_len r (putD a k v)
    have e : mergeD a ((k, v) :: r) = mergeD (putD a k v) r := rfl
    rw [e]
    rw [List.length_cons]
    by_cases h : k ∈ a.map (·.1)
    · have l : (putD a k v).length = a.length := by have := congrArg List.length (put_keys (v := v) h); simpa using this
      rw [l] at ih
      refine ⟨by omega, ?_⟩
      constructor
      · intro z; omega
      · rintro ⟨_, z⟩; exact (z k (by simp) h).elim
    · have l : (putD a k v).length = a.length + 1 := by rw [put_new h]; simp
      rw [l] at ih
      refine ⟨by omega, ?_⟩
      rw [show a.length + (r.length + 1) = a.length + 1 + r.length by omega, ih.2]
      simp only [List.map_cons, List.nodup_cons, List.mem_cons, forall_eq_or_imp]
      constructor
      · rintro ⟨h1, h2⟩
        refine ⟨⟨fun z => h2 k z (put_mem.mpr (.inr rfl)), h1⟩, h, fun j hj z => h2 j hj (put_mem.mpr (.inl z))⟩
      · rintro ⟨⟨h1, h2⟩, h3, h4⟩
        refine ⟨h2, fun j hj z => ?_⟩
        rcases put_mem.mp z with z | rfl
        · exact h4 j hj z
        · exact h1 hj
theorem merge_int {ns : List Int} {v : D} : (mergeD [] (ns.map fun i => ((Sum.inl i : Key), v))).length ≤ ns.length ∧ ((mergeD [] (ns.map fun i => ((Sum.inl i : Key), v))).length = ns.length ↔ ns.Nodup) := by
  have h := merge_len (ns.map fun i => ((Sum.inl i : Key), v)) []
  simp only [List.length_nil, List.length_map, Nat.zero_add, List.map_map, List.map_nil, List.not_mem_nil, not_false_eq_true, implies_true, and_true] at h
  refine ⟨h.1, h.2.trans ?_⟩
  show (List.map (fun i => (Sum.inl i : Key)) ns).Nodup ↔ _
  unfold List.Nodup
  rw [List.pairwise_map]
  constructor <;> exact fun h => h.imp fun z e => z (by first | exact congrArg _ e | cases e; rfl)
theorem sort_id {ns : List Int} (h : ns.Pairwise (· ≤ ·)) : sortI ns = ns := by
  unfold sortI
  exact List.mergeSort_of_pairwise (h.imp fun z => by simpa using z)
theorem sort_iff {ns : List Int} : ns = sortI ns ↔ ns.Pairwise (· ≤ ·) := ⟨fun h => by rw [h]; exact sort_le _, fun h => (sort_id h).symm⟩
theorem lt_iff {ns : List Int} : ns.Pairwise (· < ·) ↔ ns.Pairwise (· ≤ ·) ∧ ns.Nodup := by
  constructor
  · intro h
    exact ⟨h.imp fun z => Int.le_of_lt z, h.imp fun z e => by omega⟩
  · rintro ⟨h1, h2⟩
    exact List.Pairwise.imp (fun z => by omega) (List.Pairwise.and h1 h2)
theorem compK {c : Cfg} {own : List (Str × Nat)} {gg : G} {cond : Es} {elt : E} {ρ : Ro} {Q : QD} {Pr : Hs → Prop} {S : Hs} {α : Type} {xs : List α} {g : α → D} (f : α → Option D) (hl : xs.length ≤ sizeLine) (hp : ∀ S2 : Hs, (∀ a o, S a = some o → S2 a = some o) → Pr S2)
    (turn : ∀ (i : Nat) x S2 (K : QD) (K' : Hs → Prop), xs[i]? = some x → (∀ a o, S a = some o → S2 a = some o) → (∀ y, f x = some y → K y S2) → (f x = none → K' S2) → wG c gg (g x) (wipeD ρ (own.map (·.2))) S2 (fun ρ' S3 =>
        wC c cond ρ' S3 (fun b S4 => if b = true then wE c elt ρ' S4 K X0 else K' S4) X0) X0)
    (q : Q (.lst (xs.filterMap f)) S) : CompK c own gg cond elt ρ Q (xs.map g) Pr S := comp_pureM f hl hp turn q
theorem dcompK {c : Cfg} {own : List (Str × Nat)} {gg : G} {cond : Es} {ke ve : E} {ρ : Ro} {Q : QD} {Pr : Hs → Prop} {S : Hs} {α : Type} {xs : List α} {g : α → D} (f : α → Option (Key × D)) (hl : xs.length < sizeLine) (hp : ∀ S2 : Hs, (∀ a o, S a = some o → S2 a = some o) → Pr S2)
    (turn : ∀ (i : Nat) x S2 (K : D → D → Hs → Prop) (K' : Hs → Prop), xs[i]? = some x → (∀ a o, S a = some o → S2 a = some o) → (∀ k y z, y.key = some k → f x = some (k, z) → K y z S2) → (f x = none → K' S2) → wG c gg (g x) (wipeD ρ (own.map (·.2))) S2 (fun ρ' S3 =>
        wC c cond ρ' S3 (fun b S4 => if b = true then wE c ke ρ' S4 (fun y S5 => wE c ve ρ' S5 (fun z S6 => K y z S6) X0) X0 else K' S4) X0) X0)
    (q : ∀ L, S L = none → Q (.ref L) (sup S L (.dK (mergeD [] (xs.filterMap f))))) : DCompK c own gg cond ke ve ρ Q (xs.map g) Pr S := dcomp_pureM f hl hp turn q
end Dz
namespace Dz
open PySem L2
section
variable {S : Hs} {a : Addr} {kvs : List (Key × D)} {d v x : D} {k : Key} {i : Int} {xs : List D} {Q : QD}
/-! readings by what is known of a place -/
theorem inR_at (h : S a = some (.dK kvs)) (e : d.key = some k) : inR S d (.ref a) (valD kvs k).isSome := by
  have g : dgetR S a d (valD kvs k) := .inl ⟨kvs, k, .inl h, e, rfl⟩
  have r : (∃ xs, S a = some (.lst xs) ∧ d.flat = true ∧ xs.all D.flat = true ∧ (valD kvs k).isSome = xs.any fun z => D.eq z d) ∨ ∃ o, dgetR S a d o ∧ (valD kvs k).isSome = o.isSome := .inr ⟨_, g, rfl⟩
  cases d <;> first | exact r | cases e
theorem ixW_dat (h : S a = some (.dK kvs)) (ek : d.key = some k) (e : valD kvs k = some x) (q : Q x S) : ixW (.ref a) d S Q := .inr ⟨x, .inl ⟨kvs, k, .inl h, ek, e.symm⟩, q⟩
theorem ixW_lat (h : S a = some (.lst xs)) (e : atI xs i = some x) (q : Q x S) : ixW (.ref a) (.int i) S Q := .inl ⟨xs, i, x, h, rfl, e, q⟩
theorem setW_dat {Z : Hs → Prop} (h : S a = some (.dK kvs)) (ek : d.key = some k) (hl : kvs.length < sizeLine) (q : Z (sup S a (.dK (putD kvs k v)))) : setW (.ref a) d v S Z := .inr (.inl ⟨kvs, k, h, ek, hl, q⟩)
theorem setW_lat {Z : Hs → Prop} {j : Nat} (h : S a = some (.lst xs)) (e : ixN xs.length i = some j) (q : Z (sup S a (.lst (xs.set j v)))) : setW (.ref a) (.int i) v S Z := .inl ⟨xs, i, j, h, rfl, e, q⟩
theorem get1_at (h : S a = some (.dK kvs)) (ek : d.key = some k) (q : Q ((valD kvs k).getD .non) S) : get1W (.ref a) d S Q := ⟨_, .inl ⟨kvs, k, .inl h, ek, rfl⟩, q⟩
theorem get2_at (h : S a = some (.dK kvs)) (ek : d.key = some k) (q : Q ((valD kvs k).getD x) S) : get2W (.ref a) d x S Q := ⟨_, .inl ⟨kvs, k, .inl h, ek, rfl⟩, q⟩
theorem pop1_at (h : S a = some (.dK kvs)) (ek : d.key = some k) (e : valD kvs k = some v) (q : Q v (sup S a (.dK (dropD kvs k)))) : pop1W (.ref a) d S Q := ⟨kvs, k, v, h, ek, e, q⟩
theorem tyD_at {f : Bm} {o : MO} (h : S a = some o) (ho : isDic o = true) (hf : f = .get1 ∨ f = .get2 ∨ f = .pop1 ∨ f = .pop2) : Bm.ty S (.ref a) f := by
  rcases hf with rfl | rfl | rfl | rfl <;> exact ⟨a, o, rfl, h, ho⟩
theorem ixN_nat {n j : Nat} (h : j < n) : ixN n (j : Int) = some j := by
  unfold ixN
  simp [h]
theorem atI_last {α : Type} {ys : List α} {y : α} : atI (ys ++ [y]) (-1) = some y := by
  unfold atI ixN
  simp
  rw [if_pos (by omega)]
  have : (-1 + ((ys.length : Int) + 1)).toNat = ys.length := by omega
  simp [this]
theorem lstOf_at (h : S a = some (.lst xs)) : lstOf S (.ref a) = some xs := by unfold lstOf; simp only [h]
theorem seqOf_at (h : S a = some (.lst xs)) : seqOf S (.ref a) = some xs := lstOf_at h
/-- two places that hold things of two kinds -/
theorem ne_kind {b : Addr} {o u : MO} (h : S a = some o) (h' : S b = some u) (n : o ≠ u) : a ≠ b := fun e => by
  subst e
  rw [h] at h'
  exact n (Option.some.inj h')
end
section
variable {κ : Type} [DecidableEq κ] {kvs : List (κ × D)} {k j : κ} {v : D}
theorem val_cons {p : κ × D} {r : List (κ × D)} : valD (p :: r) k = if p.1 = k then some p.2 else valD r k := by
  unfold valD
  rw [List.find?_cons]
  by_cases h : p.1 = k <;> simp [h]
theorem val_none : valD kvs k = none ↔ k ∉ kvs.map (·.1) := by
  induction kvs with
  | nil => simp [valD]
  | cons p r ih =>
    rw [val_cons]
    by_cases h : p.1 = k
    · simp [h]
    · simp only [h, if_false, ih, List.map_cons, List.mem_cons, not_or]
      exact ⟨fun z => ⟨fun e => h e.symm, z⟩, fun z => z.2⟩
theorem val_append {r : List (κ × D)} : valD (kvs ++ r) k = (valD kvs k).or (valD r k) := by
  induction kvs with
  | nil => simp [valD]
  | cons p t ih =>
    rw [List.cons_append, val_cons, val_cons, ih]
    split <;> rfl
theorem val_put_same : valD (putD kvs k v) k = some v := by
  by_cases h : k ∈ kvs.map (·.1)
  · unfold putD
    rw [if_pos (by
      obtain ⟨p, hp, e⟩ := List.mem_map.mp h
      exact List.any_eq_true.mpr ⟨p, hp, by simpa using e⟩)]
    induction kvs with
    | nil => simp at h
    | cons p r ih =>
      rw [List.map_cons, val_cons]
      by_cases e : p.1 = k
      · simp [e]
      · rw [if_neg e]
        rw [if_neg e]
        refine ih ?_
        rcases List.mem_cons.mp h with z | z
        · exact (e z.symm).elim
        · exact z
  · rw [put_new h, val_append, val_none.mpr h, val_cons, if_pos rfl]
    rfl
theorem val_put_ne (n : j ≠ k) : valD (putD kvs k v) j = valD kvs j := by
  unfold putD
  split
  · induction kvs with
    | nil => rfl
    | cons p r ih =>
      rw [List.map_cons, val_cons, val_cons]
      by_cases e : p.1 = k
      · rw [if_pos e]
        have : ¬ p.1 = j := fun z => n (z ▸ e)
        rw [if_neg this, if_neg this]
        by_cases hr : (r.any fun kv => decide (kv.1 = k)) = true
        · exact ih hr
        · congr 1
          rw [List.map_congr_left (g := id)]
          · simp
          · intro q hq
            have : ¬ q.1 = k := fun z => hr (List.any_eq_true.mpr ⟨q, hq, by simpa using z⟩)
            rw [if_neg this]
            rfl
      · rw [if_neg e]
        by_cases ej : p.1 = j
        · rw [if_pos ej, if_pos ej]
        · rw [if_neg ej, if_neg ej]
          rename_i hr
          rw [List.any_cons] at hr
          simp only [e, decide_false, Bool.false_or] at hr
          exact ih hr
  · rw [val_append, val_cons, if_neg (fun z => n z.symm)]
    simp [valD]
theorem val_drop_same : valD (dropD kvs k) k = none := by
  rw [val_none]
  unfold dropD
  intro h
  obtain ⟨p, hp, e⟩ := List.mem_map.mp h
  have := (List.mem_filter.mp hp).2
  simp at this
  exact this e
theorem val_drop_ne (n : j ≠ k) : valD (dropD kvs k) j = valD kvs j := by
  unfold dropD
  induction kvs with
  | nil => rfl
  | cons p r ih =>
    rw [List.filter_cons]
    by_cases e : p.1 = k
    · rw [if_neg (by simpa using e), ih, val_cons, if_neg (fun z : p.1 = j => n (z.symm.trans e))]
    · rw [if_pos (by simpa using e), val_cons, val_cons, ih]
theorem nd_drop (h : (kvs.map (·.1)).Nodup) : ((dropD kvs k).map (·.1)).Nodup := h.sublist (List.filter_sublist.map _)
theorem nd_put (h : (kvs.map (·.1)).Nodup) : ((putD kvs k v).map (·.1)).Nodup := by
  by_cases hk : k ∈ kvs.map (·.1)
  · rw [put_keys hk]; exact h
  · rw [put_new hk, List.map_append, List.nodup_append]
    refine ⟨h, by simp, fun a ha b hb e => ?_⟩
    simp at hb
    subst hb
    exact hk (e ▸ ha)
theorem mem_put {p : κ × D} (h : p ∈ putD kvs k v) : p = (k, v) ∨ (p ∈ kvs ∧ p.1 ≠ k) := by
  unfold putD at h
  split at h
  · obtain ⟨q, hq, e⟩ := List.mem_map.mp h
    by_cases z : q.1 = k
    · rw [if_pos z] at e
      exact .inl (by rw [← e, z])
    · rw [if_neg z] at e
      exact .inr ⟨e ▸ hq, e ▸ z⟩
  · rename_i hn
    rcases List.mem_append.mp h with h | h
    · refine .inr ⟨h, fun z => hn (List.any_eq_true.mpr ⟨p, h, by simpa using z⟩)⟩
    · exact .inl (List.mem_singleton.mp h)
theorem mem_drop {p : κ × D} (h : p ∈ dropD kvs k) : p ∈ kvs ∧ p.1 ≠ k := by
  unfold dropD at h
  obtain ⟨a, b⟩ := List.mem_filter.mp h
  exact ⟨a, by simpa using b⟩
end
/-! comprehensions whose turns change the heap; whose list stays live -/
theorem sdel_ne {S : Hs} {a b : Addr} (h : b ≠ a) : sdel S a b = S b := by unfold sdel; rw [if_neg h]
theorem compJ {c : Cfg} {own : List (Str × Nat)} {gg : G} {cond : Es} {elt : E} {ρ : Ro} {Q : QD} {Pr : Hs → Prop} {S : Hs} {α : Type} {xs : List α} {g : α → D} (J : Nat → List D → Hs → Prop) (hl : xs.length ≤ sizeLine) (h0 : J 0 [] S)
    (st : ∀ i acc S2 L u, S L = none → J i acc S2 → J i acc (sup S2 L u)) (hp : ∀ i acc S2, J i acc S2 → Pr S2)
    (turn : ∀ (i : Nat) x acc S2 L (K : QD) (K' : Hs → Prop), S L = none → xs[i]? = some x → acc.length ≤ i → J i acc S2 → S2 L = some (.lst acc) → (∀ y S5, S5 L = some (.lst acc) → J (i + 1) (acc ++ [y]) S5 → K y S5) → (∀ S4, S4 L = some (.lst acc) → J (i + 1) acc S4 → K' S4) →
        wG c gg (g x) (wipeD ρ (own.map (·.2))) S2 (fun ρ' S3 => wC c cond ρ' S3 (fun b S4 => if b = true then wE c elt ρ' S4 K X0 else K' S4) X0) X0)
    (q : ∀ acc S2 L, S L = none → S2 L = some (.lst acc) → acc.length ≤ xs.length → J xs.length acc S2 → Q (.lst acc) (sdel S2 L) ∨ Q (.ref L) S2) : CompK c own gg cond elt ρ Q (xs.map g) Pr S := by
  refine ⟨by rw [List.length_map]; exact hl, fun L hL => ⟨fun i acc S2 => J i acc S2 ∧ S2 L = some (.lst acc), ⟨st _ _ _ _ _ hL h0, sup_same⟩, ?_, ?_⟩⟩
  · rintro i x acc S2 hi ha ⟨hj, h2⟩
    obtain ⟨x, hi2, rfl⟩ := map_of hi
    exact ⟨h2, hp _ _ _ hj, turn i x acc S2 L _ _ hL hi2 ha hj h2 (fun y S5 e j => ⟨e, st _ _ _ _ _ hL j, sup_same⟩) fun S4 e j => ⟨j, e⟩⟩
  · rintro acc S2 ha ⟨hj, h2⟩
    rw [List.length_map] at ha hj
    exact ⟨h2, hp _ _ _ hj, q acc S2 L hL h2 ha hj⟩
/-- a pure one whose list stays live -/
theorem compL {c : Cfg} {own : List (Str × Nat)} {gg : G} {cond : Es} {elt : E} {ρ : Ro} {Q : QD} {Pr : Hs → Prop} {S : Hs} {α : Type} {xs : List α} {g : α → D} (f : α → Option D) (hl : xs.length ≤ sizeLine) (hp : ∀ S2 : Hs, (∀ a o, S a = some o → S2 a = some o) → Pr S2)
    (turn : ∀ (i : Nat) x S2 (K : QD) (K' : Hs → Prop), xs[i]? = some x → (∀ a o, S a = some o → S2 a = some o) → (∀ y, f x = some y → K y S2) → (f x = none → K' S2) → wG c gg (g x) (wipeD ρ (own.map (·.2))) S2 (fun ρ' S3 =>
        wC c cond ρ' S3 (fun b S4 => if b = true then wE c elt ρ' S4 K X0 else K' S4) X0) X0)
    (q : ∀ L, S L = none → Q (.ref L) (sup S L (.lst (xs.filterMap f)))) : CompK c own gg cond elt ρ Q (xs.map g) Pr S := by
  have ext : ∀ {L o}, S L = none → ∀ a u, S a = some u → (sup S L o) a = some u := fun {L o} hL a u h => by rw [sup_ne (sne h hL)]; exact h
  refine ⟨by rw [List.length_map]; exact hl, fun L hL => ⟨fun i acc S2 => acc = (xs.take i).filterMap f ∧ S2 = sup S L (.lst acc), ⟨rfl, rfl⟩, ?_, ?_⟩⟩
  · rintro i x acc S2 hi _ ⟨rfl, rfl⟩
    obtain ⟨x, hi2, rfl⟩ := map_of hi
    have ht := take_of hi2
    refine ⟨sup_same, hp _ (ext hL), turn i x _ _ _ hi2 (ext hL) (fun y hy => ⟨sup_same, ?_, ?_⟩) fun hn => ⟨?_, rfl⟩⟩
    · rw [ht, List.filterMap_append]; simp [hy]
    · rw [sup_sup]
    · rw [ht, List.filterMap_append]; simp [hn]
  · rintro acc S2 _ ⟨rfl, rfl⟩
    rw [List.length_map, List.take_length]
    exact ⟨sup_same, hp _ (ext hL), .inr (q L hL)⟩
/-! the same as equations under what is known of the place -/
section
variable {S : Hs} {a : Addr} {kvs : List (Key × D)} {d v x : D} {k : Key} {i : Int} {xs : List D} {Q : QD} {Z : Hs → Prop} {b : Bool}
theorem ixW_dS (h : S a = some (.dK kvs)) : ixW (.ref a) d S Q = ∃ k, d.key = some k ∧ ∃ x, valD kvs k = some x ∧ Q x S := by
  have e := ixW_dK (S := S) (Q := Q) (a := a) (kvs := kvs) (d := d)
  rwa [sup_self h] at e
theorem ixW_lS (h : S a = some (.lst xs)) : ixW (.ref a) (.int i) S Q = ∃ x, atI xs i = some x ∧ Q x S := by
  have e := ixW_live (S := S) (Q := Q) (a := a) (xs := xs) (i := i)
  rwa [sup_self h] at e
theorem setW_dS (h : S a = some (.dK kvs)) : setW (.ref a) d v S Z = ∃ k, d.key = some k ∧ kvs.length < sizeLine ∧ Z (sup S a (.dK (putD kvs k v))) := by
  have e := setW_dK (S := S) (Q := Z) (a := a) (kvs := kvs) (d := d) (v := v)
  rw [sup_self h] at e
  rw [e]
theorem setW_lS (h : S a = some (.lst xs)) : setW (.ref a) (.int i) v S Z = ∃ j, ixN xs.length i = some j ∧ Z (sup S a (.lst (xs.set j v))) := by
  have e := setW_live (S := S) (Q := Z) (a := a) (xs := xs) (i := i) (v := v)
  rw [sup_self h] at e
  rw [e]
theorem inR_dS (h : S a = some (.dK kvs)) (ek : d.key = some k) : inR S d (.ref a) b = (b = (valD kvs k).isSome) := by
  refine propext ⟨fun r => ?_, fun e => e ▸ inR_at h ek⟩
  have g : (∃ xs, S a = some (.lst xs) ∧ d.flat = true ∧ xs.all D.flat = true ∧ b = xs.any fun z => D.eq z d) ∨ ∃ o, dgetR S a d o ∧ b = o.isSome := by cases d <;> first | exact r | cases ek
  rcases g with ⟨xs, e, _⟩ | ⟨o, g, e⟩
  · rw [h] at e; cases e
  · rcases g with ⟨l, k', e1 | e1, ek', ev⟩ | ⟨l, _, _, e1 | e1, _⟩
    · rw [h] at e1; cases e1; rw [ek] at ek'; cases ek'; rw [e, ev]
    all_goals (rw [h] at e1; cases e1)
theorem lenW_dS (h : S a = some (.dK kvs)) : lenW (.ref a) S Q = Q (.int (kvs.length : Nat)) S := by
  refine propext ⟨fun ⟨o, n, e1, e2, q⟩ => ?_, fun q => ⟨_, _, h, rfl, q⟩⟩
  rw [h] at e1; cases e1; cases e2; exact q
theorem lenW_lS (h : S a = some (.lst xs)) : lenW (.ref a) S Q = Q (.int (xs.length : Nat)) S := by
  refine propext ⟨fun ⟨o, n, e1, e2, q⟩ => ?_, fun q => ⟨_, _, h, rfl, q⟩⟩
  rw [h] at e1; cases e1; cases e2; exact q
end
end Dz
namespace Dz
open PySem PySem.Spec PyProof.Rows L2
/-! ### a def to which a thunk is handed -/
theorem takes_len {X : Cx} {W : WX} (tk : Takes X W) : Takes X fun c d σ H => σ.length = X.N.length → W c d σ H := fun u s' ⟨a, B, sI, pins, σ, H, cls, d, e, I, nb, up, sky, na, os, ag, h⟩ =>
  tk u s' ⟨a, B, sI, pins, σ, H, cls, d, e, I, nb, up, sky, na, os, ag, h I.len⟩
/-- its body's wish, whatever the thunk is -/
def actSp (c : Cfg) (n : Nm) (b : Ts) : LSp := fun act S Q => ∀ d : D, wTs { c with act := some ⟨d, act⟩ } b { nx := fun _ S' => Q .non S', rt := Q } (startD n.N [d]) S
theorem act_at {P : Program} {w : World} {K : PySem.W.Frag} {mg : Str → Option Value} {base : Heap} {kk : Nat} {c : Cfg} {n : Nm} {x a q : Str} {tab : Addr} {st : Stmt} {g : Addr} {fd : FuncData} {body : Ts} {sp : LSp}
    (F : Fun K x x st g fd) (hm : mg x = some (.ref g)) (hb : Binds K fd [a] []) (Sc : FnScope n.N [a] (defScope st)) (ha : n.N[0]? = some a) (hva : visB (defScope st) a = true) (hok : okn a = true) (nk : ∀ p, NmOk { c with act := some p } n) (hl : c.lams = []) (hexv : c.exv = none) (cfg : CfgOk P w K mg base kk c)
    (hc : cTs n body (defScope st) (defBody st) = true) (hsp : ∀ act S Q, sp act S Q → actSp c n body act S Q) : LamAt P w K mg base (kk + 1) ⟨x, tab, q, sp⟩ := by
  refine ⟨g, fd, st, a, n.N, hm, F, hb, Sc, ha, vis_of hva, (okn_of hok).1, (okn_of hok).2.1, fun X cdv e1 e2 e3 e4 e5 hr => ?_⟩
  subst e1 e2 e3 e4 e5
  intro f c' s H Q tl act hc' hT
  obtain ⟨S, Q', ac, r, hq, kq, hact⟩ := hT
  have hS : S c' = none := by
    cases e : S c' with
    | none => rfl
    | some o =>
      obtain ⟨u, u1, u2⟩ := r c' o e
      rw [hc'] at u1
      cases u1
      cases o <;> exact (show False from u2).elim
  have hr' := hr.deeper (envOfC x (defScope st) s.heap.objs.size g cdv)
  have hu : ((cxOf C8.CX0 X.prog X.w X.K X.mg X.base n.N x (defScope st) g cdv X.A X.stack s H C8.E0).nox).A.units + 65 < cLine := by
    have := hr'.un
    show (X.A.deeper _).units + 65 < cLine
    omega
  have dvD : Dv X.K S H (.ref f) (.fnp f c' q (fun a => S a = none) H) := .fnp hS hc' fun a o e z n => ⟨e, z⟩
  generalize hd : D.fnp f c' q (fun a => S a = none) H = d at dvD
  have cfg1 : CfgOk X.prog X.w X.K X.mg X.base kk { c with act := some ⟨d, ac⟩ } := ⟨cfg.fns, cfg.cons, cfg.nob, cfg.flds, cfg.mths, cfg.mks, cfg.excs, cfg.exm, cfg.clss, cfg.exn, cfg.exis, cfg.xfl⟩
  have sy : Sy (cxOf C8.CX0 X.prog X.w X.K X.mg X.base n.N x (defScope st) g cdv X.A X.stack s H C8.E0).nox { c with act := some ⟨d, ac⟩ } n.N (defScope st) W00 n.cm :=
    { hN := rfl, nd := Sc.nd, hsc := rfl, calm := fun _ => rfl, hu := hu, cfg := ⟨kk, fun _ => hr', cfg1⟩, lam := fun p hp => (by rw [show ({ c with act := some ⟨d, ac⟩ } : Cfg).lams = c.lams from rfl, hl] at hp; cases hp), stk := rfl, frm := rfl, tk := takes0, po := PassesOwn.never, fn := fun _ => rfl, kd := Sc.kind,
      exv := fun _ i a x z => (by rw [show ({ c with act := some ⟨d, ac⟩ } : Cfg).exv = c.exv from rfl, hexv] at z; cases z), fg := fun _ => fgt0,
      act := fun _ p hp => (by
        cases hp
        refine ⟨a, ha, fun pn xe W tk fg p1 p2 => ⟨fun pins s1 σ H1 Q1 I ⟨ρ, S1, Q2, X2, r1, rr1, ⟨h0, hac⟩, kq1, kx1⟩ => ?_⟩⟩
        obtain ⟨v, v1, v2⟩ := rr1.2 0 _ h0
        simp only at v2
        subst hd
        cases v2 with
        | fnp s1' h1' k1' =>
          have hlen : ∀ σ' : L2.St, σ'.length = n.N.length → σ.length = σ'.length := fun σ' e => I.len.trans e.symm
          exact (act _ pn xe (fun cls d H' => ∀ σ' : L2.St, σ'.length = n.N.length → W cls d σ' H') p1 p2 (takes_len tk) (fun cls d σ' H' z hl => z σ' hl)).run pins s1 σ H1 Q1 I
            ⟨v1, h1', hact _ _ _ _ _ _ r1 (fun a o e z n => k1' a o e z n) hac kq1 fun cd dx H' x S' r' f' z' q' σ' e => fg _ _ _ _ _ (hlen σ' e) (kx1 cd dx H' x S' r' f' z' q')⟩) }
  refine ⟨_, sTs body (nk _) sy _ hc, ?_⟩
  refine ⟨startD n.N [d], S, _, r, rr_start (.cons dvD .nil), hsp _ _ _ hq d, ?_, ?_, ?_, ?_, ?_⟩
  · exact fun σ' H' ρ' S' r' f' rr' q => kq _ _ _ _ r' f' .non q
  · exact fun _ _ _ _ _ _ _ q => q.elim
  · exact fun _ _ _ _ _ _ _ q => q.elim
  · exact fun v H' d S' r' f' x' q => kq _ _ _ _ r' f' x' q
  · exact fun _ _ _ _ _ _ _ _ _ _ _ q => q.elim
theorem LamAt.mono {P : Program} {w : World} {K : PySem.W.Frag} {mg : Str → Option Value} {base : Heap} {j k : Nat} {p : LamD} (h : LamAt P w K mg base j p) (l : j ≤ k) : LamAt P w K mg base k p := by
  obtain ⟨g, fd, st, a, Ng, h1, h2, h3, h4, h5, h6, h7, h8, h9⟩ := h
  exact ⟨g, fd, st, a, Ng, h1, h2, h3, h4, h5, h6, h7, h8, fun X cdv e1 e2 e3 e4 e5 hr => h9 X cdv e1 e2 e3 e4 e5 (hr.mono l)⟩
end Dz
namespace Dz
open PySem PySem.Spec PyProof.Rows L2
theorem tab_in {K : PySem.W.Frag} {x : Str} {f c P : Addr} {oc xo : Value} {od xd : Option Addr} {fd : FuncData} {sl xs : Array (Option Value)} {vs : Array Value} (a : PySem.W.nsIn K mainGlobals x = some (some (.ref f))) (l : K.lookup f = some ⟨oc, od, .func fd, sl⟩)
    (lc : K.lookup c = some ⟨xo, xd, .fields vs, xs⟩) (hv : vs[11]? = some (.ref P)) (hc : fd.code = .ref c := by rfl) : PySem.W.tabIn K x = some (c, P) := by
  unfold PySem.W.tabIn
  rw [a]
  simp only [l, hc, lc, hv]
theorem tab_code {K : PySem.W.Frag} {x : Str} {f c P : Addr} {oc : Value} {od : Option Addr} {fd : FuncData} {sl : Array (Option Value)} (a : PySem.W.nsIn K mainGlobals x = some (some (.ref f))) (l : K.lookup f = some ⟨oc, od, .func fd, sl⟩) (t : PySem.W.tabIn K x = some (c, P)) : fd.code = .ref c := by
  unfold PySem.W.tabIn at t
  rw [a] at t
  simp only [l] at t
  split at t
  · rename_i c' e
    split at t
    · split at t
      · cases t
        exact e
      · cases t
    · cases t
  · cases t
/-- the law's own head, with one table of code objects -/
theorem walk_DT {l : PySem.W.OpenLaw} {n k : Nat} {q : Program} {loose : List Str} {XP : (Str → Option Value) → Heap → Prop} {YP : World → Heap → Prop} {d : DefRec} {K : Params → PySem.W.Frag} {x : Str}
    (hn : l.most = some n) (hn2 : n ≤ sizeLine) (hdf : d.params.defaults = []) (hr : Room k callerA)
    (hY : ∀ (w : World) (h : Heap), YP w h → (K w.params).In h)
    (F : ∀ (w : World) (mg : Str → Option Value) (h : Heap), (K w.params).In h → h.Ns mainGlobals mg → XP mg h → (∀ (x : Str) (d : DefRec) (c P : Addr), (recsOf q).find? (fun e => e.name == x) = some d → PySem.W.tabIn (K w.params) x = some (c, P) → PySem.W.CodeHd h c P ∧ h.get? P = some (PySem.W.tabObj #[])) → ∀ fa, mg d.name = some (.ref fa) →
      ∃ (fd : FuncData) (c P : Addr) (nm : Str) (sp : DSp), PySem.W.CodeHd h c P ∧ h.get? P = some (PySem.W.tabObj #[]) ∧ (K w.params).lookup P = none ∧ (∀ (s : Shared) (u : Value), BindsTo s fd ⟨[u], []⟩ [(x, u)]) ∧
        (∀ (ns : List Int) (S : Hs), ns.length ≤ n → (∀ z ∈ ns, Builtin.Int.intBits z ≤ 1048576) → S P = some (.tab nm) → sp [.lst (ns.map D.int)] S (fun d _ => d = .bl true) X0) ∧
        ∀ base : Heap, (K w.params).In base → base.Ns mainGlobals mg → LamX.TabB base mg c P → FnOk l.prog w (K w.params) mg base (L2.CX l.prog w) k fa fd [x] (toSp (K w.params) sp)) :
    PySem.W.WalkO q loose XP YP l.row.toRowW d [] (fun f vs => PySem.call f vs) := by
  refine Att.attach_callB hn hdf fun w s₀ s₁ mg mb fa o pm cd doc a vs ns G Y ho hd hcd hmg hobj hints hlen hbits hg => ?_
  have KX := hY w _ Y
  obtain ⟨fd, c, P, nm, sp, hC, hT, nT, hb, hsp, hF⟩ := F w mg _ KX G.T.g G.X (fun x d c P h1 h2 => PySem.W.tab_of G.T KX h1 h2) fa hmg
  refine LamX.law_callTs (cs := [(c, P)]) KX G.T.g G.T.b G.T.builtins G.T.nolimit hg (fun p hp => ?_) (fun p hp => ?_) (fun p hp => ?_) G.T.bmain hobj hints (Nat.le_trans hlen hn2) hr (fun base h1 h2 h3 => hF base h1 h2 (h3 (c, P) (by simp))) hb (fun H hH hS => ?_) fun H e s' z => ?_
  · obtain rfl := List.mem_singleton.mp hp; exact hT
  · obtain rfl := List.mem_singleton.mp hp; exact nT
  · obtain rfl := List.mem_singleton.mp hp; exact hC
  · have hP : H P = some (.tbl #[]) := hH (c, P) (by simp)
    have aP : sup (fun _ => none) P (.tab nm) a = none ∨ StL (K w.params) a (ns.map V.int) := by
      rcases hS with h | h
      · refine .inl (sup_ne fun z => ?_)
        subst z
        rcases h with h | ⟨o, h⟩ <;> · rw [hP] at h; cases h
      · exact .inr h
    refine ⟨[.lst (ns.map D.int)], sup (fun _ => none) P (.tab nm), _, X0, fun a o e => ?_, .cons ?_ .nil, hsp ns _ hlen hbits sup_same, ?_, EndX.X0⟩
    · by_cases z : a = P
      · subst z
        rw [sup_same] at e
        cases e
        exact ⟨_, hP, trivial, fun pos cv hc => by simp [codeAmong] at hc⟩
      · rw [sup_ne z] at e; cases e
    · rcases aP with s | s
      · rcases hS with h | h
        · exact .lst s h (DvA.ints ns)
        · exact .lstK h (DvA.ints ns)
      · exact .lstK s (DvA.ints ns)
    · intro v H' d S' r f x e
      subst e
      cases x
      rfl
  · obtain ⟨_, _, _, _, _, _, _, _, _, _, _, _, z⟩ := z
    exact z
theorem kit_sub {K : PySem.W.Frag} {D C : Addr} (h : PySem.W.subIn K (.ref D) (.ref C) = some true) (hd : PySem.W.hasDictIn K C = true) (ht : PySem.W.typeIn K (.ref C) = some (.type "type")) : PySem.W.kitOne K (.ref D) (.ref C) = some true := by
  unfold PySem.W.kitOne
  split
  · rfl
  · obtain ⟨cd, hc, _⟩ := PySem.W.any_some hd
    unfold PySem.W.kitCls
    dsimp only
    rw [if_pos (by rw [hc, ht]; simp)]
    exact h
theorem kit_subT {K : PySem.W.Frag} {D : Addr} {T : String} {b : Bool} (h : PySem.W.subIn K (.ref D) (.type T) = some b) (hm : PySem.W.kitMeta T = true) : PySem.W.kitOne K (.ref D) (.type T) = some b := by
  unfold PySem.W.kitOne
  rw [if_neg (by intro z; have := eq_of_beq z; cases this)]
  unfold PySem.W.kitCls
  dsimp only
  rw [if_pos hm]
  exact h
end Dz
namespace W
open PySem L2 Dz
def top (i : Nat) : Stmt := PySem.Challenge.pw_waysinstep_k01_whole_lives_of_disks.main.body.getD i (.Pass ⟨0, 0, 0, 0⟩)
structure Ad where
  Disk : Addr
  NoBlock : Addr
  NoContent : Addr
  Stopped : Addr
  NothingWaits : Addr
  NoNumber : Addr
  BadDisk : Addr
  StoreError : Addr
  t_law_deed : Addr
theorem lk_Disk_kept_lying {a b c d : D} : List.lookup ("kept_lying" : Str) [("kept_lying", a), ("kept_waiting", b), ("kept_power", c), ("kept_reached", d)] = some a := rfl
theorem pf_Disk_kept_lying {a b c d : D} {z : D} : putFD ("kept_lying" : Str) z [("kept_lying", a), ("kept_waiting", b), ("kept_power", c), ("kept_reached", d)] = ([("kept_lying", z), ("kept_waiting", b), ("kept_power", c), ("kept_reached", d)] : List (Str × D)) := rfl
theorem pi_Disk_kept_lying  {z : D} : putFD ("kept_lying" : Str) z ([] : List (Str × D)) = ([("kept_lying", z)] : List (Str × D)) := rfl
theorem lp_Disk_kept_lying_1 {a : D} : List.lookup ("kept_lying" : Str) [("kept_lying", a)] = some a := rfl
theorem lp_Disk_kept_lying_2 {a b : D} : List.lookup ("kept_lying" : Str) [("kept_lying", a), ("kept_waiting", b)] = some a := rfl
theorem lp_Disk_kept_lying_3 {a b c : D} : List.lookup ("kept_lying" : Str) [("kept_lying", a), ("kept_waiting", b), ("kept_power", c)] = some a := rfl
theorem lk_Disk_kept_waiting {a b c d : D} : List.lookup ("kept_waiting" : Str) [("kept_lying", a), ("kept_waiting", b), ("kept_power", c), ("kept_reached", d)] = some b := rfl
theorem pf_Disk_kept_waiting {a b c d : D} {z : D} : putFD ("kept_waiting" : Str) z [("kept_lying", a), ("kept_waiting", b), ("kept_power", c), ("kept_reached", d)] = ([("kept_lying", a), ("kept_waiting", z), ("kept_power", c), ("kept_reached", d)] : List (Str × D)) := rfl
theorem pi_Disk_kept_waiting {a : D} {z : D} : putFD ("kept_waiting" : Str) z ([("kept_lying", a)] : List (Str × D)) = ([("kept_lying", a), ("kept_waiting", z)] : List (Str × D)) := rfl
theorem lp_Disk_kept_waiting_2 {a b : D} : List.lookup ("kept_waiting" : Str) [("kept_lying", a), ("kept_waiting", b)] = some b := rfl
theorem lp_Disk_kept_waiting_3 {a b c : D} : List.lookup ("kept_waiting" : Str) [("kept_lying", a), ("kept_waiting", b), ("kept_power", c)] = some b := rfl
theorem lk_Disk_kept_power {a b c d : D} : List.lookup ("kept_power" : Str) [("kept_lying", a), ("kept_waiting", b), ("kept_power", c), ("kept_reached", d)] = some c := rfl
theorem pf_Disk_kept_power {a b c d : D} {z : D} : putFD ("kept_power" : Str) z [("kept_lying", a), ("kept_waiting", b), ("kept_power", c), ("kept_reached", d)] = ([("kept_lying", a), ("kept_waiting", b), ("kept_power", z), ("kept_reached", d)] : List (Str × D)) := rfl
theorem pi_Disk_kept_power {a b : D} {z : D} : putFD ("kept_power" : Str) z ([("kept_lying", a), ("kept_waiting", b)] : List (Str × D)) = ([("kept_lying", a), ("kept_waiting", b), ("kept_power", z)] : List (Str × D)) := rfl
theorem lp_Disk_kept_power_3 {a b c : D} : List.lookup ("kept_power" : Str) [("kept_lying", a), ("kept_waiting", b), ("kept_power", c)] = some c := rfl
theorem lk_Disk_kept_reached {a b c d : D} : List.lookup ("kept_reached" : Str) [("kept_lying", a), ("kept_waiting", b), ("kept_power", c), ("kept_reached", d)] = some d := rfl
theorem pf_Disk_kept_reached {a b c d : D} {z : D} : putFD ("kept_reached" : Str) z [("kept_lying", a), ("kept_waiting", b), ("kept_power", c), ("kept_reached", d)] = ([("kept_lying", a), ("kept_waiting", b), ("kept_power", c), ("kept_reached", z)] : List (Str × D)) := rfl
theorem pi_Disk_kept_reached {a b c : D} {z : D} : putFD ("kept_reached" : Str) z ([("kept_lying", a), ("kept_waiting", b), ("kept_power", c)] : List (Str × D)) = ([("kept_lying", a), ("kept_waiting", b), ("kept_power", c), ("kept_reached", z)] : List (Str × D)) := rfl
theorem ln_Disk_blocks_0  : List.lookup ("blocks" : Str) ([] : List (Str × D)) = none := rfl
theorem ln_Disk_blocks_1 {a : D} : List.lookup ("blocks" : Str) ([("kept_lying", a)] : List (Str × D)) = none := rfl
theorem ln_Disk_blocks_2 {a b : D} : List.lookup ("blocks" : Str) ([("kept_lying", a), ("kept_waiting", b)] : List (Str × D)) = none := rfl
theorem ln_Disk_blocks_3 {a b c : D} : List.lookup ("blocks" : Str) ([("kept_lying", a), ("kept_waiting", b), ("kept_power", c)] : List (Str × D)) = none := rfl
theorem ln_Disk_blocks_4 {a b c d : D} : List.lookup ("blocks" : Str) ([("kept_lying", a), ("kept_waiting", b), ("kept_power", c), ("kept_reached", d)] : List (Str × D)) = none := rfl
theorem ln_Disk_calm_0  : List.lookup ("calm" : Str) ([] : List (Str × D)) = none := rfl
theorem ln_Disk_calm_1 {a : D} : List.lookup ("calm" : Str) ([("kept_lying", a)] : List (Str × D)) = none := rfl
theorem ln_Disk_calm_2 {a b : D} : List.lookup ("calm" : Str) ([("kept_lying", a), ("kept_waiting", b)] : List (Str × D)) = none := rfl
theorem ln_Disk_calm_3 {a b c : D} : List.lookup ("calm" : Str) ([("kept_lying", a), ("kept_waiting", b), ("kept_power", c)] : List (Str × D)) = none := rfl
theorem ln_Disk_calm_4 {a b c d : D} : List.lookup ("calm" : Str) ([("kept_lying", a), ("kept_waiting", b), ("kept_power", c), ("kept_reached", d)] : List (Str × D)) = none := rfl
theorem ln_Disk_check_block_0  : List.lookup ("check_block" : Str) ([] : List (Str × D)) = none := rfl
theorem ln_Disk_check_block_1 {a : D} : List.lookup ("check_block" : Str) ([("kept_lying", a)] : List (Str × D)) = none := rfl
theorem ln_Disk_check_block_2 {a b : D} : List.lookup ("check_block" : Str) ([("kept_lying", a), ("kept_waiting", b)] : List (Str × D)) = none := rfl
theorem ln_Disk_check_block_3 {a b c : D} : List.lookup ("check_block" : Str) ([("kept_lying", a), ("kept_waiting", b), ("kept_power", c)] : List (Str × D)) = none := rfl
theorem ln_Disk_check_block_4 {a b c d : D} : List.lookup ("check_block" : Str) ([("kept_lying", a), ("kept_waiting", b), ("kept_power", c), ("kept_reached", d)] : List (Str × D)) = none := rfl
theorem ln_Disk_copy_0  : List.lookup ("copy" : Str) ([] : List (Str × D)) = none := rfl
theorem ln_Disk_copy_1 {a : D} : List.lookup ("copy" : Str) ([("kept_lying", a)] : List (Str × D)) = none := rfl
theorem ln_Disk_copy_2 {a b : D} : List.lookup ("copy" : Str) ([("kept_lying", a), ("kept_waiting", b)] : List (Str × D)) = none := rfl
theorem ln_Disk_copy_3 {a b c : D} : List.lookup ("copy" : Str) ([("kept_lying", a), ("kept_waiting", b), ("kept_power", c)] : List (Str × D)) = none := rfl
theorem ln_Disk_copy_4 {a b c d : D} : List.lookup ("copy" : Str) ([("kept_lying", a), ("kept_waiting", b), ("kept_power", c), ("kept_reached", d)] : List (Str × D)) = none := rfl
theorem ln_Disk_cut_0  : List.lookup ("cut" : Str) ([] : List (Str × D)) = none := rfl
theorem ln_Disk_cut_1 {a : D} : List.lookup ("cut" : Str) ([("kept_lying", a)] : List (Str × D)) = none := rfl
theorem ln_Disk_cut_2 {a b : D} : List.lookup ("cut" : Str) ([("kept_lying", a), ("kept_waiting", b)] : List (Str × D)) = none := rfl
theorem ln_Disk_cut_3 {a b c : D} : List.lookup ("cut" : Str) ([("kept_lying", a), ("kept_waiting", b), ("kept_power", c)] : List (Str × D)) = none := rfl
theorem ln_Disk_cut_4 {a b c d : D} : List.lookup ("cut" : Str) ([("kept_lying", a), ("kept_waiting", b), ("kept_power", c), ("kept_reached", d)] : List (Str × D)) = none := rfl
theorem ln_Disk_force_0  : List.lookup ("force" : Str) ([] : List (Str × D)) = none := rfl
theorem ln_Disk_force_1 {a : D} : List.lookup ("force" : Str) ([("kept_lying", a)] : List (Str × D)) = none := rfl
theorem ln_Disk_force_2 {a b : D} : List.lookup ("force" : Str) ([("kept_lying", a), ("kept_waiting", b)] : List (Str × D)) = none := rfl
theorem ln_Disk_force_3 {a b c : D} : List.lookup ("force" : Str) ([("kept_lying", a), ("kept_waiting", b), ("kept_power", c)] : List (Str × D)) = none := rfl
theorem ln_Disk_force_4 {a b c d : D} : List.lookup ("force" : Str) ([("kept_lying", a), ("kept_waiting", b), ("kept_power", c), ("kept_reached", d)] : List (Str × D)) = none := rfl
theorem ln_Disk_lying_0  : List.lookup ("lying" : Str) ([] : List (Str × D)) = none := rfl
theorem ln_Disk_lying_1 {a : D} : List.lookup ("lying" : Str) ([("kept_lying", a)] : List (Str × D)) = none := rfl
theorem ln_Disk_lying_2 {a b : D} : List.lookup ("lying" : Str) ([("kept_lying", a), ("kept_waiting", b)] : List (Str × D)) = none := rfl
theorem ln_Disk_lying_3 {a b c : D} : List.lookup ("lying" : Str) ([("kept_lying", a), ("kept_waiting", b), ("kept_power", c)] : List (Str × D)) = none := rfl
theorem ln_Disk_lying_4 {a b c d : D} : List.lookup ("lying" : Str) ([("kept_lying", a), ("kept_waiting", b), ("kept_power", c), ("kept_reached", d)] : List (Str × D)) = none := rfl
theorem ln_Disk_power_0  : List.lookup ("power" : Str) ([] : List (Str × D)) = none := rfl
theorem ln_Disk_power_1 {a : D} : List.lookup ("power" : Str) ([("kept_lying", a)] : List (Str × D)) = none := rfl
theorem ln_Disk_power_2 {a b : D} : List.lookup ("power" : Str) ([("kept_lying", a), ("kept_waiting", b)] : List (Str × D)) = none := rfl
theorem ln_Disk_power_3 {a b c : D} : List.lookup ("power" : Str) ([("kept_lying", a), ("kept_waiting", b), ("kept_power", c)] : List (Str × D)) = none := rfl
theorem ln_Disk_power_4 {a b c d : D} : List.lookup ("power" : Str) ([("kept_lying", a), ("kept_waiting", b), ("kept_power", c), ("kept_reached", d)] : List (Str × D)) = none := rfl
theorem ln_Disk_reach_0  : List.lookup ("reach" : Str) ([] : List (Str × D)) = none := rfl
theorem ln_Disk_reach_1 {a : D} : List.lookup ("reach" : Str) ([("kept_lying", a)] : List (Str × D)) = none := rfl
theorem ln_Disk_reach_2 {a b : D} : List.lookup ("reach" : Str) ([("kept_lying", a), ("kept_waiting", b)] : List (Str × D)) = none := rfl
theorem ln_Disk_reach_3 {a b c : D} : List.lookup ("reach" : Str) ([("kept_lying", a), ("kept_waiting", b), ("kept_power", c)] : List (Str × D)) = none := rfl
theorem ln_Disk_reach_4 {a b c d : D} : List.lookup ("reach" : Str) ([("kept_lying", a), ("kept_waiting", b), ("kept_power", c), ("kept_reached", d)] : List (Str × D)) = none := rfl
theorem ln_Disk_reach_one_0  : List.lookup ("reach_one" : Str) ([] : List (Str × D)) = none := rfl
theorem ln_Disk_reach_one_1 {a : D} : List.lookup ("reach_one" : Str) ([("kept_lying", a)] : List (Str × D)) = none := rfl
theorem ln_Disk_reach_one_2 {a b : D} : List.lookup ("reach_one" : Str) ([("kept_lying", a), ("kept_waiting", b)] : List (Str × D)) = none := rfl
theorem ln_Disk_reach_one_3 {a b c : D} : List.lookup ("reach_one" : Str) ([("kept_lying", a), ("kept_waiting", b), ("kept_power", c)] : List (Str × D)) = none := rfl
theorem ln_Disk_reach_one_4 {a b c d : D} : List.lookup ("reach_one" : Str) ([("kept_lying", a), ("kept_waiting", b), ("kept_power", c), ("kept_reached", d)] : List (Str × D)) = none := rfl
theorem ln_Disk_reached_0  : List.lookup ("reached" : Str) ([] : List (Str × D)) = none := rfl
theorem ln_Disk_reached_1 {a : D} : List.lookup ("reached" : Str) ([("kept_lying", a)] : List (Str × D)) = none := rfl
theorem ln_Disk_reached_2 {a b : D} : List.lookup ("reached" : Str) ([("kept_lying", a), ("kept_waiting", b)] : List (Str × D)) = none := rfl
theorem ln_Disk_reached_3 {a b c : D} : List.lookup ("reached" : Str) ([("kept_lying", a), ("kept_waiting", b), ("kept_power", c)] : List (Str × D)) = none := rfl
theorem ln_Disk_reached_4 {a b c d : D} : List.lookup ("reached" : Str) ([("kept_lying", a), ("kept_waiting", b), ("kept_power", c), ("kept_reached", d)] : List (Str × D)) = none := rfl
theorem ln_Disk_read_0  : List.lookup ("read" : Str) ([] : List (Str × D)) = none := rfl
theorem ln_Disk_read_1 {a : D} : List.lookup ("read" : Str) ([("kept_lying", a)] : List (Str × D)) = none := rfl
theorem ln_Disk_read_2 {a b : D} : List.lookup ("read" : Str) ([("kept_lying", a), ("kept_waiting", b)] : List (Str × D)) = none := rfl
theorem ln_Disk_read_3 {a b c : D} : List.lookup ("read" : Str) ([("kept_lying", a), ("kept_waiting", b), ("kept_power", c)] : List (Str × D)) = none := rfl
theorem ln_Disk_read_4 {a b c d : D} : List.lookup ("read" : Str) ([("kept_lying", a), ("kept_waiting", b), ("kept_power", c), ("kept_reached", d)] : List (Str × D)) = none := rfl
theorem ln_Disk_waiting_0  : List.lookup ("waiting" : Str) ([] : List (Str × D)) = none := rfl
theorem ln_Disk_waiting_1 {a : D} : List.lookup ("waiting" : Str) ([("kept_lying", a)] : List (Str × D)) = none := rfl
theorem ln_Disk_waiting_2 {a b : D} : List.lookup ("waiting" : Str) ([("kept_lying", a), ("kept_waiting", b)] : List (Str × D)) = none := rfl
theorem ln_Disk_waiting_3 {a b c : D} : List.lookup ("waiting" : Str) ([("kept_lying", a), ("kept_waiting", b), ("kept_power", c)] : List (Str × D)) = none := rfl
theorem ln_Disk_waiting_4 {a b c d : D} : List.lookup ("waiting" : Str) ([("kept_lying", a), ("kept_waiting", b), ("kept_power", c), ("kept_reached", d)] : List (Str × D)) = none := rfl
theorem ln_Disk_write_0  : List.lookup ("write" : Str) ([] : List (Str × D)) = none := rfl
theorem ln_Disk_write_1 {a : D} : List.lookup ("write" : Str) ([("kept_lying", a)] : List (Str × D)) = none := rfl
theorem ln_Disk_write_2 {a b : D} : List.lookup ("write" : Str) ([("kept_lying", a), ("kept_waiting", b)] : List (Str × D)) = none := rfl
theorem ln_Disk_write_3 {a b c : D} : List.lookup ("write" : Str) ([("kept_lying", a), ("kept_waiting", b), ("kept_power", c)] : List (Str × D)) = none := rfl
theorem ln_Disk_write_4 {a b c d : D} : List.lookup ("write" : Str) ([("kept_lying", a), ("kept_waiting", b), ("kept_power", c), ("kept_reached", d)] : List (Str × D)) = none := rfl
--LEM lk_Disk_kept_lying, pf_Disk_kept_lying, pi_Disk_kept_lying, lp_Disk_kept_lying_1, lp_Disk_kept_lying_2, lp_Disk_kept_lying_3, lk_Disk_kept_waiting, pf_Disk_kept_waiting, pi_Disk_kept_waiting, lp_Disk_kept_waiting_2, lp_Disk_kept_waiting_3, lk_Disk_kept_power, pf_Disk_kept_power, pi_Disk_kept_power, lp_Disk_kept_power_3, lk_Disk_kept_reached, pf_Disk_kept_reached, pi_Disk_kept_reached, ln_Disk_blocks_0, ln_Disk_blocks_1, ln_Disk_blocks_2, ln_Disk_blocks_3, ln_Disk_blocks_4, ln_Disk_calm_0, ln_Disk_calm_1, ln_Disk_calm_2, ln_Disk_calm_3, ln_Disk_calm_4, ln_Disk_check_block_0, ln_Disk_check_block_1, ln_Disk_check_block_2, ln_Disk_check_block_3, ln_Disk_check_block_4, ln_Disk_copy_0, ln_Disk_copy_1, ln_Disk_copy_2, ln_Disk_copy_3, ln_Disk_copy_4, ln_Disk_cut_0, ln_Disk_cut_1, ln_Disk_cut_2, ln_Disk_cut_3, ln_Disk_cut_4, ln_Disk_force_0, ln_Disk_force_1, ln_Disk_force_2, ln_Disk_force_3, ln_Disk_force_4, ln_Disk_lying_0, ln_Disk_lying_1, ln_Disk_lying_2, ln_Disk_lying_3, ln_Disk_lying_4, ln_Disk_power_0, ln_Disk_power_1, ln_Disk_power_2, ln_Disk_power_3, ln_Disk_power_4, ln_Disk_reach_0, ln_Disk_reach_1, ln_Disk_reach_2, ln_Disk_reach_3, ln_Disk_reach_4, ln_Disk_reach_one_0, ln_Disk_reach_one_1, ln_Disk_reach_one_2, ln_Disk_reach_one_3, ln_Disk_reach_one_4, ln_Disk_reached_0, ln_Disk_reached_1, ln_Disk_reached_2, ln_Disk_reached_3, ln_Disk_reached_4, ln_Disk_read_0, ln_Disk_read_1, ln_Disk_read_2, ln_Disk_read_3, ln_Disk_read_4, ln_Disk_waiting_0, ln_Disk_waiting_1, ln_Disk_waiting_2, ln_Disk_waiting_3, ln_Disk_waiting_4, ln_Disk_write_0, ln_Disk_write_1, ln_Disk_write_2, ln_Disk_write_3, ln_Disk_write_4
/-! _law_hand calls [] [] cons [] mks [] excs []  -/
def n_law_hand : Nm := ⟨["script", "cells", "cell"], [], [], ["len", "abs", "int"], [], [], true, [], [], [], false⟩
def b_law_hand : Ts := (.cons (.setc 1 (.comp [("cell", 2)] (.name 2) (.seq (.sl (.var 0) .no (.yes (.int 63)))) .nil (.bi .abs (.cons (.bi .int1 (.cons (.var 2) .nil)) .nil)))) (.cons (.ret (.lst (.cons (.var 1) (.cons (.int 0) (.cons (.int 0) (.cons (.b2 .add (.int 1) (.bi .len (.cons (.var 1) .nil))) (.cons (.int 0) .nil))))))) .nil))
theorem k_law_hand : cTs n_law_hand b_law_hand (defScope (top 24)) (defBody (top 24)) = true := by decide +kernel
theorem sc_law_hand : FnScope n_law_hand.N ["script"] (defScope (top 24)) := ⟨rfl, rfl, rfl, by decide +kernel, rfl, by decide +kernel, by decide +kernel⟩
/-! _law_draw calls [] [] cons [] mks [] excs []  -/
def n_law_draw : Nm := ⟨["hand", "many", "number", "cell", "digit"], [], [], ["int", "len"], [], [], true, [], [], [], false⟩
def b_law_draw : Ts := (.cons (.ite (.and (.cons (.cm .eq (.ix (.var 0) (.int 2)) (.int 0)) (.cons (.cm .lt (.ix (.var 0) (.int 1)) (.bi .len (.cons (.ix (.var 0) (.int 0)) .nil))) .nil))) (.cons (.asg (.name 3) (.ix (.ix (.var 0) (.int 0)) (.ix (.var 0) (.int 1)))) (.cons (.asg (.sub (.var 0) (.int 1)) (.b2 .add (.ix (.var 0) (.int 1)) (.int 1))) (.cons (.asg (.sub (.var 0) (.int 3)) (.b2 .mod (.bi .int1 (.cons (.b2 .add (.b2 .add (.b2 .mul (.ix (.var 0) (.int 3)) (.int 69621)) (.var 3)) (.int 11)) .nil)) (.int 2147483629))) (.cons (.ite (.cm .ge (.var 3) (.b2 .pow (.int 10) (.int 18))) (.cons (.asg (.sub (.var 0) (.int 2)) (.var 3)) .nil) .nil) .nil)))) .nil) (.cons (.ite (.cm .gt (.ix (.var 0) (.int 2)) (.int 0)) (.cons (.asg (.name 4) (.b2 .mod (.bi .int1 (.cons (.ix (.var 0) (.int 2)) .nil)) (.var 1))) (.cons (.asg (.sub (.var 0) (.int 2)) (.b2 .fdiv (.ix (.var 0) (.int 2)) (.var 1))) (.cons (.ret (.var 4)) .nil))) .nil) (.cons (.asg (.sub (.var 0) (.int 4)) (.b2 .add (.ix (.var 0) (.int 4)) (.int 1))) (.cons (.asg (.name 2) (.b2 .mod (.bi .int1 (.cons (.b2 .mul (.bi .int1 (.cons (.b2 .add (.ix (.var 0) (.int 3)) (.b2 .mul (.int 7919) (.ix (.var 0) (.int 4)))) .nil)) (.int 48271)) .nil)) (.int 2147483647))) (.cons (.asg (.name 2) (.b2 .mod (.bi .int1 (.cons (.b2 .mul (.var 2) (.b2 .add (.b2 .fdiv (.var 2) (.int 1009)) (.int 69621))) .nil)) (.int 2147483647))) (.cons (.asg (.name 2) (.b2 .mod (.bi .int1 (.cons (.b2 .mul (.var 2) (.b2 .add (.b2 .fdiv (.var 2) (.int 2003)) (.int 40692))) .nil)) (.int 2147483399))) (.cons (.ret (.b2 .mod (.bi .int1 (.cons (.b2 .fdiv (.var 2) (.int 16)) .nil)) (.var 1))) .nil)))))))
theorem k_law_draw : cTs n_law_draw b_law_draw (defScope (top 25)) (defBody (top 25)) = true := by decide +kernel
theorem sc_law_draw : FnScope n_law_draw.N ["hand", "many"] (defScope (top 25)) := ⟨rfl, rfl, rfl, by decide +kernel, rfl, by decide +kernel, by decide +kernel⟩
/-! _law_book calls [] [] cons [] mks [] excs []  -/
def n_law_book : Nm := ⟨["blocks"], [], [], [], [], [], true, [], [], [], false⟩
def b_law_book : Ts := (.cons (.ret (.dic (.cons (.str "lying") (.cons (.b2 .mul (.lst (.cons (.tup .nil) .nil)) (.var 0)) (.cons (.str "waits") (.cons .dic0 (.cons (.str "power") (.cons .non (.cons (.str "reached") (.cons (.int 0) .nil)))))))))) .nil)
theorem k_law_book : cTs n_law_book b_law_book (defScope (top 28)) (defBody (top 28)) = true := by decide +kernel
theorem sc_law_book : FnScope n_law_book.N ["blocks"] (defScope (top 28)) := ⟨rfl, rfl, rfl, by decide +kernel, rfl, by decide +kernel, by decide +kernel⟩
/-! is_integer calls [] [] cons [] mks [] excs []  -/
def n_is_integer : Nm := ⟨["thing"], [], [], ["isinstance", "bool", "int"], [], [], true, [], [], [], false⟩
def b_is_integer : Ts := (.cons (.ret (.and (.cons (.isi (.var 0) ["int"]) (.cons (.not (.isi (.var 0) ["bool"])) .nil)))) .nil)
theorem k_is_integer : cTs n_is_integer b_is_integer (defScope (top 1)) (defBody (top 1)) = true := by decide +kernel
theorem sc_is_integer : FnScope n_is_integer.N ["thing"] (defScope (top 1)) := ⟨rfl, rfl, rfl, by decide +kernel, rfl, by decide +kernel, by decide +kernel⟩
/-! is_within calls ['is_integer'] [] cons [] mks [] excs []  -/
def n_is_within : Nm := ⟨["thing", "least", "most"], ["is_integer"], [], [], [], [], true, [], [], [], false⟩
def b_is_within : Ts := (.cons (.ret (.and (.cons (.call 0 (.cons (.var 0) .nil)) (.cons (.ch .le .le (.var 1) (.var 0) (.var 2)) .nil)))) .nil)
theorem k_is_within : cTs n_is_within b_is_within (defScope (top 2)) (defBody (top 2)) = true := by decide +kernel
theorem sc_is_within : FnScope n_is_within.N ["thing", "least", "most"] (defScope (top 2)) := ⟨rfl, rfl, rfl, by decide +kernel, rfl, by decide +kernel, by decide +kernel⟩
/-! Disk.check_block calls ['is_within'] [] cons [] mks [] excs ['NoBlock']  -/
def n_Disk_check_block : Nm := ⟨["self", "block"], ["is_within"], [], ["len"], [], ["NoBlock"], true, [], [], [], false⟩
def b_Disk_check_block : Ts := (.cons (.ite (.not (.call 0 (.cons (.var 1) (.cons (.int 0) (.cons (.b2 .sub (.bi .len (.cons (.fld (.var 0) "kept_lying") .nil)) (.int 1)) .nil))))) (.cons (.rais 0) .nil) .nil) .nil)
theorem k_Disk_check_block : cTs n_Disk_check_block b_Disk_check_block (defScope (inClass (top 22) 2)) (defBody (inClass (top 22) 2)) = true := by decide +kernel
theorem sc_Disk_check_block : FnScope n_Disk_check_block.N ["self", "block"] (defScope (inClass (top 22) 2)) := ⟨rfl, rfl, rfl, by decide +kernel, rfl, by decide +kernel, by decide +kernel⟩
/-! Disk.lying calls [] ['Disk.check_block'] cons [] mks [] excs []  -/
def n_Disk_lying : Nm := ⟨["self", "block"], [], [], [], [], [], true, [], [], [], false⟩
def b_Disk_lying : Ts := (.cons (.ex (.mt (.var 0) 0 "check_block" (.cons (.var 1) .nil))) (.cons (.ret (.ix (.fld (.var 0) "kept_lying") (.var 1))) .nil))
theorem k_Disk_lying : cTs n_Disk_lying b_Disk_lying (defScope (inClass (top 22) 12)) (defBody (inClass (top 22) 12)) = true := by decide +kernel
theorem sc_Disk_lying : FnScope n_Disk_lying.N ["self", "block"] (defScope (inClass (top 22) 12)) := ⟨rfl, rfl, rfl, by decide +kernel, rfl, by decide +kernel, by decide +kernel⟩
/-! Disk.read calls [] ['Disk.check_block'] cons [] mks [] excs []  -/
def n_Disk_read : Nm := ⟨["self", "block"], [], [], [], [], [], true, [], [], [], false⟩
def b_Disk_read : Ts := (.cons (.ex (.mt (.var 0) 0 "check_block" (.cons (.var 1) .nil))) (.cons (.ite (.cm .isIn (.var 1) (.fld (.var 0) "kept_waiting")) (.cons (.ret (.ix (.ix (.fld (.var 0) "kept_waiting") (.var 1)) (.neg (.int 1)))) .nil) .nil) (.cons (.ret (.ix (.fld (.var 0) "kept_lying") (.var 1))) .nil)))
theorem k_Disk_read : cTs n_Disk_read b_Disk_read (defScope (inClass (top 22) 4)) (defBody (inClass (top 22) 4)) = true := by decide +kernel
theorem sc_Disk_read : FnScope n_Disk_read.N ["self", "block"] (defScope (inClass (top 22) 4)) := ⟨rfl, rfl, rfl, by decide +kernel, rfl, by decide +kernel, by decide +kernel⟩
/-! Disk.waiting calls [] [] cons [] mks [] excs []  -/
def n_Disk_waiting : Nm := ⟨["self", "block", "some"], [], [], ["len"], [], [], true, [], [], [], false⟩
def b_Disk_waiting : Ts := (.cons (.ret (.lock (.dcomp [("block", 1), ("some", 2)] (.tup (.cons (.name 1) (.cons (.name 2) .nil))) (.items (.fld (.var 0) "kept_waiting")) .nil (.var 1) (.bi .len (.cons (.var 2) .nil))))) .nil)
theorem k_Disk_waiting : cTs n_Disk_waiting b_Disk_waiting (defScope (inClass (top 22) 11)) (defBody (inClass (top 22) 11)) = true := by decide +kernel
theorem sc_Disk_waiting : FnScope n_Disk_waiting.N ["self"] (defScope (inClass (top 22) 11)) := ⟨rfl, rfl, rfl, by decide +kernel, rfl, by decide +kernel, by decide +kernel⟩
/-! Disk.reached calls [] [] cons [] mks [] excs []  -/
def n_Disk_reached : Nm := ⟨["self"], [], [], [], [], [], true, [], [], [], false⟩
def b_Disk_reached : Ts := (.cons (.ret (.fld (.var 0) "kept_reached")) .nil)
theorem k_Disk_reached : cTs n_Disk_reached b_Disk_reached (defScope (inClass (top 22) 13)) (defBody (inClass (top 22) 13)) = true := by decide +kernel
theorem sc_Disk_reached : FnScope n_Disk_reached.N ["self"] (defScope (inClass (top 22) 13)) := ⟨rfl, rfl, rfl, by decide +kernel, rfl, by decide +kernel, by decide +kernel⟩
/-! Disk.blocks calls [] [] cons [] mks [] excs []  -/
def n_Disk_blocks : Nm := ⟨["self"], [], [], ["len"], [], [], true, [], [], [], false⟩
def b_Disk_blocks : Ts := (.cons (.ret (.bi .len (.cons (.fld (.var 0) "kept_lying") .nil))) .nil)
theorem k_Disk_blocks : cTs n_Disk_blocks b_Disk_blocks (defScope (inClass (top 22) 1)) (defBody (inClass (top 22) 1)) = true := by decide +kernel
theorem sc_Disk_blocks : FnScope n_Disk_blocks.N ["self"] (defScope (inClass (top 22) 1)) := ⟨rfl, rfl, rfl, by decide +kernel, rfl, by decide +kernel, by decide +kernel⟩
/-! _law_shows calls [] ['Disk.lying', 'Disk.read', 'Disk.waiting', 'Disk.reached', 'Disk.blocks'] cons [] mks [] excs []  -/
def n_law_shows : Nm := ⟨["disk", "book", "some", "block", "due", "row"], [], [], ["dict", "len"], [], [], true, [], [], [], false⟩
def b_law_shows : Ts := (.cons (.ite (.or (.cons (.cm .ne (.mt (.var 0) 4 "blocks" .nil) (.bi .len (.cons (.ix (.var 1) (.str "lying")) .nil))) (.cons (.cm .ne (.mt (.var 0) 3 "reached" .nil) (.ix (.var 1) (.str "reached"))) .nil))) (.cons (.ret (.bl false)) .nil) .nil) (.cons (.ite (.cm .neD (.mt (.var 0) 2 "waiting" .nil) (.bi .dict1 (.cons (.lock (.comp [("block", 3), ("row", 5)] (.tup (.cons (.name 3) (.cons (.name 5) .nil))) (.items (.ix (.var 1) (.str "waits"))) .nil (.tup (.cons (.var 3) (.cons (.bi .len (.cons (.var 5) .nil)) .nil))))) .nil))) (.cons (.ret (.bl false)) .nil) .nil) (.cons (.for_ (.name 3) (.seq (.var 2)) (.cons (.asg (.name 4) (.ife (.cm .isIn (.var 3) (.ix (.var 1) (.str "waits"))) (.ix (.ix (.ix (.var 1) (.str "waits")) (.var 3)) (.neg (.int 1))) (.ix (.ix (.var 1) (.str "lying")) (.var 3)))) (.cons (.ite (.or (.cons (.cm .ne (.mt (.var 0) 1 "read" (.cons (.var 3) .nil)) (.var 4)) (.cons (.cm .ne (.mt (.var 0) 0 "lying" (.cons (.var 3) .nil)) (.ix (.ix (.var 1) (.str "lying")) (.var 3))) .nil))) (.cons (.ret (.bl false)) .nil) .nil) .nil))) (.cons (.ret (.bl true)) .nil))))
theorem k_law_shows : cTs n_law_shows b_law_shows (defScope (top 33)) (defBody (top 33)) = true := by decide +kernel
theorem sc_law_shows : FnScope n_law_shows.N ["disk", "book", "some"] (defScope (top 33)) := ⟨rfl, rfl, rfl, by decide +kernel, rfl, by decide +kernel, by decide +kernel⟩
/-! _law_any calls ['_law_draw'] [] cons [] mks [] excs []  -/
def n_law_any : Nm := ⟨["hand", "some"], ["_law_draw"], [], ["len"], [], [], true, [], [], [], false⟩
def b_law_any : Ts := (.cons (.ret (.ix (.var 1) (.call 0 (.cons (.var 0) (.cons (.bi .len (.cons (.var 1) .nil)) .nil))))) .nil)
theorem k_law_any : cTs n_law_any b_law_any (defScope (top 26)) (defBody (top 26)) = true := by decide +kernel
theorem sc_law_any : FnScope n_law_any.N ["hand", "some"] (defScope (top 26)) := ⟨rfl, rfl, rfl, by decide +kernel, rfl, by decide +kernel, by decide +kernel⟩
/-! _law_content calls ['_law_any', '_law_draw'] [] cons [] mks [] excs []  -/
def n_law_content : Nm := ⟨["hand", "some", "many", "item"], ["_law_any", "_law_draw"], [], ["tuple", "range"], [], [], true, [], [], [], false⟩
def b_law_content : Ts := (.cons (.asg (.name 1) (.lst (.cons (.int 0) (.cons (.int 1) (.cons (.neg (.int 7)) (.cons (.b2 .pow (.int 10) (.int 30)) (.cons (.neg (.b2 .pow (.int 10) (.int 30))) (.cons (.str "") (.cons (.str "a") (.cons (.str "abcdefghijkl") (.cons (.call 1 (.cons (.var 0) (.cons (.int 1000) .nil))) .nil))))))))))) (.cons (.asg (.name 2) (.call 0 (.cons (.var 0) (.cons (.lst (.cons (.int 0) (.cons (.int 1) (.cons (.int 2) (.cons (.int 3) (.cons (.int 5) (.cons (.int 40) .nil))))))) .nil)))) (.cons (.ret (.bi .tuple1 (.cons (.comp [("item", 3)] (.name 3) (.rng (.cons (.var 2) .nil)) .nil (.call 0 (.cons (.var 0) (.cons (.var 1) .nil)))) .nil))) .nil)))
theorem k_law_content : cTs n_law_content b_law_content (defScope (top 27)) (defBody (top 27)) = true := by decide +kernel
theorem sc_law_content : FnScope n_law_content.N ["hand"] (defScope (top 27)) := ⟨rfl, rfl, rfl, by decide +kernel, rfl, by decide +kernel, by decide +kernel⟩
/-! _law_wrote calls [] [] cons [] mks [] excs []  -/
def n_law_wrote : Nm := ⟨["book", "block", "content"], [], [], [], [], [], true, [], [], [], false⟩
def b_law_wrote : Ts := (.cons (.asg (.sub (.ix (.var 0) (.str "waits")) (.var 1)) (.b2 .add (.bm .get2 (.ix (.var 0) (.str "waits")) (.cons (.var 1) (.cons (.lst .nil) .nil))) (.lst (.cons (.var 2) .nil)))) .nil)
theorem k_law_wrote : cTs n_law_wrote b_law_wrote (defScope (top 29)) (defBody (top 29)) = true := by decide +kernel
theorem sc_law_wrote : FnScope n_law_wrote.N ["book", "block", "content"] (defScope (top 29)) := ⟨rfl, rfl, rfl, by decide +kernel, rfl, by decide +kernel, by decide +kernel⟩
/-! _law_reached calls [] [] cons [] mks [] excs []  -/
def n_law_reached : Nm := ⟨["book", "block", "row"], [], [], ["len"], [], [], true, [], [], [], false⟩
def b_law_reached : Ts := (.cons (.ite (.cm .eq (.ix (.var 0) (.str "power")) (.int 0)) (.cons (.ret (.bl false)) .nil) .nil) (.cons (.ite (.cm .notN (.ix (.var 0) (.str "power")) .non) (.cons (.asg (.sub (.var 0) (.str "power")) (.b2 .sub (.ix (.var 0) (.str "power")) (.int 1))) .nil) .nil) (.cons (.asg (.name 2) (.bm .pop1 (.ix (.var 0) (.str "waits")) (.cons (.var 1) .nil))) (.cons (.asg (.sub (.ix (.var 0) (.str "lying")) (.var 1)) (.ix (.var 2) (.int 0))) (.cons (.asg (.sub (.var 0) (.str "reached")) (.b2 .add (.ix (.var 0) (.str "reached")) (.int 1))) (.cons (.ite (.cm .gt (.bi .len (.cons (.var 2) .nil)) (.int 1)) (.cons (.asg (.sub (.ix (.var 0) (.str "waits")) (.var 1)) (.sl (.var 2) (.yes (.int 1)) .no)) .nil) .nil) (.cons (.ret (.bl true)) .nil)))))))
theorem k_law_reached : cTs n_law_reached b_law_reached (defScope (top 30)) (defBody (top 30)) = true := by decide +kernel
theorem sc_law_reached : FnScope n_law_reached.N ["book", "block"] (defScope (top 30)) := ⟨rfl, rfl, rfl, by decide +kernel, rfl, by decide +kernel, by decide +kernel⟩
/-! _law_forced calls ['_law_reached'] [] cons [] mks [] excs []  -/
def n_law_forced : Nm := ⟨["book", "lot", "block"], ["_law_reached"], [], [], [], [], true, [], [], [], false⟩
def b_law_forced : Ts := (.cons (.for_ (.name 2) (.seq (.var 1)) (.cons (.whil (.cm .isIn (.var 2) (.ix (.var 0) (.str "waits"))) (.cons (.ite (.not (.call 0 (.cons (.var 0) (.cons (.var 2) .nil)))) (.cons (.ret (.bl false)) .nil) .nil) .nil)) .nil)) (.cons (.ret (.bl true)) .nil))
theorem k_law_forced : cTs n_law_forced b_law_forced (defScope (top 31)) (defBody (top 31)) = true := by decide +kernel
theorem sc_law_forced : FnScope n_law_forced.N ["book", "lot"] (defScope (top 31)) := ⟨rfl, rfl, rfl, by decide +kernel, rfl, by decide +kernel, by decide +kernel⟩
/-! _law_cut calls [] [] cons [] mks [] excs []  -/
def n_law_cut : Nm := ⟨["book"], [], [], [], [], [], true, [], [], [], false⟩
def b_law_cut : Ts := (.cons (.asg (.tup (.cons (.sub (.var 0) (.str "waits")) (.cons (.sub (.var 0) (.str "power")) .nil))) (.tup (.cons .dic0 (.cons .non .nil)))) .nil)
theorem k_law_cut : cTs n_law_cut b_law_cut (defScope (top 32)) (defBody (top 32)) = true := by decide +kernel
theorem sc_law_cut : FnScope n_law_cut.N ["book"] (defScope (top 32)) := ⟨rfl, rfl, rfl, by decide +kernel, rfl, by decide +kernel, by decide +kernel⟩
/-! is_item calls ['is_integer'] [] cons ['MOST_INTEGER', 'LETTERS', 'MOST_LETTERS'] mks [] excs []  -/
def n_is_item : Nm := ⟨["thing", "letter"], ["is_integer"], ["MOST_INTEGER", "LETTERS", "MOST_LETTERS"], ["isinstance", "str", "all", "len"], [], [], true, [], [], [], false⟩
def b_is_item : Ts := (.cons (.ite (.isi (.var 0) ["str"]) (.cons (.ret (.and (.cons (.cm .le (.bi .len (.cons (.var 0) .nil)) (.glob 2)) (.cons (.bi .all (.cons (.comp [("letter", 1)] (.name 1) (.seq (.var 0)) .nil (.cm .isIn (.var 1) (.glob 1))) .nil)) .nil)))) .nil) .nil) (.cons (.ret (.and (.cons (.call 0 (.cons (.var 0) .nil)) (.cons (.ch .le .le (.neg (.glob 0)) (.var 0) (.glob 0)) .nil)))) .nil))
theorem k_is_item : cTs n_is_item b_is_item (defScope (top 20)) (defBody (top 20)) = true := by decide +kernel
theorem sc_is_item : FnScope n_is_item.N ["thing"] (defScope (top 20)) := ⟨rfl, rfl, rfl, by decide +kernel, rfl, by decide +kernel, by decide +kernel⟩
/-! are_items calls ['is_item'] [] cons [] mks [] excs []  -/
def n_are_items : Nm := ⟨["thing", "most", "item"], ["is_item"], [], ["all", "len", "isinstance", "tuple"], [], [], true, [], [], [], false⟩
def b_are_items : Ts := (.cons (.ret (.and (.cons (.isi (.var 0) ["tuple"]) (.cons (.cm .le (.bi .len (.cons (.var 0) .nil)) (.var 1)) (.cons (.bi .all (.cons (.comp [("item", 2)] (.name 2) (.seq (.var 0)) .nil (.call 0 (.cons (.var 2) .nil))) .nil)) .nil))))) .nil)
theorem k_are_items : cTs n_are_items b_are_items (defScope (top 21)) (defBody (top 21)) = true := by decide +kernel
theorem sc_are_items : FnScope n_are_items.N ["thing", "most"] (defScope (top 21)) := ⟨rfl, rfl, rfl, by decide +kernel, rfl, by decide +kernel, by decide +kernel⟩
/-! Disk.write calls ['are_items'] ['Disk.check_block'] cons ['MOST_ITEMS'] mks [] excs ['NoContent']  -/
def n_Disk_write : Nm := ⟨["self", "block", "content"], ["are_items"], ["MOST_ITEMS"], [], [], ["NoContent"], true, [], [], [], false⟩
def b_Disk_write : Ts := (.cons (.ex (.mt (.var 0) 0 "check_block" (.cons (.var 1) .nil))) (.cons (.ite (.not (.call 0 (.cons (.var 2) (.cons (.glob 0) .nil)))) (.cons (.rais 0) .nil) .nil) (.cons (.asg (.sub (.fld (.var 0) "kept_waiting") (.var 1)) (.b2 .add (.bm .get2 (.fld (.var 0) "kept_waiting") (.cons (.var 1) (.cons (.lst .nil) .nil))) (.lst (.cons (.var 2) .nil)))) .nil)))
theorem k_Disk_write : cTs n_Disk_write b_Disk_write (defScope (inClass (top 22) 3)) (defBody (inClass (top 22) 3)) = true := by decide +kernel
theorem sc_Disk_write : FnScope n_Disk_write.N ["self", "block", "content"] (defScope (inClass (top 22) 3)) := ⟨rfl, rfl, rfl, by decide +kernel, rfl, by decide +kernel, by decide +kernel⟩
/-! Disk.reach_one calls [] [] cons [] mks [] excs ['Stopped']  -/
def n_Disk_reach_one : Nm := ⟨["self", "block", "some"], [], [], ["len"], [], ["Stopped"], true, [], [], [], false⟩
def b_Disk_reach_one : Ts := (.cons (.ite (.cm .notN (.fld (.var 0) "kept_power") .non) (.cons (.ite (.cm .eq (.fld (.var 0) "kept_power") (.int 0)) (.cons (.rais 0) .nil) .nil) (.cons (.faug (.var 0) "kept_power" .sub (.int 1)) .nil)) .nil) (.cons (.asg (.name 2) (.bm .pop1 (.fld (.var 0) "kept_waiting") (.cons (.var 1) .nil))) (.cons (.asg (.sub (.fld (.var 0) "kept_lying") (.var 1)) (.ix (.var 2) (.int 0))) (.cons (.faug (.var 0) "kept_reached" .add (.int 1)) (.cons (.ite (.cm .gt (.bi .len (.cons (.var 2) .nil)) (.int 1)) (.cons (.asg (.sub (.fld (.var 0) "kept_waiting") (.var 1)) (.sl (.var 2) (.yes (.int 1)) .no)) .nil) .nil) .nil)))))
theorem k_Disk_reach_one : cTs n_Disk_reach_one b_Disk_reach_one (defScope (inClass (top 22) 5)) (defBody (inClass (top 22) 5)) = true := by decide +kernel
theorem sc_Disk_reach_one : FnScope n_Disk_reach_one.N ["self", "block"] (defScope (inClass (top 22) 5)) := ⟨rfl, rfl, rfl, by decide +kernel, rfl, by decide +kernel, by decide +kernel⟩
/-! Disk.reach calls [] ['Disk.reach_one', 'Disk.check_block'] cons [] mks [] excs ['NothingWaits']  -/
def n_Disk_reach : Nm := ⟨["self", "block"], [], [], [], [], ["NothingWaits"], true, [], [], [], false⟩
def b_Disk_reach : Ts := (.cons (.ex (.mt (.var 0) 1 "check_block" (.cons (.var 1) .nil))) (.cons (.ite (.cm .notIn (.var 1) (.fld (.var 0) "kept_waiting")) (.cons (.rais 0) .nil) .nil) (.cons (.ex (.mt (.var 0) 0 "reach_one" (.cons (.var 1) .nil))) .nil)))
theorem k_Disk_reach : cTs n_Disk_reach b_Disk_reach (defScope (inClass (top 22) 6)) (defBody (inClass (top 22) 6)) = true := by decide +kernel
theorem sc_Disk_reach : FnScope n_Disk_reach.N ["self", "block"] (defScope (inClass (top 22) 6)) := ⟨rfl, rfl, rfl, by decide +kernel, rfl, by decide +kernel, by decide +kernel⟩
/-! is_lot calls ['is_within'] [] cons [] mks [] excs []  -/
def n_is_lot : Nm := ⟨["thing", "many", "last", "number"], ["is_within"], [], ["isinstance", "tuple"], [], [], true, [], [], [], false⟩
def b_is_lot : Ts := (.cons (.ite (.not (.isi (.var 0) ["tuple"])) (.cons (.ret (.bl false)) .nil) .nil) (.cons (.asg (.name 2) (.neg (.int 1))) (.cons (.for_ (.name 3) (.seq (.var 0)) (.cons (.ite (.not (.call 0 (.cons (.var 3) (.cons (.b2 .add (.var 2) (.int 1)) (.cons (.b2 .sub (.var 1) (.int 1)) .nil))))) (.cons (.ret (.bl false)) .nil) .nil) (.cons (.asg (.name 2) (.var 3)) .nil))) (.cons (.ret (.bl true)) .nil))))
theorem k_is_lot : cTs n_is_lot b_is_lot (defScope (top 3)) (defBody (top 3)) = true := by decide +kernel
theorem sc_is_lot : FnScope n_is_lot.N ["thing", "many"] (defScope (top 3)) := ⟨rfl, rfl, rfl, by decide +kernel, rfl, by decide +kernel, by decide +kernel⟩
/-! Disk.force calls ['is_lot'] ['Disk.reach_one'] cons [] mks [] excs ['NoBlock']  -/
def n_Disk_force : Nm := ⟨["self", "lot", "block"], ["is_lot"], [], ["len"], [], ["NoBlock"], true, [], [], [], false⟩
def b_Disk_force : Ts := (.cons (.ite (.not (.call 0 (.cons (.var 1) (.cons (.bi .len (.cons (.fld (.var 0) "kept_lying") .nil)) .nil)))) (.cons (.rais 0) .nil) .nil) (.cons (.for_ (.name 2) (.seq (.var 1)) (.cons (.whil (.cm .isIn (.var 2) (.fld (.var 0) "kept_waiting")) (.cons (.ex (.mt (.var 0) 0 "reach_one" (.cons (.var 2) .nil))) .nil)) .nil)) .nil))
theorem k_Disk_force : cTs n_Disk_force b_Disk_force (defScope (inClass (top 22) 7)) (defBody (inClass (top 22) 7)) = true := by decide +kernel
theorem sc_Disk_force : FnScope n_Disk_force.N ["self", "lot"] (defScope (inClass (top 22) 7)) := ⟨rfl, rfl, rfl, by decide +kernel, rfl, by decide +kernel, by decide +kernel⟩
/-! Disk.calm calls [] ['Disk.force'] cons [] mks [] excs []  -/
def n_Disk_calm : Nm := ⟨["self"], [], [], ["tuple", "sorted"], [], [], true, [], [], [], false⟩
def b_Disk_calm : Ts := (.cons (.ex (.mt (.var 0) 0 "force" (.cons (.bi .tuple1 (.cons (.bi .sorted (.cons (.fld (.var 0) "kept_waiting") .nil)) .nil)) .nil))) .nil)
theorem k_Disk_calm : cTs n_Disk_calm b_Disk_calm (defScope (inClass (top 22) 8)) (defBody (inClass (top 22) 8)) = true := by decide +kernel
theorem sc_Disk_calm : FnScope n_Disk_calm.N ["self"] (defScope (inClass (top 22) 8)) := ⟨rfl, rfl, rfl, by decide +kernel, rfl, by decide +kernel, by decide +kernel⟩
/-! Disk.power calls ['is_within'] [] cons ['MOST_POWER'] mks [] excs ['NoNumber']  -/
def n_Disk_power : Nm := ⟨["self", "many"], ["is_within"], ["MOST_POWER"], [], [], ["NoNumber"], true, [], [], [], false⟩
def b_Disk_power : Ts := (.cons (.ite (.and (.cons (.cm .notN (.var 1) .non) (.cons (.not (.call 0 (.cons (.var 1) (.cons (.int 0) (.cons (.glob 0) .nil))))) .nil))) (.cons (.rais 0) .nil) .nil) (.cons (.fst (.var 0) "kept_power" (.var 1)) .nil))
theorem k_Disk_power : cTs n_Disk_power b_Disk_power (defScope (inClass (top 22) 9)) (defBody (inClass (top 22) 9)) = true := by decide +kernel
theorem sc_Disk_power : FnScope n_Disk_power.N ["self", "many"] (defScope (inClass (top 22) 9)) := ⟨rfl, rfl, rfl, by decide +kernel, rfl, by decide +kernel, by decide +kernel⟩
/-! Disk.cut calls [] [] cons [] mks [] excs []  -/
def n_Disk_cut : Nm := ⟨["self"], [], [], [], [], [], true, [], [], [], false⟩
def b_Disk_cut : Ts := (.cons (.fst (.var 0) "kept_waiting" .dic0) (.cons (.fst (.var 0) "kept_power" .non) .nil))
theorem k_Disk_cut : cTs n_Disk_cut b_Disk_cut (defScope (inClass (top 22) 10)) (defBody (inClass (top 22) 10)) = true := by decide +kernel
theorem sc_Disk_cut : FnScope n_Disk_cut.N ["self"] (defScope (inClass (top 22) 10)) := ⟨rfl, rfl, rfl, by decide +kernel, rfl, by decide +kernel, by decide +kernel⟩
/-! _law_word calls [] [] cons [] mks [] excs ['Stopped', 'NothingWaits']  -/
def n_law_word : Nm := ⟨["call", "told", "e"], [], [], ["isinstance", "ValueError"], [], ["Stopped", "NothingWaits"], true, [], [], ["ValueError", "StoreError"], true⟩
def b_law_word : Ts := (.cons (.asg (.name 1) (.str "other")) (.cons (.tryN (.cons (.ac (.set 1)) .nil) (.cons 0 (some 2) (.cons (.asg (.name 1) (.ife (.and (.cons (.isE 2 1) (.cons (.isE 2 0) .nil))) (.str "stopped") (.str "other"))) .nil) (.cons 1 (some 2) (.cons (.asg (.name 1) (.ife (.and (.cons (.isE 2 1) (.cons (.isE 2 0) .nil))) (.str "nothing") (.str "other"))) .nil) .nil))) (.cons (.ret (.var 1)) .nil)))
theorem k_law_word : cTs n_law_word b_law_word (defScope (top 34)) (defBody (top 34)) = true := by decide +kernel
theorem sc_law_word : FnScope n_law_word.N ["call"] (defScope (top 34)) := ⟨rfl, rfl, rfl, by decide +kernel, rfl, by decide +kernel, by decide +kernel⟩
/-! _law_deed calls ['_law_any', '_law_draw', '_law_content', '_law_wrote', '_law_reached', '_law_forced', '_law_cut', '_law_shows'] ['Disk.write', 'Disk.reach', 'Disk.force', 'Disk.calm', 'Disk.power', 'Disk.cut'] cons [] mks [] excs []  -/
def n_law_deed : Nm := ⟨["hand", "disk", "book", "some", "kind", "block", "content", "due", "told", "lot", "turn"], ["_law_any", "_law_draw", "_law_content", "_law_wrote", "_law_reached", "_law_forced", "_law_cut", "_law_shows"], [], ["tuple", "sorted", "set", "range"], [], [], true, [], ["_law_word"], [], false⟩
def b_law_deed_r0 : Ts := (.cons (.asg (.name 8) (.tcall 0 (.mt (.var 1) 1 "reach" (.cons (.var 5) .nil)))) .nil)
def b_law_deed_r1 : Ts := (.cons (.ex (.call 6 (.cons (.var 2) .nil))) (.cons (.ret (.cm .isN (.tcall 0 (.mt (.var 1) 5 "cut" .nil)) .non)) .nil))
def b_law_deed_r2 : Ts := (.cons (.ret (.cm .eq (.var 8) (.var 7))) .nil)
def b_law_deed_r3 : Ts := (.cons (.ite (.and (.cons (.cm .eq (.var 8) (.str "stopped")) (.cons (.cm .eq (.var 7) (.str "stopped")) .nil))) (.cons (.ite (.not (.call 7 (.cons (.var 1) (.cons (.var 2) (.cons (.var 3) .nil))))) (.cons (.ret (.bl false)) .nil) .nil) b_law_deed_r1) .nil) b_law_deed_r2)
def b_law_deed_r4 : Ts := (.cons (.ite (.cm .lt (.var 4) (.int 9)) (.cons (.asg (.name 7) (.str "nothing")) (.cons (.ite (.cm .isIn (.var 5) (.ix (.var 2) (.str "waits"))) (.cons (.asg (.name 7) (.ife (.call 4 (.cons (.var 2) (.cons (.var 5) .nil))) .non (.str "stopped"))) .nil) .nil) b_law_deed_r0)) (.cons (.ite (.cm .lt (.var 4) (.int 11)) (.cons (.asg (.name 9) (.bi .tuple1 (.cons (.xt .sset (.cons (.comp [("turn", 10)] (.name 10) (.rng (.cons (.call 1 (.cons (.var 0) (.cons (.int 4) .nil))) .nil)) .nil (.call 0 (.cons (.var 0) (.cons (.var 3) .nil)))) .nil)) .nil))) (.cons (.asg (.name 7) (.ife (.call 5 (.cons (.var 2) (.cons (.var 9) .nil))) .non (.str "stopped"))) (.cons (.asg (.name 8) (.tcall 0 (.mt (.var 1) 2 "force" (.cons (.var 9) .nil)))) .nil))) (.cons (.ite (.cm .eq (.var 4) (.int 11)) (.cons (.asg (.name 7) (.ife (.call 5 (.cons (.var 2) (.cons (.bi .sorted (.cons (.ix (.var 2) (.str "waits")) .nil)) .nil))) .non (.str "stopped"))) (.cons (.asg (.name 8) (.tcall 0 (.mt (.var 1) 3 "calm" .nil))) .nil)) (.cons (.ite (.cm .lt (.var 4) (.int 14)) (.cons (.asg (.sub (.var 2) (.str "power")) (.call 0 (.cons (.var 0) (.cons (.lst (.cons .non (.cons (.int 0) (.cons (.int 1) (.cons (.int 2) (.cons (.int 3) (.cons (.int 7) (.cons (.b2 .pow (.int 10) (.int 6)) .nil)))))))) .nil)))) (.cons (.par2 7 8 .non (.tcall 0 (.mt (.var 1) 4 "power" (.cons (.ix (.var 2) (.str "power")) .nil)))) .nil)) (.cons (.ex (.call 6 (.cons (.var 2) .nil))) (.cons (.par2 7 8 .non (.tcall 0 (.mt (.var 1) 5 "cut" .nil))) .nil))) .nil)) .nil)) .nil)) b_law_deed_r3)
def b_law_deed : Ts := (.cons (.asg (.tup (.cons (.name 4) (.cons (.name 5) .nil))) (.tup (.cons (.call 1 (.cons (.var 0) (.cons (.int 16) .nil))) (.cons (.call 0 (.cons (.var 0) (.cons (.var 3) .nil))) .nil)))) (.cons (.ite (.cm .lt (.var 4) (.int 6)) (.cons (.asg (.name 6) (.call 2 (.cons (.var 0) .nil))) (.cons (.ex (.call 3 (.cons (.var 2) (.cons (.var 5) (.cons (.var 6) .nil))))) (.cons (.ret (.cm .isN (.tcall 0 (.mt (.var 1) 0 "write" (.cons (.var 5) (.cons (.var 6) .nil)))) .non)) .nil))) .nil) b_law_deed_r4))
theorem k_law_deed : cTs n_law_deed b_law_deed (defScope (top 35)) (defBody (top 35)) = true := by decide +kernel
theorem sc_law_deed : FnScope n_law_deed.N ["hand", "disk", "book", "some"] (defScope (top 35)) := ⟨rfl, rfl, rfl, by decide +kernel, rfl, by decide +kernel, by decide +kernel⟩
/-! Disk.__init__ calls ['is_within'] [] cons ['MOST_BLOCKS', 'LEAST_BLOCKS'] mks [] excs ['BadDisk']  -/
def n_Disk___init__ : Nm := ⟨["self", "blocks", "block"], ["is_within"], ["MOST_BLOCKS", "LEAST_BLOCKS"], ["range"], [], ["BadDisk"], true, [], [], [], false⟩
def b_Disk___init__ : Ts := (.cons (.ite (.not (.call 0 (.cons (.var 1) (.cons (.glob 1) (.cons (.glob 0) .nil))))) (.cons (.rais 0) .nil) .nil) (.cons (.fst (.var 0) "kept_lying" (.comp [("block", 2)] (.name 2) (.rng (.cons (.var 1) .nil)) .nil (.tup .nil))) (.cons (.fst (.var 0) "kept_waiting" .dic0) (.cons (.fst (.var 0) "kept_power" .non) (.cons (.fst (.var 0) "kept_reached" (.int 0)) .nil)))))
theorem k_Disk___init__ : cTs n_Disk___init__ b_Disk___init__ (defScope (inClass (top 22) 0)) (defBody (inClass (top 22) 0)) = true := by decide +kernel
theorem sc_Disk___init__ : FnScope n_Disk___init__.N ["self", "blocks"] (defScope (inClass (top 22) 0)) := ⟨rfl, rfl, rfl, by decide +kernel, rfl, by decide +kernel, by decide +kernel⟩
/-! Disk.copy calls [] [] cons [] mks ['Disk'] excs []  -/
def n_Disk_copy : Nm := ⟨["self", "found"], [], [], ["list", "len"], ["Disk"], [], true, [], [], [], false⟩
def b_Disk_copy : Ts := (.cons (.asg (.name 1) (.mk 0 (.cons (.bi .len (.cons (.fld (.var 0) "kept_lying") .nil)) .nil))) (.cons (.fst (.var 1) "kept_lying" (.bi .list1 (.cons (.fld (.var 0) "kept_lying") .nil))) (.cons (.ret (.var 1)) .nil)))
theorem k_Disk_copy : cTs n_Disk_copy b_Disk_copy (defScope (inClass (top 22) 14)) (defBody (inClass (top 22) 14)) = true := by decide +kernel
theorem sc_Disk_copy : FnScope n_Disk_copy.N ["self"] (defScope (inClass (top 22) 14)) := ⟨rfl, rfl, rfl, by decide +kernel, rfl, by decide +kernel, by decide +kernel⟩
/-! _law_copied calls ['_law_book'] ['Disk.copy'] cons [] mks [] excs []  -/
def n_law_copied : Nm := ⟨["hand", "disk", "book", "other"], ["_law_book"], [], ["list", "len"], [], [], true, [], [], [], false⟩
def b_law_copied : Ts := (.cons (.asg (.name 3) (.call 0 (.cons (.bi .len (.cons (.ix (.var 2) (.str "lying")) .nil)) .nil))) (.cons (.asg (.sub (.var 3) (.str "lying")) (.bi .list1 (.cons (.ix (.var 2) (.str "lying")) .nil))) (.cons (.ret (.tup (.cons (.mt (.var 1) 0 "copy" .nil) (.cons (.var 3) .nil)))) .nil)))
theorem k_law_copied : cTs n_law_copied b_law_copied (defScope (top 36)) (defBody (top 36)) = true := by decide +kernel
theorem sc_law_copied : FnScope n_law_copied.N ["hand", "disk", "book"] (defScope (top 36)) := ⟨rfl, rfl, rfl, by decide +kernel, rfl, by decide +kernel, by decide +kernel⟩
/-! law calls ['_law_hand', '_law_draw', '_law_book', '_law_shows', '_law_deed', '_law_copied'] [] cons [] mks ['Disk'] excs []  -/
def n_law : Nm := ⟨["script", "hand", "blocks", "some", "apart", "turn", "disk", "book", "other", "more"], ["_law_hand", "_law_draw", "_law_book", "_law_shows", "_law_deed", "_law_copied"], [], ["sorted", "set", "range", "all", "list"], ["Disk"], [], true, [], [], [], false⟩
def b_law_r0 : Ts := (.cons (.ite (.cm .eq (.call 1 (.cons (.var 1) (.cons (.int 8) .nil))) (.int 0)) (.cons (.ex (.bm .append (.var 4) (.cons (.call 5 (.cons (.var 1) (.cons (.var 6) (.cons (.var 7) .nil)))) .nil))) (.cons (.ite (.cm .eq (.call 1 (.cons (.var 1) (.cons (.int 2) .nil))) (.int 0)) (.cons (.asg (.tup (.cons (.tup (.cons (.name 6) (.cons (.name 7) .nil))) (.cons (.sub (.var 4) (.neg (.int 1))) .nil))) (.tup (.cons (.ix (.var 4) (.neg (.int 1))) (.cons (.tup (.cons (.var 6) (.cons (.var 7) .nil))) .nil)))) .nil) .nil) .nil)) .nil) .nil)
def b_law_f1 : Ts := (.cons (.ite (.or (.cons (.not (.call 4 (.cons (.var 1) (.cons (.var 6) (.cons (.var 7) (.cons (.var 3) .nil)))))) (.cons (.not (.call 3 (.cons (.var 6) (.cons (.var 7) (.cons (.var 3) .nil))))) .nil))) (.cons (.ret (.bl false)) .nil) .nil) b_law_r0)
def b_law_r2 : Ts := (.cons (.ret (.call 3 (.cons (.var 6) (.cons (.var 7) (.cons (.xt .lrng (.cons (.var 2) .nil)) .nil))))) .nil)
def b_law_r3 : Ts := (.cons (.ite (.not (.bi .all (.cons (.comp [("other", 8), ("more", 9)] (.tup (.cons (.name 8) (.cons (.name 9) .nil))) (.seq (.var 4)) .nil (.call 3 (.cons (.var 8) (.cons (.var 9) (.cons (.xt .lrng (.cons (.var 2) .nil)) .nil))))) .nil))) (.cons (.ret (.bl false)) .nil) .nil) b_law_r2)
def b_law : Ts := (.cons (.asg (.name 1) (.call 0 (.cons (.var 0) .nil))) (.cons (.asg (.name 2) (.ife (.cm .eq (.call 1 (.cons (.var 1) (.cons (.int 20) .nil))) (.int 0)) (.int 600) (.b2 .add (.int 16) (.call 1 (.cons (.var 1) (.cons (.int 25) .nil)))))) (.cons (.par2 6 7 (.mk 0 (.cons (.var 2) .nil)) (.call 2 (.cons (.var 2) .nil))) (.cons (.asg (.name 3) (.xt .sset (.cons (.b2 .add (.lst (.cons (.int 0) (.cons (.b2 .sub (.var 2) (.int 1)) .nil))) (.comp [("turn", 5)] (.name 5) (.rng (.cons (.int 5) .nil)) .nil (.call 1 (.cons (.var 1) (.cons (.var 2) .nil))))) .nil))) (.cons (.asg (.name 4) (.lst .nil)) (.cons (.for_ (.name 5) (.rng (.cons (.b2 .add (.int 20) (.call 1 (.cons (.var 1) (.cons (.int 21) .nil)))) .nil)) b_law_f1) b_law_r3))))))
theorem k_law : cTs n_law b_law (defScope (top 37)) (defBody (top 37)) = true := by decide +kernel
theorem sc_law : FnScope n_law.N ["script"] (defScope (top 37)) := ⟨rfl, rfl, rfl, by decide +kernel, rfl, by decide +kernel, by decide +kernel⟩
end W
namespace W
open PySem L2 Dz
/-! what each def must show; the hand that draws -/
def VC (n : Nm) (b : Ts) (c : Cfg) (m : Nat) (sp : DSp) : Prop := ∀ ds S Q Y, sp ds S Q Y → ds.length = m ∧ wTs c b { nx := fun _ S' => Q .non S', rt := Q, ex := fun x _ S' => Y x S' } (startD n.N ds) S
def VCd (n : Nm) (b : Ts) (c : Cfg) (m : Nat) (sp : DSp) : Prop := ∀ ds S Q Y, sp ds S Q Y → ds.length = m ∧ wTs c b { nx := fun _ S' => dropQ Q .non S', rt := dropQ Q, ex := fun x _ S' => Y x S' } (startD n.N ds) S
def iD (ns : List Int) : List D := ns.map D.int
local macro_rules | `(tactic| walk_at "vc") => `(tactic| try simp only [wE_var, wE_int, wE_str, wE_bl, wE_non, wE_glob, wE_b2, wE_neg, wE_cm, wE_ch, wE_not, wE_and, wE_or, wE_ife, wE_tup, wE_lst, wE_ix, wE_sl, wE_rev, wE_bi, wE_isi, wE_call, wE_bm, wE_comp, wE_call0, wE_fld, wE_mt, wE_mk, wE_dic, wE_dic0, wE_dcomp, wE_lock, wE_xt, wE_tcall, wE_isE, wE_fldE, wB_not, wB_and, wB_or, wB_cm, wB_ch, wB_var, wB_ix, wB_bi, wB_isi, wB_call, wB_bm, wB_call0, wB_xt, wB_isE, wB_fld, wB_mt, wAnd_cons1, wAnd_cons, wOr_cons1, wOr_cons, wBAnd_cons1, wBAnd_cons, wBOr_cons1, wBOr_cons, wEs_nil, wEs_cons, wPr_nil, wPr_cons, wC_nil, wC_cons1, wO_no, wO_yes, wG_name, wG_sub, wI_seq, wI_rng, wI_enum, wI_items, wT_asg, wT_setc, wT_aug, wT_ex, wT_ret, wT_retN, wT_pass, wT_brk, wT_cont, wT_ite, wT_for, wT_whil, wT_fst, wT_faug, wT_saug, wT_par2, wT_par3, wT_del, wT_lock, wT_rais, wT_try1, wT_tryN, wT_ac, wTs_nil, wTs_cons, wH_nil, ixW_live, setW_live, ixW_dK, ixW_zK, setW_dK, inR_live, dget_dK, inR_dK, wH_c0, wH_c1, true_and_of, addW_int, addW_str, addW_tup, addW_ll, addW_lr, addW_rl, addW_rr, subW_int, mulW_int, mulW_tup, mulW_ref, fdivW_int, modW_int, powW_int, ltW_int, leW_int, gtW_int, geW_int, ltW_str, leW_str, gtW_str, geW_str, isNW_n, notNW_n, isNone_non, isNone_bl, isNone_int, isNone_str, isNone_tup, isNone_lst, isNone_ref, isNone_ty, tyName_non, tyName_bl, tyName_int, tyName_str, tyName_tup, tyName_lst, negW_int, intW_int, intW_bl, absW_int, minW_int, maxW_int, lenW_str, lenW_lst, lenW_tup, lenW_ref, len_lst, len_dK, len_dT, tupleW_lst, tupleW_tup, tupleW_ref, listW_lst, listW_tup, listW_ref, ixW_str, ixW_lst, ixW_tup, slW_str, slW_tup, slW_lst, slW_ref, revW_tup, revW_lst, revW_ref, appW_ref, appTy, extTy, remTy, extW_ref, remW_ref, lrngW_1, lrngW_2, iscW_ref, tru_bl, tru_non, tru_int, tru_str, tru_tup, tru_lst, seqI_lst, seqI_tup, seqI_ref, seqI_str, seqI_ctp, items_lst, items_zK, items_zT, enumI_lst, enumI_tup, enumI_ref, rngI_1, rngI_3, rngI_2, inW_e, notInW_e, inR_int, inR_lst, inR_tup, flat_int, flat_str, flat_non, flat_bl, ixN_1_0, ixN_2_0, ixN_2_1, ixN_3_0, ixN_3_1, ixN_3_2, ixN_4_0, ixN_4_1, ixN_4_2, ixN_4_3, ixN_5_0, ixN_5_1, ixN_5_2, ixN_5_3, ixN_5_4, ixN_6_0, ixN_6_1, ixN_6_2, ixN_6_3, ixN_6_4, ixN_6_5, ixN_7_0, ixN_7_1, ixN_7_2, ixN_7_3, ixN_7_4, ixN_7_5, ixN_7_6, ixN_8_0, ixN_8_1, ixN_8_2, ixN_8_3, ixN_8_4, ixN_8_5, ixN_8_6, ixN_8_7, seqOf_sup, lstOf_sup, cp10_1, cp2_1, cp10_2, cp2_2, cp10_3, cp2_3, cp10_4, cp2_4, cp10_5, cp2_5, cp10_6, cp2_6, cp10_7, cp2_7, cp10_8, cp2_8, cp10_9, cp2_9, cp10_10, cp2_10, cp10_11, cp2_11, cp10_12, cp2_12, cp10_13, cp2_13, cp10_14, cp2_14, cp10_15, cp2_15, cp10_16, cp2_16, cp10_17, cp2_17, cp10_18, cp2_18, cp10_19, cp2_19, cp10_20, cp2_20, cp10_21, cp2_21, cp10_22, cp2_22, cp10_23, cp2_23, cp10_24, cp2_24, cp10_25, cp2_25, cp10_26, cp2_26, cp10_27, cp2_27, cp10_28, cp2_28, cp10_29, cp2_29, cp10_30, cp2_30, cp10_31, cp2_31, cp10_32, cp2_32, cp10_33, cp2_33, cp10_34, cp2_34, cp10_35, cp2_35, cp10_36, cp2_36, cp10_37, cp2_37, cp10_38, cp2_38, cp10_39, cp2_39, cp10_40, cp2_40, lsl_0, lsl_1, lsl_2, lsl_3, lsl_4, lsl_5, lsl_6, lsl_7, lsl_8, lsl_9, lsl_10, lsl_11, lsl_12, lsl_13, lsl_14, lsl_15, lsl_16, lsl_17, lsl_18, lsl_19, lsl_20, isNW_b, notNW_b, three_c, isDic_dK, isDic_dT, isDic_zK, isDic_zT, lk_dK, lk_dT, key_int, key_str, keysOf_nil, augIx_ref, tupleW_ctp, ixW_ctp, tyName_ctp, tru_ctp, inR_ctp, seqOf_ctp, lenW_ctp, isNone_ctp, augW_int, augS_int, one_c, two_c, wGs_c, wGs_n, wT_never, inner_mk, suite_mk, goneD_nx, goneD_rt, acW_d, acW_s, acW_t, wG_tup1,
  startD, wipeD, List.map_cons, List.map_nil, List.length_cons, List.length_nil, List.cons_append, List.nil_append, List.append_nil,
  List.getElem?_cons_zero, List.getElem?_cons_succ, List.set_cons_zero, List.set_cons_succ, Option.some.injEq, exists_eq_left', exists_eq_left, exists_eq_right, exists_eq_right', exists_and_left, Nat.reduceAdd, Nat.reduceSub, Nat.reduceLT, List.replicate, List.replicate_zero, List.replicate_succ, if_true, Bool.false_eq_true, if_false, ite_true, ite_false, D.bl.injEq, D.int.injEq, D.str.injEq, D.tup.injEq, D.lst.injEq, D.ref.injEq,
  Option.isSome_some, Option.isSome_none, B2.w, Cm.w, Bi.w, Bm.w, Xt.w, MO.ins.injEq, MO.dK.injEq, and_assoc, List.mem_cons, true_or, or_true, _root_.eq_self, eqW, neW, List.cons.injEq, and_true, true_and, Bool.not_true, Bool.not_false, Gs.len, Es.len,
  ret_non, ret_bl, ret_int, ret_str, ret_tup, ret_lst, isiAny_nil, isiAny_cons, atI_0, atI_1, atI_2, atI_3, atI_4, lstOf_lst, seqOf_lst, seqOf_tup, sup_same, sup_sup, eq_int, ok_int, ok_non, ok_bl, eq_ni, eq_in, eq_bl, MO.lst.injEq, exists_eq', exists_eq,
  kit_NoneType_int, kit_NoneType_bool, kit_NoneType_str, kit_NoneType_tuple, kit_NoneType_list, kit_NoneType_dict, kit_bool_int, kit_bool_bool, kit_bool_str, kit_bool_tuple, kit_bool_list, kit_bool_dict, kit_int_int, kit_int_bool, kit_int_str, kit_int_tuple, kit_int_list, kit_int_dict,
  kit_str_int, kit_str_bool, kit_str_str, kit_str_tuple, kit_str_list, kit_str_dict, kit_list_int, kit_list_bool, kit_list_str, kit_list_tuple, kit_list_list, kit_list_dict, kit_tuple_int, kit_tuple_bool, kit_tuple_str, kit_tuple_tuple, kit_tuple_list, kit_tuple_dict,
  decide_eq_true_eq, Bool.not_eq_true', decide_eq_false_iff_not, forall_const, implies_true, decide_true, decide_false, reduceCtorEq, Int.cast_ofNat_Int, Int.reducePow, Int.reduceMul, Int.reduceAdd, Int.reduceSub, Int.reduceNeg, Int.reduceToNat, Int.reduceEq, Int.reduceLT, Int.reduceLE, lk_Disk_kept_lying, pf_Disk_kept_lying, pi_Disk_kept_lying, lp_Disk_kept_lying_1, lp_Disk_kept_lying_2, lp_Disk_kept_lying_3, lk_Disk_kept_waiting, pf_Disk_kept_waiting, pi_Disk_kept_waiting, lp_Disk_kept_waiting_2, lp_Disk_kept_waiting_3, lk_Disk_kept_power, pf_Disk_kept_power, pi_Disk_kept_power, lp_Disk_kept_power_3, lk_Disk_kept_reached, pf_Disk_kept_reached, pi_Disk_kept_reached, ln_Disk_blocks_0, ln_Disk_blocks_1, ln_Disk_blocks_2, ln_Disk_blocks_3, ln_Disk_blocks_4, ln_Disk_calm_0, ln_Disk_calm_1, ln_Disk_calm_2, ln_Disk_calm_3, ln_Disk_calm_4, ln_Disk_check_block_0, ln_Disk_check_block_1, ln_Disk_check_block_2, ln_Disk_check_block_3, ln_Disk_check_block_4, ln_Disk_copy_0, ln_Disk_copy_1, ln_Disk_copy_2, ln_Disk_copy_3, ln_Disk_copy_4, ln_Disk_cut_0, ln_Disk_cut_1, ln_Disk_cut_2, ln_Disk_cut_3, ln_Disk_cut_4, ln_Disk_force_0, ln_Disk_force_1, ln_Disk_force_2, ln_Disk_force_3, ln_Disk_force_4, ln_Disk_lying_0, ln_Disk_lying_1, ln_Disk_lying_2, ln_Disk_lying_3, ln_Disk_lying_4, ln_Disk_power_0, ln_Disk_power_1, ln_Disk_power_2, ln_Disk_power_3, ln_Disk_power_4, ln_Disk_reach_0, ln_Disk_reach_1, ln_Disk_reach_2, ln_Disk_reach_3, ln_Disk_reach_4, ln_Disk_reach_one_0, ln_Disk_reach_one_1, ln_Disk_reach_one_2, ln_Disk_reach_one_3, ln_Disk_reach_one_4, ln_Disk_reached_0, ln_Disk_reached_1, ln_Disk_reached_2, ln_Disk_reached_3, ln_Disk_reached_4, ln_Disk_read_0, ln_Disk_read_1, ln_Disk_read_2, ln_Disk_read_3, ln_Disk_read_4, ln_Disk_waiting_0, ln_Disk_waiting_1, ln_Disk_waiting_2, ln_Disk_waiting_3, ln_Disk_waiting_4, ln_Disk_write_0, ln_Disk_write_1, ln_Disk_write_2, ln_Disk_write_3, ln_Disk_write_4])
local macro_rules | `(tactic| walk_at "vs") => `(tactic| try simp only [wE_var, wE_int, wE_str, wE_bl, wE_non, wE_glob, wE_b2, wE_neg, wE_cm, wE_ch, wE_not, wE_and, wE_or, wE_ife, wE_tup, wE_lst, wE_ix, wE_sl, wE_rev, wE_bi, wE_isi, wE_call, wE_bm, wE_comp, wE_call0, wE_fld, wE_mt, wE_mk, wE_dic, wE_dic0, wE_dcomp, wE_lock, wE_xt, wE_tcall, wE_isE, wE_fldE, wB_not, wB_and, wB_or, wB_cm, wB_ch, wB_var, wB_ix, wB_bi, wB_isi, wB_call, wB_bm, wB_call0, wB_xt, wB_isE, wB_fld, wB_mt, wAnd_cons1, wAnd_cons, wOr_cons1, wOr_cons, wBAnd_cons1, wBAnd_cons, wBOr_cons1, wBOr_cons, wEs_nil, wEs_cons, wPr_nil, wPr_cons, wC_nil, wC_cons1, wO_no, wO_yes, wG_name, wG_sub, wI_seq, wI_rng, wI_enum, wI_items, wT_asg, wT_setc, wT_aug, wT_ex, wT_ret, wT_retN, wT_pass, wT_brk, wT_cont, wT_ite, wT_for, wT_whil, wT_fst, wT_faug, wT_saug, wT_par2, wT_par3, wT_del, wT_lock, wT_rais, wT_try1, wT_tryN, wT_ac, wTs_nil, wTs_cons, wH_nil, ixW_live, setW_live, ixW_dK, ixW_zK, setW_dK, inR_live, dget_dK, inR_dK, wH_c0, wH_c1, true_and_of, addW_int, addW_str, addW_tup, addW_ll, addW_lr, addW_rl, addW_rr, subW_int, mulW_int, mulW_tup, mulW_ref, fdivW_int, modW_int, powW_int, ltW_int, leW_int, gtW_int, geW_int, ltW_str, leW_str, gtW_str, geW_str, isNW_n, notNW_n, isNone_non, isNone_bl, isNone_int, isNone_str, isNone_tup, isNone_lst, isNone_ref, isNone_ty, tyName_non, tyName_bl, tyName_int, tyName_str, tyName_tup, tyName_lst, negW_int, intW_int, intW_bl, absW_int, minW_int, maxW_int, lenW_str, lenW_lst, lenW_tup, lenW_ref, len_lst, len_dK, len_dT, tupleW_lst, tupleW_tup, tupleW_ref, listW_lst, listW_tup, listW_ref, ixW_str, ixW_lst, ixW_tup, slW_str, slW_tup, slW_lst, slW_ref, revW_tup, revW_lst, revW_ref, appW_ref, appTy, extTy, remTy, extW_ref, remW_ref, lrngW_1, lrngW_2, iscW_ref, tru_bl, tru_non, tru_int, tru_str, tru_tup, tru_lst, seqI_lst, seqI_tup, seqI_ref, seqI_str, seqI_ctp, items_lst, items_zK, items_zT, enumI_lst, enumI_tup, enumI_ref, rngI_1, rngI_3, rngI_2, inW_e, notInW_e, inR_int, inR_lst, inR_tup, flat_int, flat_str, flat_non, flat_bl, ixN_1_0, ixN_2_0, ixN_2_1, ixN_3_0, ixN_3_1, ixN_3_2, ixN_4_0, ixN_4_1, ixN_4_2, ixN_4_3, ixN_5_0, ixN_5_1, ixN_5_2, ixN_5_3, ixN_5_4, ixN_6_0, ixN_6_1, ixN_6_2, ixN_6_3, ixN_6_4, ixN_6_5, ixN_7_0, ixN_7_1, ixN_7_2, ixN_7_3, ixN_7_4, ixN_7_5, ixN_7_6, ixN_8_0, ixN_8_1, ixN_8_2, ixN_8_3, ixN_8_4, ixN_8_5, ixN_8_6, ixN_8_7, seqOf_sup, lstOf_sup, cp10_1, cp2_1, cp10_2, cp2_2, cp10_3, cp2_3, cp10_4, cp2_4, cp10_5, cp2_5, cp10_6, cp2_6, cp10_7, cp2_7, cp10_8, cp2_8, cp10_9, cp2_9, cp10_10, cp2_10, cp10_11, cp2_11, cp10_12, cp2_12, cp10_13, cp2_13, cp10_14, cp2_14, cp10_15, cp2_15, cp10_16, cp2_16, cp10_17, cp2_17, cp10_18, cp2_18, cp10_19, cp2_19, cp10_20, cp2_20, cp10_21, cp2_21, cp10_22, cp2_22, cp10_23, cp2_23, cp10_24, cp2_24, cp10_25, cp2_25, cp10_26, cp2_26, cp10_27, cp2_27, cp10_28, cp2_28, cp10_29, cp2_29, cp10_30, cp2_30, cp10_31, cp2_31, cp10_32, cp2_32, cp10_33, cp2_33, cp10_34, cp2_34, cp10_35, cp2_35, cp10_36, cp2_36, cp10_37, cp2_37, cp10_38, cp2_38, cp10_39, cp2_39, cp10_40, cp2_40, lsl_0, lsl_1, lsl_2, lsl_3, lsl_4, lsl_5, lsl_6, lsl_7, lsl_8, lsl_9, lsl_10, lsl_11, lsl_12, lsl_13, lsl_14, lsl_15, lsl_16, lsl_17, lsl_18, lsl_19, lsl_20, isNW_b, notNW_b, three_c, isDic_dK, isDic_dT, isDic_zK, isDic_zT, lk_dK, lk_dT, key_int, key_str, keysOf_nil, augIx_ref, tupleW_ctp, ixW_ctp, tyName_ctp, tru_ctp, inR_ctp, seqOf_ctp, lenW_ctp, isNone_ctp, augW_int, augS_int, one_c, two_c, wGs_c, wGs_n, wT_never, inner_mk, suite_mk, goneD_nx, goneD_rt, acW_d, acW_s, acW_t, wG_tup1,
  startD, wipeD, List.map_cons, List.map_nil, List.length_cons, List.length_nil, List.cons_append, List.nil_append, List.append_nil,
  List.getElem?_cons_zero, List.getElem?_cons_succ, List.set_cons_zero, List.set_cons_succ, Option.some.injEq, exists_eq_left', exists_eq_left, exists_eq_right, exists_eq_right', exists_and_left, Nat.reduceAdd, Nat.reduceSub, Nat.reduceLT, List.replicate, List.replicate_zero, List.replicate_succ, if_true, Bool.false_eq_true, if_false, ite_true, ite_false, D.bl.injEq, D.int.injEq, D.str.injEq, D.tup.injEq, D.lst.injEq, D.ref.injEq,
  Option.isSome_some, Option.isSome_none, B2.w, Cm.w, Bi.w, Bm.w, Xt.w, MO.ins.injEq, MO.dK.injEq, and_assoc, List.mem_cons, true_or, or_true, _root_.eq_self, eqW, neW, List.cons.injEq, and_true, true_and, Bool.not_true, Bool.not_false, Gs.len, Es.len,
  ret_non, ret_bl, ret_int, ret_str, ret_tup, ret_lst, isiAny_nil, isiAny_cons, atI_0, atI_1, atI_2, atI_3, atI_4, lstOf_lst, seqOf_lst, seqOf_tup, sup_same, sup_sup, eq_int, ok_int, ok_non, ok_bl, eq_ni, eq_in, eq_bl, MO.lst.injEq, exists_eq', exists_eq,
  kit_NoneType_int, kit_NoneType_bool, kit_NoneType_str, kit_NoneType_tuple, kit_NoneType_list, kit_NoneType_dict, kit_bool_int, kit_bool_bool, kit_bool_str, kit_bool_tuple, kit_bool_list, kit_bool_dict, kit_int_int, kit_int_bool, kit_int_str, kit_int_tuple, kit_int_list, kit_int_dict,
  kit_str_int, kit_str_bool, kit_str_str, kit_str_tuple, kit_str_list, kit_str_dict, kit_list_int, kit_list_bool, kit_list_str, kit_list_tuple, kit_list_list, kit_list_dict, kit_tuple_int, kit_tuple_bool, kit_tuple_str, kit_tuple_tuple, kit_tuple_list, kit_tuple_dict,
  decide_eq_true_eq, Bool.not_eq_true', decide_eq_false_iff_not, forall_const, implies_true, decide_true, decide_false, reduceCtorEq, Int.cast_ofNat_Int, Int.reducePow, Int.reduceMul, Int.reduceAdd, Int.reduceSub, Int.reduceNeg, Int.reduceToNat, Int.reduceEq, Int.reduceLT, Int.reduceLE, lk_Disk_kept_lying, pf_Disk_kept_lying, pi_Disk_kept_lying, lp_Disk_kept_lying_1, lp_Disk_kept_lying_2, lp_Disk_kept_lying_3, lk_Disk_kept_waiting, pf_Disk_kept_waiting, pi_Disk_kept_waiting, lp_Disk_kept_waiting_2, lp_Disk_kept_waiting_3, lk_Disk_kept_power, pf_Disk_kept_power, pi_Disk_kept_power, lp_Disk_kept_power_3, lk_Disk_kept_reached, pf_Disk_kept_reached, pi_Disk_kept_reached, ln_Disk_blocks_0, ln_Disk_blocks_1, ln_Disk_blocks_2, ln_Disk_blocks_3, ln_Disk_blocks_4, ln_Disk_calm_0, ln_Disk_calm_1, ln_Disk_calm_2, ln_Disk_calm_3, ln_Disk_calm_4, ln_Disk_check_block_0, ln_Disk_check_block_1, ln_Disk_check_block_2, ln_Disk_check_block_3, ln_Disk_check_block_4, ln_Disk_copy_0, ln_Disk_copy_1, ln_Disk_copy_2, ln_Disk_copy_3, ln_Disk_copy_4, ln_Disk_cut_0, ln_Disk_cut_1, ln_Disk_cut_2, ln_Disk_cut_3, ln_Disk_cut_4, ln_Disk_force_0, ln_Disk_force_1, ln_Disk_force_2, ln_Disk_force_3, ln_Disk_force_4, ln_Disk_lying_0, ln_Disk_lying_1, ln_Disk_lying_2, ln_Disk_lying_3, ln_Disk_lying_4, ln_Disk_power_0, ln_Disk_power_1, ln_Disk_power_2, ln_Disk_power_3, ln_Disk_power_4, ln_Disk_reach_0, ln_Disk_reach_1, ln_Disk_reach_2, ln_Disk_reach_3, ln_Disk_reach_4, ln_Disk_reach_one_0, ln_Disk_reach_one_1, ln_Disk_reach_one_2, ln_Disk_reach_one_3, ln_Disk_reach_one_4, ln_Disk_reached_0, ln_Disk_reached_1, ln_Disk_reached_2, ln_Disk_reached_3, ln_Disk_reached_4, ln_Disk_read_0, ln_Disk_read_1, ln_Disk_read_2, ln_Disk_read_3, ln_Disk_read_4, ln_Disk_waiting_0, ln_Disk_waiting_1, ln_Disk_waiting_2, ln_Disk_waiting_3, ln_Disk_waiting_4, ln_Disk_write_0, ln_Disk_write_1, ln_Disk_write_2, ln_Disk_write_3, ln_Disk_write_4, sup_ne, sup_3, ne_eq, not_false_eq_true, *])
theorem len_iD {ns : List Int} : (iD ns).length = ns.length := by unfold iD; rw [List.length_map]
def HandO (o : MO) : Prop := ∃ ns a b d e, o = .lst [.lst (iD ns), .int a, .int b, .int d, .int e] ∧ (∀ n ∈ ns, 0 ≤ n) ∧ 0 ≤ a ∧ 0 ≤ b
def sp_law_hand : DSp := fun ds S Q _ => ∃ ns, ds = [.lst (iD ns)] ∧ ∀ h o, S h = none → HandO o → Q (.ref h) (sup S h o)
def sp_law_draw : DSp := fun ds S Q _ => ∃ h m o, ds = [.ref h, .int m] ∧ S h = some o ∧ HandO o ∧ 0 < m ∧ m < 2 ^ 64 ∧ ∀ k o', 0 ≤ k → k < m → HandO o' → Q (.int k) (sup S h o')
theorem v_law_hand : VC n_law_hand b_law_hand { fns := [], cons := [], nob := n_law_hand.nob } 1 sp_law_hand := by
  rintro ds S Q Y ⟨ns, rfl, q⟩
  refine ⟨rfl, ?_⟩
  unfold b_law_hand n_law_hand
  walk_at "vc"
  refine newL_f ?_
  obtain ⟨ys, e, hy, _⟩ := cut_map (g := D.int) (xs := ns) (lo := none) (hi := some 63)
  have hl := cut_len (xs := iD ns) (k := 63)
  unfold iD at hl ⊢
  rw [show ((63 : Nat) : Int) = 63 from rfl, e, List.length_map] at hl
  rw [e]
  walk_at "vc"
  refine compK (fun s : Int => some (.int (if s < 0 then -s else s))) (by unfold sizeLine; omega) (fun _ _ => trivial) ?_ ?_
  · intro i v S2 K K' hx _ hy hn
    walk_at "vc"
    exact hy _ rfl
  · rw [show ys.filterMap (fun s : Int => some (D.int (if s < 0 then -s else s))) = iD (ys.map fun s => if s < 0 then -s else s) by
      rw [filterMap_all]; unfold iD; rw [List.map_map]; rfl]
    walk_at "vc"
    refine newL_l fun p hp => ?_
    refine ret_any (q p _ hp ⟨_, 0, 0, _, 0, rfl, fun n hn => ?_, by decide, by decide⟩)
    obtain ⟨s, _, rfl⟩ := List.mem_map.mp hn
    split <;> omega
theorem v_law_draw : VC n_law_draw b_law_draw { fns := [], cons := [], nob := n_law_draw.nob } 2 sp_law_draw := by
  rintro ds S Q Y ⟨h, m, o, rfl, hS, ⟨ns, a, b, d, e, rfl, hns, ha, hb⟩, h0, h1, q⟩
  refine ⟨rfl, ?_⟩
  unfold b_law_draw n_law_draw
  obtain ⟨S, rfl⟩ : ∃ S0, S = sup S0 h (.lst [.lst (iD ns), .int a, .int b, .int d, .int e]) := ⟨S, (sup_self hS).symm⟩
  simp only [sup_sup] at q
  have hm : ∀ i : Int, 0 ≤ i % m ∧ i % m < m := fun i => ⟨Int.emod_nonneg _ (by omega), Int.emod_lt_of_pos _ h0⟩
  have hd : ∀ i : Int, CDivW i m := fun i => cdw h0 h1
  have qh : ∀ k a b d e, 0 ≤ k → k < m → 0 ≤ a → 0 ≤ b → Q (.int k) (sup S h (.lst [.lst (iD ns), .int a, .int b, .int d, .int e])) := fun k a b d e h1 h2 h3 h4 => q k _ h1 h2 ⟨ns, a, b, d, e, rfl, hns, h3, h4⟩
  have p1 : ∀ i : Int, 0 ≤ i % 2147483647 ∧ i % 2147483647 < 2147483647 := fun i => ⟨Int.emod_nonneg _ (by decide), Int.emod_lt_of_pos _ (by decide)⟩
  have c1 : ∀ i j : Int, CMul (i % 2147483647) j ∨ CMulW (i % 2147483647) j := fun i j => .inl (.inl ⟨by have := p1 i; omega, by have := p1 i; omega⟩)
  have dv : ∀ i : Int, 0 ≤ i → 0 ≤ i / m := fun i hi => Int.ediv_nonneg hi (by omega)
  walk_at "vc"
  split
  · rename_i hb0
    subst hb0
    split
    · rename_i hal
      obtain ⟨c, hc⟩ := get_lt (xs := ns) (i := a.toNat) (by rw [len_iD] at hal; omega)
      have hc0 := hns c (mem_of hc)
      refine ⟨.int c, atI_i (i := a.toNat) (by omega) (by unfold iD; rw [List.getElem?_map, hc]; rfl), ?_⟩
      walk_at "vc"
      refine ⟨.inl (.inr (by decide)), ?_⟩
      split
      · split
        · exact ⟨h0, hd _, qh _ _ _ _ _ (hm _).1 (hm _).2 (by omega) (dv _ hc0)⟩
        · exact ⟨.inl (.inl (by decide)), .inl (.inr (by decide)), cdw (by decide) (by decide), c1 _ _, cdw (by decide) (by decide), c1 _ _, cdw (by decide) (by decide), h0, qh _ _ _ _ _ (hm _).1 (hm _).2 (by omega) (by omega)⟩
      · exact ⟨.inl (.inl (by decide)), .inl (.inr (by decide)), cdw (by decide) (by decide), c1 _ _, cdw (by decide) (by decide), c1 _ _, cdw (by decide) (by decide), h0, qh _ _ _ _ _ (hm _).1 (hm _).2 (by omega) (by omega)⟩
    · exact ⟨.inl (.inl (by decide)), .inl (.inr (by decide)), cdw (by decide) (by decide), c1 _ _, cdw (by decide) (by decide), c1 _ _, cdw (by decide) (by decide), h0, qh _ _ _ _ _ (hm _).1 (hm _).2 (by omega) (by omega)⟩
  · split
    · exact ⟨h0, hd _, qh _ _ _ _ _ (hm _).1 (hm _).2 (by omega) (dv _ hb)⟩
    · exact ⟨.inl (.inl (by decide)), .inl (.inr (by decide)), cdw (by decide) (by decide), c1 _ _, cdw (by decide) (by decide), c1 _ _, cdw (by decide) (by decide), h0, qh _ _ _ _ _ (hm _).1 (hm _).2 (by omega) (by omega)⟩
def sp_law_any : DSp := fun ds S Q _ => ∃ h o s xs, ds = [.ref h, s] ∧ S h = some o ∧ HandO o ∧ lstOf S s = some xs ∧ s ≠ .ref h ∧ 0 < xs.length ∧ xs.length < 2 ^ 62 ∧ ∀ x o', x ∈ xs → HandO o' → Q x (sup S h o')
theorem retW_any {d : D} {S : Hs} {rt : QD} (h : rt d S) : retW d S rt := .inl h
theorem lstOf_ne {S : Hs} {h : Addr} {o : MO} {s : D} (n : s ≠ .ref h) : lstOf (sup S h o) s = lstOf S s := by
  cases s with
  | ref a =>
    have : a ≠ h := fun e => n (by rw [e])
    unfold lstOf
    simp only [sup_ne this]
  | _ => rfl
theorem ixW_lstOf {S : Hs} {s : D} {xs : List D} {i : Int} {x : D} {Q : QD} (hs : lstOf S s = some xs) (hi : atI xs i = some x) (q : Q x S) : ixW s (.int i) S Q := by
  cases s with
  | lst ys => cases hs; exact ⟨x, hi, q⟩
  | ref a =>
    unfold lstOf at hs
    simp only at hs
    split at hs
    · rename_i ys e
      cases hs
      exact .inl ⟨_, i, x, e, rfl, hi, q⟩
    · cases hs
  | _ => cases hs
theorem lenW_lstOf {S : Hs} {s : D} {xs : List D} {Q : QD} (hs : lstOf S s = some xs) (q : Q (.int (xs.length : Nat)) S) : lenW s S Q := by
  cases s with
  | lst ys => cases hs; exact ⟨xs, rfl, q⟩
  | ref a =>
    unfold lstOf at hs
    simp only at hs
    split at hs
    · rename_i ys e
      cases hs
      exact ⟨.lst _, _, e, rfl, q⟩
    · cases hs
  | _ => cases hs
theorem v_law_any : VC n_law_any b_law_any { fns := [("_law_draw", sp_law_draw)], cons := [], nob := n_law_any.nob } 2 sp_law_any := by
  rintro ds S Q Y ⟨h, o, s, xs, rfl, hS, ho, hs, hne, hl, hl2, q⟩
  refine ⟨rfl, ?_⟩
  unfold b_law_any n_law_any
  walk_at "vc"
  refine lenW_lstOf hs ?_
  refine ⟨h, _, o, rfl, hS, ho, by omega, by omega, fun k o' hk hk' ho' => ?_⟩
  obtain ⟨x, hx⟩ := get_lt (xs := xs) (i := k.toNat) (by omega)
  exact ixW_lstOf (by rw [lstOf_ne hne]; exact hs) (atI_i (i := k.toNat) (by omega) hx) (.inl (q x o' (mem_of hx) ho'))
end W
namespace W
open PySem L2 Dz
variable {A : Ad}
local macro_rules | `(tactic| walk_at "vc") => `(tactic| try simp only [wE_var, wE_int, wE_str, wE_bl, wE_non, wE_glob, wE_b2, wE_neg, wE_cm, wE_ch, wE_not, wE_and, wE_or, wE_ife, wE_tup, wE_lst, wE_ix, wE_sl, wE_rev, wE_bi, wE_isi, wE_call, wE_bm, wE_comp, wE_call0, wE_fld, wE_mt, wE_mk, wE_dic, wE_dic0, wE_dcomp, wE_lock, wE_xt, wE_tcall, wE_isE, wE_fldE, wB_not, wB_and, wB_or, wB_cm, wB_ch, wB_var, wB_ix, wB_bi, wB_isi, wB_call, wB_bm, wB_call0, wB_xt, wB_isE, wB_fld, wB_mt, wAnd_cons1, wAnd_cons, wOr_cons1, wOr_cons, wBAnd_cons1, wBAnd_cons, wBOr_cons1, wBOr_cons, wEs_nil, wEs_cons, wPr_nil, wPr_cons, wC_nil, wC_cons1, wO_no, wO_yes, wG_name, wG_sub, wI_seq, wI_rng, wI_enum, wI_items, wT_asg, wT_setc, wT_aug, wT_ex, wT_ret, wT_retN, wT_pass, wT_brk, wT_cont, wT_ite, wT_for, wT_whil, wT_fst, wT_faug, wT_saug, wT_par2, wT_par3, wT_del, wT_lock, wT_rais, wT_try1, wT_tryN, wT_ac, wTs_nil, wTs_cons, wH_nil, ixW_live, setW_live, ixW_dK, ixW_zK, setW_dK, inR_live, dget_dK, inR_dK, wH_c0, wH_c1, true_and_of, addW_int, addW_str, addW_tup, addW_ll, addW_lr, addW_rl, addW_rr, subW_int, mulW_int, mulW_tup, mulW_ref, fdivW_int, modW_int, powW_int, ltW_int, leW_int, gtW_int, geW_int, ltW_str, leW_str, gtW_str, geW_str, isNW_n, notNW_n, isNone_non, isNone_bl, isNone_int, isNone_str, isNone_tup, isNone_lst, isNone_ref, isNone_ty, tyName_non, tyName_bl, tyName_int, tyName_str, tyName_tup, tyName_lst, negW_int, intW_int, intW_bl, absW_int, minW_int, maxW_int, lenW_str, lenW_lst, lenW_tup, lenW_ref, len_lst, len_dK, len_dT, tupleW_lst, tupleW_tup, tupleW_ref, listW_lst, listW_tup, listW_ref, ixW_str, ixW_lst, ixW_tup, slW_str, slW_tup, slW_lst, slW_ref, revW_tup, revW_lst, revW_ref, appW_ref, appTy, extTy, remTy, extW_ref, remW_ref, lrngW_1, lrngW_2, iscW_ref, tru_bl, tru_non, tru_int, tru_str, tru_tup, tru_lst, seqI_lst, seqI_tup, seqI_ref, seqI_str, seqI_ctp, items_lst, items_zK, items_zT, enumI_lst, enumI_tup, enumI_ref, rngI_1, rngI_3, rngI_2, inW_e, notInW_e, inR_int, inR_lst, inR_tup, flat_int, flat_str, flat_non, flat_bl, ixN_1_0, ixN_2_0, ixN_2_1, ixN_3_0, ixN_3_1, ixN_3_2, ixN_4_0, ixN_4_1, ixN_4_2, ixN_4_3, ixN_5_0, ixN_5_1, ixN_5_2, ixN_5_3, ixN_5_4, ixN_6_0, ixN_6_1, ixN_6_2, ixN_6_3, ixN_6_4, ixN_6_5, ixN_7_0, ixN_7_1, ixN_7_2, ixN_7_3, ixN_7_4, ixN_7_5, ixN_7_6, ixN_8_0, ixN_8_1, ixN_8_2, ixN_8_3, ixN_8_4, ixN_8_5, ixN_8_6, ixN_8_7, seqOf_sup, lstOf_sup, cp10_1, cp2_1, cp10_2, cp2_2, cp10_3, cp2_3, cp10_4, cp2_4, cp10_5, cp2_5, cp10_6, cp2_6, cp10_7, cp2_7, cp10_8, cp2_8, cp10_9, cp2_9, cp10_10, cp2_10, cp10_11, cp2_11, cp10_12, cp2_12, cp10_13, cp2_13, cp10_14, cp2_14, cp10_15, cp2_15, cp10_16, cp2_16, cp10_17, cp2_17, cp10_18, cp2_18, cp10_19, cp2_19, cp10_20, cp2_20, cp10_21, cp2_21, cp10_22, cp2_22, cp10_23, cp2_23, cp10_24, cp2_24, cp10_25, cp2_25, cp10_26, cp2_26, cp10_27, cp2_27, cp10_28, cp2_28, cp10_29, cp2_29, cp10_30, cp2_30, cp10_31, cp2_31, cp10_32, cp2_32, cp10_33, cp2_33, cp10_34, cp2_34, cp10_35, cp2_35, cp10_36, cp2_36, cp10_37, cp2_37, cp10_38, cp2_38, cp10_39, cp2_39, cp10_40, cp2_40, lsl_0, lsl_1, lsl_2, lsl_3, lsl_4, lsl_5, lsl_6, lsl_7, lsl_8, lsl_9, lsl_10, lsl_11, lsl_12, lsl_13, lsl_14, lsl_15, lsl_16, lsl_17, lsl_18, lsl_19, lsl_20, isNW_b, notNW_b, three_c, isDic_dK, isDic_dT, isDic_zK, isDic_zT, lk_dK, lk_dT, key_int, key_str, keysOf_nil, augIx_ref, tupleW_ctp, ixW_ctp, tyName_ctp, tru_ctp, inR_ctp, seqOf_ctp, lenW_ctp, isNone_ctp, augW_int, augS_int, one_c, two_c, wGs_c, wGs_n, wT_never, inner_mk, suite_mk, goneD_nx, goneD_rt, acW_d, acW_s, acW_t, wG_tup1,
  startD, wipeD, List.map_cons, List.map_nil, List.length_cons, List.length_nil, List.cons_append, List.nil_append, List.append_nil,
  List.getElem?_cons_zero, List.getElem?_cons_succ, List.set_cons_zero, List.set_cons_succ, Option.some.injEq, exists_eq_left', exists_eq_left, exists_eq_right, exists_eq_right', exists_and_left, Nat.reduceAdd, Nat.reduceSub, Nat.reduceLT, List.replicate, List.replicate_zero, List.replicate_succ, if_true, Bool.false_eq_true, if_false, ite_true, ite_false, D.bl.injEq, D.int.injEq, D.str.injEq, D.tup.injEq, D.lst.injEq, D.ref.injEq,
  Option.isSome_some, Option.isSome_none, B2.w, Cm.w, Bi.w, Bm.w, Xt.w, MO.ins.injEq, MO.dK.injEq, and_assoc, List.mem_cons, true_or, or_true, _root_.eq_self, eqW, neW, List.cons.injEq, and_true, true_and, Bool.not_true, Bool.not_false, Gs.len, Es.len,
  ret_non, ret_bl, ret_int, ret_str, ret_tup, ret_lst, isiAny_nil, isiAny_cons, atI_0, atI_1, atI_2, atI_3, atI_4, lstOf_lst, seqOf_lst, seqOf_tup, sup_same, sup_sup, eq_int, ok_int, ok_non, ok_bl, eq_ni, eq_in, eq_bl, MO.lst.injEq, exists_eq', exists_eq,
  kit_NoneType_int, kit_NoneType_bool, kit_NoneType_str, kit_NoneType_tuple, kit_NoneType_list, kit_NoneType_dict, kit_bool_int, kit_bool_bool, kit_bool_str, kit_bool_tuple, kit_bool_list, kit_bool_dict, kit_int_int, kit_int_bool, kit_int_str, kit_int_tuple, kit_int_list, kit_int_dict,
  kit_str_int, kit_str_bool, kit_str_str, kit_str_tuple, kit_str_list, kit_str_dict, kit_list_int, kit_list_bool, kit_list_str, kit_list_tuple, kit_list_list, kit_list_dict, kit_tuple_int, kit_tuple_bool, kit_tuple_str, kit_tuple_tuple, kit_tuple_list, kit_tuple_dict,
  decide_eq_true_eq, Bool.not_eq_true', decide_eq_false_iff_not, forall_const, implies_true, decide_true, decide_false, reduceCtorEq, Int.cast_ofNat_Int, Int.reducePow, Int.reduceMul, Int.reduceAdd, Int.reduceSub, Int.reduceNeg, Int.reduceToNat, Int.reduceEq, Int.reduceLT, Int.reduceLE, lk_Disk_kept_lying, pf_Disk_kept_lying, pi_Disk_kept_lying, lp_Disk_kept_lying_1, lp_Disk_kept_lying_2, lp_Disk_kept_lying_3, lk_Disk_kept_waiting, pf_Disk_kept_waiting, pi_Disk_kept_waiting, lp_Disk_kept_waiting_2, lp_Disk_kept_waiting_3, lk_Disk_kept_power, pf_Disk_kept_power, pi_Disk_kept_power, lp_Disk_kept_power_3, lk_Disk_kept_reached, pf_Disk_kept_reached, pi_Disk_kept_reached, ln_Disk_blocks_0, ln_Disk_blocks_1, ln_Disk_blocks_2, ln_Disk_blocks_3, ln_Disk_blocks_4, ln_Disk_calm_0, ln_Disk_calm_1, ln_Disk_calm_2, ln_Disk_calm_3, ln_Disk_calm_4, ln_Disk_check_block_0, ln_Disk_check_block_1, ln_Disk_check_block_2, ln_Disk_check_block_3, ln_Disk_check_block_4, ln_Disk_copy_0, ln_Disk_copy_1, ln_Disk_copy_2, ln_Disk_copy_3, ln_Disk_copy_4, ln_Disk_cut_0, ln_Disk_cut_1, ln_Disk_cut_2, ln_Disk_cut_3, ln_Disk_cut_4, ln_Disk_force_0, ln_Disk_force_1, ln_Disk_force_2, ln_Disk_force_3, ln_Disk_force_4, ln_Disk_lying_0, ln_Disk_lying_1, ln_Disk_lying_2, ln_Disk_lying_3, ln_Disk_lying_4, ln_Disk_power_0, ln_Disk_power_1, ln_Disk_power_2, ln_Disk_power_3, ln_Disk_power_4, ln_Disk_reach_0, ln_Disk_reach_1, ln_Disk_reach_2, ln_Disk_reach_3, ln_Disk_reach_4, ln_Disk_reach_one_0, ln_Disk_reach_one_1, ln_Disk_reach_one_2, ln_Disk_reach_one_3, ln_Disk_reach_one_4, ln_Disk_reached_0, ln_Disk_reached_1, ln_Disk_reached_2, ln_Disk_reached_3, ln_Disk_reached_4, ln_Disk_read_0, ln_Disk_read_1, ln_Disk_read_2, ln_Disk_read_3, ln_Disk_read_4, ln_Disk_waiting_0, ln_Disk_waiting_1, ln_Disk_waiting_2, ln_Disk_waiting_3, ln_Disk_waiting_4, ln_Disk_write_0, ln_Disk_write_1, ln_Disk_write_2, ln_Disk_write_3, ln_Disk_write_4, kit_dict_int, kit_dict_bool, kit_dict_str, kit_dict_tuple, kit_dict_list, kit_dict_dict, len_iD])
local macro_rules | `(tactic| walk_at "vs") => `(tactic| try simp only [wE_var, wE_int, wE_str, wE_bl, wE_non, wE_glob, wE_b2, wE_neg, wE_cm, wE_ch, wE_not, wE_and, wE_or, wE_ife, wE_tup, wE_lst, wE_ix, wE_sl, wE_rev, wE_bi, wE_isi, wE_call, wE_bm, wE_comp, wE_call0, wE_fld, wE_mt, wE_mk, wE_dic, wE_dic0, wE_dcomp, wE_lock, wE_xt, wE_tcall, wE_isE, wE_fldE, wB_not, wB_and, wB_or, wB_cm, wB_ch, wB_var, wB_ix, wB_bi, wB_isi, wB_call, wB_bm, wB_call0, wB_xt, wB_isE, wB_fld, wB_mt, wAnd_cons1, wAnd_cons, wOr_cons1, wOr_cons, wBAnd_cons1, wBAnd_cons, wBOr_cons1, wBOr_cons, wEs_nil, wEs_cons, wPr_nil, wPr_cons, wC_nil, wC_cons1, wO_no, wO_yes, wG_name, wG_sub, wI_seq, wI_rng, wI_enum, wI_items, wT_asg, wT_setc, wT_aug, wT_ex, wT_ret, wT_retN, wT_pass, wT_brk, wT_cont, wT_ite, wT_for, wT_whil, wT_fst, wT_faug, wT_saug, wT_par2, wT_par3, wT_del, wT_lock, wT_rais, wT_try1, wT_tryN, wT_ac, wTs_nil, wTs_cons, wH_nil, ixW_live, setW_live, ixW_dK, ixW_zK, setW_dK, inR_live, dget_dK, inR_dK, wH_c0, wH_c1, true_and_of, addW_int, addW_str, addW_tup, addW_ll, addW_lr, addW_rl, addW_rr, subW_int, mulW_int, mulW_tup, mulW_ref, fdivW_int, modW_int, powW_int, ltW_int, leW_int, gtW_int, geW_int, ltW_str, leW_str, gtW_str, geW_str, isNW_n, notNW_n, isNone_non, isNone_bl, isNone_int, isNone_str, isNone_tup, isNone_lst, isNone_ref, isNone_ty, tyName_non, tyName_bl, tyName_int, tyName_str, tyName_tup, tyName_lst, negW_int, intW_int, intW_bl, absW_int, minW_int, maxW_int, lenW_str, lenW_lst, lenW_tup, lenW_ref, len_lst, len_dK, len_dT, tupleW_lst, tupleW_tup, tupleW_ref, listW_lst, listW_tup, listW_ref, ixW_str, ixW_lst, ixW_tup, slW_str, slW_tup, slW_lst, slW_ref, revW_tup, revW_lst, revW_ref, appW_ref, appTy, extTy, remTy, extW_ref, remW_ref, lrngW_1, lrngW_2, iscW_ref, tru_bl, tru_non, tru_int, tru_str, tru_tup, tru_lst, seqI_lst, seqI_tup, seqI_ref, seqI_str, seqI_ctp, items_lst, items_zK, items_zT, enumI_lst, enumI_tup, enumI_ref, rngI_1, rngI_3, rngI_2, inW_e, notInW_e, inR_int, inR_lst, inR_tup, flat_int, flat_str, flat_non, flat_bl, ixN_1_0, ixN_2_0, ixN_2_1, ixN_3_0, ixN_3_1, ixN_3_2, ixN_4_0, ixN_4_1, ixN_4_2, ixN_4_3, ixN_5_0, ixN_5_1, ixN_5_2, ixN_5_3, ixN_5_4, ixN_6_0, ixN_6_1, ixN_6_2, ixN_6_3, ixN_6_4, ixN_6_5, ixN_7_0, ixN_7_1, ixN_7_2, ixN_7_3, ixN_7_4, ixN_7_5, ixN_7_6, ixN_8_0, ixN_8_1, ixN_8_2, ixN_8_3, ixN_8_4, ixN_8_5, ixN_8_6, ixN_8_7, seqOf_sup, lstOf_sup, cp10_1, cp2_1, cp10_2, cp2_2, cp10_3, cp2_3, cp10_4, cp2_4, cp10_5, cp2_5, cp10_6, cp2_6, cp10_7, cp2_7, cp10_8, cp2_8, cp10_9, cp2_9, cp10_10, cp2_10, cp10_11, cp2_11, cp10_12, cp2_12, cp10_13, cp2_13, cp10_14, cp2_14, cp10_15, cp2_15, cp10_16, cp2_16, cp10_17, cp2_17, cp10_18, cp2_18, cp10_19, cp2_19, cp10_20, cp2_20, cp10_21, cp2_21, cp10_22, cp2_22, cp10_23, cp2_23, cp10_24, cp2_24, cp10_25, cp2_25, cp10_26, cp2_26, cp10_27, cp2_27, cp10_28, cp2_28, cp10_29, cp2_29, cp10_30, cp2_30, cp10_31, cp2_31, cp10_32, cp2_32, cp10_33, cp2_33, cp10_34, cp2_34, cp10_35, cp2_35, cp10_36, cp2_36, cp10_37, cp2_37, cp10_38, cp2_38, cp10_39, cp2_39, cp10_40, cp2_40, lsl_0, lsl_1, lsl_2, lsl_3, lsl_4, lsl_5, lsl_6, lsl_7, lsl_8, lsl_9, lsl_10, lsl_11, lsl_12, lsl_13, lsl_14, lsl_15, lsl_16, lsl_17, lsl_18, lsl_19, lsl_20, isNW_b, notNW_b, three_c, isDic_dK, isDic_dT, isDic_zK, isDic_zT, lk_dK, lk_dT, key_int, key_str, keysOf_nil, augIx_ref, tupleW_ctp, ixW_ctp, tyName_ctp, tru_ctp, inR_ctp, seqOf_ctp, lenW_ctp, isNone_ctp, augW_int, augS_int, one_c, two_c, wGs_c, wGs_n, wT_never, inner_mk, suite_mk, goneD_nx, goneD_rt, acW_d, acW_s, acW_t, wG_tup1,
  startD, wipeD, List.map_cons, List.map_nil, List.length_cons, List.length_nil, List.cons_append, List.nil_append, List.append_nil,
  List.getElem?_cons_zero, List.getElem?_cons_succ, List.set_cons_zero, List.set_cons_succ, Option.some.injEq, exists_eq_left', exists_eq_left, exists_eq_right, exists_eq_right', exists_and_left, Nat.reduceAdd, Nat.reduceSub, Nat.reduceLT, List.replicate, List.replicate_zero, List.replicate_succ, if_true, Bool.false_eq_true, if_false, ite_true, ite_false, D.bl.injEq, D.int.injEq, D.str.injEq, D.tup.injEq, D.lst.injEq, D.ref.injEq,
  Option.isSome_some, Option.isSome_none, B2.w, Cm.w, Bi.w, Bm.w, Xt.w, MO.ins.injEq, MO.dK.injEq, and_assoc, List.mem_cons, true_or, or_true, _root_.eq_self, eqW, neW, List.cons.injEq, and_true, true_and, Bool.not_true, Bool.not_false, Gs.len, Es.len,
  ret_non, ret_bl, ret_int, ret_str, ret_tup, ret_lst, isiAny_nil, isiAny_cons, atI_0, atI_1, atI_2, atI_3, atI_4, lstOf_lst, seqOf_lst, seqOf_tup, sup_same, sup_sup, eq_int, ok_int, ok_non, ok_bl, eq_ni, eq_in, eq_bl, MO.lst.injEq, exists_eq', exists_eq,
  kit_NoneType_int, kit_NoneType_bool, kit_NoneType_str, kit_NoneType_tuple, kit_NoneType_list, kit_NoneType_dict, kit_bool_int, kit_bool_bool, kit_bool_str, kit_bool_tuple, kit_bool_list, kit_bool_dict, kit_int_int, kit_int_bool, kit_int_str, kit_int_tuple, kit_int_list, kit_int_dict,
  kit_str_int, kit_str_bool, kit_str_str, kit_str_tuple, kit_str_list, kit_str_dict, kit_list_int, kit_list_bool, kit_list_str, kit_list_tuple, kit_list_list, kit_list_dict, kit_tuple_int, kit_tuple_bool, kit_tuple_str, kit_tuple_tuple, kit_tuple_list, kit_tuple_dict,
  decide_eq_true_eq, Bool.not_eq_true', decide_eq_false_iff_not, forall_const, implies_true, decide_true, decide_false, reduceCtorEq, Int.cast_ofNat_Int, Int.reducePow, Int.reduceMul, Int.reduceAdd, Int.reduceSub, Int.reduceNeg, Int.reduceToNat, Int.reduceEq, Int.reduceLT, Int.reduceLE, lk_Disk_kept_lying, pf_Disk_kept_lying, pi_Disk_kept_lying, lp_Disk_kept_lying_1, lp_Disk_kept_lying_2, lp_Disk_kept_lying_3, lk_Disk_kept_waiting, pf_Disk_kept_waiting, pi_Disk_kept_waiting, lp_Disk_kept_waiting_2, lp_Disk_kept_waiting_3, lk_Disk_kept_power, pf_Disk_kept_power, pi_Disk_kept_power, lp_Disk_kept_power_3, lk_Disk_kept_reached, pf_Disk_kept_reached, pi_Disk_kept_reached, ln_Disk_blocks_0, ln_Disk_blocks_1, ln_Disk_blocks_2, ln_Disk_blocks_3, ln_Disk_blocks_4, ln_Disk_calm_0, ln_Disk_calm_1, ln_Disk_calm_2, ln_Disk_calm_3, ln_Disk_calm_4, ln_Disk_check_block_0, ln_Disk_check_block_1, ln_Disk_check_block_2, ln_Disk_check_block_3, ln_Disk_check_block_4, ln_Disk_copy_0, ln_Disk_copy_1, ln_Disk_copy_2, ln_Disk_copy_3, ln_Disk_copy_4, ln_Disk_cut_0, ln_Disk_cut_1, ln_Disk_cut_2, ln_Disk_cut_3, ln_Disk_cut_4, ln_Disk_force_0, ln_Disk_force_1, ln_Disk_force_2, ln_Disk_force_3, ln_Disk_force_4, ln_Disk_lying_0, ln_Disk_lying_1, ln_Disk_lying_2, ln_Disk_lying_3, ln_Disk_lying_4, ln_Disk_power_0, ln_Disk_power_1, ln_Disk_power_2, ln_Disk_power_3, ln_Disk_power_4, ln_Disk_reach_0, ln_Disk_reach_1, ln_Disk_reach_2, ln_Disk_reach_3, ln_Disk_reach_4, ln_Disk_reach_one_0, ln_Disk_reach_one_1, ln_Disk_reach_one_2, ln_Disk_reach_one_3, ln_Disk_reach_one_4, ln_Disk_reached_0, ln_Disk_reached_1, ln_Disk_reached_2, ln_Disk_reached_3, ln_Disk_reached_4, ln_Disk_read_0, ln_Disk_read_1, ln_Disk_read_2, ln_Disk_read_3, ln_Disk_read_4, ln_Disk_waiting_0, ln_Disk_waiting_1, ln_Disk_waiting_2, ln_Disk_waiting_3, ln_Disk_waiting_4, ln_Disk_write_0, ln_Disk_write_1, ln_Disk_write_2, ln_Disk_write_3, ln_Disk_write_4, kit_dict_int, kit_dict_bool, kit_dict_str, kit_dict_tuple, kit_dict_list, kit_dict_dict, len_iD, sup_ne, sup_3, ne_eq, not_false_eq_true, *])
/-! the disk -/
structure DM where
  lying : List D
  waits : List (Key × D)
  power : Option Int
  reached : Int
def pD : Option Int → D | none => .non | some i => .int i
def DiskAt (A : Ad) (S : Hs) (a l w : Addr) (m : DM) : Prop :=
  S a = some (.ins A.Disk [("kept_lying", .ref l), ("kept_waiting", .ref w), ("kept_power", pD m.power), ("kept_reached", .int m.reached)]) ∧ S l = some (.lst m.lying) ∧ S w = some (.dK m.waits)
def BookAt (S : Hs) (b l w : Addr) (m : DM) : Prop :=
  S b = some (.dK [(.inr "lying", .ref l), (.inr "waits", .ref w), (.inr "power", pD m.power), (.inr "reached", .int m.reached)]) ∧ S l = some (.lst m.lying) ∧ S w = some (.dK m.waits) ∧ b ≠ w
def Item (d : D) : Prop := (∃ i, d = .int i ∧ -1000000000000000000000000000000 ≤ i ∧ i ≤ 1000000000000000000000000000000) ∨ (∃ s : Str, d = .str s ∧ s.length ≤ 12 ∧ ∀ c ∈ s.cps.toList, c ∈ ("abcdefghijklmnopqrstuvwxyz" : Str).cps.toList)
def Ct (d : D) : Prop := ∃ xs, d = .tup xs ∧ xs.length ≤ 40 ∧ ∀ x ∈ xs, Item x
def rowsOf : Option D → List D
  | some (.lst r) => r
  | _ => []
def rowsAt (m : DM) (b : Int) : List D := rowsOf (valD m.waits (.inl b))
structure Good (Bk : List Int) (B : Nat) (m : DM) : Prop where
  row : ∀ p ∈ m.waits, ∃ i r, p = (Sum.inl i, D.lst r) ∧ r ≠ [] ∧ i ∈ Bk ∧ r.length ≤ B ∧ ∀ c ∈ r, Ct c
  nd : (m.waits.map (·.1)).Nodup
  lie : ∀ c ∈ m.lying, Ct c
  blk : ∀ i ∈ Bk, 0 ≤ i ∧ i < m.lying.length
  few : Bk.length ≤ 400
  len : m.lying.length ≤ 600
  pow : ∀ p, m.power = some p → 0 ≤ p
def writeM (m : DM) (b : Int) (c : D) : DM := { m with waits := putD m.waits (.inl b) (.lst (rowsAt m b ++ [c])) }
def reachM (m : DM) (b : Int) : DM := { lying := m.lying.set b.toNat ((rowsAt m b).headD .non), waits := if (rowsAt m b).length > 1 then putD (dropD m.waits (.inl b)) (.inl b) (.lst ((rowsAt m b).drop 1)) else dropD m.waits (.inl b), power := m.power.map (· - 1), reached := m.reached + 1 }
def cutM (m : DM) : DM := { m with waits := [], power := none }
/-! specs of the small ones -/
def isIntD : D → Bool
  | .int _ => true
  | _ => false
def Kn (S : Hs) (d : D) : Prop := ∃ t, tyName S d = some t
theorem kn_ref {S : Hs} {a : Addr} {t : String} (h : tyName S (.ref a) = some t) : t = "list" ∨ t = "dict" := by
  unfold tyName at h
  simp only at h
  split at h <;> first
    | (cases h; simp; done)
    | cases h
def sp_is_integer : DSp := fun ds S Q _ => ∃ d, ds = [d] ∧ Kn S d ∧ Q (.bl (isIntD d)) S
def sp_is_within : DSp := fun ds S Q _ => ∃ i l m, ds = [.int i, .int l, .int m] ∧ Q (.bl (decide (l ≤ i) && decide (i ≤ m))) S
def sp_is_item : DSp := fun ds S Q _ => ∃ d, ds = [d] ∧ Item d ∧ Q (.bl true) S
def sp_are_items : DSp := fun ds S Q _ => ∃ xs k, ds = [.tup xs, .int k] ∧ xs.length ≤ 1000000 ∧ (xs.length : Int) ≤ k ∧ (∀ x ∈ xs, Item x) ∧ Q (.bl true) S
def sp_is_lot : DSp := fun ds S Q _ => ∃ ns k, ds = [.tup (iD ns), .int k] ∧ ns.length ≤ 1000000 ∧ ns.Pairwise (· < ·) ∧ (∀ n ∈ ns, 0 ≤ n ∧ n < k) ∧ Q (.bl true) S
theorem v_is_integer : VC n_is_integer b_is_integer { fns := [], cons := [], nob := n_is_integer.nob } 1 sp_is_integer := by
  rintro ds S Q Y ⟨d, rfl, ⟨t, ht⟩, q⟩
  refine ⟨rfl, ?_⟩
  unfold b_is_integer n_is_integer
  cases d with
  | ref a =>
    walk_at "vc"
    rcases kn_ref ht with rfl | rfl
    all_goals
      simp only [ht]
      walk_at "vc"
      exact q
  | ty n => cases ht
  | fnp f c q fz H0 => cases ht
  | _ =>
    walk_at "vc"
    exact q
theorem v_is_within : VC n_is_within b_is_within { fns := [("is_integer", sp_is_integer)], cons := [], nob := n_is_within.nob } 3 sp_is_within := by
  rintro ds S Q Y ⟨i, l, m, rfl, q⟩
  refine ⟨rfl, ?_⟩
  unfold b_is_within n_is_within
  walk_at "vc"
  refine ⟨_, rfl, ⟨_, rfl⟩, ?_⟩
  unfold isIntD
  walk_at "vc"
  split
  · rename_i h; simpa [h] using q
  · rename_i h; simpa [h] using q
theorem v_is_item : VC n_is_item b_is_item { fns := [("is_integer", sp_is_integer)], cons := [("MOST_INTEGER", .int 1000000000000000000000000000000), ("LETTERS", .str "abcdefghijklmnopqrstuvwxyz"), ("MOST_LETTERS", .int 12)], nob := n_is_item.nob } 1 sp_is_item := by
  rintro ds S Q Y ⟨d, rfl, h, q⟩
  refine ⟨rfl, ?_⟩
  unfold b_is_item n_is_item
  rcases h with ⟨i, rfl, h1, h2⟩ | ⟨s, rfl, h1, h2⟩
  · walk_at "vc"
    refine ⟨_, rfl, ⟨_, rfl⟩, ?_⟩
    unfold isIntD
    walk_at "vc"
    rw [if_pos h1, decide_eq_true h2]
    exact q
  · walk_at "vc"
    refine ⟨by unfold sizeLine; omega, ?_⟩
    rw [if_pos (by omega)]
    unfold strD
    have hz : s.cps.toList.length ≤ 12 := by simpa [Str.length] using h1
    refine compK (fun c : Nat => some (.bl true)) (by unfold sizeLine; omega) (fun _ _ => trivial) ?_ ?_
    · intro i v S2 K K' hx _ hy hn
      walk_at "vc"
      refine ⟨true, ⟨v, rfl, ?_⟩, hy _ rfl⟩
      exact (decide_eq_true (h2 v (mem_of hx))).symm
    · rw [filterMap_all]
      refine ⟨s.cps.toList.map fun _ => true, ?_, ?_⟩
      · rw [List.map_map]; rfl
      · have e : (s.cps.toList.map fun _ => true).all id = true := by rw [List.all_map]; simp
        rw [e]
        exact .inl q
theorem v_are_items : VC n_are_items b_are_items { fns := [("is_item", sp_is_item)], cons := [], nob := n_are_items.nob } 2 sp_are_items := by
  rintro ds S Q Y ⟨xs, k, rfl, hl, hk, h, q⟩
  refine ⟨rfl, ?_⟩
  unfold b_are_items n_are_items
  walk_at "vc"
  rw [if_pos hk]
  rw [show xs = xs.map fun x => x by simp]
  refine compK (fun x : D => some (.bl true)) (by unfold sizeLine; omega) (fun _ _ => trivial) ?_ ?_
  · intro i v S2 K K' hx _ hy hn
    walk_at "vc"
    exact ⟨v, rfl, h v (mem_of hx), hy _ rfl⟩
  · rw [filterMap_all]
    refine ⟨xs.map fun _ => true, ?_, ?_⟩
    · rw [List.map_map]; rfl
    · have e : (xs.map fun _ => true).all id = true := by rw [List.all_map]; simp
      rw [e]
      exact .inl q
theorem v_is_lot : VC n_is_lot b_is_lot { fns := [("is_within", sp_is_within)], cons := [], nob := n_is_lot.nob } 2 sp_is_lot := by
  rintro ds S Q Y ⟨ns, m, rfl, hl, hp, hr, q⟩
  refine ⟨rfl, ?_⟩
  unfold b_is_lot n_is_lot
  walk_at "vc"
  refine for_inv (fun i ρ S2 => S2 = S ∧ ∃ l x, ρ = [some (D.tup (iD ns)), some (D.int m), some (D.int l), x] ∧ ∀ j ∈ ns.drop i, l + 1 ≤ j) ⟨rfl, _, _, rfl, fun j hj => ?_⟩ ?_ ?_
  · have := (hr j (List.mem_of_mem_drop hj)).1; omega
  · rintro i x ρ S2 hi ⟨rfl, l, y, rfl, hl⟩
    obtain ⟨j, hj, rfl⟩ := map_of hi
    have m1 := hr j (mem_of hj)
    rw [drop_of hj] at hl
    have l1 := hl j (List.mem_cons_self ..)
    refine ⟨trivial, ?_⟩
    walk_at "vc"
    refine ⟨_, _, _, rfl, ?_⟩
    have e : (decide (l + 1 ≤ j) && decide (j ≤ m - 1)) = true := by simp; omega
    walk_at "vc"
    simp only [e]
    walk_at "vc"
    intro k hk
    have p := List.Pairwise.sublist (List.drop_sublist i ns) hp
    rw [drop_of hj, List.pairwise_cons] at p
    have := p.1 k hk
    omega
  · rintro ρ S2 ⟨rfl, l, y, rfl, hl⟩
    refine ⟨trivial, ?_⟩
    walk_at "vc"
    exact q
/-! what stays -/
def Agr (fp : List Addr) (S S' : Hs) : Prop := ∀ x o, S x = some o → x ∉ fp → S' x = some o
theorem Agr.refl {fp : List Addr} {S : Hs} : Agr fp S S := fun _ _ h _ => h
theorem Agr.trans {fp fq : List Addr} {S S1 S2 : Hs} (a : Agr fp S S1) (b : Agr fq S1 S2) (h : ∀ x ∈ fq, x ∈ fp ∨ S x = none) : Agr fp S S2 := fun x o e n => b x o (a x o e n) fun z => by
  rcases h x z with z | z
  · exact n z
  · rw [z] at e; cases e
theorem Agr.sup {fp : List Addr} {S S' : Hs} {a : Addr} {o : MO} (g : Agr fp S S') (h : a ∈ fp ∨ S a = none) : Agr fp S (sup S' a o) := fun x u e n => by
  have : x ≠ a := fun z => by
    subst z
    rcases h with h | h
    · exact n h
    · rw [h] at e; cases e
  rw [sup_ne this]
  exact g x u e n
def DiskP (A : Ad) (S : Hs) (a l w : Addr) (m : DM) : Prop := DiskAt A S a l w m
def sp_Disk_blocks (A : Ad) : DSp := fun ds S Q _ => ∃ a l w m, ds = [.ref a] ∧ DiskAt A S a l w m ∧ Q (.int m.lying.length) S
def sp_Disk_reached (A : Ad) : DSp := fun ds S Q _ => ∃ a l w m, ds = [.ref a] ∧ DiskAt A S a l w m ∧ Q (.int m.reached) S
def sp_Disk_check_block (A : Ad) : DSp := fun ds S Q _ => ∃ a l w m b, ds = [.ref a, .int b] ∧ DiskAt A S a l w m ∧ 0 ≤ b ∧ b < m.lying.length ∧ Q .non S
theorem v_Disk_blocks : VC n_Disk_blocks b_Disk_blocks { fns := [], cons := [], nob := n_Disk_blocks.nob, flds := [(A.Disk, "kept_lying")] } 1 (sp_Disk_blocks A) := by
  rintro ds S Q Y ⟨a, l, w, m, rfl, ⟨g1, g2, g3⟩, q⟩
  refine ⟨rfl, ?_⟩
  unfold b_Disk_blocks n_Disk_blocks
  walk_at "vs"
theorem v_Disk_reached : VC n_Disk_reached b_Disk_reached { fns := [], cons := [], nob := n_Disk_reached.nob, flds := [(A.Disk, "kept_reached")] } 1 (sp_Disk_reached A) := by
  rintro ds S Q Y ⟨a, l, w, m, rfl, ⟨g1, g2, g3⟩, q⟩
  refine ⟨rfl, ?_⟩
  unfold b_Disk_reached n_Disk_reached
  walk_at "vs"
theorem v_Disk_check_block : VC n_Disk_check_block b_Disk_check_block { fns := [("is_within", sp_is_within)], cons := [], nob := n_Disk_check_block.nob, flds := [(A.Disk, "kept_lying")], excs := [("NoBlock", A.NoBlock)] } 2 (sp_Disk_check_block A) := by
  rintro ds S Q Y ⟨a, l, w, m, b, rfl, ⟨g1, g2, g3⟩, h1, h2, q⟩
  refine ⟨rfl, ?_⟩
  unfold b_Disk_check_block n_Disk_check_block
  walk_at "vs"
  refine ⟨_, _, _, rfl, ?_⟩
  have e : (decide (0 ≤ b) && decide (b ≤ (m.lying.length : Int) - 1)) = true := by simp; omega
  rw [e]
  walk_at "vs"
/-! rows -/
theorem good_row {Bk : List Int} {B : Nat} {m : DM} (h : Good Bk B m) {b : Int} {v : D} (e : valD m.waits (.inl b) = some v) : ∃ r, v = .lst r ∧ r ≠ [] ∧ b ∈ Bk ∧ r.length ≤ B ∧ ∀ c ∈ r, Ct c := by
  unfold valD at e
  cases q : m.waits.find? (fun kv => decide (kv.1 = Sum.inl b)) with
  | none => rw [q] at e; cases e
  | some p =>
    rw [q] at e
    cases e
    have hm := List.mem_of_find?_eq_some q
    have hk := List.find?_some q
    obtain ⟨i, r, rfl, h1, h2, h3, h4⟩ := h.row p hm
    simp only [decide_eq_true_eq, Sum.inl.injEq] at hk
    subst hk
    exact ⟨r, rfl, h1, h2, h3, h4⟩
theorem rows_none {m : DM} {b : Int} (e : valD m.waits (.inl b) = none) : rowsAt m b = [] := by unfold rowsAt; rw [e]; rfl
theorem rows_some {m : DM} {b : Int} {r : List D} (e : valD m.waits (.inl b) = some (.lst r)) : rowsAt m b = r := by unfold rowsAt; rw [e]; rfl
def readM (m : DM) (b : Int) : D := ((rowsAt m b).getLast?).getD ((m.lying[b.toNat]?).getD .non)
theorem lie_at {m : DM} {b : Int} (h0 : 0 ≤ b) (h1 : b < m.lying.length) : ∃ c, m.lying[b.toNat]? = some c ∧ c ∈ m.lying ∧ atI m.lying b = some c := by
  obtain ⟨c, hc⟩ := get_lt (xs := m.lying) (i := b.toNat) (by omega)
  exact ⟨c, hc, mem_of hc, atI_i (i := b.toNat) (by omega) hc⟩
theorem last_at {r : List D} (h : r ≠ []) : ∃ c, r.getLast? = some c ∧ c ∈ r ∧ atI r (-1) = some c := by
  refine ⟨r.getLast h, List.getLast?_eq_some_getLast h, List.getLast_mem h, ?_⟩
  conv => lhs; rw [← List.dropLast_concat_getLast h]
  exact atI_last
def sp_Disk_read (A : Ad) : DSp := fun ds S Q _ => ∃ a l w m b Bk B, ds = [.ref a, .int b] ∧ DiskAt A S a l w m ∧ Good Bk B m ∧ 0 ≤ b ∧ b < m.lying.length ∧ Q (readM m b) S
def sp_Disk_lying (A : Ad) : DSp := fun ds S Q _ => ∃ a l w m b, ds = [.ref a, .int b] ∧ DiskAt A S a l w m ∧ 0 ≤ b ∧ b < m.lying.length ∧ Q ((m.lying[b.toNat]?).getD .non) S
theorem v_Disk_lying : VC n_Disk_lying b_Disk_lying { fns := [], cons := [], nob := n_Disk_lying.nob, flds := [(A.Disk, "kept_lying")], mths := [⟨"check_block", A.Disk, sp_Disk_check_block A⟩] } 2 (sp_Disk_lying A) := by
  rintro ds S Q Y ⟨a, l, w, m, b, rfl, hd, h1, h2, q⟩
  refine ⟨rfl, ?_⟩
  have ⟨g1, g2, g3⟩ := hd
  unfold b_Disk_lying n_Disk_lying
  walk_at "vs"
  refine ⟨a, l, w, m, b, rfl, hd, h1, h2, ?_⟩
  obtain ⟨c, e1, _, e2⟩ := lie_at h1 h2
  rw [e1] at q
  walk_at "vs"
  exact ixW_lat g2 e2 (ret_any q)
theorem v_Disk_read : VC n_Disk_read b_Disk_read { fns := [], cons := [], nob := n_Disk_read.nob, flds := [(A.Disk, "kept_lying"), (A.Disk, "kept_waiting")], mths := [⟨"check_block", A.Disk, sp_Disk_check_block A⟩] } 2 (sp_Disk_read A) := by
  rintro ds S Q Y ⟨a, l, w, m, b, Bk, B, rfl, hd, hg, h1, h2, q⟩
  refine ⟨rfl, ?_⟩
  have ⟨g1, g2, g3⟩ := hd
  unfold b_Disk_read n_Disk_read
  walk_at "vs"
  refine ⟨a, l, w, m, b, rfl, hd, h1, h2, ?_⟩
  walk_at "vs"
  refine ⟨_, inR_at g3 rfl, ?_⟩
  unfold readM at q
  cases e : valD m.waits (.inl b) with
  | none =>
    rw [rows_none e] at q
    obtain ⟨c, e1, _, e2⟩ := lie_at h1 h2
    rw [e1] at q
    have q : Q c S := q
    rw [if_neg (show ¬ (none : Option D).isSome = true by simp)]
    exact ixW_lat g2 e2 (ret_any q)
  | some v =>
    obtain ⟨r, rfl, hr, _⟩ := good_row hg e
    rw [rows_some e] at q
    obtain ⟨c, e1, _, e2⟩ := last_at hr
    rw [e1] at q
    rw [if_pos (show (some (D.lst r)).isSome = true from rfl)]
    refine ixW_dat g3 rfl e ?_
    walk_at "vc"
    exact ⟨c, e2, .inl q⟩
theorem merge_nd {κ : Type} [DecidableEq κ] : ∀ {b : List (κ × D)}, (b.map (·.1)).Nodup → mergeD [] b = b := by
  suffices h : ∀ (b a : List (κ × D)), ((a ++ b).map (·.1)).Nodup → mergeD a b = a ++ b from fun {b} hb => h b [] hb
  intro b
  induction b with
  | nil => intro a _; simp [mergeD]
  | cons p r ih =>
    intro a h
    have hk : p.1 ∉ a.map (·.1) := by
      rw [List.map_append, List.nodup_append] at h
      exact fun z => h.2.2 p.1 z p.1 (by simp) rfl
    have e : mergeD a (p :: r) = mergeD (putD a p.1 p.2) r := rfl
    rw [e, put_new hk, ih (a ++ [p]) (by simpa using h)]
    simp
theorem nodup_le {α : Type} [DecidableEq α] : ∀ {xs ys : List α}, xs.Nodup → (∀ x ∈ xs, x ∈ ys) → xs.length ≤ ys.length
  | [], _, _, _ => by simp
  | x :: r, ys, h, hs => by
    rw [List.nodup_cons] at h
    have hx := hs x (List.mem_cons_self ..)
    have ih := nodup_le (xs := r) (ys := ys.erase x) h.2 fun y hy => (List.mem_erase_of_ne (fun z : y = x => h.1 (by rw [← z]; exact hy))).mpr (hs y (List.mem_cons_of_mem _ hy))
    rw [List.length_erase_of_mem hx] at ih
    have := List.length_pos_of_mem hx
    rw [List.length_cons]
    omega
theorem good_keys {Bk : List Int} {B : Nat} {m : DM} (h : Good Bk B m) : ∃ ks : List Int, m.waits.map (·.1) = ks.map Sum.inl ∧ ks.Nodup ∧ ∀ k ∈ ks, k ∈ Bk := by
  have key : ∀ ws : List (Key × D), (∀ p ∈ ws, ∃ i r, p = (Sum.inl i, D.lst r) ∧ r ≠ [] ∧ i ∈ Bk ∧ r.length ≤ B ∧ ∀ c ∈ r, Ct c) → ∃ ks : List Int, ws.map (·.1) = ks.map Sum.inl ∧ ∀ k ∈ ks, k ∈ Bk := by
    intro ws
    induction ws with
    | nil => exact fun _ => ⟨[], rfl, by simp⟩
    | cons p r ih =>
      intro hh
      obtain ⟨ks, h1, h2⟩ := ih fun q hq => hh q (List.mem_cons_of_mem _ hq)
      obtain ⟨i, r', rfl, _, hi, _⟩ := hh p (List.mem_cons_self ..)
      exact ⟨i :: ks, by rw [List.map_cons, List.map_cons, h1], fun k hk => by
        rcases List.mem_cons.mp hk with rfl | hk
        · exact hi
        · exact h2 k hk⟩
  obtain ⟨ks, h1, h2⟩ := key m.waits h.row
  have nd := h.nd
  rw [h1] at nd
  exact ⟨ks, h1, (List.pairwise_map.mp nd).imp fun z e => z (by rw [e]), h2⟩
theorem good_len {Bk : List Int} {B : Nat} {m : DM} (h : Good Bk B m) : m.waits.length ≤ Bk.length := by
  obtain ⟨ks, h1, h2, h3⟩ := good_keys h
  have := congrArg List.length h1
  rw [List.length_map, List.length_map] at this
  rw [this]
  exact nodup_le h2 h3
theorem good_few {Bk : List Int} {B : Nat} {m : DM} (h : Good Bk B m) : m.waits.length < sizeLine := by
  have := good_len h
  have := h.few
  unfold sizeLine
  omega
def waitD (m : DM) : List (Key × D) := m.waits.map fun p => (p.1, D.int ((rowsOf (some p.2)).length : Nat))
def sp_Disk_waiting (A : Ad) : DSp := fun ds S Q _ => ∃ a l w m Bk B, ds = [.ref a] ∧ DiskAt A S a l w m ∧ Good Bk B m ∧ ∀ p, S p = none → Q (.ref p) (sup S p (.dK (waitD m)))
theorem v_Disk_waiting : VC n_Disk_waiting b_Disk_waiting { fns := [], cons := [], nob := n_Disk_waiting.nob, flds := [(A.Disk, "kept_waiting")] } 1 (sp_Disk_waiting A) := by
  rintro ds S Q Y ⟨a, l, w, m, Bk, B, rfl, hd, hg, q⟩
  refine ⟨rfl, ?_⟩
  have ⟨g1, g2, g3⟩ := hd
  unfold b_Disk_waiting n_Disk_waiting
  have g4 : a ≠ w := ne_kind g1 g3 (by simp)
  walk_at "vs"
  refine ⟨w, _, g3, _, rfl, ?_⟩
  walk_at "vs"
  refine ⟨_, sup_same, ?_⟩
  refine dcompK (fun p : Key × D => some (p.1, D.int ((rowsOf (some p.2)).length : Nat))) (good_few hg) (fun S2 h => h w _ sup_same) ?_ ?_
  · intro i v S2 K K' hx ext hy hn
    obtain ⟨i, r, rfl, _⟩ := hg.row v (mem_of hx)
    unfold keyD
    walk_at "vc"
    exact hy _ _ _ rfl rfl
  · intro L hL
    obtain ⟨n1, n2⟩ := none_sup hL
    refine ⟨by rw [sup_ne (Ne.symm n1), sup_same], ?_⟩
    rw [sup_3 (Ne.symm n1), sup_self g3]
    have e : mergeD [] (m.waits.filterMap fun p : Key × D => some (p.1, D.int ((rowsOf (some p.2)).length : Nat))) = waitD m := by
      rw [filterMap_all]
      exact merge_nd (by rw [List.map_map]; exact hg.nd)
    rw [e]
    exact ret_any (q L n2)
theorem rows_ne {Bk : List Int} {B : Nat} {m : DM} (h : Good Bk B m) {b : Int} (hr : rowsAt m b ≠ []) : ∃ r, valD m.waits (.inl b) = some (.lst r) ∧ rowsAt m b = r ∧ b ∈ Bk ∧ r.length ≤ B ∧ ∀ c ∈ r, Ct c := by
  cases e : valD m.waits (.inl b) with
  | none => exact (hr (rows_none e)).elim
  | some v =>
    obtain ⟨r, rfl, h1, h2, h3, h4⟩ := good_row h e
    exact ⟨r, rfl, rows_some e, h2, h3, h4⟩
def sp_Disk_reach_one (A : Ad) : DSp := fun ds S Q Y => ∃ a l w m b Bk B, ds = [.ref a, .int b] ∧ DiskAt A S a l w m ∧ Good Bk B m ∧ B ≤ 1000000 ∧ rowsAt m b ≠ [] ∧
  (m.power = some 0 → Y ⟨A.Stopped, none⟩ S) ∧ (m.power ≠ some 0 → ∀ S', DiskAt A S' a l w (reachM m b) → Agr [a, l, w] S S' → Q .non S')
theorem cut_tail {r : List D} : cutD r (some 1) none = r.drop 1 := by
  unfold cutD
  rw [HT.sIx_none]
  cases r with
  | nil => rfl
  | cons a r =>
    have : HT.sIx (a :: r).length 0 (some 1) = 1 := by
      have := HT.sIx_nat (n := (a :: r).length) (d := 0) (k := 1)
      simp at this
      exact this
    rw [this]
    simp
theorem v_Disk_reach_one : VC n_Disk_reach_one b_Disk_reach_one { fns := [], cons := [], nob := n_Disk_reach_one.nob, flds := [(A.Disk, "kept_waiting"), (A.Disk, "kept_reached"), (A.Disk, "kept_lying"), (A.Disk, "kept_power")], excs := [("Stopped", A.Stopped)] } 2 (sp_Disk_reach_one A) := by
  rintro ds S Q Y ⟨a, l, w, m, b, Bk, B, rfl, hd, hg, hB, hr, qs, q⟩
  refine ⟨rfl, ?_⟩
  have ⟨g1, g2, g3⟩ := hd
  obtain ⟨r, e, er, hb, hl, hc⟩ := rows_ne hg hr
  rw [er] at hr
  obtain ⟨c, r, rfl⟩ : ∃ c r0, r = c :: r0 := by cases r with
    | nil => exact (hr rfl).elim
    | cons c r0 => exact ⟨c, r0, rfl⟩
  have hbb := hg.blk b hb
  have g4 : a ≠ w := ne_kind g1 g3 (by simp)
  have g5 : a ≠ l := ne_kind g1 g2 (by simp)
  have g6 : l ≠ w := ne_kind g2 g3 (by simp)
  have hw := good_few hg
  have fin : m.power ≠ some 0 → ∀ S', S' a = some (.ins A.Disk [("kept_lying", .ref l), ("kept_waiting", .ref w), ("kept_power", pD (m.power.map (· - 1))), ("kept_reached", .int (m.reached + 1))]) → S' l = some (.lst (m.lying.set b.toNat c)) →
      S' w = some (.dK (if r.length > 0 then putD (dropD m.waits (.inl b)) (.inl b) (.lst r) else dropD m.waits (.inl b))) → Agr [a, l, w] S S' → Q .non S' := fun hp S' h1 h2 h3 h4 => q hp S' ⟨h1, by rw [h2]; unfold reachM; rw [er]; rfl, by rw [h3]; unfold reachM; rw [er]; simp⟩ h4
  clear q
  unfold b_Disk_reach_one n_Disk_reach_one
  have ib : ixN m.lying.length b = some b.toNat := by
    have := ixN_nat (n := m.lying.length) (j := b.toNat) (by omega)
    rwa [show ((b.toNat : Nat) : Int) = b by omega] at this
  cases hp : m.power
  case' none =>
    simp only [hp, pD, Option.map_none, ne_eq, reduceCtorEq, not_false_eq_true, forall_const] at g1 fin
    walk_at "vs"
    obtain ⟨S1, k0, k1, k2, k3, k4⟩ : ∃ S1, S = S1 ∧ S1 a = S a ∧ S1 l = S l ∧ S1 w = S w ∧ Agr [a, l, w] S S1 := ⟨S, rfl, rfl, rfl, rfl, Agr.refl⟩
    replace k1 := k1.trans g1
    replace k2 := k2.trans g2
    replace k3 := k3.trans g3
    conv => rw [k0]
    clear g1 g2 g3 hd k0
    generalize hpw : D.non = pw at k1 fin
  case' some p =>
    simp only [hp, pD, Option.map_some, ne_eq, Option.some.injEq] at g1 fin qs
    walk_at "vs"
    split
    · rename_i h0
      exact qs h0
    rename_i h0
    have fin := fin h0
    have k4 : Agr [a, l, w] S (sup S a (.ins A.Disk [("kept_lying", D.ref l), ("kept_waiting", D.ref w), ("kept_power", D.int (p - 1)), ("kept_reached", D.int m.reached)])) := Agr.refl.sup (.inl (by simp))
    have k1 : sup S a (.ins A.Disk [("kept_lying", D.ref l), ("kept_waiting", D.ref w), ("kept_power", D.int (p - 1)), ("kept_reached", D.int m.reached)]) a = _ := sup_same
    have k2 : sup S a (.ins A.Disk [("kept_lying", D.ref l), ("kept_waiting", D.ref w), ("kept_power", D.int (p - 1)), ("kept_reached", D.int m.reached)]) l = _ := (sup_ne (Ne.symm g5)).trans g2
    have k3 : sup S a (.ins A.Disk [("kept_lying", D.ref l), ("kept_waiting", D.ref w), ("kept_power", D.int (p - 1)), ("kept_reached", D.int m.reached)]) w = _ := (sup_ne (Ne.symm g4)).trans g3
    clear g1 g2 g3 hd
    generalize hpw : D.int (p - 1) = pw at *
    generalize sup S a (.ins A.Disk [("kept_lying", D.ref l), ("kept_waiting", D.ref w), ("kept_power", pw), ("kept_reached", D.int m.reached)]) = S1 at *
  all_goals
    refine ⟨tyD_at k3 rfl (by simp), pop1_at k3 rfl e ?_⟩
    have k5 := hpw
    clear hpw
    walk_at "vs"
    refine setW_lat (j := b.toNat) ((sup_ne g6).trans k2) ib ?_
    walk_at "vs"
    have f1 : ∀ v, sup (sup (sup S1 w v) l (.lst (m.lying.set b.toNat c))) a (.ins A.Disk [("kept_lying", D.ref l), ("kept_waiting", D.ref w), ("kept_power", pw), ("kept_reached", D.int (m.reached + 1))]) a = _ := fun v => sup_same
    have f2 : ∀ v, sup (sup (sup S1 w v) l (.lst (m.lying.set b.toNat c))) a (.ins A.Disk [("kept_lying", D.ref l), ("kept_waiting", D.ref w), ("kept_power", pw), ("kept_reached", D.int (m.reached + 1))]) l = _ := fun v => (sup_ne (Ne.symm g5)).trans sup_same
    have f3 : ∀ v, sup (sup (sup S1 w v) l (.lst (m.lying.set b.toNat c))) a (.ins A.Disk [("kept_lying", D.ref l), ("kept_waiting", D.ref w), ("kept_power", pw), ("kept_reached", D.int (m.reached + 1))]) w = _ := fun v => (sup_ne (Ne.symm g4)).trans ((sup_ne (Ne.symm g6)).trans sup_same)
    have f4 : ∀ v, Agr [a, l, w] S (sup (sup (sup S1 w v) l (.lst (m.lying.set b.toNat c))) a (.ins A.Disk [("kept_lying", D.ref l), ("kept_waiting", D.ref w), ("kept_power", pw), ("kept_reached", D.int (m.reached + 1))])) := fun v => ((k4.sup (.inl (by simp))).sup (.inl (by simp))).sup (.inl (by simp))
    have dl : (dropD m.waits (Sum.inl b)).length < sizeLine := Nat.lt_of_le_of_lt (List.length_filter_le ..) hw
    split
    · rename_i hr1
      refine newL_f ?_
      rw [cut_tail]
      walk_at "vs"
      refine setW_dat (f3 _) rfl dl ?_
      refine fin _ ((sup_ne g4).trans (f1 _)) ((sup_ne g6).trans (f2 _)) ?_ (Agr.sup (f4 _) (a := w) (.inl (by simp)))
      rw [sup_same, if_pos (by omega)]
      rfl
    · rename_i hr1
      refine fin _ (f1 _) (f2 _) ?_ (f4 _)
      rw [f3, if_neg (by omega)]
def sp_Disk_reach (A : Ad) : DSp := fun ds S Q Y => ∃ a l w m b Bk B, ds = [.ref a, .int b] ∧ DiskAt A S a l w m ∧ Good Bk B m ∧ B ≤ 1000000 ∧ (0 ≤ b ∧ b < m.lying.length) ∧ (rowsAt m b = [] → Y ⟨A.NothingWaits, none⟩ S) ∧ (rowsAt m b ≠ [] →
  (m.power = some 0 → Y ⟨A.Stopped, none⟩ S) ∧ (m.power ≠ some 0 → ∀ S', DiskAt A S' a l w (reachM m b) → Agr [a, l, w] S S' → Q .non S'))
theorem reach_ne {ds : List D} {S : Hs} {Q : QD} {Y : XQ} (h : ∃ a l w m b Bk B, ds = [.ref a, .int b] ∧ DiskAt A S a l w m ∧ Good Bk B m ∧ B ≤ 1000000 ∧ rowsAt m b ≠ [] ∧
  (m.power = some 0 → Y ⟨A.Stopped, none⟩ S) ∧ (m.power ≠ some 0 → ∀ S', DiskAt A S' a l w (reachM m b) → Agr [a, l, w] S S' → Q .non S')) : sp_Disk_reach A ds S Q Y := by
  obtain ⟨a, l, w, m, b, Bk, B, e, hd, hg, hB, hr, qs, q⟩ := h
  obtain ⟨r, _, _, hb, _⟩ := rows_ne hg hr
  exact ⟨a, l, w, m, b, Bk, B, e, hd, hg, hB, hg.blk b hb, fun z => (hr z).elim, fun _ => ⟨qs, q⟩⟩
theorem v_Disk_reach : VC n_Disk_reach b_Disk_reach { fns := [], cons := [], nob := n_Disk_reach.nob, flds := [(A.Disk, "kept_waiting")], mths := [⟨"reach_one", A.Disk, sp_Disk_reach_one A⟩, ⟨"check_block", A.Disk, sp_Disk_check_block A⟩], excs := [("NothingWaits", A.NothingWaits)] } 2 (sp_Disk_reach A) := by
  rintro ds S Q Y ⟨a, l, w, m, b, Bk, B, rfl, hd, hg, hB, hbb, qn, qq⟩
  refine ⟨rfl, ?_⟩
  have ⟨g1, g2, g3⟩ := hd
  unfold b_Disk_reach n_Disk_reach
  walk_at "vs"
  refine ⟨a, l, w, m, b, rfl, hd, hbb.1, hbb.2, ?_⟩
  walk_at "vs"
  refine ⟨_, inR_at g3 rfl, ?_⟩
  by_cases hr : rowsAt m b = []
  · have en : valD m.waits (.inl b) = none := by
      cases e : valD m.waits (.inl b) with
      | none => rfl
      | some v =>
        obtain ⟨r, rfl, hne, _⟩ := good_row hg e
        rw [rows_some e] at hr
        exact (hne hr).elim
    rw [en]
    have qn := qn hr
    walk_at "vs"
  obtain ⟨qs, q⟩ := qq hr
  obtain ⟨r, e, er, hb, _⟩ := rows_ne hg hr
  rw [e]
  walk_at "vs"
  exact ⟨a, l, w, m, b, Bk, B, rfl, hd, hg, hB, hr, qs, q⟩
/-! runs of writes that reach -/
theorem rows_reach_same {m : DM} {b : Int} : rowsAt (reachM m b) b = (rowsAt m b).drop 1 := by
  unfold reachM
  by_cases h : (rowsAt m b).length > 1
  · rw [if_pos h]
    show rowsOf (valD (putD _ _ _) _) = _
    rw [val_put_same]
    rfl
  · rw [if_neg h]
    show rowsOf (valD (dropD _ _) _) = _
    rw [val_drop_same]
    have : (rowsAt m b).drop 1 = [] := List.drop_eq_nil_of_le (by omega)
    rw [this]
    rfl
theorem rows_reach_ne {m : DM} {b j : Int} (n : j ≠ b) : rowsAt (reachM m b) j = rowsAt m j := by
  have n' : (Sum.inl j : Key) ≠ .inl b := fun e => n (by cases e; rfl)
  have e : valD (reachM m b).waits (.inl j) = valD m.waits (.inl j) := by
    unfold reachM
    simp only
    split
    · rw [val_put_ne n', val_drop_ne n']
    · rw [val_drop_ne n']
  unfold rowsAt
  rw [e]
theorem good_reach {Bk : List Int} {B : Nat} {m : DM} (h : Good Bk B m) {b : Int} (hr : rowsAt m b ≠ []) (hp : m.power ≠ some 0) : Good Bk B (reachM m b) := by
  obtain ⟨r, e, er, hb, hl, hc⟩ := rows_ne h hr
  refine ⟨fun p hpm => ?_, ?_, fun c hcm => ?_, fun i hi => ?_, h.few, ?_, fun p hpp => ?_⟩
  · have old : ∀ p ∈ dropD m.waits (.inl b), ∃ i r, p = (Sum.inl i, D.lst r) ∧ r ≠ [] ∧ i ∈ Bk ∧ r.length ≤ B ∧ ∀ c ∈ r, Ct c := fun p hp => h.row p (mem_drop hp).1
    unfold reachM at hpm
    simp only at hpm
    split at hpm
    · rename_i h1
      rcases mem_put hpm with rfl | ⟨hpm, _⟩
      · refine ⟨b, _, rfl, ?_, hb, ?_, fun c hcm => ?_⟩
        · intro z
          have := congrArg List.length z
          rw [List.length_drop] at this
          simp at this
          omega
        · rw [List.length_drop, er]; omega
        · rw [er] at hcm
          exact hc c (List.mem_of_mem_drop hcm)
      · exact old p hpm
    · exact old p hpm
  · unfold reachM
    simp only
    split
    · exact nd_put (nd_drop h.nd)
    · exact nd_drop h.nd
  · unfold reachM at hcm
    simp only at hcm
    rw [er] at hcm hr
    cases r with
    | nil => exact (hr rfl).elim
    | cons c0 r0 =>
      rcases List.mem_or_eq_of_mem_set hcm with z | z
      · exact h.lie c z
      · rw [z]; exact hc c0 (List.mem_cons_self ..)
  · unfold reachM
    simp only [List.length_set]
    exact h.blk i hi
  · unfold reachM
    simp only [List.length_set]
    exact h.len
  · unfold reachM at hpp
    simp only at hpp
    cases hq : m.power with
    | none => rw [hq] at hpp; cases hpp
    | some q =>
      rw [hq] at hpp hp
      cases hpp
      have h1 := h.pow q hq
      have h2 : q ≠ 0 := fun z => hp (by rw [z])
      show (0 : Int) ≤ q - 1
      omega
def runB : Nat → DM → Int → DM × Bool
  | 0, m, _ => (m, true)
  | n + 1, m, b => if rowsAt m b = [] then (m, true) else if m.power = some 0 then (m, false) else runB n (reachM m b) b
def forceM : List Int → DM → DM × Bool
  | [], m => (m, true)
  | b :: r, m => if (runB (rowsAt m b).length m b).2 = true then forceM r (runB (rowsAt m b).length m b).1 else ((runB (rowsAt m b).length m b).1, false)
def sp_Disk_force (A : Ad) : DSp := fun ds S Q Y => ∃ a l w m ns Bk B, ds = [.ref a, .tup (iD ns)] ∧ DiskAt A S a l w m ∧ Good Bk B m ∧ B ≤ 1000000 ∧ ns.length ≤ 1000000 ∧ ns.Pairwise (· < ·) ∧ (∀ n ∈ ns, 0 ≤ n ∧ n < m.lying.length) ∧
  ∀ S', DiskAt A S' a l w (forceM ns m).1 → Agr [a, l, w] S S' → if (forceM ns m).2 = true then Q .non S' else Y ⟨A.Stopped, none⟩ S'
theorem v_Disk_force : VC n_Disk_force b_Disk_force { fns := [("is_lot", sp_is_lot)], cons := [], nob := n_Disk_force.nob, flds := [(A.Disk, "kept_waiting"), (A.Disk, "kept_lying")], mths := [⟨"reach_one", A.Disk, sp_Disk_reach_one A⟩], excs := [("NoBlock", A.NoBlock)] } 2 (sp_Disk_force A) := by
  rintro ds S Q Y ⟨a, l, w, m, ns, Bk, B, rfl, hd, hg, hB, hl, hp, hr, q⟩
  refine ⟨rfl, ?_⟩
  have ⟨g1, g2, g3⟩ := hd
  unfold b_Disk_force n_Disk_force
  walk_at "vs"
  refine ⟨ns, _, rfl, hl, hp, hr, ?_⟩
  walk_at "vs"
  refine for_inv (fun i ρ S2 => ∃ m2 x, ρ = [some (D.ref a), some (D.tup (iD ns)), x] ∧ DiskAt A S2 a l w m2 ∧ Good Bk B m2 ∧ Agr [a, l, w] S S2 ∧ forceM ns m = forceM (ns.drop i) m2) ⟨m, _, rfl, hd, hg, Agr.refl, rfl⟩ ?_ ?_
  · rintro i x ρ S2 hi ⟨m2, x', rfl, hd2, hg2, ag, hf⟩
    obtain ⟨b, hb, rfl⟩ := map_of hi
    rw [drop_of hb] at hf
    refine ⟨trivial, ?_⟩
    walk_at "vc"
    unfold WhilK
    refine ⟨fun n ρ S3 => ∃ m3, ρ = [some (D.ref a), some (D.tup (iD ns)), some (D.int b)] ∧ DiskAt A S3 a l w m3 ∧ Good Bk B m3 ∧ Agr [a, l, w] S S3 ∧ (rowsAt m3 b).length = n ∧ runB (rowsAt m2 b).length m2 b = runB n m3 b, ⟨_, m2, rfl, hd2, hg2, ag, rfl, rfl⟩, ?_⟩
    rintro n ρ S3 ⟨m3, rfl, hd3, hg3, ag3, hn, hrun⟩
    have ⟨k1, k2, k3⟩ := hd3
    walk_at "vs"
    refine ⟨_, inR_at k3 rfl, ?_⟩
    cases e : valD m3.waits (.inl b) with
    | none =>
      rw [if_neg (show ¬ (none : Option D).isSome = true by simp)]
      have er := rows_none e
      rw [er] at hn
      subst hn
      refine ⟨m3, hd3, hg3, ?_⟩
      rw [forceM, hrun]
      rfl
    | some v =>
      obtain ⟨r, rfl, hne, hb3, hl3, _⟩ := good_row hg3 e
      have er := rows_some e
      have hne3 : rowsAt m3 b ≠ [] := by rw [er]; exact hne
      rw [if_pos (show (some (D.lst r)).isSome = true from rfl)]
      obtain ⟨k, rfl⟩ : ∃ k, n = k + 1 := ⟨n - 1, by have := List.length_pos_iff.mpr hne3; omega⟩
      have run1 : runB (k + 1) m3 b = if m3.power = some 0 then (m3, false) else runB k (reachM m3 b) b := by
        rw [runB, if_neg hne3]
      refine ⟨a, l, w, m3, b, Bk, B, rfl, hd3, hg3, hB, hne3, fun h0 => ?_, fun h0 S4 hd4 ag4 => ?_⟩
      · have e2 : forceM ns m = (m3, false) := by
          rw [hf, forceM, hrun, run1, if_pos h0]
          rfl
        have := q S3 (by rw [e2]; exact hd3) ag3
        rw [e2] at this
        exact this
      · refine ⟨k, by omega, reachM m3 b, hd4, good_reach hg3 hne3 h0, ag3.trans ag4 fun x hx => .inl hx, ?_, ?_⟩
        · rw [rows_reach_same, List.length_drop]; omega
        · rw [run1, if_neg h0]
  · rintro ρ S2 ⟨m2, x', rfl, hd2, hg2, ag, hf⟩
    refine ⟨trivial, ?_⟩
    walk_at "vc"
    rw [len_iD, List.drop_length] at hf
    have := q S2 (by rw [hf]; exact hd2) ag
    rw [hf] at this
    exact this
/-! the rest of the disk -/
def keysI (m : DM) : List Int := m.waits.filterMap fun p => match p.1 with
  | .inl i => some i
  | _ => none
theorem keysI_of {m : DM} {ks : List Int} (h : m.waits.map (·.1) = ks.map Sum.inl) : keysI m = ks := by
  unfold keysI
  have key : ∀ (ws : List (Key × D)) (ks : List Int), ws.map (·.1) = ks.map Sum.inl → (ws.filterMap fun p => match p.1 with
      | .inl i => some i
      | _ => none) = ks := by
    intro ws
    induction ws with
    | nil => intro ks h; cases ks with
      | nil => rfl
      | cons => cases h
    | cons p r ih =>
      intro ks h
      cases ks with
      | nil => cases h
      | cons k t =>
        rw [List.map_cons, List.map_cons, List.cons.injEq] at h
        rw [List.filterMap_cons, h.1]
        simp only
        rw [ih t h.2]
  exact key _ _ h
def sp_Disk_calm (A : Ad) : DSp := fun ds S Q Y => ∃ a l w m Bk B, ds = [.ref a] ∧ DiskAt A S a l w m ∧ Good Bk B m ∧ B ≤ 1000000 ∧
  ∀ S', DiskAt A S' a l w (forceM (sortI (keysI m)) m).1 → Agr [a, l, w] S S' → if (forceM (sortI (keysI m)) m).2 = true then Q .non S' else Y ⟨A.Stopped, none⟩ S'
theorem keys_ok {Bk : List Int} {B : Nat} {m : DM} (hg : Good Bk B m) : m.waits.map (·.1) = (keysI m).map Sum.inl ∧ (keysI m).Nodup ∧ (∀ k ∈ keysI m, k ∈ Bk) ∧ (keysI m).length ≤ 400 := by
  obtain ⟨ks, h1, h2, h3⟩ := good_keys hg
  rw [keysI_of h1]
  exact ⟨h1, h2, h3, Nat.le_trans (nodup_le h2 h3) hg.few⟩
theorem v_Disk_calm : VC n_Disk_calm b_Disk_calm { fns := [], cons := [], nob := n_Disk_calm.nob, flds := [(A.Disk, "kept_waiting")], mths := [⟨"force", A.Disk, sp_Disk_force A⟩] } 1 (sp_Disk_calm A) := by
  rintro ds S Q Y ⟨a, l, w, m, Bk, B, rfl, hd, hg, hB, q⟩
  refine ⟨rfl, ?_⟩
  have ⟨g1, g2, g3⟩ := hd
  obtain ⟨k1, k2, k3, k4⟩ := keys_ok hg
  unfold b_Disk_calm n_Disk_calm
  walk_at "vc"
  rw [g1]
  walk_at "vc"
  refine .inr (.inr (.inr ⟨w, m.waits, keysI m, rfl, .inl g3, k1, by omega, newL_f ?_⟩))
  walk_at "vc"
  refine ⟨a, l, w, m, sortI (keysI m), Bk, B, rfl, hd, hg, hB, by rw [sort_len]; omega, sort_lt k2, fun n hn => hg.blk n (k3 n (sort_mem.mp hn)), q⟩
def sp_Disk_power (A : Ad) : DSp := fun ds S Q _ => ∃ a l w m p, ds = [.ref a, pD p] ∧ DiskAt A S a l w m ∧ (∀ i, p = some i → 0 ≤ i ∧ i ≤ 1000000) ∧ ∀ S', DiskAt A S' a l w { m with power := p } → Agr [a, l, w] S S' → Q .non S'
theorem v_Disk_power : VC n_Disk_power b_Disk_power { fns := [("is_within", sp_is_within)], cons := [("MOST_POWER", .int 1000000)], nob := n_Disk_power.nob, flds := [(A.Disk, "kept_power")], excs := [("NoNumber", A.NoNumber)] } 2 (sp_Disk_power A) := by
  rintro ds S Q Y ⟨a, l, w, m, p, rfl, ⟨g1, g2, g3⟩, hp, q⟩
  refine ⟨rfl, ?_⟩
  have g4 : a ≠ w := ne_kind g1 g3 (by simp)
  have g5 : a ≠ l := ne_kind g1 g2 (by simp)
  have fin : Q .non (sup S a (.ins A.Disk [("kept_lying", .ref l), ("kept_waiting", .ref w), ("kept_power", pD p), ("kept_reached", .int m.reached)])) := q _ ⟨sup_same, (sup_ne (Ne.symm g5)).trans g2, (sup_ne (Ne.symm g4)).trans g3⟩ (Agr.sup Agr.refl (.inl (by simp)))
  unfold b_Disk_power n_Disk_power
  cases p with
  | none =>
    unfold pD at fin ⊢
    clear q
    walk_at "vs"
  | some i =>
    obtain ⟨h1, h2⟩ := hp i rfl
    unfold pD at fin ⊢
    clear q
    walk_at "vs"
    refine ⟨_, _, _, rfl, ?_⟩
    rw [show (decide (0 ≤ i) && decide (i ≤ 1000000)) = true by simp; omega]
    walk_at "vs"
def sp_Disk_cut (A : Ad) : DSp := fun ds S Q _ => ∃ a l w m, ds = [.ref a] ∧ DiskAt A S a l w m ∧ ∀ S' w', S w' = none → DiskAt A S' a l w' (cutM m) → Agr [a, l, w] S S' → Q .non S'
theorem v_Disk_cut : VC n_Disk_cut b_Disk_cut { fns := [], cons := [], nob := n_Disk_cut.nob, flds := [(A.Disk, "kept_power"), (A.Disk, "kept_waiting")] } 1 (sp_Disk_cut A) := by
  rintro ds S Q Y ⟨a, l, w, m, rfl, ⟨g1, g2, g3⟩, q⟩
  refine ⟨rfl, ?_⟩
  have g5 : a ≠ l := ne_kind g1 g2 (by simp)
  unfold b_Disk_cut n_Disk_cut
  walk_at "vc"
  refine .inl fun y hy => ?_
  have n1 : a ≠ y := sne g1 hy
  have n2 : l ≠ y := sne g2 hy
  have fin : Q .non (sup (sup S y (.dK [])) a (.ins A.Disk [("kept_lying", .ref l), ("kept_waiting", .ref y), ("kept_power", .non), ("kept_reached", .int m.reached)])) := q _ y hy ⟨sup_same, (sup_ne (Ne.symm g5)).trans ((sup_ne n2).trans g2), (sup_ne (Ne.symm n1)).trans sup_same⟩ (Agr.sup (Agr.sup Agr.refl (.inr hy)) (.inl (by simp)))
  clear q
  walk_at "vs"
theorem good_cut {Bk : List Int} {B : Nat} {m : DM} (h : Good Bk B m) : Good Bk B (cutM m) := ⟨by simp [cutM], by simp [cutM], h.lie, h.blk, h.few, h.len, by simp [cutM]⟩
def sp_Disk_write (A : Ad) : DSp := fun ds S Q _ => ∃ a l w m b c Bk B, ds = [.ref a, .int b, c] ∧ DiskAt A S a l w m ∧ Good Bk B m ∧ B ≤ 1000000 ∧ b ∈ Bk ∧ Ct c ∧ ∀ S', DiskAt A S' a l w (writeM m b c) → Agr [a, l, w] S S' → Q .non S'
theorem rows_len {Bk : List Int} {B : Nat} {m : DM} (h : Good Bk B m) (b : Int) : (rowsAt m b).length ≤ B := by
  by_cases hr : rowsAt m b = []
  · rw [hr]; simp
  · obtain ⟨r, _, e, _, hl, _⟩ := rows_ne h hr
    rw [e]; exact hl
theorem getD_rows {Bk : List Int} {B : Nat} {m : DM} (h : Good Bk B m) (b : Int) : (valD m.waits (.inl b)).getD (.lst []) = .lst (rowsAt m b) := by
  cases e : valD m.waits (.inl b) with
  | none => rw [rows_none e]; rfl
  | some v =>
    obtain ⟨r, rfl, _⟩ := good_row h e
    rw [rows_some e]; rfl
theorem v_Disk_write : VC n_Disk_write b_Disk_write { fns := [("are_items", sp_are_items)], cons := [("MOST_ITEMS", .int 40)], nob := n_Disk_write.nob, flds := [(A.Disk, "kept_waiting")], mths := [⟨"check_block", A.Disk, sp_Disk_check_block A⟩], excs := [("NoContent", A.NoContent)] } 3 (sp_Disk_write A) := by
  rintro ds S Q Y ⟨a, l, w, m, b, c, Bk, B, rfl, hd, hg, hB, hb, ⟨xs, rfl, hx, hi⟩, q⟩
  refine ⟨rfl, ?_⟩
  have ⟨g1, g2, g3⟩ := hd
  have g4 : a ≠ w := ne_kind g1 g3 (by simp)
  have g6 : l ≠ w := ne_kind g2 g3 (by simp)
  have hbb := hg.blk b hb
  have hrl := rows_len hg b
  unfold b_Disk_write n_Disk_write
  walk_at "vs"
  refine ⟨a, l, w, m, b, rfl, hd, hbb.1, hbb.2, xs, _, rfl, by omega, by omega, hi, ?_⟩
  walk_at "vs"
  refine ⟨tyD_at g3 rfl (by simp), newL_f (get2_at g3 rfl ?_)⟩
  rw [getD_rows hg b]
  refine newL_f ?_
  walk_at "vs"
  refine ⟨by unfold sizeLine; omega, newL_f ?_⟩
  walk_at "vs"
  refine setW_dat g3 rfl (good_few hg) (q _ ⟨(sup_ne g4).trans g1, (sup_ne g6).trans g2, sup_same⟩ (Agr.sup Agr.refl (.inl (by simp))))
theorem rows_write_same {m : DM} {b : Int} {c : D} : rowsAt (writeM m b c) b = rowsAt m b ++ [c] := by
  unfold writeM
  show rowsOf (valD (putD _ _ _) _) = _
  rw [val_put_same]
  rfl
theorem rows_write_ne {m : DM} {b j : Int} {c : D} (n : j ≠ b) : rowsAt (writeM m b c) j = rowsAt m j := by
  have n' : (Sum.inl j : Key) ≠ .inl b := fun e => n (by cases e; rfl)
  unfold rowsAt writeM
  simp only [val_put_ne n']
theorem good_write {Bk : List Int} {B : Nat} {m : DM} (h : Good Bk B m) {b : Int} {c : D} (hb : b ∈ Bk) (hc : Ct c) : Good Bk (B + 1) (writeM m b c) := by
  have hrl := rows_len h b
  have hrc : ∀ x ∈ rowsAt m b, Ct x := fun x hx => by
    by_cases hr : rowsAt m b = []
    · rw [hr] at hx; cases hx
    · obtain ⟨r, _, e, _, _, h4⟩ := rows_ne h hr
      rw [e] at hx
      exact h4 x hx
  refine ⟨fun p hp => ?_, nd_put h.nd, h.lie, h.blk, h.few, h.len, h.pow⟩
  rcases mem_put hp with rfl | ⟨hp, _⟩
  · refine ⟨b, _, rfl, by simp, hb, by simp; omega, fun x hx => ?_⟩
    rcases List.mem_append.mp hx with hx | hx
    · exact hrc x hx
    · rw [List.mem_singleton.mp hx]; exact hc
  · obtain ⟨i, r, e, h1, h2, h3, h4⟩ := h.row p hp
    exact ⟨i, r, e, h1, h2, by omega, h4⟩
def newM (n : Nat) : DM := ⟨List.replicate n (.tup []), [], none, 0⟩
def sp_Disk___init__ (A : Ad) : DSp := fun ds S Q _ => ∃ a n, ds = [.ref a, .int (n : Nat)] ∧ S a = some (.ins A.Disk []) ∧ 16 ≤ n ∧ n ≤ 600 ∧ ∀ S' l w, S l = none → S w = none → DiskAt A S' a l w (newM n) → Agr [a] S S' → Q .non S'
theorem v_Disk___init__ : VC n_Disk___init__ b_Disk___init__ { fns := [("is_within", sp_is_within)], cons := [("MOST_BLOCKS", .int 600), ("LEAST_BLOCKS", .int 16)], nob := n_Disk___init__.nob, flds := [(A.Disk, "kept_reached"), (A.Disk, "kept_power"), (A.Disk, "kept_waiting"), (A.Disk, "kept_lying")], excs := [("BadDisk", A.BadDisk)] } 2 (sp_Disk___init__ A) := by
  rintro ds S Q Y ⟨a, n, rfl, g1, h1, h2, q⟩
  refine ⟨rfl, ?_⟩
  unfold b_Disk___init__ n_Disk___init__
  walk_at "vc"
  refine ⟨_, _, _, rfl, ?_⟩
  rw [show (decide ((16 : Int) ≤ (n : Nat)) && decide (((n : Nat) : Int) ≤ 600)) = true by simp; omega]
  walk_at "vc"
  refine ⟨by omega, by omega, ?_⟩
  unfold rngD
  refine compL (fun _ => some (.tup [])) (by simp [sizeLine]; omega) (fun _ _ => trivial) ?_ ?_
  · intro i v S2 K K' hx _ hy hn
    walk_at "vc"
    exact hy _ rfl
  · intro L hL
    have n1 : a ≠ L := sne g1 hL
    have er : (List.range ((n : Int)).toNat).filterMap (fun _ => some (D.tup [])) = List.replicate n (.tup []) := by
      rw [filterMap_all, List.map_const', List.length_range]
      simp
    rw [er]
    walk_at "vs"
    refine .inl fun y hy => ?_
    obtain ⟨m1, m2⟩ := none_sup hy
    obtain ⟨m3, m4⟩ := none_sup m2
    have m5 : a ≠ y := Ne.symm m1
    have fin : Q .non (sup (sup (sup S L (.lst (List.replicate n (.tup [])))) a (.ins A.Disk [("kept_lying", .ref L), ("kept_waiting", .ref y), ("kept_power", .non), ("kept_reached", .int 0)])) y (.dK [])) := by
      refine q _ L y hL m4 ⟨(sup_ne m5).trans sup_same, (sup_ne (Ne.symm m3)).trans ((sup_ne (Ne.symm n1)).trans sup_same), sup_same⟩ ?_
      exact Agr.sup (Agr.sup (Agr.sup Agr.refl (.inr hL)) (.inl (by simp))) (.inr m4)
    clear q
    walk_at "vs"
end W
namespace W
open PySem L2 Dz
variable {A : Ad}
/-! the law's own book -/
abbrev bkD (l w p r : D) : List (Key × D) := [(.inr "lying", l), (.inr "waits", w), (.inr "power", p), (.inr "reached", r)]
section
variable {l w p r z : D}
theorem bk_l : valD [((.inr "lying" : Key), l), (.inr "waits", w), (.inr "power", p), (.inr "reached", r)] (.inr "lying") = some l := rfl
theorem bk_w : valD [((.inr "lying" : Key), l), (.inr "waits", w), (.inr "power", p), (.inr "reached", r)] (.inr "waits") = some w := rfl
theorem bk_p : valD [((.inr "lying" : Key), l), (.inr "waits", w), (.inr "power", p), (.inr "reached", r)] (.inr "power") = some p := rfl
theorem bk_r : valD [((.inr "lying" : Key), l), (.inr "waits", w), (.inr "power", p), (.inr "reached", r)] (.inr "reached") = some r := rfl
theorem pk_w : putD [((.inr "lying" : Key), l), (.inr "waits", w), (.inr "power", p), (.inr "reached", r)] (.inr "waits") z = [(.inr "lying", l), (.inr "waits", z), (.inr "power", p), (.inr "reached", r)] := rfl
theorem pk_p : putD [((.inr "lying" : Key), l), (.inr "waits", w), (.inr "power", p), (.inr "reached", r)] (.inr "power") z = [(.inr "lying", l), (.inr "waits", w), (.inr "power", z), (.inr "reached", r)] := rfl
theorem pk_r : putD [((.inr "lying" : Key), l), (.inr "waits", w), (.inr "power", p), (.inr "reached", r)] (.inr "reached") z = [(.inr "lying", l), (.inr "waits", w), (.inr "power", p), (.inr "reached", z)] := rfl
end
theorem lt_line4 : (4 < sizeLine) = True := eq_true (by decide)
local macro_rules | `(tactic| walk_at "vc") => `(tactic| try simp only [wE_var, wE_int, wE_str, wE_bl, wE_non, wE_glob, wE_b2, wE_neg, wE_cm, wE_ch, wE_not, wE_and, wE_or, wE_ife, wE_tup, wE_lst, wE_ix, wE_sl, wE_rev, wE_bi, wE_isi, wE_call, wE_bm, wE_comp, wE_call0, wE_fld, wE_mt, wE_mk, wE_dic, wE_dic0, wE_dcomp, wE_lock, wE_xt, wE_tcall, wE_isE, wE_fldE, wB_not, wB_and, wB_or, wB_cm, wB_ch, wB_var, wB_ix, wB_bi, wB_isi, wB_call, wB_bm, wB_call0, wB_xt, wB_isE, wB_fld, wB_mt, wAnd_cons1, wAnd_cons, wOr_cons1, wOr_cons, wBAnd_cons1, wBAnd_cons, wBOr_cons1, wBOr_cons, wEs_nil, wEs_cons, wPr_nil, wPr_cons, wC_nil, wC_cons1, wO_no, wO_yes, wG_name, wG_sub, wI_seq, wI_rng, wI_enum, wI_items, wT_asg, wT_setc, wT_aug, wT_ex, wT_ret, wT_retN, wT_pass, wT_brk, wT_cont, wT_ite, wT_for, wT_whil, wT_fst, wT_faug, wT_saug, wT_par2, wT_par3, wT_del, wT_lock, wT_rais, wT_try1, wT_tryN, wT_ac, wTs_nil, wTs_cons, wH_nil, ixW_live, setW_live, ixW_dK, ixW_zK, setW_dK, inR_live, dget_dK, inR_dK, wH_c0, wH_c1, true_and_of, addW_int, addW_str, addW_tup, addW_ll, addW_lr, addW_rl, addW_rr, subW_int, mulW_int, mulW_tup, mulW_ref, fdivW_int, modW_int, powW_int, ltW_int, leW_int, gtW_int, geW_int, ltW_str, leW_str, gtW_str, geW_str, isNW_n, notNW_n, isNone_non, isNone_bl, isNone_int, isNone_str, isNone_tup, isNone_lst, isNone_ref, isNone_ty, tyName_non, tyName_bl, tyName_int, tyName_str, tyName_tup, tyName_lst, negW_int, intW_int, intW_bl, absW_int, minW_int, maxW_int, lenW_str, lenW_lst, lenW_tup, lenW_ref, len_lst, len_dK, len_dT, tupleW_lst, tupleW_tup, tupleW_ref, listW_lst, listW_tup, listW_ref, ixW_str, ixW_lst, ixW_tup, slW_str, slW_tup, slW_lst, slW_ref, revW_tup, revW_lst, revW_ref, appW_ref, appTy, extTy, remTy, extW_ref, remW_ref, lrngW_1, lrngW_2, iscW_ref, tru_bl, tru_non, tru_int, tru_str, tru_tup, tru_lst, seqI_lst, seqI_tup, seqI_ref, seqI_str, seqI_ctp, items_lst, items_zK, items_zT, enumI_lst, enumI_tup, enumI_ref, rngI_1, rngI_3, rngI_2, inW_e, notInW_e, inR_int, inR_lst, inR_tup, flat_int, flat_str, flat_non, flat_bl, ixN_1_0, ixN_2_0, ixN_2_1, ixN_3_0, ixN_3_1, ixN_3_2, ixN_4_0, ixN_4_1, ixN_4_2, ixN_4_3, ixN_5_0, ixN_5_1, ixN_5_2, ixN_5_3, ixN_5_4, ixN_6_0, ixN_6_1, ixN_6_2, ixN_6_3, ixN_6_4, ixN_6_5, ixN_7_0, ixN_7_1, ixN_7_2, ixN_7_3, ixN_7_4, ixN_7_5, ixN_7_6, ixN_8_0, ixN_8_1, ixN_8_2, ixN_8_3, ixN_8_4, ixN_8_5, ixN_8_6, ixN_8_7, seqOf_sup, lstOf_sup, cp10_1, cp2_1, cp10_2, cp2_2, cp10_3, cp2_3, cp10_4, cp2_4, cp10_5, cp2_5, cp10_6, cp2_6, cp10_7, cp2_7, cp10_8, cp2_8, cp10_9, cp2_9, cp10_10, cp2_10, cp10_11, cp2_11, cp10_12, cp2_12, cp10_13, cp2_13, cp10_14, cp2_14, cp10_15, cp2_15, cp10_16, cp2_16, cp10_17, cp2_17, cp10_18, cp2_18, cp10_19, cp2_19, cp10_20, cp2_20, cp10_21, cp2_21, cp10_22, cp2_22, cp10_23, cp2_23, cp10_24, cp2_24, cp10_25, cp2_25, cp10_26, cp2_26, cp10_27, cp2_27, cp10_28, cp2_28, cp10_29, cp2_29, cp10_30, cp2_30, cp10_31, cp2_31, cp10_32, cp2_32, cp10_33, cp2_33, cp10_34, cp2_34, cp10_35, cp2_35, cp10_36, cp2_36, cp10_37, cp2_37, cp10_38, cp2_38, cp10_39, cp2_39, cp10_40, cp2_40, lsl_0, lsl_1, lsl_2, lsl_3, lsl_4, lsl_5, lsl_6, lsl_7, lsl_8, lsl_9, lsl_10, lsl_11, lsl_12, lsl_13, lsl_14, lsl_15, lsl_16, lsl_17, lsl_18, lsl_19, lsl_20, isNW_b, notNW_b, three_c, isDic_dK, isDic_dT, isDic_zK, isDic_zT, lk_dK, lk_dT, key_int, key_str, keysOf_nil, augIx_ref, tupleW_ctp, ixW_ctp, tyName_ctp, tru_ctp, inR_ctp, seqOf_ctp, lenW_ctp, isNone_ctp, augW_int, augS_int, one_c, two_c, wGs_c, wGs_n, wT_never, inner_mk, suite_mk, goneD_nx, goneD_rt, acW_d, acW_s, acW_t, wG_tup1,
  startD, wipeD, List.map_cons, List.map_nil, List.length_cons, List.length_nil, List.cons_append, List.nil_append, List.append_nil,
  List.getElem?_cons_zero, List.getElem?_cons_succ, List.set_cons_zero, List.set_cons_succ, Option.some.injEq, exists_eq_left', exists_eq_left, exists_eq_right, exists_eq_right', exists_and_left, Nat.reduceAdd, Nat.reduceSub, Nat.reduceLT, List.replicate, List.replicate_zero, List.replicate_succ, if_true, Bool.false_eq_true, if_false, ite_true, ite_false, D.bl.injEq, D.int.injEq, D.str.injEq, D.tup.injEq, D.lst.injEq, D.ref.injEq,
  Option.isSome_some, Option.isSome_none, B2.w, Cm.w, Bi.w, Bm.w, Xt.w, MO.ins.injEq, MO.dK.injEq, and_assoc, List.mem_cons, true_or, or_true, _root_.eq_self, eqW, neW, List.cons.injEq, and_true, true_and, Bool.not_true, Bool.not_false, Gs.len, Es.len,
  ret_non, ret_bl, ret_int, ret_str, ret_tup, ret_lst, isiAny_nil, isiAny_cons, atI_0, atI_1, atI_2, atI_3, atI_4, lstOf_lst, seqOf_lst, seqOf_tup, sup_same, sup_sup, eq_int, ok_int, ok_non, ok_bl, eq_ni, eq_in, eq_bl, MO.lst.injEq, exists_eq', exists_eq,
  kit_NoneType_int, kit_NoneType_bool, kit_NoneType_str, kit_NoneType_tuple, kit_NoneType_list, kit_NoneType_dict, kit_bool_int, kit_bool_bool, kit_bool_str, kit_bool_tuple, kit_bool_list, kit_bool_dict, kit_int_int, kit_int_bool, kit_int_str, kit_int_tuple, kit_int_list, kit_int_dict,
  kit_str_int, kit_str_bool, kit_str_str, kit_str_tuple, kit_str_list, kit_str_dict, kit_list_int, kit_list_bool, kit_list_str, kit_list_tuple, kit_list_list, kit_list_dict, kit_tuple_int, kit_tuple_bool, kit_tuple_str, kit_tuple_tuple, kit_tuple_list, kit_tuple_dict,
  decide_eq_true_eq, Bool.not_eq_true', decide_eq_false_iff_not, forall_const, implies_true, decide_true, decide_false, reduceCtorEq, Int.cast_ofNat_Int, Int.reducePow, Int.reduceMul, Int.reduceAdd, Int.reduceSub, Int.reduceNeg, Int.reduceToNat, Int.reduceEq, Int.reduceLT, Int.reduceLE, lk_Disk_kept_lying, pf_Disk_kept_lying, pi_Disk_kept_lying, lp_Disk_kept_lying_1, lp_Disk_kept_lying_2, lp_Disk_kept_lying_3, lk_Disk_kept_waiting, pf_Disk_kept_waiting, pi_Disk_kept_waiting, lp_Disk_kept_waiting_2, lp_Disk_kept_waiting_3, lk_Disk_kept_power, pf_Disk_kept_power, pi_Disk_kept_power, lp_Disk_kept_power_3, lk_Disk_kept_reached, pf_Disk_kept_reached, pi_Disk_kept_reached, ln_Disk_blocks_0, ln_Disk_blocks_1, ln_Disk_blocks_2, ln_Disk_blocks_3, ln_Disk_blocks_4, ln_Disk_calm_0, ln_Disk_calm_1, ln_Disk_calm_2, ln_Disk_calm_3, ln_Disk_calm_4, ln_Disk_check_block_0, ln_Disk_check_block_1, ln_Disk_check_block_2, ln_Disk_check_block_3, ln_Disk_check_block_4, ln_Disk_copy_0, ln_Disk_copy_1, ln_Disk_copy_2, ln_Disk_copy_3, ln_Disk_copy_4, ln_Disk_cut_0, ln_Disk_cut_1, ln_Disk_cut_2, ln_Disk_cut_3, ln_Disk_cut_4, ln_Disk_force_0, ln_Disk_force_1, ln_Disk_force_2, ln_Disk_force_3, ln_Disk_force_4, ln_Disk_lying_0, ln_Disk_lying_1, ln_Disk_lying_2, ln_Disk_lying_3, ln_Disk_lying_4, ln_Disk_power_0, ln_Disk_power_1, ln_Disk_power_2, ln_Disk_power_3, ln_Disk_power_4, ln_Disk_reach_0, ln_Disk_reach_1, ln_Disk_reach_2, ln_Disk_reach_3, ln_Disk_reach_4, ln_Disk_reach_one_0, ln_Disk_reach_one_1, ln_Disk_reach_one_2, ln_Disk_reach_one_3, ln_Disk_reach_one_4, ln_Disk_reached_0, ln_Disk_reached_1, ln_Disk_reached_2, ln_Disk_reached_3, ln_Disk_reached_4, ln_Disk_read_0, ln_Disk_read_1, ln_Disk_read_2, ln_Disk_read_3, ln_Disk_read_4, ln_Disk_waiting_0, ln_Disk_waiting_1, ln_Disk_waiting_2, ln_Disk_waiting_3, ln_Disk_waiting_4, ln_Disk_write_0, ln_Disk_write_1, ln_Disk_write_2, ln_Disk_write_3, ln_Disk_write_4, lt_line4, kit_dict_int, kit_dict_bool, kit_dict_str, kit_dict_tuple, kit_dict_list, kit_dict_dict, len_iD, ixW_dS, ixW_lS, setW_dS, setW_lS, lenW_dS, lenW_lS, bk_l, bk_w, bk_p, bk_r, pk_w, pk_p, pk_r, lsl_4])
local macro_rules | `(tactic| walk_at "vs") => `(tactic| try simp only [wE_var, wE_int, wE_str, wE_bl, wE_non, wE_glob, wE_b2, wE_neg, wE_cm, wE_ch, wE_not, wE_and, wE_or, wE_ife, wE_tup, wE_lst, wE_ix, wE_sl, wE_rev, wE_bi, wE_isi, wE_call, wE_bm, wE_comp, wE_call0, wE_fld, wE_mt, wE_mk, wE_dic, wE_dic0, wE_dcomp, wE_lock, wE_xt, wE_tcall, wE_isE, wE_fldE, wB_not, wB_and, wB_or, wB_cm, wB_ch, wB_var, wB_ix, wB_bi, wB_isi, wB_call, wB_bm, wB_call0, wB_xt, wB_isE, wB_fld, wB_mt, wAnd_cons1, wAnd_cons, wOr_cons1, wOr_cons, wBAnd_cons1, wBAnd_cons, wBOr_cons1, wBOr_cons, wEs_nil, wEs_cons, wPr_nil, wPr_cons, wC_nil, wC_cons1, wO_no, wO_yes, wG_name, wG_sub, wI_seq, wI_rng, wI_enum, wI_items, wT_asg, wT_setc, wT_aug, wT_ex, wT_ret, wT_retN, wT_pass, wT_brk, wT_cont, wT_ite, wT_for, wT_whil, wT_fst, wT_faug, wT_saug, wT_par2, wT_par3, wT_del, wT_lock, wT_rais, wT_try1, wT_tryN, wT_ac, wTs_nil, wTs_cons, wH_nil, ixW_live, setW_live, ixW_dK, ixW_zK, setW_dK, inR_live, dget_dK, inR_dK, wH_c0, wH_c1, true_and_of, addW_int, addW_str, addW_tup, addW_ll, addW_lr, addW_rl, addW_rr, subW_int, mulW_int, mulW_tup, mulW_ref, fdivW_int, modW_int, powW_int, ltW_int, leW_int, gtW_int, geW_int, ltW_str, leW_str, gtW_str, geW_str, isNW_n, notNW_n, isNone_non, isNone_bl, isNone_int, isNone_str, isNone_tup, isNone_lst, isNone_ref, isNone_ty, tyName_non, tyName_bl, tyName_int, tyName_str, tyName_tup, tyName_lst, negW_int, intW_int, intW_bl, absW_int, minW_int, maxW_int, lenW_str, lenW_lst, lenW_tup, lenW_ref, len_lst, len_dK, len_dT, tupleW_lst, tupleW_tup, tupleW_ref, listW_lst, listW_tup, listW_ref, ixW_str, ixW_lst, ixW_tup, slW_str, slW_tup, slW_lst, slW_ref, revW_tup, revW_lst, revW_ref, appW_ref, appTy, extTy, remTy, extW_ref, remW_ref, lrngW_1, lrngW_2, iscW_ref, tru_bl, tru_non, tru_int, tru_str, tru_tup, tru_lst, seqI_lst, seqI_tup, seqI_ref, seqI_str, seqI_ctp, items_lst, items_zK, items_zT, enumI_lst, enumI_tup, enumI_ref, rngI_1, rngI_3, rngI_2, inW_e, notInW_e, inR_int, inR_lst, inR_tup, flat_int, flat_str, flat_non, flat_bl, ixN_1_0, ixN_2_0, ixN_2_1, ixN_3_0, ixN_3_1, ixN_3_2, ixN_4_0, ixN_4_1, ixN_4_2, ixN_4_3, ixN_5_0, ixN_5_1, ixN_5_2, ixN_5_3, ixN_5_4, ixN_6_0, ixN_6_1, ixN_6_2, ixN_6_3, ixN_6_4, ixN_6_5, ixN_7_0, ixN_7_1, ixN_7_2, ixN_7_3, ixN_7_4, ixN_7_5, ixN_7_6, ixN_8_0, ixN_8_1, ixN_8_2, ixN_8_3, ixN_8_4, ixN_8_5, ixN_8_6, ixN_8_7, seqOf_sup, lstOf_sup, cp10_1, cp2_1, cp10_2, cp2_2, cp10_3, cp2_3, cp10_4, cp2_4, cp10_5, cp2_5, cp10_6, cp2_6, cp10_7, cp2_7, cp10_8, cp2_8, cp10_9, cp2_9, cp10_10, cp2_10, cp10_11, cp2_11, cp10_12, cp2_12, cp10_13, cp2_13, cp10_14, cp2_14, cp10_15, cp2_15, cp10_16, cp2_16, cp10_17, cp2_17, cp10_18, cp2_18, cp10_19, cp2_19, cp10_20, cp2_20, cp10_21, cp2_21, cp10_22, cp2_22, cp10_23, cp2_23, cp10_24, cp2_24, cp10_25, cp2_25, cp10_26, cp2_26, cp10_27, cp2_27, cp10_28, cp2_28, cp10_29, cp2_29, cp10_30, cp2_30, cp10_31, cp2_31, cp10_32, cp2_32, cp10_33, cp2_33, cp10_34, cp2_34, cp10_35, cp2_35, cp10_36, cp2_36, cp10_37, cp2_37, cp10_38, cp2_38, cp10_39, cp2_39, cp10_40, cp2_40, lsl_0, lsl_1, lsl_2, lsl_3, lsl_4, lsl_5, lsl_6, lsl_7, lsl_8, lsl_9, lsl_10, lsl_11, lsl_12, lsl_13, lsl_14, lsl_15, lsl_16, lsl_17, lsl_18, lsl_19, lsl_20, isNW_b, notNW_b, three_c, isDic_dK, isDic_dT, isDic_zK, isDic_zT, lk_dK, lk_dT, key_int, key_str, keysOf_nil, augIx_ref, tupleW_ctp, ixW_ctp, tyName_ctp, tru_ctp, inR_ctp, seqOf_ctp, lenW_ctp, isNone_ctp, augW_int, augS_int, one_c, two_c, wGs_c, wGs_n, wT_never, inner_mk, suite_mk, goneD_nx, goneD_rt, acW_d, acW_s, acW_t, wG_tup1,
  startD, wipeD, List.map_cons, List.map_nil, List.length_cons, List.length_nil, List.cons_append, List.nil_append, List.append_nil,
  List.getElem?_cons_zero, List.getElem?_cons_succ, List.set_cons_zero, List.set_cons_succ, Option.some.injEq, exists_eq_left', exists_eq_left, exists_eq_right, exists_eq_right', exists_and_left, Nat.reduceAdd, Nat.reduceSub, Nat.reduceLT, List.replicate, List.replicate_zero, List.replicate_succ, if_true, Bool.false_eq_true, if_false, ite_true, ite_false, D.bl.injEq, D.int.injEq, D.str.injEq, D.tup.injEq, D.lst.injEq, D.ref.injEq,
  Option.isSome_some, Option.isSome_none, B2.w, Cm.w, Bi.w, Bm.w, Xt.w, MO.ins.injEq, MO.dK.injEq, and_assoc, List.mem_cons, true_or, or_true, _root_.eq_self, eqW, neW, List.cons.injEq, and_true, true_and, Bool.not_true, Bool.not_false, Gs.len, Es.len,
  ret_non, ret_bl, ret_int, ret_str, ret_tup, ret_lst, isiAny_nil, isiAny_cons, atI_0, atI_1, atI_2, atI_3, atI_4, lstOf_lst, seqOf_lst, seqOf_tup, sup_same, sup_sup, eq_int, ok_int, ok_non, ok_bl, eq_ni, eq_in, eq_bl, MO.lst.injEq, exists_eq', exists_eq,
  kit_NoneType_int, kit_NoneType_bool, kit_NoneType_str, kit_NoneType_tuple, kit_NoneType_list, kit_NoneType_dict, kit_bool_int, kit_bool_bool, kit_bool_str, kit_bool_tuple, kit_bool_list, kit_bool_dict, kit_int_int, kit_int_bool, kit_int_str, kit_int_tuple, kit_int_list, kit_int_dict,
  kit_str_int, kit_str_bool, kit_str_str, kit_str_tuple, kit_str_list, kit_str_dict, kit_list_int, kit_list_bool, kit_list_str, kit_list_tuple, kit_list_list, kit_list_dict, kit_tuple_int, kit_tuple_bool, kit_tuple_str, kit_tuple_tuple, kit_tuple_list, kit_tuple_dict,
  decide_eq_true_eq, Bool.not_eq_true', decide_eq_false_iff_not, forall_const, implies_true, decide_true, decide_false, reduceCtorEq, Int.cast_ofNat_Int, Int.reducePow, Int.reduceMul, Int.reduceAdd, Int.reduceSub, Int.reduceNeg, Int.reduceToNat, Int.reduceEq, Int.reduceLT, Int.reduceLE, lk_Disk_kept_lying, pf_Disk_kept_lying, pi_Disk_kept_lying, lp_Disk_kept_lying_1, lp_Disk_kept_lying_2, lp_Disk_kept_lying_3, lk_Disk_kept_waiting, pf_Disk_kept_waiting, pi_Disk_kept_waiting, lp_Disk_kept_waiting_2, lp_Disk_kept_waiting_3, lk_Disk_kept_power, pf_Disk_kept_power, pi_Disk_kept_power, lp_Disk_kept_power_3, lk_Disk_kept_reached, pf_Disk_kept_reached, pi_Disk_kept_reached, ln_Disk_blocks_0, ln_Disk_blocks_1, ln_Disk_blocks_2, ln_Disk_blocks_3, ln_Disk_blocks_4, ln_Disk_calm_0, ln_Disk_calm_1, ln_Disk_calm_2, ln_Disk_calm_3, ln_Disk_calm_4, ln_Disk_check_block_0, ln_Disk_check_block_1, ln_Disk_check_block_2, ln_Disk_check_block_3, ln_Disk_check_block_4, ln_Disk_copy_0, ln_Disk_copy_1, ln_Disk_copy_2, ln_Disk_copy_3, ln_Disk_copy_4, ln_Disk_cut_0, ln_Disk_cut_1, ln_Disk_cut_2, ln_Disk_cut_3, ln_Disk_cut_4, ln_Disk_force_0, ln_Disk_force_1, ln_Disk_force_2, ln_Disk_force_3, ln_Disk_force_4, ln_Disk_lying_0, ln_Disk_lying_1, ln_Disk_lying_2, ln_Disk_lying_3, ln_Disk_lying_4, ln_Disk_power_0, ln_Disk_power_1, ln_Disk_power_2, ln_Disk_power_3, ln_Disk_power_4, ln_Disk_reach_0, ln_Disk_reach_1, ln_Disk_reach_2, ln_Disk_reach_3, ln_Disk_reach_4, ln_Disk_reach_one_0, ln_Disk_reach_one_1, ln_Disk_reach_one_2, ln_Disk_reach_one_3, ln_Disk_reach_one_4, ln_Disk_reached_0, ln_Disk_reached_1, ln_Disk_reached_2, ln_Disk_reached_3, ln_Disk_reached_4, ln_Disk_read_0, ln_Disk_read_1, ln_Disk_read_2, ln_Disk_read_3, ln_Disk_read_4, ln_Disk_waiting_0, ln_Disk_waiting_1, ln_Disk_waiting_2, ln_Disk_waiting_3, ln_Disk_waiting_4, ln_Disk_write_0, ln_Disk_write_1, ln_Disk_write_2, ln_Disk_write_3, ln_Disk_write_4, lt_line4, kit_dict_int, kit_dict_bool, kit_dict_str, kit_dict_tuple, kit_dict_list, kit_dict_dict, len_iD, ixW_dS, ixW_lS, setW_dS, setW_lS, lenW_dS, lenW_lS, bk_l, bk_w, bk_p, bk_r, pk_w, pk_p, pk_r, lsl_4, sup_ne, sup_3, ne_eq, not_false_eq_true, *])
def sp_law_wrote : DSp := fun ds S Q _ => ∃ a l w m b c Bk B, ds = [.ref a, .int b, c] ∧ BookAt S a l w m ∧ Good Bk B m ∧ B ≤ 1000000 ∧ b ∈ Bk ∧ Ct c ∧ ∀ S', BookAt S' a l w (writeM m b c) → Agr [a, l, w] S S' → Q .non S'
theorem v_law_wrote : VC n_law_wrote b_law_wrote { fns := [], cons := [], nob := n_law_wrote.nob } 3 sp_law_wrote := by
  rintro ds S Q Y ⟨a, l, w, m, b, c, Bk, B, rfl, hd, hg, hB, hb, ⟨xs, rfl, hx, hi⟩, q⟩
  refine ⟨rfl, ?_⟩
  have ⟨g1, g2, g3, g4⟩ := hd
  have g6 : l ≠ w := ne_kind g2 g3 (by simp)
  have hbb := hg.blk b hb
  have hrl := rows_len hg b
  unfold b_law_wrote n_law_wrote
  walk_at "vs"
  refine ⟨tyD_at g3 rfl (by simp), newL_f (get2_at g3 rfl ?_)⟩
  rw [getD_rows hg b]
  refine newL_f ?_
  walk_at "vs"
  refine ⟨by unfold sizeLine; omega, newL_f ?_⟩
  walk_at "vs"
  refine ⟨good_few hg, q _ ⟨(sup_ne g4).trans g1, (sup_ne g6).trans g2, sup_same, g4⟩ (Agr.sup Agr.refl (.inl (by simp)))⟩
theorem rep_flat {x : D} : ∀ n : Nat, (List.replicate n [x]).flatten = List.replicate n x
  | 0 => rfl
  | n + 1 => by rw [List.replicate_succ, List.flatten_cons, rep_flat n]; rfl
def sp_law_book : DSp := fun ds S Q _ => ∃ n : Nat, ds = [.int n] ∧ n ≤ 600 ∧ ∀ S' a l w, S a = none → S l = none → S w = none → BookAt S' a l w (newM n) → Agr [] S S' → Q (.ref a) S'
theorem v_law_book : VC n_law_book b_law_book { fns := [], cons := [], nob := n_law_book.nob } 1 sp_law_book := by
  rintro ds S Q Y ⟨n, rfl, hn, q⟩
  refine ⟨rfl, ?_⟩
  unfold b_law_book n_law_book
  walk_at "vc"
  intro a ha
  refine newL_l fun p hp => ?_
  obtain ⟨m1, m2⟩ := none_sup hp
  walk_at "vc"
  refine ⟨by omega, by omega, by simp [sizeLine]; omega, ?_⟩
  rw [sdel_sup hp]
  refine newL_l fun l hl => .inl fun w hw => ?_
  obtain ⟨m3, m4⟩ := none_sup hl
  obtain ⟨m5, m6⟩ := none_sup hw
  obtain ⟨m7, m8⟩ := none_sup m6
  have hr : (List.replicate ((n : Int)).toNat [D.tup []]).flatten = List.replicate n (D.tup []) := by rw [Int.toNat_natCast]; exact rep_flat n
  rw [hr]
  refine ⟨by rw [sup_ne (Ne.symm m7), sup_ne (Ne.symm m3), sup_same], bkD (.ref l) (.ref w) .non (.int 0), rfl, by simp, ret_any ?_⟩
  rw [show mergeD [] (bkD (.ref l) (.ref w) .non (.int 0)) = bkD (.ref l) (.ref w) .non (.int 0) from rfl]
  refine q _ a l w ha m4 m8 ⟨sup_same, ?_, ?_, Ne.symm m7⟩ ?_
  · rw [sup_ne m3, sup_ne (Ne.symm m5), sup_same]; rfl
  · rw [sup_ne m7, sup_same]; rfl
  · exact Agr.sup (Agr.sup (Agr.sup (Agr.sup Agr.refl (.inr ha)) (.inr m4)) (.inr m8)) (.inr ha)
def sp_law_cut : DSp := fun ds S Q _ => ∃ a l w m, ds = [.ref a] ∧ BookAt S a l w m ∧ ∀ S' w', S w' = none → BookAt S' a l w' (cutM m) → Agr [a, l, w] S S' → Q .non S'
theorem v_law_cut : VC n_law_cut b_law_cut { fns := [], cons := [], nob := n_law_cut.nob } 1 sp_law_cut := by
  rintro ds S Q Y ⟨a, l, w, m, rfl, ⟨g1, g2, g3, g4⟩, q⟩
  refine ⟨rfl, ?_⟩
  have g5 : a ≠ l := ne_kind g1 g2 (by simp)
  unfold b_law_cut n_law_cut
  walk_at "vc"
  refine .inl fun y hy => ?_
  have n1 : a ≠ y := sne g1 hy
  have n2 : l ≠ y := sne g2 hy
  have fin : Q .non (sup (sup S y (.dK [])) a (.dK (bkD (.ref l) (.ref y) .non (.int m.reached)))) := q _ y hy ⟨sup_same, (sup_ne (Ne.symm g5)).trans ((sup_ne n2).trans g2), (sup_ne (Ne.symm n1)).trans sup_same, n1⟩ (Agr.sup (Agr.sup Agr.refl (.inr hy)) (.inl (by simp)))
  clear q
  have k1 : sup S y (.dK []) a = some (.dK (bkD (.ref l) (.ref w) (pD m.power) (.int m.reached))) := (sup_ne n1).trans g1
  generalize sup S y (.dK []) = S1 at *
  refine setW_dat k1 rfl (by simp [sizeLine]) (setW_dat sup_same rfl (by simp [sizeLine, putD]) ?_)
  rw [sup_sup]
  exact fin
def sp_law_reached : DSp := fun ds S Q _ => ∃ a l w m b Bk B, ds = [.ref a, .int b] ∧ BookAt S a l w m ∧ Good Bk B m ∧ B ≤ 1000000 ∧ rowsAt m b ≠ [] ∧
  (m.power = some 0 → Q (.bl false) S) ∧ (m.power ≠ some 0 → ∀ S', BookAt S' a l w (reachM m b) → Agr [a, l, w] S S' → Q (.bl true) S')
theorem v_law_reached : VC n_law_reached b_law_reached { fns := [], cons := [], nob := n_law_reached.nob } 2 sp_law_reached := by
  rintro ds S Q Y ⟨a, l, w, m, b, Bk, B, rfl, ⟨g1, g2, g3, g4⟩, hg, hB, hr, qs, q⟩
  refine ⟨rfl, ?_⟩
  obtain ⟨r, e, er, hb, hl, hc⟩ := rows_ne hg hr
  rw [er] at hr
  obtain ⟨c, r, rfl⟩ : ∃ c r0, r = c :: r0 := by cases r with
    | nil => exact (hr rfl).elim
    | cons c r0 => exact ⟨c, r0, rfl⟩
  have hbb := hg.blk b hb
  have g5 : a ≠ l := ne_kind g1 g2 (by simp)
  have g6 : l ≠ w := ne_kind g2 g3 (by simp)
  have hw := good_few hg
  have fin : m.power ≠ some 0 → ∀ S', S' a = some (.dK [(.inr "lying", .ref l), (.inr "waits", .ref w), (.inr "power", pD (m.power.map (· - 1))), (.inr "reached", .int (m.reached + 1))]) → S' l = some (.lst (m.lying.set b.toNat c)) →
      S' w = some (.dK (if r.length > 0 then putD (dropD m.waits (.inl b)) (.inl b) (.lst r) else dropD m.waits (.inl b))) → Agr [a, l, w] S S' → Q (.bl true) S' := fun hp S' h1 h2 h3 h4 => q hp S' ⟨h1, by rw [h2]; unfold reachM; rw [er]; rfl, by rw [h3]; unfold reachM; rw [er]; simp, g4⟩ h4
  clear q
  have ib : ixN m.lying.length b = some b.toNat := by
    have := ixN_nat (n := m.lying.length) (j := b.toNat) (by omega)
    rwa [show ((b.toNat : Nat) : Int) = b by omega] at this
  unfold b_law_reached n_law_reached
  cases hp : m.power
  case' none =>
    simp only [hp, pD, Option.map_none, ne_eq, reduceCtorEq, not_false_eq_true, forall_const] at g1 fin
    walk_at "vs"
    obtain ⟨S1, k0, k1, k2, k3, k4⟩ : ∃ S1, S = S1 ∧ S1 a = S a ∧ S1 l = S l ∧ S1 w = S w ∧ Agr [a, l, w] S S1 := ⟨S, rfl, rfl, rfl, rfl, Agr.refl⟩
    replace k1 := k1.trans g1
    replace k2 := k2.trans g2
    replace k3 := k3.trans g3
    conv => rw [k0]
    clear g1 g2 g3 k0
    generalize hpw : D.non = pw at k1 fin
  case' some p =>
    simp only [hp, pD, Option.map_some, ne_eq, Option.some.injEq] at g1 fin qs
    walk_at "vs"
    split
    · rename_i h0
      exact qs h0
    rename_i h0
    have fin := fin h0
    have k4 : Agr [a, l, w] S (sup S a (.dK [(.inr "lying", D.ref l), (.inr "waits", D.ref w), (.inr "power", D.int (p - 1)), (.inr "reached", D.int m.reached)])) := Agr.sup Agr.refl (.inl (by simp))
    have k1 : sup S a (.dK [(.inr "lying", D.ref l), (.inr "waits", D.ref w), (.inr "power", D.int (p - 1)), (.inr "reached", D.int m.reached)]) a = _ := sup_same
    have k2 : sup S a (.dK [(.inr "lying", D.ref l), (.inr "waits", D.ref w), (.inr "power", D.int (p - 1)), (.inr "reached", D.int m.reached)]) l = _ := (sup_ne (Ne.symm g5)).trans g2
    have k3 : sup S a (.dK [(.inr "lying", D.ref l), (.inr "waits", D.ref w), (.inr "power", D.int (p - 1)), (.inr "reached", D.int m.reached)]) w = _ := (sup_ne (Ne.symm g4)).trans g3
    clear g1 g2 g3
    generalize hpw : D.int (p - 1) = pw at *
    generalize sup S a (.dK [(.inr "lying", D.ref l), (.inr "waits", D.ref w), (.inr "power", pw), (.inr "reached", D.int m.reached)]) = S1 at *
  all_goals
    refine ⟨tyD_at k3 rfl (by simp), pop1_at k3 rfl e ?_⟩
    clear hpw
    walk_at "vs"
    have f4 : ∀ v, Agr [a, l, w] S (sup (sup (sup S1 w v) l (.lst (m.lying.set b.toNat c))) a (.dK [(.inr "lying", D.ref l), (.inr "waits", D.ref w), (.inr "power", pw), (.inr "reached", D.int (m.reached + 1))])) := fun v => Agr.sup (Agr.sup (Agr.sup k4 (a := w) (.inl (by simp))) (a := l) (.inl (by simp))) (a := a) (.inl (by simp))
    have dl : (dropD m.waits (Sum.inl b)).length < sizeLine := Nat.lt_of_le_of_lt (List.length_filter_le ..) hw
    split
    · rename_i hr1
      refine newL_f ?_
      rw [cut_tail]
      walk_at "vs"
      refine setW_dat ((sup_ne (Ne.symm g4)).trans ((sup_ne (Ne.symm g6)).trans sup_same)) rfl dl ?_
      refine fin _ ((sup_ne g4).trans sup_same) ((sup_ne g6).trans ((sup_ne (Ne.symm g5)).trans sup_same)) ?_ (Agr.sup (f4 _) (a := w) (.inl (by simp)))
      rw [sup_same, if_pos (by omega)]
      rfl
    · rename_i hr1
      refine fin _ sup_same ((sup_ne (Ne.symm g5)).trans sup_same) ?_ (f4 _)
      rw [if_neg (by omega)]
      exact (sup_ne (Ne.symm g4)).trans ((sup_ne (Ne.symm g6)).trans sup_same)
def sp_law_forced : DSp := fun ds S Q _ => ∃ a l w m s ns Bk B, ds = [.ref a, s] ∧ (s = .tup (iD ns) ∨ s = .lst (iD ns)) ∧ BookAt S a l w m ∧ Good Bk B m ∧ B ≤ 1000000 ∧
  ∀ S', BookAt S' a l w (forceM ns m).1 → Agr [a, l, w] S S' → Q (.bl (forceM ns m).2) S'
theorem v_law_forced : VC n_law_forced b_law_forced { fns := [("_law_reached", sp_law_reached)], cons := [], nob := n_law_forced.nob } 2 sp_law_forced := by
  rintro ds S Q Y ⟨a, l, w, m, s, ns, Bk, B, rfl, hs, hd, hg, hB, q⟩
  refine ⟨rfl, ?_⟩
  unfold b_law_forced n_law_forced
  have go : ∀ (s : D) (Z : DE) (Pr : Hs → Prop), (∀ S2, Pr S2) → Z.rt = Q → (∀ ρ S', Z.nx ρ S' = Q (.bl true) S') → ForK { fns := [("_law_reached", sp_law_reached)], cons := [], nob := n_law_forced.nob } (.name 2) (.cons (.whil (.cm .isIn (.var 2) (.ix (.var 0) (.str "waits"))) (.cons (.ite (.not (.call 0 (.cons (.var 0) (.cons (.var 2) .nil)))) (.cons (.ret (.bl false)) .nil) .nil) .nil)) .nil) Z [some (.ref a), some s, none] (iD ns) Pr S := by
    intro s Z Pr hPr hrt hnx
    refine for_inv (fun i ρ S2 => ∃ m2 x, ρ = [some (D.ref a), some s, x] ∧ BookAt S2 a l w m2 ∧ Good Bk B m2 ∧ Agr [a, l, w] S S2 ∧ forceM ns m = forceM (ns.drop i) m2) ⟨m, _, rfl, hd, hg, Agr.refl, rfl⟩ ?_ ?_
    · rintro i x ρ S2 hi ⟨m2, x', rfl, hd2, hg2, ag, hf⟩
      obtain ⟨b, hb, rfl⟩ := map_of hi
      rw [drop_of hb] at hf
      refine ⟨hPr _, ?_⟩
      walk_at "vc"
      unfold WhilK
      refine ⟨fun n ρ S3 => ∃ m3, ρ = [some (D.ref a), some s, some (D.int b)] ∧ BookAt S3 a l w m3 ∧ Good Bk B m3 ∧ Agr [a, l, w] S S3 ∧ (rowsAt m3 b).length = n ∧ runB (rowsAt m2 b).length m2 b = runB n m3 b, ⟨_, m2, rfl, hd2, hg2, ag, rfl, rfl⟩, ?_⟩
      rintro n ρ S3 ⟨m3, rfl, hd3, hg3, ag3, hn, hrun⟩
      have ⟨k1, k2, k3, k4⟩ := hd3
      walk_at "vs"
      refine ⟨_, inR_at k3 rfl, ?_⟩
      cases e : valD m3.waits (.inl b) with
      | none =>
        rw [if_neg (show ¬ (none : Option D).isSome = true by simp)]
        have er := rows_none e
        rw [er] at hn
        subst hn
        refine ⟨m3, hd3, hg3, ?_⟩
        rw [forceM, hrun]
        rfl
      | some v =>
        obtain ⟨r, rfl, hne, hb3, hl3, _⟩ := good_row hg3 e
        have er := rows_some e
        have hne3 : rowsAt m3 b ≠ [] := by rw [er]; exact hne
        rw [if_pos (show (some (D.lst r)).isSome = true from rfl)]
        obtain ⟨k, rfl⟩ : ∃ k, n = k + 1 := ⟨n - 1, by have := List.length_pos_iff.mpr hne3; omega⟩
        have run1 : runB (k + 1) m3 b = if m3.power = some 0 then (m3, false) else runB k (reachM m3 b) b := by
          rw [runB, if_neg hne3]
        refine ⟨a, l, w, m3, b, Bk, B, rfl, hd3, hg3, hB, hne3, fun h0 => ?_, fun h0 S4 hd4 ag4 => ?_⟩
        · have e2 : forceM ns m = (m3, false) := by
            rw [hf, forceM, hrun, run1, if_pos h0]
            rfl
          have := q S3 (by rw [e2]; exact hd3) ag3
          rw [e2] at this
          walk_at "vs"
        · walk_at "vc"
          refine ⟨k, by omega, reachM m3 b, hd4, good_reach hg3 hne3 h0, ag3.trans ag4 fun x hx => .inl hx, ?_, ?_⟩
          · rw [rows_reach_same, List.length_drop]; omega
          · rw [run1, if_neg h0]
    · rintro ρ S2 ⟨m2, x', rfl, hd2, hg2, ag, hf⟩
      refine ⟨hPr _, ?_⟩
      rw [len_iD, List.drop_length] at hf
      rw [hnx]
      have := q S2 (by rw [hf]; exact hd2) ag
      rw [hf] at this
      exact this
  rcases hs with rfl | rfl
  · walk_at "vc"
    exact go _ _ _ (fun _ => trivial) rfl fun ρ S' => by walk_at "vc"
  · walk_at "vc"
    exact go _ _ _ (fun _ => trivial) rfl fun ρ S' => by walk_at "vc"
end W
namespace W
open PySem L2 Dz
variable {A : Ad}
local macro_rules | `(tactic| walk_at "vc") => `(tactic| try simp only [wE_var, wE_int, wE_str, wE_bl, wE_non, wE_glob, wE_b2, wE_neg, wE_cm, wE_ch, wE_not, wE_and, wE_or, wE_ife, wE_tup, wE_lst, wE_ix, wE_sl, wE_rev, wE_bi, wE_isi, wE_call, wE_bm, wE_comp, wE_call0, wE_fld, wE_mt, wE_mk, wE_dic, wE_dic0, wE_dcomp, wE_lock, wE_xt, wE_tcall, wE_isE, wE_fldE, wB_not, wB_and, wB_or, wB_cm, wB_ch, wB_var, wB_ix, wB_bi, wB_isi, wB_call, wB_bm, wB_call0, wB_xt, wB_isE, wB_fld, wB_mt, wAnd_cons1, wAnd_cons, wOr_cons1, wOr_cons, wBAnd_cons1, wBAnd_cons, wBOr_cons1, wBOr_cons, wEs_nil, wEs_cons, wPr_nil, wPr_cons, wC_nil, wC_cons1, wO_no, wO_yes, wG_name, wG_sub, wI_seq, wI_rng, wI_enum, wI_items, wT_asg, wT_setc, wT_aug, wT_ex, wT_ret, wT_retN, wT_pass, wT_brk, wT_cont, wT_ite, wT_for, wT_whil, wT_fst, wT_faug, wT_saug, wT_par2, wT_par3, wT_del, wT_lock, wT_rais, wT_try1, wT_tryN, wT_ac, wTs_nil, wTs_cons, wH_nil, ixW_live, setW_live, ixW_dK, ixW_zK, setW_dK, inR_live, dget_dK, inR_dK, wH_c0, wH_c1, true_and_of, addW_int, addW_str, addW_tup, addW_ll, addW_lr, addW_rl, addW_rr, subW_int, mulW_int, mulW_tup, mulW_ref, fdivW_int, modW_int, powW_int, ltW_int, leW_int, gtW_int, geW_int, ltW_str, leW_str, gtW_str, geW_str, isNW_n, notNW_n, isNone_non, isNone_bl, isNone_int, isNone_str, isNone_tup, isNone_lst, isNone_ref, isNone_ty, tyName_non, tyName_bl, tyName_int, tyName_str, tyName_tup, tyName_lst, negW_int, intW_int, intW_bl, absW_int, minW_int, maxW_int, lenW_str, lenW_lst, lenW_tup, lenW_ref, len_lst, len_dK, len_dT, tupleW_lst, tupleW_tup, tupleW_ref, listW_lst, listW_tup, listW_ref, ixW_str, ixW_lst, ixW_tup, slW_str, slW_tup, slW_lst, slW_ref, revW_tup, revW_lst, revW_ref, appW_ref, appTy, extTy, remTy, extW_ref, remW_ref, lrngW_1, lrngW_2, iscW_ref, tru_bl, tru_non, tru_int, tru_str, tru_tup, tru_lst, seqI_lst, seqI_tup, seqI_ref, seqI_str, seqI_ctp, items_lst, items_zK, items_zT, enumI_lst, enumI_tup, enumI_ref, rngI_1, rngI_3, rngI_2, inW_e, notInW_e, inR_int, inR_lst, inR_tup, flat_int, flat_str, flat_non, flat_bl, ixN_1_0, ixN_2_0, ixN_2_1, ixN_3_0, ixN_3_1, ixN_3_2, ixN_4_0, ixN_4_1, ixN_4_2, ixN_4_3, ixN_5_0, ixN_5_1, ixN_5_2, ixN_5_3, ixN_5_4, ixN_6_0, ixN_6_1, ixN_6_2, ixN_6_3, ixN_6_4, ixN_6_5, ixN_7_0, ixN_7_1, ixN_7_2, ixN_7_3, ixN_7_4, ixN_7_5, ixN_7_6, ixN_8_0, ixN_8_1, ixN_8_2, ixN_8_3, ixN_8_4, ixN_8_5, ixN_8_6, ixN_8_7, seqOf_sup, lstOf_sup, cp10_1, cp2_1, cp10_2, cp2_2, cp10_3, cp2_3, cp10_4, cp2_4, cp10_5, cp2_5, cp10_6, cp2_6, cp10_7, cp2_7, cp10_8, cp2_8, cp10_9, cp2_9, cp10_10, cp2_10, cp10_11, cp2_11, cp10_12, cp2_12, cp10_13, cp2_13, cp10_14, cp2_14, cp10_15, cp2_15, cp10_16, cp2_16, cp10_17, cp2_17, cp10_18, cp2_18, cp10_19, cp2_19, cp10_20, cp2_20, cp10_21, cp2_21, cp10_22, cp2_22, cp10_23, cp2_23, cp10_24, cp2_24, cp10_25, cp2_25, cp10_26, cp2_26, cp10_27, cp2_27, cp10_28, cp2_28, cp10_29, cp2_29, cp10_30, cp2_30, cp10_31, cp2_31, cp10_32, cp2_32, cp10_33, cp2_33, cp10_34, cp2_34, cp10_35, cp2_35, cp10_36, cp2_36, cp10_37, cp2_37, cp10_38, cp2_38, cp10_39, cp2_39, cp10_40, cp2_40, lsl_0, lsl_1, lsl_2, lsl_3, lsl_4, lsl_5, lsl_6, lsl_7, lsl_8, lsl_9, lsl_10, lsl_11, lsl_12, lsl_13, lsl_14, lsl_15, lsl_16, lsl_17, lsl_18, lsl_19, lsl_20, isNW_b, notNW_b, three_c, isDic_dK, isDic_dT, isDic_zK, isDic_zT, lk_dK, lk_dT, key_int, key_str, keysOf_nil, augIx_ref, tupleW_ctp, ixW_ctp, tyName_ctp, tru_ctp, inR_ctp, seqOf_ctp, lenW_ctp, isNone_ctp, augW_int, augS_int, one_c, two_c, wGs_c, wGs_n, wT_never, inner_mk, suite_mk, goneD_nx, goneD_rt, acW_d, acW_s, acW_t, wG_tup1,
  startD, wipeD, List.map_cons, List.map_nil, List.length_cons, List.length_nil, List.cons_append, List.nil_append, List.append_nil,
  List.getElem?_cons_zero, List.getElem?_cons_succ, List.set_cons_zero, List.set_cons_succ, Option.some.injEq, exists_eq_left', exists_eq_left, exists_eq_right, exists_eq_right', exists_and_left, Nat.reduceAdd, Nat.reduceSub, Nat.reduceLT, List.replicate, List.replicate_zero, List.replicate_succ, if_true, Bool.false_eq_true, if_false, ite_true, ite_false, D.bl.injEq, D.int.injEq, D.str.injEq, D.tup.injEq, D.lst.injEq, D.ref.injEq,
  Option.isSome_some, Option.isSome_none, B2.w, Cm.w, Bi.w, Bm.w, Xt.w, MO.ins.injEq, MO.dK.injEq, and_assoc, List.mem_cons, true_or, or_true, _root_.eq_self, eqW, neW, List.cons.injEq, and_true, true_and, Bool.not_true, Bool.not_false, Gs.len, Es.len,
  ret_non, ret_bl, ret_int, ret_str, ret_tup, ret_lst, isiAny_nil, isiAny_cons, atI_0, atI_1, atI_2, atI_3, atI_4, lstOf_lst, seqOf_lst, seqOf_tup, sup_same, sup_sup, eq_int, ok_int, ok_non, ok_bl, eq_ni, eq_in, eq_bl, MO.lst.injEq, exists_eq', exists_eq,
  kit_NoneType_int, kit_NoneType_bool, kit_NoneType_str, kit_NoneType_tuple, kit_NoneType_list, kit_NoneType_dict, kit_bool_int, kit_bool_bool, kit_bool_str, kit_bool_tuple, kit_bool_list, kit_bool_dict, kit_int_int, kit_int_bool, kit_int_str, kit_int_tuple, kit_int_list, kit_int_dict,
  kit_str_int, kit_str_bool, kit_str_str, kit_str_tuple, kit_str_list, kit_str_dict, kit_list_int, kit_list_bool, kit_list_str, kit_list_tuple, kit_list_list, kit_list_dict, kit_tuple_int, kit_tuple_bool, kit_tuple_str, kit_tuple_tuple, kit_tuple_list, kit_tuple_dict,
  decide_eq_true_eq, Bool.not_eq_true', decide_eq_false_iff_not, forall_const, implies_true, decide_true, decide_false, reduceCtorEq, Int.cast_ofNat_Int, Int.reducePow, Int.reduceMul, Int.reduceAdd, Int.reduceSub, Int.reduceNeg, Int.reduceToNat, Int.reduceEq, Int.reduceLT, Int.reduceLE, lk_Disk_kept_lying, pf_Disk_kept_lying, pi_Disk_kept_lying, lp_Disk_kept_lying_1, lp_Disk_kept_lying_2, lp_Disk_kept_lying_3, lk_Disk_kept_waiting, pf_Disk_kept_waiting, pi_Disk_kept_waiting, lp_Disk_kept_waiting_2, lp_Disk_kept_waiting_3, lk_Disk_kept_power, pf_Disk_kept_power, pi_Disk_kept_power, lp_Disk_kept_power_3, lk_Disk_kept_reached, pf_Disk_kept_reached, pi_Disk_kept_reached, ln_Disk_blocks_0, ln_Disk_blocks_1, ln_Disk_blocks_2, ln_Disk_blocks_3, ln_Disk_blocks_4, ln_Disk_calm_0, ln_Disk_calm_1, ln_Disk_calm_2, ln_Disk_calm_3, ln_Disk_calm_4, ln_Disk_check_block_0, ln_Disk_check_block_1, ln_Disk_check_block_2, ln_Disk_check_block_3, ln_Disk_check_block_4, ln_Disk_copy_0, ln_Disk_copy_1, ln_Disk_copy_2, ln_Disk_copy_3, ln_Disk_copy_4, ln_Disk_cut_0, ln_Disk_cut_1, ln_Disk_cut_2, ln_Disk_cut_3, ln_Disk_cut_4, ln_Disk_force_0, ln_Disk_force_1, ln_Disk_force_2, ln_Disk_force_3, ln_Disk_force_4, ln_Disk_lying_0, ln_Disk_lying_1, ln_Disk_lying_2, ln_Disk_lying_3, ln_Disk_lying_4, ln_Disk_power_0, ln_Disk_power_1, ln_Disk_power_2, ln_Disk_power_3, ln_Disk_power_4, ln_Disk_reach_0, ln_Disk_reach_1, ln_Disk_reach_2, ln_Disk_reach_3, ln_Disk_reach_4, ln_Disk_reach_one_0, ln_Disk_reach_one_1, ln_Disk_reach_one_2, ln_Disk_reach_one_3, ln_Disk_reach_one_4, ln_Disk_reached_0, ln_Disk_reached_1, ln_Disk_reached_2, ln_Disk_reached_3, ln_Disk_reached_4, ln_Disk_read_0, ln_Disk_read_1, ln_Disk_read_2, ln_Disk_read_3, ln_Disk_read_4, ln_Disk_waiting_0, ln_Disk_waiting_1, ln_Disk_waiting_2, ln_Disk_waiting_3, ln_Disk_waiting_4, ln_Disk_write_0, ln_Disk_write_1, ln_Disk_write_2, ln_Disk_write_3, ln_Disk_write_4, lt_line4, kit_dict_int, kit_dict_bool, kit_dict_str, kit_dict_tuple, kit_dict_list, kit_dict_dict, len_iD, ixW_dS, ixW_lS, setW_dS, setW_lS, lenW_dS, lenW_lS, bk_l, bk_w, bk_p, bk_r, pk_w, pk_p, pk_r, lsl_4])
local macro_rules | `(tactic| walk_at "vs") => `(tactic| try simp only [wE_var, wE_int, wE_str, wE_bl, wE_non, wE_glob, wE_b2, wE_neg, wE_cm, wE_ch, wE_not, wE_and, wE_or, wE_ife, wE_tup, wE_lst, wE_ix, wE_sl, wE_rev, wE_bi, wE_isi, wE_call, wE_bm, wE_comp, wE_call0, wE_fld, wE_mt, wE_mk, wE_dic, wE_dic0, wE_dcomp, wE_lock, wE_xt, wE_tcall, wE_isE, wE_fldE, wB_not, wB_and, wB_or, wB_cm, wB_ch, wB_var, wB_ix, wB_bi, wB_isi, wB_call, wB_bm, wB_call0, wB_xt, wB_isE, wB_fld, wB_mt, wAnd_cons1, wAnd_cons, wOr_cons1, wOr_cons, wBAnd_cons1, wBAnd_cons, wBOr_cons1, wBOr_cons, wEs_nil, wEs_cons, wPr_nil, wPr_cons, wC_nil, wC_cons1, wO_no, wO_yes, wG_name, wG_sub, wI_seq, wI_rng, wI_enum, wI_items, wT_asg, wT_setc, wT_aug, wT_ex, wT_ret, wT_retN, wT_pass, wT_brk, wT_cont, wT_ite, wT_for, wT_whil, wT_fst, wT_faug, wT_saug, wT_par2, wT_par3, wT_del, wT_lock, wT_rais, wT_try1, wT_tryN, wT_ac, wTs_nil, wTs_cons, wH_nil, ixW_live, setW_live, ixW_dK, ixW_zK, setW_dK, inR_live, dget_dK, inR_dK, wH_c0, wH_c1, true_and_of, addW_int, addW_str, addW_tup, addW_ll, addW_lr, addW_rl, addW_rr, subW_int, mulW_int, mulW_tup, mulW_ref, fdivW_int, modW_int, powW_int, ltW_int, leW_int, gtW_int, geW_int, ltW_str, leW_str, gtW_str, geW_str, isNW_n, notNW_n, isNone_non, isNone_bl, isNone_int, isNone_str, isNone_tup, isNone_lst, isNone_ref, isNone_ty, tyName_non, tyName_bl, tyName_int, tyName_str, tyName_tup, tyName_lst, negW_int, intW_int, intW_bl, absW_int, minW_int, maxW_int, lenW_str, lenW_lst, lenW_tup, lenW_ref, len_lst, len_dK, len_dT, tupleW_lst, tupleW_tup, tupleW_ref, listW_lst, listW_tup, listW_ref, ixW_str, ixW_lst, ixW_tup, slW_str, slW_tup, slW_lst, slW_ref, revW_tup, revW_lst, revW_ref, appW_ref, appTy, extTy, remTy, extW_ref, remW_ref, lrngW_1, lrngW_2, iscW_ref, tru_bl, tru_non, tru_int, tru_str, tru_tup, tru_lst, seqI_lst, seqI_tup, seqI_ref, seqI_str, seqI_ctp, items_lst, items_zK, items_zT, enumI_lst, enumI_tup, enumI_ref, rngI_1, rngI_3, rngI_2, inW_e, notInW_e, inR_int, inR_lst, inR_tup, flat_int, flat_str, flat_non, flat_bl, ixN_1_0, ixN_2_0, ixN_2_1, ixN_3_0, ixN_3_1, ixN_3_2, ixN_4_0, ixN_4_1, ixN_4_2, ixN_4_3, ixN_5_0, ixN_5_1, ixN_5_2, ixN_5_3, ixN_5_4, ixN_6_0, ixN_6_1, ixN_6_2, ixN_6_3, ixN_6_4, ixN_6_5, ixN_7_0, ixN_7_1, ixN_7_2, ixN_7_3, ixN_7_4, ixN_7_5, ixN_7_6, ixN_8_0, ixN_8_1, ixN_8_2, ixN_8_3, ixN_8_4, ixN_8_5, ixN_8_6, ixN_8_7, seqOf_sup, lstOf_sup, cp10_1, cp2_1, cp10_2, cp2_2, cp10_3, cp2_3, cp10_4, cp2_4, cp10_5, cp2_5, cp10_6, cp2_6, cp10_7, cp2_7, cp10_8, cp2_8, cp10_9, cp2_9, cp10_10, cp2_10, cp10_11, cp2_11, cp10_12, cp2_12, cp10_13, cp2_13, cp10_14, cp2_14, cp10_15, cp2_15, cp10_16, cp2_16, cp10_17, cp2_17, cp10_18, cp2_18, cp10_19, cp2_19, cp10_20, cp2_20, cp10_21, cp2_21, cp10_22, cp2_22, cp10_23, cp2_23, cp10_24, cp2_24, cp10_25, cp2_25, cp10_26, cp2_26, cp10_27, cp2_27, cp10_28, cp2_28, cp10_29, cp2_29, cp10_30, cp2_30, cp10_31, cp2_31, cp10_32, cp2_32, cp10_33, cp2_33, cp10_34, cp2_34, cp10_35, cp2_35, cp10_36, cp2_36, cp10_37, cp2_37, cp10_38, cp2_38, cp10_39, cp2_39, cp10_40, cp2_40, lsl_0, lsl_1, lsl_2, lsl_3, lsl_4, lsl_5, lsl_6, lsl_7, lsl_8, lsl_9, lsl_10, lsl_11, lsl_12, lsl_13, lsl_14, lsl_15, lsl_16, lsl_17, lsl_18, lsl_19, lsl_20, isNW_b, notNW_b, three_c, isDic_dK, isDic_dT, isDic_zK, isDic_zT, lk_dK, lk_dT, key_int, key_str, keysOf_nil, augIx_ref, tupleW_ctp, ixW_ctp, tyName_ctp, tru_ctp, inR_ctp, seqOf_ctp, lenW_ctp, isNone_ctp, augW_int, augS_int, one_c, two_c, wGs_c, wGs_n, wT_never, inner_mk, suite_mk, goneD_nx, goneD_rt, acW_d, acW_s, acW_t, wG_tup1,
  startD, wipeD, List.map_cons, List.map_nil, List.length_cons, List.length_nil, List.cons_append, List.nil_append, List.append_nil,
  List.getElem?_cons_zero, List.getElem?_cons_succ, List.set_cons_zero, List.set_cons_succ, Option.some.injEq, exists_eq_left', exists_eq_left, exists_eq_right, exists_eq_right', exists_and_left, Nat.reduceAdd, Nat.reduceSub, Nat.reduceLT, List.replicate, List.replicate_zero, List.replicate_succ, if_true, Bool.false_eq_true, if_false, ite_true, ite_false, D.bl.injEq, D.int.injEq, D.str.injEq, D.tup.injEq, D.lst.injEq, D.ref.injEq,
  Option.isSome_some, Option.isSome_none, B2.w, Cm.w, Bi.w, Bm.w, Xt.w, MO.ins.injEq, MO.dK.injEq, and_assoc, List.mem_cons, true_or, or_true, _root_.eq_self, eqW, neW, List.cons.injEq, and_true, true_and, Bool.not_true, Bool.not_false, Gs.len, Es.len,
  ret_non, ret_bl, ret_int, ret_str, ret_tup, ret_lst, isiAny_nil, isiAny_cons, atI_0, atI_1, atI_2, atI_3, atI_4, lstOf_lst, seqOf_lst, seqOf_tup, sup_same, sup_sup, eq_int, ok_int, ok_non, ok_bl, eq_ni, eq_in, eq_bl, MO.lst.injEq, exists_eq', exists_eq,
  kit_NoneType_int, kit_NoneType_bool, kit_NoneType_str, kit_NoneType_tuple, kit_NoneType_list, kit_NoneType_dict, kit_bool_int, kit_bool_bool, kit_bool_str, kit_bool_tuple, kit_bool_list, kit_bool_dict, kit_int_int, kit_int_bool, kit_int_str, kit_int_tuple, kit_int_list, kit_int_dict,
  kit_str_int, kit_str_bool, kit_str_str, kit_str_tuple, kit_str_list, kit_str_dict, kit_list_int, kit_list_bool, kit_list_str, kit_list_tuple, kit_list_list, kit_list_dict, kit_tuple_int, kit_tuple_bool, kit_tuple_str, kit_tuple_tuple, kit_tuple_list, kit_tuple_dict,
  decide_eq_true_eq, Bool.not_eq_true', decide_eq_false_iff_not, forall_const, implies_true, decide_true, decide_false, reduceCtorEq, Int.cast_ofNat_Int, Int.reducePow, Int.reduceMul, Int.reduceAdd, Int.reduceSub, Int.reduceNeg, Int.reduceToNat, Int.reduceEq, Int.reduceLT, Int.reduceLE, lk_Disk_kept_lying, pf_Disk_kept_lying, pi_Disk_kept_lying, lp_Disk_kept_lying_1, lp_Disk_kept_lying_2, lp_Disk_kept_lying_3, lk_Disk_kept_waiting, pf_Disk_kept_waiting, pi_Disk_kept_waiting, lp_Disk_kept_waiting_2, lp_Disk_kept_waiting_3, lk_Disk_kept_power, pf_Disk_kept_power, pi_Disk_kept_power, lp_Disk_kept_power_3, lk_Disk_kept_reached, pf_Disk_kept_reached, pi_Disk_kept_reached, ln_Disk_blocks_0, ln_Disk_blocks_1, ln_Disk_blocks_2, ln_Disk_blocks_3, ln_Disk_blocks_4, ln_Disk_calm_0, ln_Disk_calm_1, ln_Disk_calm_2, ln_Disk_calm_3, ln_Disk_calm_4, ln_Disk_check_block_0, ln_Disk_check_block_1, ln_Disk_check_block_2, ln_Disk_check_block_3, ln_Disk_check_block_4, ln_Disk_copy_0, ln_Disk_copy_1, ln_Disk_copy_2, ln_Disk_copy_3, ln_Disk_copy_4, ln_Disk_cut_0, ln_Disk_cut_1, ln_Disk_cut_2, ln_Disk_cut_3, ln_Disk_cut_4, ln_Disk_force_0, ln_Disk_force_1, ln_Disk_force_2, ln_Disk_force_3, ln_Disk_force_4, ln_Disk_lying_0, ln_Disk_lying_1, ln_Disk_lying_2, ln_Disk_lying_3, ln_Disk_lying_4, ln_Disk_power_0, ln_Disk_power_1, ln_Disk_power_2, ln_Disk_power_3, ln_Disk_power_4, ln_Disk_reach_0, ln_Disk_reach_1, ln_Disk_reach_2, ln_Disk_reach_3, ln_Disk_reach_4, ln_Disk_reach_one_0, ln_Disk_reach_one_1, ln_Disk_reach_one_2, ln_Disk_reach_one_3, ln_Disk_reach_one_4, ln_Disk_reached_0, ln_Disk_reached_1, ln_Disk_reached_2, ln_Disk_reached_3, ln_Disk_reached_4, ln_Disk_read_0, ln_Disk_read_1, ln_Disk_read_2, ln_Disk_read_3, ln_Disk_read_4, ln_Disk_waiting_0, ln_Disk_waiting_1, ln_Disk_waiting_2, ln_Disk_waiting_3, ln_Disk_waiting_4, ln_Disk_write_0, ln_Disk_write_1, ln_Disk_write_2, ln_Disk_write_3, ln_Disk_write_4, lt_line4, kit_dict_int, kit_dict_bool, kit_dict_str, kit_dict_tuple, kit_dict_list, kit_dict_dict, len_iD, ixW_dS, ixW_lS, setW_dS, setW_lS, lenW_dS, lenW_lS, bk_l, bk_w, bk_p, bk_r, pk_w, pk_p, pk_r, lsl_4, sup_ne, sup_3, ne_eq, not_false_eq_true, *])
theorem item_dok {d : D} (h : Item d) : D.dok 0 d := by
  rcases h with ⟨i, rfl, _⟩ | ⟨s, rfl, _, h⟩
  · exact dok_int _
  · refine dok_str ?_
    have hc : ∀ c ∈ ("abcdefghijklmnopqrstuvwxyz" : Str).cps.toList, c < 0x110000 := by decide
    simp only [PyData.canLay0, PyData.strOk]
    rw [Array.all_eq_true'] 
    intro c hm
    simpa using hc c (h c (by simpa using hm))
theorem item_nb {d : D} (h : Item d) : d.nb = true := by
  rcases h with ⟨i, rfl, _⟩ | ⟨s, rfl, _, _⟩ <;> rfl
theorem ct_dok {c : D} (h : Ct c) : D.dok 1 c := by
  obtain ⟨xs, rfl, _, h⟩ := h
  exact dok_tup fun x hx => item_dok (h x hx)
theorem ct_nb {c : D} (h : Ct c) : c.nb = true := by
  obtain ⟨xs, rfl, _, h⟩ := h
  exact nb_tup fun x hx => item_nb (h x hx)
theorem ct_ok {c : D} (h : Ct c) : c.ok = true := ok_of (ct_dok h)
theorem ct_eq {c : D} (h : Ct c) : D.eq c c = true := eq_self (ct_nb h)
theorem read_ct {Bk : List Int} {B : Nat} {m : DM} (h : Good Bk B m) {b : Int} (h0 : 0 ≤ b) (h1 : b < m.lying.length) : Ct (readM m b) := by
  unfold readM
  by_cases hr : rowsAt m b = []
  · rw [hr]
    obtain ⟨c, e1, e2, _⟩ := lie_at h0 h1
    rw [e1]
    exact h.lie c e2
  · obtain ⟨r, _, e, _, _, h4⟩ := rows_ne h hr
    rw [e] at hr ⊢
    obtain ⟨c, e1, e2, _⟩ := last_at hr
    rw [e1]
    exact h4 c e2
theorem val_mem {κ : Type} [DecidableEq κ] {kvs : List (κ × D)} (h : (kvs.map (·.1)).Nodup) : ∀ p ∈ kvs, valD kvs p.1 = some p.2 := by
  induction kvs with
  | nil => simp
  | cons q r ih =>
    intro p hp
    rw [List.map_cons, List.nodup_cons] at h
    rw [val_cons]
    rcases List.mem_cons.mp hp with rfl | hp
    · rw [if_pos rfl]
    · rw [if_neg (fun e => h.1 (by rw [e]; exact List.mem_map_of_mem hp)), ih h.2 p hp]
theorem wait_nd {Bk : List Int} {B : Nat} {m : DM} (h : Good Bk B m) : ((waitD m).map (·.1)).Nodup := by
  unfold waitD
  rw [List.map_map]
  exact h.nd
theorem ext_of {S S' : Hs} (h : Agr [] S S') : Sub S S' := fun a o e => h a o e (by simp)
def sp_law_shows (A : Ad) : DSp := fun ds S Q _ => ∃ a l w b l' w' m s ns Bk B, ds = [.ref a, .ref b, s] ∧ (s = .lst (iD ns)) ∧ DiskAt A S a l w m ∧ BookAt S b l' w' m ∧ Good Bk B m ∧ (∀ n ∈ ns, 0 ≤ n ∧ n < m.lying.length) ∧ Q (.bl true) S
theorem v_law_shows : VCd n_law_shows b_law_shows { fns := [], cons := [], nob := n_law_shows.nob, mths := [⟨"lying", A.Disk, sp_Disk_lying A⟩, ⟨"read", A.Disk, sp_Disk_read A⟩, ⟨"waiting", A.Disk, sp_Disk_waiting A⟩, ⟨"reached", A.Disk, sp_Disk_reached A⟩, ⟨"blocks", A.Disk, sp_Disk_blocks A⟩] } 3 (sp_law_shows A) := by
  rintro ds S Q Y ⟨a, l, w, b, l', w', m, s, ns, Bk, B, rfl, rfl, hd, hb, hg, hn, q⟩
  refine ⟨rfl, ?_⟩
  have ⟨g1, g2, g3⟩ := hd
  have ⟨k1, k2, k3, k4⟩ := hb
  unfold b_law_shows n_law_shows
  walk_at "vs"
  refine ⟨a, l, w, m, rfl, hd, ?_⟩
  walk_at "vs"
  refine ⟨a, l, w, m, rfl, hd, ?_⟩
  walk_at "vs"
  refine ⟨a, l, w, m, Bk, B, rfl, hd, hg, fun p hp => ?_⟩
  have n1 : b ≠ p := sne k1 hp
  have n2 : w' ≠ p := sne k3 hp
  have n4 : l' ≠ p := sne k2 hp
  walk_at "vs"
  refine ⟨w', .dK m.waits, (sup_ne n2).trans k3, _, rfl, ?_⟩
  walk_at "vs"
  refine ⟨m.waits, sup_same, ?_⟩
  refine compK (fun p : Key × D => some (.tup [keyD p.1, .int ((rowsOf (some p.2)).length : Nat)])) (by have := good_few hg; omega) (fun S2 h => h w' _ sup_same) ?_ ?_
  · intro i v S2 K K' hx ext hy hn
    obtain ⟨i, r, rfl, _⟩ := hg.row v (mem_of hx)
    unfold keyD
    walk_at "vc"
    exact hy _ rfl
  rw [filterMap_all]
  refine ⟨sup_same, .inr ⟨waitD m, ?_, fun p2 hp2 => ?_⟩⟩
  · unfold waitD
    rw [List.map_map]
    rfl
  rw [sup_sup, show sup (sup S p (.dK (waitD m))) w' (.dK m.waits) = sup S p (.dK (waitD m)) from sup_self ((sup_ne n2).trans k3)] at *
  obtain ⟨n5, n6⟩ := none_sup hp2
  have nd := wait_nd hg
  rw [merge_nd nd]
  have ex : Agr [] S (sup (sup S p (.dK (waitD m))) p2 (.dK (waitD m))) := Agr.sup (Agr.sup Agr.refl (.inr hp)) (.inr n6)
  refine ⟨⟨waitD m, waitD m, (sup_ne (Ne.symm n5)).trans sup_same, sup_same, rfl, fun x hx => ⟨val_mem nd x hx, ?_⟩⟩, ?_⟩
  · unfold waitD at hx
    obtain ⟨y, _, rfl⟩ := List.mem_map.mp hx
    rfl
  walk_at "vc"
  generalize sup (sup S p (.dK (waitD m))) p2 (.dK (waitD m)) = S1 at *
  have hd1 : DiskAt A S1 a l w m := ⟨ex _ _ g1 (by simp), ex _ _ g2 (by simp), ex _ _ g3 (by simp)⟩
  have hb1 : BookAt S1 b l' w' m := ⟨ex _ _ k1 (by simp), ex _ _ k2 (by simp), ex _ _ k3 (by simp), k4⟩
  refine for_inv (fun i ρ S2 => S2 = S1 ∧ ∃ x y z, ρ = [some (D.ref a), some (D.ref b), some (D.lst (iD ns)), x, y, z]) ⟨rfl, _, _, _, rfl⟩ ?_ ?_
  · rintro i x ρ S2 hi ⟨rfl, x', y', z', rfl⟩
    obtain ⟨c, hc, rfl⟩ := map_of hi
    obtain ⟨h1, h2⟩ := hn c (mem_of hc)
    obtain ⟨j1, j2, j3, j4⟩ := hb1
    refine ⟨trivial, ?_⟩
    walk_at "vs"
    refine ⟨_, inR_at j3 rfl, ?_⟩
    have ⟨i1, i2, i3⟩ := hd1
    obtain ⟨u, e1, hu, e2⟩ := lie_at h1 h2
    have cu := hg.lie u hu
    have rd := read_ct hg h1 h2
    have er : (if (valD m.waits (.inl c)).isSome = true then ∃ x, valD m.waits (.inl c) = some x ∧ ∃ r, x = .lst r ∧ atI r (-1) = some (readM m c) else readM m c = u) := by
      unfold readM
      cases e : valD m.waits (.inl c) with
      | none =>
        rw [if_neg (by simp), rows_none e, e1]
        rfl
      | some v =>
        obtain ⟨r, rfl, hr, _⟩ := good_row hg e
        rw [if_pos (show (some (D.lst r)).isSome = true from rfl), rows_some e]
        obtain ⟨z, f1, _, f2⟩ := last_at hr
        refine ⟨_, rfl, r, rfl, ?_⟩
        rw [f1]
        exact f2
    have el : (m.lying[c.toNat]?).getD .non = u := by rw [e1]; rfl
    split
    · rename_i hs
      rw [if_pos hs] at er
      obtain ⟨x, f1, r, rfl, f2⟩ := er
      refine ⟨_, f1, ?_⟩
      walk_at "vs"
      refine ⟨a, l, w, m, c, Bk, B, rfl, hd1, hg, h1, h2, ct_ok rd, ct_ok rd, ?_⟩
      rw [ct_eq rd]
      walk_at "vs"
      refine ⟨a, l, w, m, c, rfl, hd1, h1, h2, ?_⟩
      rw [el]
      walk_at "vs"
      refine ⟨ct_ok cu, ct_ok cu, ?_⟩
      rw [ct_eq cu]
      simp
    · rename_i hs
      rw [if_neg hs] at er
      refine ⟨u, e2, ?_⟩
      walk_at "vs"
      refine ⟨a, l, w, m, c, Bk, B, rfl, hd1, hg, h1, h2, ct_ok rd, ct_ok cu, ?_⟩
      rw [er, ct_eq cu]
      walk_at "vs"
      refine ⟨a, l, w, m, c, rfl, hd1, h1, h2, ?_⟩
      rw [el]
      walk_at "vs"
      refine ⟨ct_ok cu, ct_ok cu, ?_⟩
      rw [ct_eq cu]
      simp
  · rintro ρ S2 ⟨rfl, x', y', z', rfl⟩
    refine ⟨trivial, ?_⟩
    walk_at "vc"
    exact ⟨S, ext_of ex, q⟩
end W
namespace W
open PySem L2 Dz
variable {A : Ad}
local macro_rules | `(tactic| walk_at "vc") => `(tactic| try simp only [wE_var, wE_int, wE_str, wE_bl, wE_non, wE_glob, wE_b2, wE_neg, wE_cm, wE_ch, wE_not, wE_and, wE_or, wE_ife, wE_tup, wE_lst, wE_ix, wE_sl, wE_rev, wE_bi, wE_isi, wE_call, wE_bm, wE_comp, wE_call0, wE_fld, wE_mt, wE_mk, wE_dic, wE_dic0, wE_dcomp, wE_lock, wE_xt, wE_tcall, wE_isE, wE_fldE, wB_not, wB_and, wB_or, wB_cm, wB_ch, wB_var, wB_ix, wB_bi, wB_isi, wB_call, wB_bm, wB_call0, wB_xt, wB_isE, wB_fld, wB_mt, wAnd_cons1, wAnd_cons, wOr_cons1, wOr_cons, wBAnd_cons1, wBAnd_cons, wBOr_cons1, wBOr_cons, wEs_nil, wEs_cons, wPr_nil, wPr_cons, wC_nil, wC_cons1, wO_no, wO_yes, wG_name, wG_sub, wI_seq, wI_rng, wI_enum, wI_items, wT_asg, wT_setc, wT_aug, wT_ex, wT_ret, wT_retN, wT_pass, wT_brk, wT_cont, wT_ite, wT_for, wT_whil, wT_fst, wT_faug, wT_saug, wT_par2, wT_par3, wT_del, wT_lock, wT_rais, wT_try1, wT_tryN, wT_ac, wTs_nil, wTs_cons, wH_nil, ixW_live, setW_live, ixW_dK, ixW_zK, setW_dK, inR_live, dget_dK, inR_dK, wH_c0, wH_c1, true_and_of, addW_int, addW_str, addW_tup, addW_ll, addW_lr, addW_rl, addW_rr, subW_int, mulW_int, mulW_tup, mulW_ref, fdivW_int, modW_int, powW_int, ltW_int, leW_int, gtW_int, geW_int, ltW_str, leW_str, gtW_str, geW_str, isNW_n, notNW_n, isNone_non, isNone_bl, isNone_int, isNone_str, isNone_tup, isNone_lst, isNone_ref, isNone_ty, tyName_non, tyName_bl, tyName_int, tyName_str, tyName_tup, tyName_lst, negW_int, intW_int, intW_bl, absW_int, minW_int, maxW_int, lenW_str, lenW_lst, lenW_tup, lenW_ref, len_lst, len_dK, len_dT, tupleW_lst, tupleW_tup, tupleW_ref, listW_lst, listW_tup, listW_ref, ixW_str, ixW_lst, ixW_tup, slW_str, slW_tup, slW_lst, slW_ref, revW_tup, revW_lst, revW_ref, appW_ref, appTy, extTy, remTy, extW_ref, remW_ref, lrngW_1, lrngW_2, iscW_ref, tru_bl, tru_non, tru_int, tru_str, tru_tup, tru_lst, seqI_lst, seqI_tup, seqI_ref, seqI_str, seqI_ctp, items_lst, items_zK, items_zT, enumI_lst, enumI_tup, enumI_ref, rngI_1, rngI_3, rngI_2, inW_e, notInW_e, inR_int, inR_lst, inR_tup, flat_int, flat_str, flat_non, flat_bl, ixN_1_0, ixN_2_0, ixN_2_1, ixN_3_0, ixN_3_1, ixN_3_2, ixN_4_0, ixN_4_1, ixN_4_2, ixN_4_3, ixN_5_0, ixN_5_1, ixN_5_2, ixN_5_3, ixN_5_4, ixN_6_0, ixN_6_1, ixN_6_2, ixN_6_3, ixN_6_4, ixN_6_5, ixN_7_0, ixN_7_1, ixN_7_2, ixN_7_3, ixN_7_4, ixN_7_5, ixN_7_6, ixN_8_0, ixN_8_1, ixN_8_2, ixN_8_3, ixN_8_4, ixN_8_5, ixN_8_6, ixN_8_7, seqOf_sup, lstOf_sup, cp10_1, cp2_1, cp10_2, cp2_2, cp10_3, cp2_3, cp10_4, cp2_4, cp10_5, cp2_5, cp10_6, cp2_6, cp10_7, cp2_7, cp10_8, cp2_8, cp10_9, cp2_9, cp10_10, cp2_10, cp10_11, cp2_11, cp10_12, cp2_12, cp10_13, cp2_13, cp10_14, cp2_14, cp10_15, cp2_15, cp10_16, cp2_16, cp10_17, cp2_17, cp10_18, cp2_18, cp10_19, cp2_19, cp10_20, cp2_20, cp10_21, cp2_21, cp10_22, cp2_22, cp10_23, cp2_23, cp10_24, cp2_24, cp10_25, cp2_25, cp10_26, cp2_26, cp10_27, cp2_27, cp10_28, cp2_28, cp10_29, cp2_29, cp10_30, cp2_30, cp10_31, cp2_31, cp10_32, cp2_32, cp10_33, cp2_33, cp10_34, cp2_34, cp10_35, cp2_35, cp10_36, cp2_36, cp10_37, cp2_37, cp10_38, cp2_38, cp10_39, cp2_39, cp10_40, cp2_40, lsl_0, lsl_1, lsl_2, lsl_3, lsl_4, lsl_5, lsl_6, lsl_7, lsl_8, lsl_9, lsl_10, lsl_11, lsl_12, lsl_13, lsl_14, lsl_15, lsl_16, lsl_17, lsl_18, lsl_19, lsl_20, isNW_b, notNW_b, three_c, isDic_dK, isDic_dT, isDic_zK, isDic_zT, lk_dK, lk_dT, key_int, key_str, keysOf_nil, augIx_ref, tupleW_ctp, ixW_ctp, tyName_ctp, tru_ctp, inR_ctp, seqOf_ctp, lenW_ctp, isNone_ctp, augW_int, augS_int, one_c, two_c, wGs_c, wGs_n, wT_never, inner_mk, suite_mk, goneD_nx, goneD_rt, acW_d, acW_s, acW_t, wG_tup1,
  startD, wipeD, List.map_cons, List.map_nil, List.length_cons, List.length_nil, List.cons_append, List.nil_append, List.append_nil,
  List.getElem?_cons_zero, List.getElem?_cons_succ, List.set_cons_zero, List.set_cons_succ, Option.some.injEq, exists_eq_left', exists_eq_left, exists_eq_right, exists_eq_right', exists_and_left, Nat.reduceAdd, Nat.reduceSub, Nat.reduceLT, List.replicate, List.replicate_zero, List.replicate_succ, if_true, Bool.false_eq_true, if_false, ite_true, ite_false, D.bl.injEq, D.int.injEq, D.str.injEq, D.tup.injEq, D.lst.injEq, D.ref.injEq,
  Option.isSome_some, Option.isSome_none, B2.w, Cm.w, Bi.w, Bm.w, Xt.w, MO.ins.injEq, MO.dK.injEq, and_assoc, List.mem_cons, true_or, or_true, _root_.eq_self, eqW, neW, List.cons.injEq, and_true, true_and, Bool.not_true, Bool.not_false, Gs.len, Es.len,
  ret_non, ret_bl, ret_int, ret_str, ret_tup, ret_lst, isiAny_nil, isiAny_cons, atI_0, atI_1, atI_2, atI_3, atI_4, lstOf_lst, seqOf_lst, seqOf_tup, sup_same, sup_sup, eq_int, ok_int, ok_non, ok_bl, eq_ni, eq_in, eq_bl, MO.lst.injEq, exists_eq', exists_eq,
  kit_NoneType_int, kit_NoneType_bool, kit_NoneType_str, kit_NoneType_tuple, kit_NoneType_list, kit_NoneType_dict, kit_bool_int, kit_bool_bool, kit_bool_str, kit_bool_tuple, kit_bool_list, kit_bool_dict, kit_int_int, kit_int_bool, kit_int_str, kit_int_tuple, kit_int_list, kit_int_dict,
  kit_str_int, kit_str_bool, kit_str_str, kit_str_tuple, kit_str_list, kit_str_dict, kit_list_int, kit_list_bool, kit_list_str, kit_list_tuple, kit_list_list, kit_list_dict, kit_tuple_int, kit_tuple_bool, kit_tuple_str, kit_tuple_tuple, kit_tuple_list, kit_tuple_dict,
  decide_eq_true_eq, Bool.not_eq_true', decide_eq_false_iff_not, forall_const, implies_true, decide_true, decide_false, reduceCtorEq, Int.cast_ofNat_Int, Int.reducePow, Int.reduceMul, Int.reduceAdd, Int.reduceSub, Int.reduceNeg, Int.reduceToNat, Int.reduceEq, Int.reduceLT, Int.reduceLE, lk_Disk_kept_lying, pf_Disk_kept_lying, pi_Disk_kept_lying, lp_Disk_kept_lying_1, lp_Disk_kept_lying_2, lp_Disk_kept_lying_3, lk_Disk_kept_waiting, pf_Disk_kept_waiting, pi_Disk_kept_waiting, lp_Disk_kept_waiting_2, lp_Disk_kept_waiting_3, lk_Disk_kept_power, pf_Disk_kept_power, pi_Disk_kept_power, lp_Disk_kept_power_3, lk_Disk_kept_reached, pf_Disk_kept_reached, pi_Disk_kept_reached, ln_Disk_blocks_0, ln_Disk_blocks_1, ln_Disk_blocks_2, ln_Disk_blocks_3, ln_Disk_blocks_4, ln_Disk_calm_0, ln_Disk_calm_1, ln_Disk_calm_2, ln_Disk_calm_3, ln_Disk_calm_4, ln_Disk_check_block_0, ln_Disk_check_block_1, ln_Disk_check_block_2, ln_Disk_check_block_3, ln_Disk_check_block_4, ln_Disk_copy_0, ln_Disk_copy_1, ln_Disk_copy_2, ln_Disk_copy_3, ln_Disk_copy_4, ln_Disk_cut_0, ln_Disk_cut_1, ln_Disk_cut_2, ln_Disk_cut_3, ln_Disk_cut_4, ln_Disk_force_0, ln_Disk_force_1, ln_Disk_force_2, ln_Disk_force_3, ln_Disk_force_4, ln_Disk_lying_0, ln_Disk_lying_1, ln_Disk_lying_2, ln_Disk_lying_3, ln_Disk_lying_4, ln_Disk_power_0, ln_Disk_power_1, ln_Disk_power_2, ln_Disk_power_3, ln_Disk_power_4, ln_Disk_reach_0, ln_Disk_reach_1, ln_Disk_reach_2, ln_Disk_reach_3, ln_Disk_reach_4, ln_Disk_reach_one_0, ln_Disk_reach_one_1, ln_Disk_reach_one_2, ln_Disk_reach_one_3, ln_Disk_reach_one_4, ln_Disk_reached_0, ln_Disk_reached_1, ln_Disk_reached_2, ln_Disk_reached_3, ln_Disk_reached_4, ln_Disk_read_0, ln_Disk_read_1, ln_Disk_read_2, ln_Disk_read_3, ln_Disk_read_4, ln_Disk_waiting_0, ln_Disk_waiting_1, ln_Disk_waiting_2, ln_Disk_waiting_3, ln_Disk_waiting_4, ln_Disk_write_0, ln_Disk_write_1, ln_Disk_write_2, ln_Disk_write_3, ln_Disk_write_4, lt_line4, kit_dict_int, kit_dict_bool, kit_dict_str, kit_dict_tuple, kit_dict_list, kit_dict_dict, len_iD, ixW_dS, ixW_lS, setW_dS, setW_lS, lenW_dS, lenW_lS, bk_l, bk_w, bk_p, bk_r, pk_w, pk_p, pk_r, lsl_4])
local macro_rules | `(tactic| walk_at "vs") => `(tactic| try simp only [wE_var, wE_int, wE_str, wE_bl, wE_non, wE_glob, wE_b2, wE_neg, wE_cm, wE_ch, wE_not, wE_and, wE_or, wE_ife, wE_tup, wE_lst, wE_ix, wE_sl, wE_rev, wE_bi, wE_isi, wE_call, wE_bm, wE_comp, wE_call0, wE_fld, wE_mt, wE_mk, wE_dic, wE_dic0, wE_dcomp, wE_lock, wE_xt, wE_tcall, wE_isE, wE_fldE, wB_not, wB_and, wB_or, wB_cm, wB_ch, wB_var, wB_ix, wB_bi, wB_isi, wB_call, wB_bm, wB_call0, wB_xt, wB_isE, wB_fld, wB_mt, wAnd_cons1, wAnd_cons, wOr_cons1, wOr_cons, wBAnd_cons1, wBAnd_cons, wBOr_cons1, wBOr_cons, wEs_nil, wEs_cons, wPr_nil, wPr_cons, wC_nil, wC_cons1, wO_no, wO_yes, wG_name, wG_sub, wI_seq, wI_rng, wI_enum, wI_items, wT_asg, wT_setc, wT_aug, wT_ex, wT_ret, wT_retN, wT_pass, wT_brk, wT_cont, wT_ite, wT_for, wT_whil, wT_fst, wT_faug, wT_saug, wT_par2, wT_par3, wT_del, wT_lock, wT_rais, wT_try1, wT_tryN, wT_ac, wTs_nil, wTs_cons, wH_nil, ixW_live, setW_live, ixW_dK, ixW_zK, setW_dK, inR_live, dget_dK, inR_dK, wH_c0, wH_c1, true_and_of, addW_int, addW_str, addW_tup, addW_ll, addW_lr, addW_rl, addW_rr, subW_int, mulW_int, mulW_tup, mulW_ref, fdivW_int, modW_int, powW_int, ltW_int, leW_int, gtW_int, geW_int, ltW_str, leW_str, gtW_str, geW_str, isNW_n, notNW_n, isNone_non, isNone_bl, isNone_int, isNone_str, isNone_tup, isNone_lst, isNone_ref, isNone_ty, tyName_non, tyName_bl, tyName_int, tyName_str, tyName_tup, tyName_lst, negW_int, intW_int, intW_bl, absW_int, minW_int, maxW_int, lenW_str, lenW_lst, lenW_tup, lenW_ref, len_lst, len_dK, len_dT, tupleW_lst, tupleW_tup, tupleW_ref, listW_lst, listW_tup, listW_ref, ixW_str, ixW_lst, ixW_tup, slW_str, slW_tup, slW_lst, slW_ref, revW_tup, revW_lst, revW_ref, appW_ref, appTy, extTy, remTy, extW_ref, remW_ref, lrngW_1, lrngW_2, iscW_ref, tru_bl, tru_non, tru_int, tru_str, tru_tup, tru_lst, seqI_lst, seqI_tup, seqI_ref, seqI_str, seqI_ctp, items_lst, items_zK, items_zT, enumI_lst, enumI_tup, enumI_ref, rngI_1, rngI_3, rngI_2, inW_e, notInW_e, inR_int, inR_lst, inR_tup, flat_int, flat_str, flat_non, flat_bl, ixN_1_0, ixN_2_0, ixN_2_1, ixN_3_0, ixN_3_1, ixN_3_2, ixN_4_0, ixN_4_1, ixN_4_2, ixN_4_3, ixN_5_0, ixN_5_1, ixN_5_2, ixN_5_3, ixN_5_4, ixN_6_0, ixN_6_1, ixN_6_2, ixN_6_3, ixN_6_4, ixN_6_5, ixN_7_0, ixN_7_1, ixN_7_2, ixN_7_3, ixN_7_4, ixN_7_5, ixN_7_6, ixN_8_0, ixN_8_1, ixN_8_2, ixN_8_3, ixN_8_4, ixN_8_5, ixN_8_6, ixN_8_7, seqOf_sup, lstOf_sup, cp10_1, cp2_1, cp10_2, cp2_2, cp10_3, cp2_3, cp10_4, cp2_4, cp10_5, cp2_5, cp10_6, cp2_6, cp10_7, cp2_7, cp10_8, cp2_8, cp10_9, cp2_9, cp10_10, cp2_10, cp10_11, cp2_11, cp10_12, cp2_12, cp10_13, cp2_13, cp10_14, cp2_14, cp10_15, cp2_15, cp10_16, cp2_16, cp10_17, cp2_17, cp10_18, cp2_18, cp10_19, cp2_19, cp10_20, cp2_20, cp10_21, cp2_21, cp10_22, cp2_22, cp10_23, cp2_23, cp10_24, cp2_24, cp10_25, cp2_25, cp10_26, cp2_26, cp10_27, cp2_27, cp10_28, cp2_28, cp10_29, cp2_29, cp10_30, cp2_30, cp10_31, cp2_31, cp10_32, cp2_32, cp10_33, cp2_33, cp10_34, cp2_34, cp10_35, cp2_35, cp10_36, cp2_36, cp10_37, cp2_37, cp10_38, cp2_38, cp10_39, cp2_39, cp10_40, cp2_40, lsl_0, lsl_1, lsl_2, lsl_3, lsl_4, lsl_5, lsl_6, lsl_7, lsl_8, lsl_9, lsl_10, lsl_11, lsl_12, lsl_13, lsl_14, lsl_15, lsl_16, lsl_17, lsl_18, lsl_19, lsl_20, isNW_b, notNW_b, three_c, isDic_dK, isDic_dT, isDic_zK, isDic_zT, lk_dK, lk_dT, key_int, key_str, keysOf_nil, augIx_ref, tupleW_ctp, ixW_ctp, tyName_ctp, tru_ctp, inR_ctp, seqOf_ctp, lenW_ctp, isNone_ctp, augW_int, augS_int, one_c, two_c, wGs_c, wGs_n, wT_never, inner_mk, suite_mk, goneD_nx, goneD_rt, acW_d, acW_s, acW_t, wG_tup1,
  startD, wipeD, List.map_cons, List.map_nil, List.length_cons, List.length_nil, List.cons_append, List.nil_append, List.append_nil,
  List.getElem?_cons_zero, List.getElem?_cons_succ, List.set_cons_zero, List.set_cons_succ, Option.some.injEq, exists_eq_left', exists_eq_left, exists_eq_right, exists_eq_right', exists_and_left, Nat.reduceAdd, Nat.reduceSub, Nat.reduceLT, List.replicate, List.replicate_zero, List.replicate_succ, if_true, Bool.false_eq_true, if_false, ite_true, ite_false, D.bl.injEq, D.int.injEq, D.str.injEq, D.tup.injEq, D.lst.injEq, D.ref.injEq,
  Option.isSome_some, Option.isSome_none, B2.w, Cm.w, Bi.w, Bm.w, Xt.w, MO.ins.injEq, MO.dK.injEq, and_assoc, List.mem_cons, true_or, or_true, _root_.eq_self, eqW, neW, List.cons.injEq, and_true, true_and, Bool.not_true, Bool.not_false, Gs.len, Es.len,
  ret_non, ret_bl, ret_int, ret_str, ret_tup, ret_lst, isiAny_nil, isiAny_cons, atI_0, atI_1, atI_2, atI_3, atI_4, lstOf_lst, seqOf_lst, seqOf_tup, sup_same, sup_sup, eq_int, ok_int, ok_non, ok_bl, eq_ni, eq_in, eq_bl, MO.lst.injEq, exists_eq', exists_eq,
  kit_NoneType_int, kit_NoneType_bool, kit_NoneType_str, kit_NoneType_tuple, kit_NoneType_list, kit_NoneType_dict, kit_bool_int, kit_bool_bool, kit_bool_str, kit_bool_tuple, kit_bool_list, kit_bool_dict, kit_int_int, kit_int_bool, kit_int_str, kit_int_tuple, kit_int_list, kit_int_dict,
  kit_str_int, kit_str_bool, kit_str_str, kit_str_tuple, kit_str_list, kit_str_dict, kit_list_int, kit_list_bool, kit_list_str, kit_list_tuple, kit_list_list, kit_list_dict, kit_tuple_int, kit_tuple_bool, kit_tuple_str, kit_tuple_tuple, kit_tuple_list, kit_tuple_dict,
  decide_eq_true_eq, Bool.not_eq_true', decide_eq_false_iff_not, forall_const, implies_true, decide_true, decide_false, reduceCtorEq, Int.cast_ofNat_Int, Int.reducePow, Int.reduceMul, Int.reduceAdd, Int.reduceSub, Int.reduceNeg, Int.reduceToNat, Int.reduceEq, Int.reduceLT, Int.reduceLE, lk_Disk_kept_lying, pf_Disk_kept_lying, pi_Disk_kept_lying, lp_Disk_kept_lying_1, lp_Disk_kept_lying_2, lp_Disk_kept_lying_3, lk_Disk_kept_waiting, pf_Disk_kept_waiting, pi_Disk_kept_waiting, lp_Disk_kept_waiting_2, lp_Disk_kept_waiting_3, lk_Disk_kept_power, pf_Disk_kept_power, pi_Disk_kept_power, lp_Disk_kept_power_3, lk_Disk_kept_reached, pf_Disk_kept_reached, pi_Disk_kept_reached, ln_Disk_blocks_0, ln_Disk_blocks_1, ln_Disk_blocks_2, ln_Disk_blocks_3, ln_Disk_blocks_4, ln_Disk_calm_0, ln_Disk_calm_1, ln_Disk_calm_2, ln_Disk_calm_3, ln_Disk_calm_4, ln_Disk_check_block_0, ln_Disk_check_block_1, ln_Disk_check_block_2, ln_Disk_check_block_3, ln_Disk_check_block_4, ln_Disk_copy_0, ln_Disk_copy_1, ln_Disk_copy_2, ln_Disk_copy_3, ln_Disk_copy_4, ln_Disk_cut_0, ln_Disk_cut_1, ln_Disk_cut_2, ln_Disk_cut_3, ln_Disk_cut_4, ln_Disk_force_0, ln_Disk_force_1, ln_Disk_force_2, ln_Disk_force_3, ln_Disk_force_4, ln_Disk_lying_0, ln_Disk_lying_1, ln_Disk_lying_2, ln_Disk_lying_3, ln_Disk_lying_4, ln_Disk_power_0, ln_Disk_power_1, ln_Disk_power_2, ln_Disk_power_3, ln_Disk_power_4, ln_Disk_reach_0, ln_Disk_reach_1, ln_Disk_reach_2, ln_Disk_reach_3, ln_Disk_reach_4, ln_Disk_reach_one_0, ln_Disk_reach_one_1, ln_Disk_reach_one_2, ln_Disk_reach_one_3, ln_Disk_reach_one_4, ln_Disk_reached_0, ln_Disk_reached_1, ln_Disk_reached_2, ln_Disk_reached_3, ln_Disk_reached_4, ln_Disk_read_0, ln_Disk_read_1, ln_Disk_read_2, ln_Disk_read_3, ln_Disk_read_4, ln_Disk_waiting_0, ln_Disk_waiting_1, ln_Disk_waiting_2, ln_Disk_waiting_3, ln_Disk_waiting_4, ln_Disk_write_0, ln_Disk_write_1, ln_Disk_write_2, ln_Disk_write_3, ln_Disk_write_4, lt_line4, kit_dict_int, kit_dict_bool, kit_dict_str, kit_dict_tuple, kit_dict_list, kit_dict_dict, len_iD, ixW_dS, ixW_lS, setW_dS, setW_lS, lenW_dS, lenW_lS, bk_l, bk_w, bk_p, bk_r, pk_w, pk_p, pk_r, lsl_4, sup_ne, sup_3, ne_eq, not_false_eq_true, *])
def sp_law_content : DSp := fun ds S Q _ => ∃ h o, ds = [.ref h] ∧ S h = some o ∧ HandO o ∧ ∀ S' c o', Ct c → S' h = some o' → HandO o' → Agr [h] S S' → Q c S'
theorem item_s {s : Str} (h1 : s.length ≤ 12) (h2 : ∀ c ∈ s.cps.toList, c ∈ ("abcdefghijklmnopqrstuvwxyz" : Str).cps.toList) : Item (.str s) := .inr ⟨s, rfl, h1, h2⟩
theorem item_i {i : Int} (h1 : -1000000000000000000000000000000 ≤ i) (h2 : i ≤ 1000000000000000000000000000000) : Item (.int i) := .inl ⟨i, rfl, h1, h2⟩
theorem v_law_content : VC n_law_content b_law_content { fns := [("_law_any", sp_law_any), ("_law_draw", sp_law_draw)], cons := [], nob := n_law_content.nob } 1 sp_law_content := by
  rintro ds S Q Y ⟨h, o, rfl, hS, ho, q⟩
  refine ⟨rfl, ?_⟩
  unfold b_law_content n_law_content
  walk_at "vc"
  refine ⟨h, _, o, rfl, hS, ho, by decide, by decide, fun k o hk hk' ho => ?_⟩
  walk_at "vc"
  refine newL_f ?_
  generalize hxs : [D.int 0, D.int 1, D.int (-7), D.int 1000000000000000000000000000000, D.int (-1000000000000000000000000000000), D.str "", D.str "a", D.str "abcdefghijkl", D.int k] = xs
  have hit : ∀ x ∈ xs, Item x := by
    rw [← hxs]
    intro x hx
    simp only [List.mem_cons, List.not_mem_nil, or_false] at hx
    rcases hx with rfl | rfl | rfl | rfl | rfl | rfl | rfl | rfl | rfl
    · exact item_i (by decide) (by decide)
    · exact item_i (by decide) (by decide)
    · exact item_i (by decide) (by decide)
    · exact item_i (by decide) (by decide)
    · exact item_i (by decide) (by decide)
    · exact item_s (by decide) (by decide)
    · exact item_s (by decide) (by decide)
    · exact item_s (by decide) (by decide)
    · exact item_i (by omega) (by omega)
  have hl : xs.length = 9 := by rw [← hxs]; rfl
  clear hxs
  walk_at "vc"
  refine newL_f ⟨h, o, _, _, rfl, sup_same, ho, rfl, by simp, by simp, by simp, fun x o hx ho => ?_⟩
  rw [sup_sup]
  obtain ⟨n, rfl, hn⟩ : ∃ n : Nat, x = .int n ∧ n ≤ 40 := by
    simp only [List.mem_cons, List.not_mem_nil, or_false] at hx
    rcases hx with rfl | rfl | rfl | rfl | rfl | rfl
    · exact ⟨0, rfl, by decide⟩
    · exact ⟨1, rfl, by decide⟩
    · exact ⟨2, rfl, by decide⟩
    · exact ⟨3, rfl, by decide⟩
    · exact ⟨5, rfl, by decide⟩
    · exact ⟨40, rfl, by decide⟩
  walk_at "vc"
  refine ⟨by omega, by omega, ?_⟩
  unfold rngD
  refine compJ (fun i acc S2 => (∃ o, S2 h = some o ∧ HandO o) ∧ Agr [h] S S2 ∧ acc.length ≤ i ∧ ∀ x ∈ acc, Item x) (by simp [sizeLine]; omega) ⟨⟨o, sup_same, ho⟩, Agr.sup Agr.refl (.inl (by simp)), by simp, by simp⟩ ?_ (fun _ _ _ _ => trivial) ?_ ?_
  · rintro i acc S2 L u hL ⟨⟨o, h1, h2⟩, h3, h4⟩
    have hL := (none_sup hL)
    exact ⟨⟨o, (sup_ne (Ne.symm hL.1)).trans h1, h2⟩, Agr.sup h3 (.inr hL.2), h4⟩
  · rintro i x acc S2 L K K' hL hx ha ⟨⟨o, h1, h2⟩, h3, h4, h5⟩ h6 hy hn
    have hL := none_sup hL
    walk_at "vc"
    refine ⟨h, o, _, xs, rfl, h1, h2, rfl, by simp, by omega, by omega, fun y o hy' ho => hy y _ ((sup_ne hL.1).trans h6) ⟨⟨o, sup_same, ho⟩, Agr.sup h3 (.inl (by simp)), by simp; omega, fun z hz => ?_⟩⟩
    rcases List.mem_append.mp hz with hz | hz
    · exact h5 z hz
    · rw [List.mem_singleton.mp hz]; exact hit y hy'
  · rintro acc S2 L hL h6 ha ⟨⟨o, h1, h2⟩, h3, h4, h5⟩
    refine .inr ?_
    refine ⟨acc, seqOf_at h6, ?_⟩
    rw [List.length_range] at h4
    exact .inl (q S2 _ o ⟨acc, rfl, by omega, h5⟩ h1 h2 h3)
/-! steps of a row -/
inductive Stp where
  | reach (b : Int) | force (ns : List Int) | calm
def stD : Stp → D
  | .reach b => .tup [.str "reach", .int b]
  | .force ns => .tup [.str "force", .tup (iD ns)]
  | .calm => .tup [.str "calm"]
def RowOk : List Int → List Stp → Prop
  | _, [] => False
  | left, .reach b :: r => b ∈ left ∧ RowOk (left.erase b) r
  | left, .force ns :: r => ns.Pairwise (· < ·) ∧ (∀ n ∈ ns, n ∈ left) ∧ RowOk (left.filter fun b => decide (b ∉ ns)) r
  | _, .calm :: r => r = []
def wrD (p : Int × D) : D := .tup [.int p.1, p.2]
def sp_law_row : DSp := fun ds S Q _ => ∃ (h : Addr) (o : MO) (ws : List (Int × D)), ds = [.ref h, .lst (ws.map wrD)] ∧ S h = some o ∧ HandO o ∧ ws.length ≤ 20 ∧ ∀ S' st o', RowOk (ws.map Prod.fst) st → st.length ≤ 21 → S' h = some o' → HandO o' → Agr [h] S S' → Q (.lst (st.map stD)) S'
theorem any_iD2 {i : Int} {ns : List Int} : ((iD ns).any fun z => D.eq z (.int i)) = decide (i ∈ ns) := any_int
theorem flat_iD2 (ns : List Int) : (iD ns).all D.flat = true := by unfold iD; rw [List.all_map]; simp [Function.comp_def, D.flat]
def RowI (S : Hs) (h : Addr) (ws : List (Int × D)) (n : Nat) (ρ : Ro) (S2 : Hs) : Prop := ∃ left st L F o a b c d, ρ = [some (D.ref h), some (.lst (ws.map wrD)), some (.ref L), some (.ref F), a, b, c, d] ∧ S2 h = some o ∧ HandO o ∧ S2 L = some (.lst (iD left)) ∧ S2 F = some (.lst (st.map stD)) ∧ L ≠ F ∧ h ≠ L ∧ h ≠ F ∧ S L = none ∧ S F = none ∧ left.length = n ∧ st.length + left.length ≤ 20 ∧ Agr [h] S S2 ∧ (∀ r, RowOk left r → RowOk (ws.map Prod.fst) (st ++ r))
end W
namespace W
open PySem L2 Dz
variable {A : Ad}
local macro_rules | `(tactic| walk_at "vc") => `(tactic| try simp only [wE_var, wE_int, wE_str, wE_bl, wE_non, wE_glob, wE_b2, wE_neg, wE_cm, wE_ch, wE_not, wE_and, wE_or, wE_ife, wE_tup, wE_lst, wE_ix, wE_sl, wE_rev, wE_bi, wE_isi, wE_call, wE_bm, wE_comp, wE_call0, wE_fld, wE_mt, wE_mk, wE_dic, wE_dic0, wE_dcomp, wE_lock, wE_xt, wE_tcall, wE_isE, wE_fldE, wB_not, wB_and, wB_or, wB_cm, wB_ch, wB_var, wB_ix, wB_bi, wB_isi, wB_call, wB_bm, wB_call0, wB_xt, wB_isE, wB_fld, wB_mt, wAnd_cons1, wAnd_cons, wOr_cons1, wOr_cons, wBAnd_cons1, wBAnd_cons, wBOr_cons1, wBOr_cons, wEs_nil, wEs_cons, wPr_nil, wPr_cons, wC_nil, wC_cons1, wO_no, wO_yes, wG_name, wG_sub, wI_seq, wI_rng, wI_enum, wI_items, wT_asg, wT_setc, wT_aug, wT_ex, wT_ret, wT_retN, wT_pass, wT_brk, wT_cont, wT_ite, wT_for, wT_whil, wT_fst, wT_faug, wT_saug, wT_par2, wT_par3, wT_del, wT_lock, wT_rais, wT_try1, wT_tryN, wT_ac, wTs_nil, wTs_cons, wH_nil, ixW_live, setW_live, ixW_dK, ixW_zK, setW_dK, inR_live, dget_dK, inR_dK, wH_c0, wH_c1, true_and_of, addW_int, addW_str, addW_tup, addW_ll, addW_lr, addW_rl, addW_rr, subW_int, mulW_int, mulW_tup, mulW_ref, fdivW_int, modW_int, powW_int, ltW_int, leW_int, gtW_int, geW_int, ltW_str, leW_str, gtW_str, geW_str, isNW_n, notNW_n, isNone_non, isNone_bl, isNone_int, isNone_str, isNone_tup, isNone_lst, isNone_ref, isNone_ty, tyName_non, tyName_bl, tyName_int, tyName_str, tyName_tup, tyName_lst, negW_int, intW_int, intW_bl, absW_int, minW_int, maxW_int, lenW_str, lenW_lst, lenW_tup, lenW_ref, len_lst, len_dK, len_dT, tupleW_lst, tupleW_tup, tupleW_ref, listW_lst, listW_tup, listW_ref, ixW_str, ixW_lst, ixW_tup, slW_str, slW_tup, slW_lst, slW_ref, revW_tup, revW_lst, revW_ref, appW_ref, appTy, extTy, remTy, extW_ref, remW_ref, lrngW_1, lrngW_2, iscW_ref, tru_bl, tru_non, tru_int, tru_str, tru_tup, tru_lst, seqI_lst, seqI_tup, seqI_ref, seqI_str, seqI_ctp, items_lst, items_zK, items_zT, enumI_lst, enumI_tup, enumI_ref, rngI_1, rngI_3, rngI_2, inW_e, notInW_e, inR_int, inR_lst, inR_tup, flat_int, flat_str, flat_non, flat_bl, ixN_1_0, ixN_2_0, ixN_2_1, ixN_3_0, ixN_3_1, ixN_3_2, ixN_4_0, ixN_4_1, ixN_4_2, ixN_4_3, ixN_5_0, ixN_5_1, ixN_5_2, ixN_5_3, ixN_5_4, ixN_6_0, ixN_6_1, ixN_6_2, ixN_6_3, ixN_6_4, ixN_6_5, ixN_7_0, ixN_7_1, ixN_7_2, ixN_7_3, ixN_7_4, ixN_7_5, ixN_7_6, ixN_8_0, ixN_8_1, ixN_8_2, ixN_8_3, ixN_8_4, ixN_8_5, ixN_8_6, ixN_8_7, seqOf_sup, lstOf_sup, cp10_1, cp2_1, cp10_2, cp2_2, cp10_3, cp2_3, cp10_4, cp2_4, cp10_5, cp2_5, cp10_6, cp2_6, cp10_7, cp2_7, cp10_8, cp2_8, cp10_9, cp2_9, cp10_10, cp2_10, cp10_11, cp2_11, cp10_12, cp2_12, cp10_13, cp2_13, cp10_14, cp2_14, cp10_15, cp2_15, cp10_16, cp2_16, cp10_17, cp2_17, cp10_18, cp2_18, cp10_19, cp2_19, cp10_20, cp2_20, cp10_21, cp2_21, cp10_22, cp2_22, cp10_23, cp2_23, cp10_24, cp2_24, cp10_25, cp2_25, cp10_26, cp2_26, cp10_27, cp2_27, cp10_28, cp2_28, cp10_29, cp2_29, cp10_30, cp2_30, cp10_31, cp2_31, cp10_32, cp2_32, cp10_33, cp2_33, cp10_34, cp2_34, cp10_35, cp2_35, cp10_36, cp2_36, cp10_37, cp2_37, cp10_38, cp2_38, cp10_39, cp2_39, cp10_40, cp2_40, lsl_0, lsl_1, lsl_2, lsl_3, lsl_4, lsl_5, lsl_6, lsl_7, lsl_8, lsl_9, lsl_10, lsl_11, lsl_12, lsl_13, lsl_14, lsl_15, lsl_16, lsl_17, lsl_18, lsl_19, lsl_20, isNW_b, notNW_b, three_c, isDic_dK, isDic_dT, isDic_zK, isDic_zT, lk_dK, lk_dT, key_int, key_str, keysOf_nil, augIx_ref, tupleW_ctp, ixW_ctp, tyName_ctp, tru_ctp, inR_ctp, seqOf_ctp, lenW_ctp, isNone_ctp, augW_int, augS_int, one_c, two_c, wGs_c, wGs_n, wT_never, inner_mk, suite_mk, goneD_nx, goneD_rt, acW_d, acW_s, acW_t, wG_tup1,
  startD, wipeD, List.map_cons, List.map_nil, List.length_cons, List.length_nil, List.cons_append, List.nil_append, List.append_nil,
  List.getElem?_cons_zero, List.getElem?_cons_succ, List.set_cons_zero, List.set_cons_succ, Option.some.injEq, exists_eq_left', exists_eq_left, exists_eq_right, exists_eq_right', exists_and_left, Nat.reduceAdd, Nat.reduceSub, Nat.reduceLT, List.replicate, List.replicate_zero, List.replicate_succ, if_true, Bool.false_eq_true, if_false, ite_true, ite_false, D.bl.injEq, D.int.injEq, D.str.injEq, D.tup.injEq, D.lst.injEq, D.ref.injEq,
  Option.isSome_some, Option.isSome_none, B2.w, Cm.w, Bi.w, Bm.w, Xt.w, MO.ins.injEq, MO.dK.injEq, and_assoc, List.mem_cons, true_or, or_true, _root_.eq_self, eqW, neW, List.cons.injEq, and_true, true_and, Bool.not_true, Bool.not_false, Gs.len, Es.len,
  ret_non, ret_bl, ret_int, ret_str, ret_tup, ret_lst, isiAny_nil, isiAny_cons, atI_0, atI_1, atI_2, atI_3, atI_4, lstOf_lst, seqOf_lst, seqOf_tup, sup_same, sup_sup, eq_int, ok_int, ok_non, ok_bl, eq_ni, eq_in, eq_bl, MO.lst.injEq, exists_eq', exists_eq,
  kit_NoneType_int, kit_NoneType_bool, kit_NoneType_str, kit_NoneType_tuple, kit_NoneType_list, kit_NoneType_dict, kit_bool_int, kit_bool_bool, kit_bool_str, kit_bool_tuple, kit_bool_list, kit_bool_dict, kit_int_int, kit_int_bool, kit_int_str, kit_int_tuple, kit_int_list, kit_int_dict,
  kit_str_int, kit_str_bool, kit_str_str, kit_str_tuple, kit_str_list, kit_str_dict, kit_list_int, kit_list_bool, kit_list_str, kit_list_tuple, kit_list_list, kit_list_dict, kit_tuple_int, kit_tuple_bool, kit_tuple_str, kit_tuple_tuple, kit_tuple_list, kit_tuple_dict,
  decide_eq_true_eq, Bool.not_eq_true', decide_eq_false_iff_not, forall_const, implies_true, decide_true, decide_false, reduceCtorEq, Int.cast_ofNat_Int, Int.reducePow, Int.reduceMul, Int.reduceAdd, Int.reduceSub, Int.reduceNeg, Int.reduceToNat, Int.reduceEq, Int.reduceLT, Int.reduceLE, lk_Disk_kept_lying, pf_Disk_kept_lying, pi_Disk_kept_lying, lp_Disk_kept_lying_1, lp_Disk_kept_lying_2, lp_Disk_kept_lying_3, lk_Disk_kept_waiting, pf_Disk_kept_waiting, pi_Disk_kept_waiting, lp_Disk_kept_waiting_2, lp_Disk_kept_waiting_3, lk_Disk_kept_power, pf_Disk_kept_power, pi_Disk_kept_power, lp_Disk_kept_power_3, lk_Disk_kept_reached, pf_Disk_kept_reached, pi_Disk_kept_reached, ln_Disk_blocks_0, ln_Disk_blocks_1, ln_Disk_blocks_2, ln_Disk_blocks_3, ln_Disk_blocks_4, ln_Disk_calm_0, ln_Disk_calm_1, ln_Disk_calm_2, ln_Disk_calm_3, ln_Disk_calm_4, ln_Disk_check_block_0, ln_Disk_check_block_1, ln_Disk_check_block_2, ln_Disk_check_block_3, ln_Disk_check_block_4, ln_Disk_copy_0, ln_Disk_copy_1, ln_Disk_copy_2, ln_Disk_copy_3, ln_Disk_copy_4, ln_Disk_cut_0, ln_Disk_cut_1, ln_Disk_cut_2, ln_Disk_cut_3, ln_Disk_cut_4, ln_Disk_force_0, ln_Disk_force_1, ln_Disk_force_2, ln_Disk_force_3, ln_Disk_force_4, ln_Disk_lying_0, ln_Disk_lying_1, ln_Disk_lying_2, ln_Disk_lying_3, ln_Disk_lying_4, ln_Disk_power_0, ln_Disk_power_1, ln_Disk_power_2, ln_Disk_power_3, ln_Disk_power_4, ln_Disk_reach_0, ln_Disk_reach_1, ln_Disk_reach_2, ln_Disk_reach_3, ln_Disk_reach_4, ln_Disk_reach_one_0, ln_Disk_reach_one_1, ln_Disk_reach_one_2, ln_Disk_reach_one_3, ln_Disk_reach_one_4, ln_Disk_reached_0, ln_Disk_reached_1, ln_Disk_reached_2, ln_Disk_reached_3, ln_Disk_reached_4, ln_Disk_read_0, ln_Disk_read_1, ln_Disk_read_2, ln_Disk_read_3, ln_Disk_read_4, ln_Disk_waiting_0, ln_Disk_waiting_1, ln_Disk_waiting_2, ln_Disk_waiting_3, ln_Disk_waiting_4, ln_Disk_write_0, ln_Disk_write_1, ln_Disk_write_2, ln_Disk_write_3, ln_Disk_write_4, lt_line4, kit_dict_int, kit_dict_bool, kit_dict_str, kit_dict_tuple, kit_dict_list, kit_dict_dict, len_iD, ixW_dS, ixW_lS, setW_dS, setW_lS, lenW_dS, lenW_lS, bk_l, bk_w, bk_p, bk_r, pk_w, pk_p, pk_r, lsl_4])
local macro_rules | `(tactic| walk_at "vs") => `(tactic| try simp only [wE_var, wE_int, wE_str, wE_bl, wE_non, wE_glob, wE_b2, wE_neg, wE_cm, wE_ch, wE_not, wE_and, wE_or, wE_ife, wE_tup, wE_lst, wE_ix, wE_sl, wE_rev, wE_bi, wE_isi, wE_call, wE_bm, wE_comp, wE_call0, wE_fld, wE_mt, wE_mk, wE_dic, wE_dic0, wE_dcomp, wE_lock, wE_xt, wE_tcall, wE_isE, wE_fldE, wB_not, wB_and, wB_or, wB_cm, wB_ch, wB_var, wB_ix, wB_bi, wB_isi, wB_call, wB_bm, wB_call0, wB_xt, wB_isE, wB_fld, wB_mt, wAnd_cons1, wAnd_cons, wOr_cons1, wOr_cons, wBAnd_cons1, wBAnd_cons, wBOr_cons1, wBOr_cons, wEs_nil, wEs_cons, wPr_nil, wPr_cons, wC_nil, wC_cons1, wO_no, wO_yes, wG_name, wG_sub, wI_seq, wI_rng, wI_enum, wI_items, wT_asg, wT_setc, wT_aug, wT_ex, wT_ret, wT_retN, wT_pass, wT_brk, wT_cont, wT_ite, wT_for, wT_whil, wT_fst, wT_faug, wT_saug, wT_par2, wT_par3, wT_del, wT_lock, wT_rais, wT_try1, wT_tryN, wT_ac, wTs_nil, wTs_cons, wH_nil, ixW_live, setW_live, ixW_dK, ixW_zK, setW_dK, inR_live, dget_dK, inR_dK, wH_c0, wH_c1, true_and_of, addW_int, addW_str, addW_tup, addW_ll, addW_lr, addW_rl, addW_rr, subW_int, mulW_int, mulW_tup, mulW_ref, fdivW_int, modW_int, powW_int, ltW_int, leW_int, gtW_int, geW_int, ltW_str, leW_str, gtW_str, geW_str, isNW_n, notNW_n, isNone_non, isNone_bl, isNone_int, isNone_str, isNone_tup, isNone_lst, isNone_ref, isNone_ty, tyName_non, tyName_bl, tyName_int, tyName_str, tyName_tup, tyName_lst, negW_int, intW_int, intW_bl, absW_int, minW_int, maxW_int, lenW_str, lenW_lst, lenW_tup, lenW_ref, len_lst, len_dK, len_dT, tupleW_lst, tupleW_tup, tupleW_ref, listW_lst, listW_tup, listW_ref, ixW_str, ixW_lst, ixW_tup, slW_str, slW_tup, slW_lst, slW_ref, revW_tup, revW_lst, revW_ref, appW_ref, appTy, extTy, remTy, extW_ref, remW_ref, lrngW_1, lrngW_2, iscW_ref, tru_bl, tru_non, tru_int, tru_str, tru_tup, tru_lst, seqI_lst, seqI_tup, seqI_ref, seqI_str, seqI_ctp, items_lst, items_zK, items_zT, enumI_lst, enumI_tup, enumI_ref, rngI_1, rngI_3, rngI_2, inW_e, notInW_e, inR_int, inR_lst, inR_tup, flat_int, flat_str, flat_non, flat_bl, ixN_1_0, ixN_2_0, ixN_2_1, ixN_3_0, ixN_3_1, ixN_3_2, ixN_4_0, ixN_4_1, ixN_4_2, ixN_4_3, ixN_5_0, ixN_5_1, ixN_5_2, ixN_5_3, ixN_5_4, ixN_6_0, ixN_6_1, ixN_6_2, ixN_6_3, ixN_6_4, ixN_6_5, ixN_7_0, ixN_7_1, ixN_7_2, ixN_7_3, ixN_7_4, ixN_7_5, ixN_7_6, ixN_8_0, ixN_8_1, ixN_8_2, ixN_8_3, ixN_8_4, ixN_8_5, ixN_8_6, ixN_8_7, seqOf_sup, lstOf_sup, cp10_1, cp2_1, cp10_2, cp2_2, cp10_3, cp2_3, cp10_4, cp2_4, cp10_5, cp2_5, cp10_6, cp2_6, cp10_7, cp2_7, cp10_8, cp2_8, cp10_9, cp2_9, cp10_10, cp2_10, cp10_11, cp2_11, cp10_12, cp2_12, cp10_13, cp2_13, cp10_14, cp2_14, cp10_15, cp2_15, cp10_16, cp2_16, cp10_17, cp2_17, cp10_18, cp2_18, cp10_19, cp2_19, cp10_20, cp2_20, cp10_21, cp2_21, cp10_22, cp2_22, cp10_23, cp2_23, cp10_24, cp2_24, cp10_25, cp2_25, cp10_26, cp2_26, cp10_27, cp2_27, cp10_28, cp2_28, cp10_29, cp2_29, cp10_30, cp2_30, cp10_31, cp2_31, cp10_32, cp2_32, cp10_33, cp2_33, cp10_34, cp2_34, cp10_35, cp2_35, cp10_36, cp2_36, cp10_37, cp2_37, cp10_38, cp2_38, cp10_39, cp2_39, cp10_40, cp2_40, lsl_0, lsl_1, lsl_2, lsl_3, lsl_4, lsl_5, lsl_6, lsl_7, lsl_8, lsl_9, lsl_10, lsl_11, lsl_12, lsl_13, lsl_14, lsl_15, lsl_16, lsl_17, lsl_18, lsl_19, lsl_20, isNW_b, notNW_b, three_c, isDic_dK, isDic_dT, isDic_zK, isDic_zT, lk_dK, lk_dT, key_int, key_str, keysOf_nil, augIx_ref, tupleW_ctp, ixW_ctp, tyName_ctp, tru_ctp, inR_ctp, seqOf_ctp, lenW_ctp, isNone_ctp, augW_int, augS_int, one_c, two_c, wGs_c, wGs_n, wT_never, inner_mk, suite_mk, goneD_nx, goneD_rt, acW_d, acW_s, acW_t, wG_tup1,
  startD, wipeD, List.map_cons, List.map_nil, List.length_cons, List.length_nil, List.cons_append, List.nil_append, List.append_nil,
  List.getElem?_cons_zero, List.getElem?_cons_succ, List.set_cons_zero, List.set_cons_succ, Option.some.injEq, exists_eq_left', exists_eq_left, exists_eq_right, exists_eq_right', exists_and_left, Nat.reduceAdd, Nat.reduceSub, Nat.reduceLT, List.replicate, List.replicate_zero, List.replicate_succ, if_true, Bool.false_eq_true, if_false, ite_true, ite_false, D.bl.injEq, D.int.injEq, D.str.injEq, D.tup.injEq, D.lst.injEq, D.ref.injEq,
  Option.isSome_some, Option.isSome_none, B2.w, Cm.w, Bi.w, Bm.w, Xt.w, MO.ins.injEq, MO.dK.injEq, and_assoc, List.mem_cons, true_or, or_true, _root_.eq_self, eqW, neW, List.cons.injEq, and_true, true_and, Bool.not_true, Bool.not_false, Gs.len, Es.len,
  ret_non, ret_bl, ret_int, ret_str, ret_tup, ret_lst, isiAny_nil, isiAny_cons, atI_0, atI_1, atI_2, atI_3, atI_4, lstOf_lst, seqOf_lst, seqOf_tup, sup_same, sup_sup, eq_int, ok_int, ok_non, ok_bl, eq_ni, eq_in, eq_bl, MO.lst.injEq, exists_eq', exists_eq,
  kit_NoneType_int, kit_NoneType_bool, kit_NoneType_str, kit_NoneType_tuple, kit_NoneType_list, kit_NoneType_dict, kit_bool_int, kit_bool_bool, kit_bool_str, kit_bool_tuple, kit_bool_list, kit_bool_dict, kit_int_int, kit_int_bool, kit_int_str, kit_int_tuple, kit_int_list, kit_int_dict,
  kit_str_int, kit_str_bool, kit_str_str, kit_str_tuple, kit_str_list, kit_str_dict, kit_list_int, kit_list_bool, kit_list_str, kit_list_tuple, kit_list_list, kit_list_dict, kit_tuple_int, kit_tuple_bool, kit_tuple_str, kit_tuple_tuple, kit_tuple_list, kit_tuple_dict,
  decide_eq_true_eq, Bool.not_eq_true', decide_eq_false_iff_not, forall_const, implies_true, decide_true, decide_false, reduceCtorEq, Int.cast_ofNat_Int, Int.reducePow, Int.reduceMul, Int.reduceAdd, Int.reduceSub, Int.reduceNeg, Int.reduceToNat, Int.reduceEq, Int.reduceLT, Int.reduceLE, lk_Disk_kept_lying, pf_Disk_kept_lying, pi_Disk_kept_lying, lp_Disk_kept_lying_1, lp_Disk_kept_lying_2, lp_Disk_kept_lying_3, lk_Disk_kept_waiting, pf_Disk_kept_waiting, pi_Disk_kept_waiting, lp_Disk_kept_waiting_2, lp_Disk_kept_waiting_3, lk_Disk_kept_power, pf_Disk_kept_power, pi_Disk_kept_power, lp_Disk_kept_power_3, lk_Disk_kept_reached, pf_Disk_kept_reached, pi_Disk_kept_reached, ln_Disk_blocks_0, ln_Disk_blocks_1, ln_Disk_blocks_2, ln_Disk_blocks_3, ln_Disk_blocks_4, ln_Disk_calm_0, ln_Disk_calm_1, ln_Disk_calm_2, ln_Disk_calm_3, ln_Disk_calm_4, ln_Disk_check_block_0, ln_Disk_check_block_1, ln_Disk_check_block_2, ln_Disk_check_block_3, ln_Disk_check_block_4, ln_Disk_copy_0, ln_Disk_copy_1, ln_Disk_copy_2, ln_Disk_copy_3, ln_Disk_copy_4, ln_Disk_cut_0, ln_Disk_cut_1, ln_Disk_cut_2, ln_Disk_cut_3, ln_Disk_cut_4, ln_Disk_force_0, ln_Disk_force_1, ln_Disk_force_2, ln_Disk_force_3, ln_Disk_force_4, ln_Disk_lying_0, ln_Disk_lying_1, ln_Disk_lying_2, ln_Disk_lying_3, ln_Disk_lying_4, ln_Disk_power_0, ln_Disk_power_1, ln_Disk_power_2, ln_Disk_power_3, ln_Disk_power_4, ln_Disk_reach_0, ln_Disk_reach_1, ln_Disk_reach_2, ln_Disk_reach_3, ln_Disk_reach_4, ln_Disk_reach_one_0, ln_Disk_reach_one_1, ln_Disk_reach_one_2, ln_Disk_reach_one_3, ln_Disk_reach_one_4, ln_Disk_reached_0, ln_Disk_reached_1, ln_Disk_reached_2, ln_Disk_reached_3, ln_Disk_reached_4, ln_Disk_read_0, ln_Disk_read_1, ln_Disk_read_2, ln_Disk_read_3, ln_Disk_read_4, ln_Disk_waiting_0, ln_Disk_waiting_1, ln_Disk_waiting_2, ln_Disk_waiting_3, ln_Disk_waiting_4, ln_Disk_write_0, ln_Disk_write_1, ln_Disk_write_2, ln_Disk_write_3, ln_Disk_write_4, lt_line4, kit_dict_int, kit_dict_bool, kit_dict_str, kit_dict_tuple, kit_dict_list, kit_dict_dict, len_iD, ixW_dS, ixW_lS, setW_dS, setW_lS, lenW_dS, lenW_lS, bk_l, bk_w, bk_p, bk_r, pk_w, pk_p, pk_r, lsl_4, sup_ne, sup_3, ne_eq, not_false_eq_true, *])
theorem good_runB {Bk : List Int} {B : Nat} {b : Int} : ∀ (k : Nat) (m : DM), Good Bk B m → Good Bk B (runB k m b).1 ∧ (runB k m b).1.lying.length = m.lying.length
  | 0, m, h => ⟨h, rfl⟩
  | k + 1, m, h => by
    rw [runB]
    split
    · exact ⟨h, rfl⟩
    · rename_i hr
      split
      · exact ⟨h, rfl⟩
      · rename_i hp
        obtain ⟨g, l⟩ := good_runB k (reachM m b) (good_reach h hr hp)
        exact ⟨g, l.trans (by unfold reachM; simp)⟩
theorem good_force {Bk : List Int} {B : Nat} : ∀ (ns : List Int) (m : DM), Good Bk B m → Good Bk B (forceM ns m).1 ∧ (forceM ns m).1.lying.length = m.lying.length
  | [], m, h => ⟨h, rfl⟩
  | b :: r, m, h => by
    obtain ⟨g, l⟩ := good_runB (b := b) (rowsAt m b).length m h
    rw [forceM]
    split
    · obtain ⟨g2, l2⟩ := good_force r _ g
      exact ⟨g2, l2.trans l⟩
    · exact ⟨g, l⟩
theorem pk_l {l w p r z : D} : putD [((.inr "lying" : Key), l), (.inr "waits", w), (.inr "power", p), (.inr "reached", r)] (.inr "lying") z = [(.inr "lying", z), (.inr "waits", w), (.inr "power", p), (.inr "reached", r)] := rfl
def copyM (m : DM) : DM := ⟨m.lying, [], none, 0⟩
theorem good_copy {Bk : List Int} {B : Nat} {m : DM} (h : Good Bk B m) : Good Bk B (copyM m) := ⟨by simp [copyM], by simp [copyM], h.lie, h.blk, h.few, h.len, by simp [copyM]⟩
theorem good_mono {Bk : List Int} {B B' : Nat} {m : DM} (h : Good Bk B m) (k : B ≤ B') : Good Bk B' m := ⟨fun p hp => by
  obtain ⟨i, r, e, h1, h2, h3, h4⟩ := h.row p hp
  exact ⟨i, r, e, h1, h2, by omega, h4⟩, h.nd, h.lie, h.blk, h.few, h.len, h.pow⟩
def sp_Disk_copy (A : Ad) : DSp := fun ds S Q _ => ∃ a l w m, ds = [.ref a] ∧ DiskAt A S a l w m ∧ 16 ≤ m.lying.length ∧ m.lying.length ≤ 600 ∧ ∀ S' a' l' w', S a' = none → S l' = none → S w' = none → DiskAt A S' a' l' w' (copyM m) → Agr [] S S' → Q (.ref a') S'
theorem v_Disk_copy : VC n_Disk_copy b_Disk_copy { fns := [], cons := [], nob := n_Disk_copy.nob, flds := [(A.Disk, "kept_lying")], mks := [⟨"Disk", A.Disk, sp_Disk___init__ A⟩] } 1 (sp_Disk_copy A) := by
  rintro ds S Q Y ⟨a, l, w, m, rfl, ⟨g1, g2, g3⟩, h1, h2, q⟩
  refine ⟨rfl, ?_⟩
  unfold b_Disk_copy n_Disk_copy
  walk_at "vs"
  intro a' ha
  refine ⟨a', m.lying.length, rfl, sup_same, h1, h2, fun S2 l' w' hl hw hd ag => ?_⟩
  obtain ⟨p1, p2⟩ := none_sup hl
  obtain ⟨p3, p4⟩ := none_sup hw
  have n1 := sne g1 ha
  have n2 := sne g2 ha
  have e1 : S2 a = _ := ag _ _ ((sup_ne n1).trans g1) (by simp [n1])
  have e2 : S2 l = _ := ag _ _ ((sup_ne n2).trans g2) (by simp [n2])
  have ag0 : Agr [] S S2 := fun x o hx hn => ag x o ((sup_ne (sne hx ha)).trans hx) (by simp [sne hx ha])
  have ⟨k1, k2, k3⟩ := hd
  clear g1 g2 g3
  walk_at "vs"
  refine ⟨m.lying, seqOf_live e2, newL_l fun p hp => ?_⟩
  have n3 := sne k1 hp
  have n5 := sne k3 hp
  have n7 : a' ≠ w' := ne_kind k1 k3 (by simp)
  have hpS : S p = none := by
    cases z : S p with
    | none => rfl
    | some o => rw [ag0 _ _ z (by simp)] at hp; cases hp
  have fin : Q (.ref a') (sup (sup S2 p (.lst m.lying)) a' (.ins A.Disk [("kept_lying", .ref p), ("kept_waiting", .ref w'), ("kept_power", .non), ("kept_reached", .int 0)])) := by
    refine q _ a' p w' ha hpS p4 ⟨sup_same, (sup_ne (Ne.symm n3)).trans sup_same, (sup_ne (Ne.symm n7)).trans ((sup_ne n5).trans k3)⟩ ((ag0.sup (.inr hpS)).sup (.inr ha))
  clear q
  unfold newM at k1
  refine ⟨_, _, (sup_ne n3).trans k1, .inl rfl, by simp, ret_any ?_⟩
  exact fin
def sp_law_copied (A : Ad) : DSp := fun ds S Q _ => ∃ hh a l w b l' w' m, ds = [hh, .ref a, .ref b] ∧ DiskAt A S a l w m ∧ BookAt S b l' w' m ∧ 16 ≤ m.lying.length ∧ m.lying.length ≤ 600 ∧ ∀ S' a2 l2 w2 b2 l3 w3, S a2 = none → S l2 = none → S w2 = none → S b2 = none → S l3 = none → S w3 = none →
  DiskAt A S' a2 l2 w2 (copyM m) → BookAt S' b2 l3 w3 (copyM m) → (∀ x ∈ [a2, l2, w2], x ∉ [b2, l3, w3]) → Agr [] S S' → Q (.tup [.ref a2, .ref b2]) S'
theorem v_law_copied : VC n_law_copied b_law_copied { fns := [("_law_book", sp_law_book)], cons := [], nob := n_law_copied.nob, mths := [⟨"copy", A.Disk, sp_Disk_copy A⟩] } 3 (sp_law_copied A) := by
  rintro ds S Q Y ⟨hh, a, l, w, b, l', w', m, rfl, hd, hb, h1, h2, q⟩
  refine ⟨rfl, ?_⟩
  have ⟨k1, k2, k3, k4⟩ := hb
  unfold b_law_copied n_law_copied
  walk_at "vs"
  refine ⟨m.lying.length, rfl, h2, fun S2 b2 l3 w3 e1 e2 e3 hb2 ag => ?_⟩
  have a1 := ag _ _ k1 (by simp)
  have a2 := ag _ _ k2 (by simp)
  have ⟨j1, j2, j3, j4⟩ := hb2
  walk_at "vs"
  refine ⟨m.lying, seqOf_live a2, newL_l fun p hp => ?_⟩
  have np : ∀ {x o}, S2 x = some o → x ≠ p := fun h => sne h hp
  have hpS : S p = none := by
    cases z : S p with
    | none => rfl
    | some o => rw [ag _ _ z (by simp)] at hp; cases hp
  have hd3 : DiskAt A S2 a l w m := ⟨ag _ _ hd.1 (by simp), ag _ _ hd.2.1 (by simp), ag _ _ hd.2.2 (by simp)⟩
  refine setW_dat ((sup_ne (np j1)).trans j1) rfl (by simp [sizeLine]) ?_
  rw [pk_l]
  have j5 : b2 ≠ l3 := ne_kind j1 j2 (by simp)
  have e4 : ∀ {x : Addr} {o : MO}, S x = some o → sup (sup S2 p (.lst m.lying)) b2 (.dK [(.inr "lying", .ref p), (.inr "waits", .ref w3), (.inr "power", pD (newM m.lying.length).power), (.inr "reached", .int (newM m.lying.length).reached)]) x = some o := fun {x o} h => (sup_ne (sne h e1)).trans ((sup_ne (sne h hpS)).trans (ag _ _ h (by simp)))
  have b4 : BookAt (sup (sup S2 p (.lst m.lying)) b2 (.dK [(.inr "lying", .ref p), (.inr "waits", .ref w3), (.inr "power", pD (newM m.lying.length).power), (.inr "reached", .int (newM m.lying.length).reached)])) b2 p w3 (copyM m) := ⟨sup_same, (sup_ne (Ne.symm (np j1))).trans sup_same, (sup_ne (Ne.symm j4)).trans ((sup_ne (np j3)).trans j3), j4⟩
  generalize sup (sup S2 p (.lst m.lying)) b2 _ = S3 at *
  have hd4 : DiskAt A S3 a l w m := ⟨e4 hd.1, e4 hd.2.1, e4 hd.2.2⟩
  refine ⟨_, hd4.1, rfl, a, l, w, m, rfl, hd4, h1, h2, fun S5 a5 l5 w5 i1 i2 i3 hd5 ag5 => ?_⟩
  have none_of : ∀ {x : Addr}, S3 x = none → S x = none := fun {x} h => by
    cases z : S x with
    | none => rfl
    | some o => rw [e4 z] at h; cases h
  have b5 : BookAt S5 b2 p w3 (copyM m) := ⟨ag5 _ _ b4.1 (by simp), ag5 _ _ b4.2.1 (by simp), ag5 _ _ b4.2.2.1 (by simp), b4.2.2.2⟩
  refine q S5 a5 l5 w5 b2 p w3 (none_of i1) (none_of i2) (none_of i3) e1 hpS e3 hd5 b5 (fun x hx => ?_) (fun x o h _ => ag5 _ _ (e4 h) (by simp))
  have hx2 : S3 x = none := by
    simp only [List.mem_cons, List.not_mem_nil, or_false] at hx
    rcases hx with rfl | rfl | rfl
    · exact i1
    · exact i2
    · exact i3
  simp only [List.mem_cons, List.not_mem_nil, or_false, not_or]
  exact ⟨fun z => (by rw [z, b4.1] at hx2; cases hx2), fun z => (by rw [z, b4.2.1] at hx2; cases hx2), fun z => (by rw [z, b4.2.2.1] at hx2; cases hx2)⟩
def lsp_law_word (A : Ad) : LSp := fun act S Q => ∀ Q' X', (∀ d S', Q d S' → Q' d S') → (∀ x S', (x = ⟨A.Stopped, none⟩ ∧ Q (.str "stopped") S') ∨ (x = ⟨A.NothingWaits, none⟩ ∧ Q (.str "nothing") S') → X' x S') → act S Q' X'
theorem v_law_word : ∀ act S Q, lsp_law_word A act S Q → actSp { fns := [], cons := [], nob := n_law_word.nob, excs := [("Stopped", A.Stopped), ("NothingWaits", A.NothingWaits)], exm := [(A.Stopped, A.Stopped, true), (A.NothingWaits, A.Stopped, false), (A.NothingWaits, A.NothingWaits, true)], exn := [("ValueError", .type "ValueError"), ("StoreError", .ref A.StoreError)], exis := [(A.Stopped, 1, true), (A.Stopped, 0, true), (A.NothingWaits, 1, true), (A.NothingWaits, 0, true)] } n_law_word b_law_word act S Q := by
  intro act S Q h d
  unfold b_law_word n_law_word
  walk_at "vc"
  refine h _ _ (fun d S' hq => ret_any hq) (fun x S' hx => ?_)
  rcases hx with ⟨rfl, hq⟩ | ⟨rfl, hq⟩
  · refine ⟨true, .inl rfl, fun _ a => ⟨a, A.Stopped, rfl, rfl, true, .inl rfl, ?_⟩, fun z => by cases z⟩
    rw [if_pos rfl]
    exact ⟨a, _, rfl, rfl, true, .inr (.inl rfl), by rw [if_pos rfl]; exact hq⟩
  · refine ⟨false, .inr (.inl rfl), fun z => (by cases z), fun _ => ⟨true, .inr (.inr (.inl rfl)), fun _ a => ⟨a, A.NothingWaits, rfl, rfl, true, .inr (.inr (.inl rfl)), ?_⟩, fun z => by cases z⟩⟩
    rw [if_pos rfl]
    exact ⟨a, _, rfl, rfl, true, .inr (.inr (.inr (.inl rfl))), by rw [if_pos rfl]; exact hq⟩
end W
namespace W
open PySem L2 Dz
variable {A : Ad}
local macro_rules | `(tactic| walk_at "vc") => `(tactic| try simp only [wE_var, wE_int, wE_str, wE_bl, wE_non, wE_glob, wE_b2, wE_neg, wE_cm, wE_ch, wE_not, wE_and, wE_or, wE_ife, wE_tup, wE_lst, wE_ix, wE_sl, wE_rev, wE_bi, wE_isi, wE_call, wE_bm, wE_comp, wE_call0, wE_fld, wE_mt, wE_mk, wE_dic, wE_dic0, wE_dcomp, wE_lock, wE_xt, wE_tcall, wE_isE, wE_fldE, wB_not, wB_and, wB_or, wB_cm, wB_ch, wB_var, wB_ix, wB_bi, wB_isi, wB_call, wB_bm, wB_call0, wB_xt, wB_isE, wB_fld, wB_mt, wAnd_cons1, wAnd_cons, wOr_cons1, wOr_cons, wBAnd_cons1, wBAnd_cons, wBOr_cons1, wBOr_cons, wEs_nil, wEs_cons, wPr_nil, wPr_cons, wC_nil, wC_cons1, wO_no, wO_yes, wG_name, wG_sub, wI_seq, wI_rng, wI_enum, wI_items, wT_asg, wT_setc, wT_aug, wT_ex, wT_ret, wT_retN, wT_pass, wT_brk, wT_cont, wT_ite, wT_for, wT_whil, wT_fst, wT_faug, wT_saug, wT_par2, wT_par3, wT_del, wT_lock, wT_rais, wT_try1, wT_tryN, wT_ac, wTs_nil, wTs_cons, wH_nil, ixW_live, setW_live, ixW_dK, ixW_zK, setW_dK, inR_live, dget_dK, inR_dK, wH_c0, wH_c1, true_and_of, addW_int, addW_str, addW_tup, addW_ll, addW_lr, addW_rl, addW_rr, subW_int, mulW_int, mulW_tup, mulW_ref, fdivW_int, modW_int, powW_int, ltW_int, leW_int, gtW_int, geW_int, ltW_str, leW_str, gtW_str, geW_str, isNW_n, notNW_n, isNone_non, isNone_bl, isNone_int, isNone_str, isNone_tup, isNone_lst, isNone_ref, isNone_ty, tyName_non, tyName_bl, tyName_int, tyName_str, tyName_tup, tyName_lst, negW_int, intW_int, intW_bl, absW_int, minW_int, maxW_int, lenW_str, lenW_lst, lenW_tup, lenW_ref, len_lst, len_dK, len_dT, tupleW_lst, tupleW_tup, tupleW_ref, listW_lst, listW_tup, listW_ref, ixW_str, ixW_lst, ixW_tup, slW_str, slW_tup, slW_lst, slW_ref, revW_tup, revW_lst, revW_ref, appW_ref, appTy, extTy, remTy, extW_ref, remW_ref, lrngW_1, lrngW_2, iscW_ref, tru_bl, tru_non, tru_int, tru_str, tru_tup, tru_lst, seqI_lst, seqI_tup, seqI_ref, seqI_str, seqI_ctp, items_lst, items_zK, items_zT, enumI_lst, enumI_tup, enumI_ref, rngI_1, rngI_3, rngI_2, inW_e, notInW_e, inR_int, inR_lst, inR_tup, flat_int, flat_str, flat_non, flat_bl, ixN_1_0, ixN_2_0, ixN_2_1, ixN_3_0, ixN_3_1, ixN_3_2, ixN_4_0, ixN_4_1, ixN_4_2, ixN_4_3, ixN_5_0, ixN_5_1, ixN_5_2, ixN_5_3, ixN_5_4, ixN_6_0, ixN_6_1, ixN_6_2, ixN_6_3, ixN_6_4, ixN_6_5, ixN_7_0, ixN_7_1, ixN_7_2, ixN_7_3, ixN_7_4, ixN_7_5, ixN_7_6, ixN_8_0, ixN_8_1, ixN_8_2, ixN_8_3, ixN_8_4, ixN_8_5, ixN_8_6, ixN_8_7, seqOf_sup, lstOf_sup, cp10_1, cp2_1, cp10_2, cp2_2, cp10_3, cp2_3, cp10_4, cp2_4, cp10_5, cp2_5, cp10_6, cp2_6, cp10_7, cp2_7, cp10_8, cp2_8, cp10_9, cp2_9, cp10_10, cp2_10, cp10_11, cp2_11, cp10_12, cp2_12, cp10_13, cp2_13, cp10_14, cp2_14, cp10_15, cp2_15, cp10_16, cp2_16, cp10_17, cp2_17, cp10_18, cp2_18, cp10_19, cp2_19, cp10_20, cp2_20, cp10_21, cp2_21, cp10_22, cp2_22, cp10_23, cp2_23, cp10_24, cp2_24, cp10_25, cp2_25, cp10_26, cp2_26, cp10_27, cp2_27, cp10_28, cp2_28, cp10_29, cp2_29, cp10_30, cp2_30, cp10_31, cp2_31, cp10_32, cp2_32, cp10_33, cp2_33, cp10_34, cp2_34, cp10_35, cp2_35, cp10_36, cp2_36, cp10_37, cp2_37, cp10_38, cp2_38, cp10_39, cp2_39, cp10_40, cp2_40, lsl_0, lsl_1, lsl_2, lsl_3, lsl_4, lsl_5, lsl_6, lsl_7, lsl_8, lsl_9, lsl_10, lsl_11, lsl_12, lsl_13, lsl_14, lsl_15, lsl_16, lsl_17, lsl_18, lsl_19, lsl_20, isNW_b, notNW_b, three_c, isDic_dK, isDic_dT, isDic_zK, isDic_zT, lk_dK, lk_dT, key_int, key_str, keysOf_nil, augIx_ref, tupleW_ctp, ixW_ctp, tyName_ctp, tru_ctp, inR_ctp, seqOf_ctp, lenW_ctp, isNone_ctp, augW_int, augS_int, one_c, two_c, wGs_c, wGs_n, wT_never, inner_mk, suite_mk, goneD_nx, goneD_rt, acW_d, acW_s, acW_t, wG_tup1,
  startD, wipeD, List.map_cons, List.map_nil, List.length_cons, List.length_nil, List.cons_append, List.nil_append, List.append_nil,
  List.getElem?_cons_zero, List.getElem?_cons_succ, List.set_cons_zero, List.set_cons_succ, Option.some.injEq, exists_eq_left', exists_eq_left, exists_eq_right, exists_eq_right', exists_and_left, Nat.reduceAdd, Nat.reduceSub, Nat.reduceLT, List.replicate, List.replicate_zero, List.replicate_succ, if_true, Bool.false_eq_true, if_false, ite_true, ite_false, D.bl.injEq, D.int.injEq, D.str.injEq, D.tup.injEq, D.lst.injEq, D.ref.injEq,
  Option.isSome_some, Option.isSome_none, B2.w, Cm.w, Bi.w, Bm.w, Xt.w, MO.ins.injEq, MO.dK.injEq, and_assoc, List.mem_cons, true_or, or_true, _root_.eq_self, eqW, neW, List.cons.injEq, and_true, true_and, Bool.not_true, Bool.not_false, Gs.len, Es.len,
  ret_non, ret_bl, ret_int, ret_str, ret_tup, ret_lst, isiAny_nil, isiAny_cons, atI_0, atI_1, atI_2, atI_3, atI_4, lstOf_lst, seqOf_lst, seqOf_tup, sup_same, sup_sup, eq_int, ok_int, ok_non, ok_bl, eq_ni, eq_in, eq_bl, MO.lst.injEq, exists_eq', exists_eq,
  kit_NoneType_int, kit_NoneType_bool, kit_NoneType_str, kit_NoneType_tuple, kit_NoneType_list, kit_NoneType_dict, kit_bool_int, kit_bool_bool, kit_bool_str, kit_bool_tuple, kit_bool_list, kit_bool_dict, kit_int_int, kit_int_bool, kit_int_str, kit_int_tuple, kit_int_list, kit_int_dict,
  kit_str_int, kit_str_bool, kit_str_str, kit_str_tuple, kit_str_list, kit_str_dict, kit_list_int, kit_list_bool, kit_list_str, kit_list_tuple, kit_list_list, kit_list_dict, kit_tuple_int, kit_tuple_bool, kit_tuple_str, kit_tuple_tuple, kit_tuple_list, kit_tuple_dict,
  decide_eq_true_eq, Bool.not_eq_true', decide_eq_false_iff_not, forall_const, implies_true, decide_true, decide_false, reduceCtorEq, Int.cast_ofNat_Int, Int.reducePow, Int.reduceMul, Int.reduceAdd, Int.reduceSub, Int.reduceNeg, Int.reduceToNat, Int.reduceEq, Int.reduceLT, Int.reduceLE, lk_Disk_kept_lying, pf_Disk_kept_lying, pi_Disk_kept_lying, lp_Disk_kept_lying_1, lp_Disk_kept_lying_2, lp_Disk_kept_lying_3, lk_Disk_kept_waiting, pf_Disk_kept_waiting, pi_Disk_kept_waiting, lp_Disk_kept_waiting_2, lp_Disk_kept_waiting_3, lk_Disk_kept_power, pf_Disk_kept_power, pi_Disk_kept_power, lp_Disk_kept_power_3, lk_Disk_kept_reached, pf_Disk_kept_reached, pi_Disk_kept_reached, ln_Disk_blocks_0, ln_Disk_blocks_1, ln_Disk_blocks_2, ln_Disk_blocks_3, ln_Disk_blocks_4, ln_Disk_calm_0, ln_Disk_calm_1, ln_Disk_calm_2, ln_Disk_calm_3, ln_Disk_calm_4, ln_Disk_check_block_0, ln_Disk_check_block_1, ln_Disk_check_block_2, ln_Disk_check_block_3, ln_Disk_check_block_4, ln_Disk_copy_0, ln_Disk_copy_1, ln_Disk_copy_2, ln_Disk_copy_3, ln_Disk_copy_4, ln_Disk_cut_0, ln_Disk_cut_1, ln_Disk_cut_2, ln_Disk_cut_3, ln_Disk_cut_4, ln_Disk_force_0, ln_Disk_force_1, ln_Disk_force_2, ln_Disk_force_3, ln_Disk_force_4, ln_Disk_lying_0, ln_Disk_lying_1, ln_Disk_lying_2, ln_Disk_lying_3, ln_Disk_lying_4, ln_Disk_power_0, ln_Disk_power_1, ln_Disk_power_2, ln_Disk_power_3, ln_Disk_power_4, ln_Disk_reach_0, ln_Disk_reach_1, ln_Disk_reach_2, ln_Disk_reach_3, ln_Disk_reach_4, ln_Disk_reach_one_0, ln_Disk_reach_one_1, ln_Disk_reach_one_2, ln_Disk_reach_one_3, ln_Disk_reach_one_4, ln_Disk_reached_0, ln_Disk_reached_1, ln_Disk_reached_2, ln_Disk_reached_3, ln_Disk_reached_4, ln_Disk_read_0, ln_Disk_read_1, ln_Disk_read_2, ln_Disk_read_3, ln_Disk_read_4, ln_Disk_waiting_0, ln_Disk_waiting_1, ln_Disk_waiting_2, ln_Disk_waiting_3, ln_Disk_waiting_4, ln_Disk_write_0, ln_Disk_write_1, ln_Disk_write_2, ln_Disk_write_3, ln_Disk_write_4, lt_line4, kit_dict_int, kit_dict_bool, kit_dict_str, kit_dict_tuple, kit_dict_list, kit_dict_dict, len_iD, ixW_dS, ixW_lS, setW_dS, setW_lS, lenW_dS, lenW_lS, bk_l, bk_w, bk_p, bk_r, pk_w, pk_p, pk_r, lsl_4])
local macro_rules | `(tactic| walk_at "vs") => `(tactic| try simp only [wE_var, wE_int, wE_str, wE_bl, wE_non, wE_glob, wE_b2, wE_neg, wE_cm, wE_ch, wE_not, wE_and, wE_or, wE_ife, wE_tup, wE_lst, wE_ix, wE_sl, wE_rev, wE_bi, wE_isi, wE_call, wE_bm, wE_comp, wE_call0, wE_fld, wE_mt, wE_mk, wE_dic, wE_dic0, wE_dcomp, wE_lock, wE_xt, wE_tcall, wE_isE, wE_fldE, wB_not, wB_and, wB_or, wB_cm, wB_ch, wB_var, wB_ix, wB_bi, wB_isi, wB_call, wB_bm, wB_call0, wB_xt, wB_isE, wB_fld, wB_mt, wAnd_cons1, wAnd_cons, wOr_cons1, wOr_cons, wBAnd_cons1, wBAnd_cons, wBOr_cons1, wBOr_cons, wEs_nil, wEs_cons, wPr_nil, wPr_cons, wC_nil, wC_cons1, wO_no, wO_yes, wG_name, wG_sub, wI_seq, wI_rng, wI_enum, wI_items, wT_asg, wT_setc, wT_aug, wT_ex, wT_ret, wT_retN, wT_pass, wT_brk, wT_cont, wT_ite, wT_for, wT_whil, wT_fst, wT_faug, wT_saug, wT_par2, wT_par3, wT_del, wT_lock, wT_rais, wT_try1, wT_tryN, wT_ac, wTs_nil, wTs_cons, wH_nil, ixW_live, setW_live, ixW_dK, ixW_zK, setW_dK, inR_live, dget_dK, inR_dK, wH_c0, wH_c1, true_and_of, addW_int, addW_str, addW_tup, addW_ll, addW_lr, addW_rl, addW_rr, subW_int, mulW_int, mulW_tup, mulW_ref, fdivW_int, modW_int, powW_int, ltW_int, leW_int, gtW_int, geW_int, ltW_str, leW_str, gtW_str, geW_str, isNW_n, notNW_n, isNone_non, isNone_bl, isNone_int, isNone_str, isNone_tup, isNone_lst, isNone_ref, isNone_ty, tyName_non, tyName_bl, tyName_int, tyName_str, tyName_tup, tyName_lst, negW_int, intW_int, intW_bl, absW_int, minW_int, maxW_int, lenW_str, lenW_lst, lenW_tup, lenW_ref, len_lst, len_dK, len_dT, tupleW_lst, tupleW_tup, tupleW_ref, listW_lst, listW_tup, listW_ref, ixW_str, ixW_lst, ixW_tup, slW_str, slW_tup, slW_lst, slW_ref, revW_tup, revW_lst, revW_ref, appW_ref, appTy, extTy, remTy, extW_ref, remW_ref, lrngW_1, lrngW_2, iscW_ref, tru_bl, tru_non, tru_int, tru_str, tru_tup, tru_lst, seqI_lst, seqI_tup, seqI_ref, seqI_str, seqI_ctp, items_lst, items_zK, items_zT, enumI_lst, enumI_tup, enumI_ref, rngI_1, rngI_3, rngI_2, inW_e, notInW_e, inR_int, inR_lst, inR_tup, flat_int, flat_str, flat_non, flat_bl, ixN_1_0, ixN_2_0, ixN_2_1, ixN_3_0, ixN_3_1, ixN_3_2, ixN_4_0, ixN_4_1, ixN_4_2, ixN_4_3, ixN_5_0, ixN_5_1, ixN_5_2, ixN_5_3, ixN_5_4, ixN_6_0, ixN_6_1, ixN_6_2, ixN_6_3, ixN_6_4, ixN_6_5, ixN_7_0, ixN_7_1, ixN_7_2, ixN_7_3, ixN_7_4, ixN_7_5, ixN_7_6, ixN_8_0, ixN_8_1, ixN_8_2, ixN_8_3, ixN_8_4, ixN_8_5, ixN_8_6, ixN_8_7, seqOf_sup, lstOf_sup, cp10_1, cp2_1, cp10_2, cp2_2, cp10_3, cp2_3, cp10_4, cp2_4, cp10_5, cp2_5, cp10_6, cp2_6, cp10_7, cp2_7, cp10_8, cp2_8, cp10_9, cp2_9, cp10_10, cp2_10, cp10_11, cp2_11, cp10_12, cp2_12, cp10_13, cp2_13, cp10_14, cp2_14, cp10_15, cp2_15, cp10_16, cp2_16, cp10_17, cp2_17, cp10_18, cp2_18, cp10_19, cp2_19, cp10_20, cp2_20, cp10_21, cp2_21, cp10_22, cp2_22, cp10_23, cp2_23, cp10_24, cp2_24, cp10_25, cp2_25, cp10_26, cp2_26, cp10_27, cp2_27, cp10_28, cp2_28, cp10_29, cp2_29, cp10_30, cp2_30, cp10_31, cp2_31, cp10_32, cp2_32, cp10_33, cp2_33, cp10_34, cp2_34, cp10_35, cp2_35, cp10_36, cp2_36, cp10_37, cp2_37, cp10_38, cp2_38, cp10_39, cp2_39, cp10_40, cp2_40, lsl_0, lsl_1, lsl_2, lsl_3, lsl_4, lsl_5, lsl_6, lsl_7, lsl_8, lsl_9, lsl_10, lsl_11, lsl_12, lsl_13, lsl_14, lsl_15, lsl_16, lsl_17, lsl_18, lsl_19, lsl_20, isNW_b, notNW_b, three_c, isDic_dK, isDic_dT, isDic_zK, isDic_zT, lk_dK, lk_dT, key_int, key_str, keysOf_nil, augIx_ref, tupleW_ctp, ixW_ctp, tyName_ctp, tru_ctp, inR_ctp, seqOf_ctp, lenW_ctp, isNone_ctp, augW_int, augS_int, one_c, two_c, wGs_c, wGs_n, wT_never, inner_mk, suite_mk, goneD_nx, goneD_rt, acW_d, acW_s, acW_t, wG_tup1,
  startD, wipeD, List.map_cons, List.map_nil, List.length_cons, List.length_nil, List.cons_append, List.nil_append, List.append_nil,
  List.getElem?_cons_zero, List.getElem?_cons_succ, List.set_cons_zero, List.set_cons_succ, Option.some.injEq, exists_eq_left', exists_eq_left, exists_eq_right, exists_eq_right', exists_and_left, Nat.reduceAdd, Nat.reduceSub, Nat.reduceLT, List.replicate, List.replicate_zero, List.replicate_succ, if_true, Bool.false_eq_true, if_false, ite_true, ite_false, D.bl.injEq, D.int.injEq, D.str.injEq, D.tup.injEq, D.lst.injEq, D.ref.injEq,
  Option.isSome_some, Option.isSome_none, B2.w, Cm.w, Bi.w, Bm.w, Xt.w, MO.ins.injEq, MO.dK.injEq, and_assoc, List.mem_cons, true_or, or_true, _root_.eq_self, eqW, neW, List.cons.injEq, and_true, true_and, Bool.not_true, Bool.not_false, Gs.len, Es.len,
  ret_non, ret_bl, ret_int, ret_str, ret_tup, ret_lst, isiAny_nil, isiAny_cons, atI_0, atI_1, atI_2, atI_3, atI_4, lstOf_lst, seqOf_lst, seqOf_tup, sup_same, sup_sup, eq_int, ok_int, ok_non, ok_bl, eq_ni, eq_in, eq_bl, MO.lst.injEq, exists_eq', exists_eq,
  kit_NoneType_int, kit_NoneType_bool, kit_NoneType_str, kit_NoneType_tuple, kit_NoneType_list, kit_NoneType_dict, kit_bool_int, kit_bool_bool, kit_bool_str, kit_bool_tuple, kit_bool_list, kit_bool_dict, kit_int_int, kit_int_bool, kit_int_str, kit_int_tuple, kit_int_list, kit_int_dict,
  kit_str_int, kit_str_bool, kit_str_str, kit_str_tuple, kit_str_list, kit_str_dict, kit_list_int, kit_list_bool, kit_list_str, kit_list_tuple, kit_list_list, kit_list_dict, kit_tuple_int, kit_tuple_bool, kit_tuple_str, kit_tuple_tuple, kit_tuple_list, kit_tuple_dict,
  decide_eq_true_eq, Bool.not_eq_true', decide_eq_false_iff_not, forall_const, implies_true, decide_true, decide_false, reduceCtorEq, Int.cast_ofNat_Int, Int.reducePow, Int.reduceMul, Int.reduceAdd, Int.reduceSub, Int.reduceNeg, Int.reduceToNat, Int.reduceEq, Int.reduceLT, Int.reduceLE, lk_Disk_kept_lying, pf_Disk_kept_lying, pi_Disk_kept_lying, lp_Disk_kept_lying_1, lp_Disk_kept_lying_2, lp_Disk_kept_lying_3, lk_Disk_kept_waiting, pf_Disk_kept_waiting, pi_Disk_kept_waiting, lp_Disk_kept_waiting_2, lp_Disk_kept_waiting_3, lk_Disk_kept_power, pf_Disk_kept_power, pi_Disk_kept_power, lp_Disk_kept_power_3, lk_Disk_kept_reached, pf_Disk_kept_reached, pi_Disk_kept_reached, ln_Disk_blocks_0, ln_Disk_blocks_1, ln_Disk_blocks_2, ln_Disk_blocks_3, ln_Disk_blocks_4, ln_Disk_calm_0, ln_Disk_calm_1, ln_Disk_calm_2, ln_Disk_calm_3, ln_Disk_calm_4, ln_Disk_check_block_0, ln_Disk_check_block_1, ln_Disk_check_block_2, ln_Disk_check_block_3, ln_Disk_check_block_4, ln_Disk_copy_0, ln_Disk_copy_1, ln_Disk_copy_2, ln_Disk_copy_3, ln_Disk_copy_4, ln_Disk_cut_0, ln_Disk_cut_1, ln_Disk_cut_2, ln_Disk_cut_3, ln_Disk_cut_4, ln_Disk_force_0, ln_Disk_force_1, ln_Disk_force_2, ln_Disk_force_3, ln_Disk_force_4, ln_Disk_lying_0, ln_Disk_lying_1, ln_Disk_lying_2, ln_Disk_lying_3, ln_Disk_lying_4, ln_Disk_power_0, ln_Disk_power_1, ln_Disk_power_2, ln_Disk_power_3, ln_Disk_power_4, ln_Disk_reach_0, ln_Disk_reach_1, ln_Disk_reach_2, ln_Disk_reach_3, ln_Disk_reach_4, ln_Disk_reach_one_0, ln_Disk_reach_one_1, ln_Disk_reach_one_2, ln_Disk_reach_one_3, ln_Disk_reach_one_4, ln_Disk_reached_0, ln_Disk_reached_1, ln_Disk_reached_2, ln_Disk_reached_3, ln_Disk_reached_4, ln_Disk_read_0, ln_Disk_read_1, ln_Disk_read_2, ln_Disk_read_3, ln_Disk_read_4, ln_Disk_waiting_0, ln_Disk_waiting_1, ln_Disk_waiting_2, ln_Disk_waiting_3, ln_Disk_waiting_4, ln_Disk_write_0, ln_Disk_write_1, ln_Disk_write_2, ln_Disk_write_3, ln_Disk_write_4, lt_line4, kit_dict_int, kit_dict_bool, kit_dict_str, kit_dict_tuple, kit_dict_list, kit_dict_dict, len_iD, ixW_dS, ixW_lS, setW_dS, setW_lS, lenW_dS, lenW_lS, bk_l, bk_w, bk_p, bk_r, pk_w, pk_p, pk_r, lsl_4, sup_ne, sup_3, ne_eq, not_false_eq_true, *])
theorem dis_disk {S S' : Hs} {a l w b l' w' : Addr} {m : DM} (hd : DiskAt A S a l w m) (ag : Agr [b, l', w'] S S') (h : ∀ x ∈ [a, l, w], x ∉ [b, l', w']) : DiskAt A S' a l w m := ⟨ag _ _ hd.1 (h a (by simp)), ag _ _ hd.2.1 (h l (by simp)), ag _ _ hd.2.2 (h w (by simp))⟩
theorem dis_book {S S' : Hs} {a l w b l' w' : Addr} {m : DM} (hd : BookAt S b l' w' m) (ag : Agr [a, l, w] S S') (h : ∀ x ∈ [a, l, w], x ∉ [b, l', w']) : BookAt S' b l' w' m := by
  have k : ∀ y ∈ [b, l', w'], y ∉ [a, l, w] := fun y hy z => h y z hy
  exact ⟨ag _ _ hd.1 (k b (by simp)), ag _ _ hd.2.1 (k l' (by simp)), ag _ _ hd.2.2.1 (k w' (by simp)), hd.2.2.2⟩
def TB (A : Ad) (S : Hs) : Prop := S A.t_law_deed = some (.tab "_law_deed.<locals>.<lambda>")
/-- a disk and its book, apart from the hand; the table -/
structure Two (A : Ad) (S : Hs) (h a l w b l' w' : Addr) (m : DM) : Prop where
  d : DiskAt A S a l w m
  k : BookAt S b l' w' m
  dis : ∀ x ∈ [a, l, w], x ∉ [b, l', w']
  hh : h ∉ [a, l, w] ∧ h ∉ [b, l', w']
  o : ∃ o, S h = some o ∧ HandO o
  tb : TB A S
theorem Two.t1 {S : Hs} {h a l w b l' w' : Addr} {m : DM} (t : Two A S h a l w b l' w' m) : A.t_law_deed ∉ [a, l, w] := by
  simp only [List.mem_cons, List.not_mem_nil, or_false, not_or]
  exact ⟨ne_kind t.tb t.d.1 (by simp), ne_kind t.tb t.d.2.1 (by simp), ne_kind t.tb t.d.2.2 (by simp)⟩
theorem Two.t2 {S : Hs} {h a l w b l' w' : Addr} {m : DM} (t : Two A S h a l w b l' w' m) : A.t_law_deed ∉ [b, l', w'] := by
  simp only [List.mem_cons, List.not_mem_nil, or_false, not_or]
  exact ⟨ne_kind t.tb t.k.1 (by simp), ne_kind t.tb t.k.2.1 (by simp), ne_kind t.tb t.k.2.2.1 (by simp)⟩
theorem Two.t3 {S : Hs} {h a l w b l' w' : Addr} {m : DM} (t : Two A S h a l w b l' w' m) : A.t_law_deed ≠ h := by
  obtain ⟨o, ho, ns, x, y, z, u, rfl, _⟩ := t.o
  exact ne_kind t.tb ho (by simp)
/-- the book, then the disk -/
theorem Two.both {S S2 S3 : Hs} {h a l w b l' w' : Addr} {m m' : DM} (t : Two A S h a l w b l' w' m) (hb : BookAt S2 b l' w' m') (ag2 : Agr [b, l', w'] S S2) (hd : DiskAt A S3 a l w m') (ag : Agr [a, l, w] S2 S3) : Two A S3 h a l w b l' w' m' := by
  obtain ⟨o, ho, hh⟩ := t.o
  exact ⟨hd, dis_book hb ag t.dis, t.dis, t.hh, ⟨o, ag _ _ (ag2 _ _ ho t.hh.2) t.hh.1, hh⟩, ag _ _ (ag2 _ _ t.tb t.t2) t.t1⟩
theorem Two.cut {S S2 S3 : Hs} {h a l w b l' w' w2 w3 : Addr} {m m' : DM} (t : Two A S h a l w b l' w' m) (e2 : S w3 = none) (hb : BookAt S2 b l' w3 m') (ag2 : Agr [b, l', w'] S S2) (e1 : S2 w2 = none) (hd : DiskAt A S3 a l w2 m') (ag : Agr [a, l, w] S2 S3) : Two A S3 h a l w2 b l' w3 m' := by
  obtain ⟨o, ho, hh⟩ := t.o
  have hS2 := ag2 _ _ ho t.hh.2
  have td := t.dis
  have th := t.hh
  simp only [List.mem_cons, List.not_mem_nil, or_false, not_or, forall_eq_or_imp, forall_eq] at td th
  have k1 : h ≠ w3 := sne ho e2
  have k2 : h ≠ w2 := sne hS2 e1
  have i1 : a ≠ w3 := sne t.d.1 e2
  have i2 : l ≠ w3 := sne t.d.2.1 e2
  have j1 : b ≠ w2 := sne hb.1 e1
  have j2 : l' ≠ w2 := sne hb.2.1 e1
  have j3 : w3 ≠ w2 := sne hb.2.2.1 e1
  have i3 : w ≠ w3 := sne t.d.2.2 e2
  have hb3 : BookAt S3 b l' w3 m' := by
    refine ⟨ag _ _ hb.1 ?_, ag _ _ hb.2.1 ?_, ag _ _ hb.2.2.1 ?_, hb.2.2.2⟩
    · simp only [List.mem_cons, List.not_mem_nil, or_false, not_or]
      exact ⟨Ne.symm td.1.1, Ne.symm td.2.1.1, Ne.symm td.2.2.1⟩
    · simp only [List.mem_cons, List.not_mem_nil, or_false, not_or]
      exact ⟨Ne.symm td.1.2.1, Ne.symm td.2.1.2.1, Ne.symm td.2.2.2.1⟩
    · simp only [List.mem_cons, List.not_mem_nil, or_false, not_or]
      exact ⟨Ne.symm i1, Ne.symm i2, Ne.symm i3⟩
  refine ⟨hd, hb3, ?_, ⟨?_, ?_⟩, ⟨o, ag _ _ hS2 t.hh.1, hh⟩, ag _ _ (ag2 _ _ t.tb t.t2) t.t1⟩
  · simp only [List.mem_cons, List.not_mem_nil, or_false, not_or, forall_eq_or_imp, forall_eq]
    exact ⟨⟨td.1.1, td.1.2.1, i1⟩, ⟨td.2.1.1, td.2.1.2.1, i2⟩, Ne.symm j1, Ne.symm j2, Ne.symm j3⟩
  · simp only [List.mem_cons, List.not_mem_nil, or_false, not_or]
    exact ⟨th.1.1, th.1.2.1, k2⟩
  · simp only [List.mem_cons, List.not_mem_nil, or_false, not_or]
    exact ⟨th.2.1, th.2.2.1, k1⟩
theorem Two.hand {S S2 : Hs} {h a l w b l' w' : Addr} {m : DM} {o : MO} (t : Two A S h a l w b l' w' m) (h1 : S2 h = some o) (h2 : HandO o) (ag : Agr [h] S S2) : Two A S2 h a l w b l' w' m := by
  have th := t.hh
  simp only [List.mem_cons, List.not_mem_nil, or_false, not_or] at th
  have e : ∀ x o, S x = some o → h ≠ x → S2 x = some o := fun x o hx hn => ag _ _ hx (by simpa using Ne.symm hn)
  exact ⟨⟨e _ _ t.d.1 th.1.1, e _ _ t.d.2.1 th.1.2.1, e _ _ t.d.2.2 th.1.2.2⟩, ⟨e _ _ t.k.1 th.2.1, e _ _ t.k.2.1 th.2.2.1, e _ _ t.k.2.2.1 th.2.2.2, t.k.2.2.2⟩, t.dis, t.hh, ⟨o, h1, h2⟩, e _ _ t.tb (Ne.symm t.t3)⟩
theorem Two.sup {S : Hs} {h a l w b l' w' : Addr} {m : DM} {o : MO} (t : Two A S h a l w b l' w' m) (ho : HandO o) : Two A (sup S h o) h a l w b l' w' m := t.hand sup_same ho (Agr.sup Agr.refl (.inl (by simp)))
/-- something new beside -/
theorem Two.new {S : Hs} {h a l w b l' w' p : Addr} {m : DM} {o : MO} (t : Two A S h a l w b l' w' m) (hp : S p = none) : Two A (Dz.sup S p o) h a l w b l' w' m := by
  have e : ∀ x u, S x = some u → Dz.sup S p o x = some u := fun x u hx => (sup_ne (sne hx hp)).trans hx
  obtain ⟨u, u1, u2⟩ := t.o
  exact ⟨⟨e _ _ t.d.1, e _ _ t.d.2.1, e _ _ t.d.2.2⟩, ⟨e _ _ t.k.1, e _ _ t.k.2.1, e _ _ t.k.2.2.1, t.k.2.2.2⟩, t.dis, t.hh, ⟨u, e _ _ u1, u2⟩, e _ _ t.tb⟩
theorem agr_none {fp : List Addr} {S S' : Hs} {x : Addr} (g : Agr fp S S') (h : S' x = none) (n : x ∉ fp) : S x = none := by
  cases z : S x with
  | none => rfl
  | some o => rw [g x o z n] at h; cases h
def fpA (h a l w b l' w' : Addr) : List Addr := [h, a, l, w, b, l', w']
def DQ (A : Ad) (S0 : Hs) (h a l w b l' w' : Addr) (Bk : List Int) (B n : Nat) (Q : QD) : Prop := ∀ S' w2 w3 m', Two A S' h a l w2 b l' w3 m' → Good Bk (B + 1) m' → m'.lying.length = n → (w2 ∈ fpA h a l w b l' w' ∨ S0 w2 = none) → (w3 ∈ fpA h a l w b l' w' ∨ S0 w3 = none) → Agr (fpA h a l w b l' w') S0 S' → Q (.bl true) S'
theorem so_st : (D.str "stopped").ok = true := by decide +kernel
theorem so_no : (D.str "nothing").ok = true := by decide +kernel
theorem se_1 : D.eq (D.str "stopped") (D.str "stopped") = true := by decide +kernel
theorem se_2 : D.eq (D.str "nothing") (D.str "stopped") = false := by decide +kernel
theorem se_3 : D.eq (D.str "nothing") (D.str "nothing") = true := by decide +kernel
theorem se_4 : D.eq .non (D.str "stopped") = false := by decide +kernel
theorem se_5 : D.eq .non .non = true := by decide +kernel
def RhoD (h a b : Addr) (ns : List Int) (due told : D) (ρ : Ro) : Prop := ∃ x4 x5 x6 x9 x10, ρ = [some (.ref h), some (.ref a), some (.ref b), some (.lst (iD ns)), x4, x5, x6, some due, some told, x9, x10]
theorem agr_1 {h a l w b l' w' : Addr} {S0 S S' : Hs} (g : Agr (fpA h a l w b l' w') S0 S) (g2 : Agr [a, l, w] S S') : Agr (fpA h a l w b l' w') S0 S' := g.trans g2 fun x hx => .inl (by simp only [fpA, List.mem_cons, List.not_mem_nil, or_false] at hx ⊢; rcases hx with h | h | h <;> simp [h])
theorem agr_2 {h a l w b l' w' : Addr} {S0 S S' : Hs} (g : Agr (fpA h a l w b l' w') S0 S) (g2 : Agr [b, l', w'] S S') : Agr (fpA h a l w b l' w') S0 S' := g.trans g2 fun x hx => .inl (by simp only [fpA, List.mem_cons, List.not_mem_nil, or_false] at hx ⊢; rcases hx with h | h | h <;> simp [h])
theorem agr_h {h a l w b l' w' : Addr} {S0 S S' : Hs} (g : Agr (fpA h a l w b l' w') S0 S) (g2 : Agr [h] S S') : Agr (fpA h a l w b l' w') S0 S' := g.trans g2 fun x hx => .inl (by simp only [fpA, List.mem_cons, List.not_mem_nil, or_false] at hx ⊢; simp [hx])
/-- the end of a deed where both tell the same -/
theorem t_same {S0 S : Hs} {h a l w b l' w' w2 w3 : Addr} {m : DM} {ns Bk : List Int} {B n : Nat} {Q : QD} {Y : XD → Ro → Hs → Prop} {nx bk ct : Ro → Hs → Prop} {d : D} (hq : DQ A S0 h a l w b l' w' Bk B n Q) (t : Two A S h a l w2 b l' w3 m) (hg : Good Bk (B + 1) m) (hn : m.lying.length = n) (e2 : w2 ∈ fpA h a l w b l' w' ∨ S0 w2 = none) (e3 : w3 ∈ fpA h a l w b l' w' ∨ S0 w3 = none) (ag : Agr (fpA h a l w b l' w') S0 S) (hd : d = .non ∨ d = .str "nothing") :
    ∀ ρ, RhoD h a b ns d d ρ → wTs { fns := [("_law_any", sp_law_any), ("_law_draw", sp_law_draw), ("_law_content", sp_law_content), ("_law_wrote", sp_law_wrote), ("_law_reached", sp_law_reached), ("_law_forced", sp_law_forced), ("_law_cut", sp_law_cut), ("_law_shows", sp_law_shows A)], cons := [], nob := n_law_deed.nob, mths := [⟨"write", A.Disk, sp_Disk_write A⟩, ⟨"reach", A.Disk, sp_Disk_reach A⟩, ⟨"force", A.Disk, sp_Disk_force A⟩, ⟨"calm", A.Disk, sp_Disk_calm A⟩, ⟨"power", A.Disk, sp_Disk_power A⟩, ⟨"cut", A.Disk, sp_Disk_cut A⟩], lams := [⟨"_law_word", A.t_law_deed, "_law_deed.<locals>.<lambda>", lsp_law_word A⟩] } b_law_deed_r3 { nx := nx, rt := Q, bk := bk, ct := ct, ex := Y } ρ S := by
  rintro ρ ⟨x4, x5, x6, x9, x10, rfl⟩
  have fin := hq S w2 w3 m t hg hn e2 e3 ag
  unfold b_law_deed_r3
  rcases hd with rfl | rfl
  · walk_at "vc"
    simp only [so_st, se_4, se_5, true_and, and_true, ok_non]
    walk_at "vc"
    unfold b_law_deed_r2
    walk_at "vc"
    simp only [se_5, true_and, and_true, ok_non]
    exact fin
  · walk_at "vc"
    simp only [so_st, so_no, se_2, true_and, and_true]
    walk_at "vc"
    unfold b_law_deed_r2
    walk_at "vc"
    simp only [se_3, so_no, true_and, and_true]
    exact fin
/-- the end of a deed that was stopped -/
theorem t_stop {S0 S : Hs} {h a l w b l' w' : Addr} {m : DM} {ns Bk : List Int} {B n : Nat} {Q : QD} {Y : XD → Ro → Hs → Prop} {nx bk ct : Ro → Hs → Prop} (hq : DQ A S0 h a l w b l' w' Bk B n Q) (t : Two A S h a l w b l' w' m) (hg : Good Bk (B + 1) m) (hn : m.lying.length = n) (ag : Agr (fpA h a l w b l' w') S0 S) (hns : ∀ i ∈ ns, 0 ≤ i ∧ i < m.lying.length) :
    ∀ ρ, RhoD h a b ns (.str "stopped") (.str "stopped") ρ → wTs { fns := [("_law_any", sp_law_any), ("_law_draw", sp_law_draw), ("_law_content", sp_law_content), ("_law_wrote", sp_law_wrote), ("_law_reached", sp_law_reached), ("_law_forced", sp_law_forced), ("_law_cut", sp_law_cut), ("_law_shows", sp_law_shows A)], cons := [], nob := n_law_deed.nob, mths := [⟨"write", A.Disk, sp_Disk_write A⟩, ⟨"reach", A.Disk, sp_Disk_reach A⟩, ⟨"force", A.Disk, sp_Disk_force A⟩, ⟨"calm", A.Disk, sp_Disk_calm A⟩, ⟨"power", A.Disk, sp_Disk_power A⟩, ⟨"cut", A.Disk, sp_Disk_cut A⟩], lams := [⟨"_law_word", A.t_law_deed, "_law_deed.<locals>.<lambda>", lsp_law_word A⟩] } b_law_deed_r3 { nx := nx, rt := Q, bk := bk, ct := ct, ex := Y } ρ S := by
  rintro ρ ⟨x4, x5, x6, x9, x10, rfl⟩
  unfold b_law_deed_r3
  walk_at "vc"
  simp only [so_st, se_1, true_and, and_true]
  walk_at "vc"
  refine ⟨a, l, w, b, l', w', m, _, ns, Bk, B + 1, rfl, rfl, t.d, t.k, hg, hns, true, rfl, ?_⟩
  walk_at "vc"
  unfold b_law_deed_r1
  walk_at "vc"
  refine ⟨b, l', w', m, rfl, t.k, fun S2 w3 e3 hb2 ag2 => ?_⟩
  have tb2 : TB A S2 := ag2 _ _ t.tb t.t2
  have hd2 := dis_disk t.d ag2 t.dis
  refine ⟨tb2, fun Q' X' hQ hX => ?_⟩
  walk_at "vc"
  refine ⟨_, hd2.1, rfl, a, l, w, m, rfl, hd2, fun S3 w2 e2 hd3 ag3 => ?_⟩
  refine hQ _ _ ?_
  walk_at "vc"
  have i3 : w3 ∈ fpA h a l w b l' w' ∨ S0 w3 = none := by
    by_cases hf : w3 ∈ fpA h a l w b l' w'
    · exact .inl hf
    · exact .inr (agr_none ag e3 hf)
  have i2 : w2 ∈ fpA h a l w b l' w' ∨ S0 w2 = none := by
    by_cases hf : w2 ∈ fpA h a l w b l' w'
    · exact .inl hf
    · exact .inr (agr_none (agr_2 ag ag2) e2 hf)
  exact hq S3 w2 w3 _ (t.cut e3 hb2 ag2 e2 hd3 ag3) (good_cut hg) hn i2 i3 (agr_1 (agr_2 ag ag2) ag3)
def sp_law_deed (A : Ad) : DSp := fun ds S Q _ => ∃ h a l w b l' w' m ns Bk B, ds = [.ref h, .ref a, .ref b, .lst (iD ns)] ∧ Two A S h a l w b l' w' m ∧ Good Bk B m ∧ B + 1 < 1000000 ∧ ns ≠ [] ∧ ns.length ≤ 60 ∧ (∀ i ∈ ns, i ∈ Bk) ∧ DQ A S h a l w b l' w' Bk B m.lying.length Q
theorem v_law_deed : VC n_law_deed b_law_deed { fns := [("_law_any", sp_law_any), ("_law_draw", sp_law_draw), ("_law_content", sp_law_content), ("_law_wrote", sp_law_wrote), ("_law_reached", sp_law_reached), ("_law_forced", sp_law_forced), ("_law_cut", sp_law_cut), ("_law_shows", sp_law_shows A)], cons := [], nob := n_law_deed.nob, mths := [⟨"write", A.Disk, sp_Disk_write A⟩, ⟨"reach", A.Disk, sp_Disk_reach A⟩, ⟨"force", A.Disk, sp_Disk_force A⟩, ⟨"calm", A.Disk, sp_Disk_calm A⟩, ⟨"power", A.Disk, sp_Disk_power A⟩, ⟨"cut", A.Disk, sp_Disk_cut A⟩], lams := [⟨"_law_word", A.t_law_deed, "_law_deed.<locals>.<lambda>", lsp_law_word A⟩] } 4 (sp_law_deed A) := by
  rintro ds S Q Y ⟨h, a, l, w, b, l', w', m, ns, Bk, B, rfl, t, hg, hB, hne, hnl, hin, hq⟩
  refine ⟨rfl, ?_⟩
  have hns : ∀ i ∈ ns, 0 ≤ i ∧ i < m.lying.length := fun i hi => hg.blk i (hin i hi)
  unfold b_law_deed n_law_deed
  obtain ⟨o, ho, hho⟩ := t.o
  walk_at "vc"
  refine ⟨h, 16, o, rfl, ho, hho, by decide, by decide, fun kind o1 k0 k1 ho1 => ?_⟩
  have t1 := t.sup ho1
  refine ⟨h, o1, _, iD ns, rfl, sup_same, ho1, rfl, by simp, by rw [len_iD]; exact List.length_pos_iff.mpr hne, by rw [len_iD]; omega, fun x o2 hx ho2 => ?_⟩
  obtain ⟨blk, hblk, rfl⟩ := List.mem_map.mp hx
  have t2 := t1.sup ho2
  rw [sup_sup] at t2 ⊢
  have ag : Agr (fpA h a l w b l' w') S (Dz.sup S h o2) := Agr.sup Agr.refl (.inl (by simp [fpA]))
  generalize Dz.sup S h o2 = S1 at *
  clear t1 ho hho ho1 ho2 hx o o1 o2
  walk_at "vc"
  split
  · obtain ⟨o, ho, hho⟩ := t2.o
    refine ⟨h, o, rfl, ho, hho, fun S2 c o2 hc h1 h2 ag2 => ?_⟩
    have t3 := t2.hand h1 h2 ag2
    have ag3 := agr_h ag ag2
    walk_at "vc"
    refine ⟨b, l', w', m, blk, c, Bk, B, rfl, t3.k, hg, by omega, hin _ hblk, hc, fun S3 hb3 ag4 => ?_⟩
    refine ⟨ag4 _ _ t3.tb t3.t2, fun Q' X' hQ hX => ?_⟩
    have hd3 := dis_disk t3.d ag4 t3.dis
    walk_at "vc"
    refine ⟨_, hd3.1, rfl, a, l, w, m, blk, c, Bk, B, rfl, hd3, hg, by omega, hin _ hblk, hc, fun S4 hd4 ag5 => ?_⟩
    refine hQ _ _ ?_
    walk_at "vc"
    exact hq S4 w w' _ (t3.both hb3 ag4 hd4 ag5) (good_write hg (hin _ hblk) hc) rfl (.inl (by simp [fpA])) (.inl (by simp [fpA])) (agr_1 (agr_2 ag3 ag4) ag5)
  unfold b_law_deed_r4
  walk_at "vc"
  have hgm := good_mono hg (Nat.le_succ B)
  have inA : w ∈ fpA h a l w b l' w' := by simp [fpA]
  have inB : w' ∈ fpA h a l w b l' w' := by simp [fpA]
  split
  · have ⟨u1, u2, u3, u4⟩ := t2.k
    walk_at "vs"
    refine ⟨_, inR_at u3 rfl, ?_⟩
    by_cases hr : rowsAt m blk = []
    · have en : valD m.waits (.inl blk) = none := by
        cases e : valD m.waits (.inl blk) with
        | none => rfl
        | some v =>
          obtain ⟨r, rfl, hne, _⟩ := good_row hg e
          rw [rows_some e] at hr
          exact (hne hr).elim
      rw [en, if_neg (show ¬ (none : Option D).isSome = true by simp)]
      unfold b_law_deed_r0
      walk_at "vc"
      refine ⟨t2.tb, fun Q' X' hQ hX => ?_⟩
      walk_at "vc"
      refine ⟨_, t2.d.1, rfl, a, l, w, m, blk, Bk, B, rfl, t2.d, hg, by omega, hns _ hblk, fun _ => hX _ _ (.inr ⟨rfl, ?_⟩), fun z => (z hr).elim⟩
      exact t_same hq t2 hgm rfl (.inl inA) (.inl inB) ag (.inr rfl) _ ⟨_, _, _, _, _, rfl⟩
    · obtain ⟨r, e, er, hb, _⟩ := rows_ne hg hr
      rw [e, if_pos (show (some (D.lst r)).isSome = true from rfl)]
      refine ⟨b, l', w', m, blk, Bk, B, rfl, t2.k, hg, by omega, hr, fun h0 => ?_, fun h0 S3 hb3 ag3 => ?_⟩
      · walk_at "vc"
        unfold b_law_deed_r0
        walk_at "vc"
        refine ⟨t2.tb, fun Q' X' hQ hX => ?_⟩
        walk_at "vc"
        refine ⟨_, t2.d.1, rfl, a, l, w, m, blk, Bk, B, rfl, t2.d, hg, by omega, hns _ hblk, fun z => (hr z).elim, fun _ => ⟨fun _ => hX _ _ (.inl ⟨rfl, ?_⟩), fun z => (z h0).elim⟩⟩
        exact t_stop hq t2 hgm rfl ag hns _ ⟨_, _, _, _, _, rfl⟩
      · walk_at "vc"
        unfold b_law_deed_r0
        have hd3 := dis_disk t2.d ag3 t2.dis
        walk_at "vc"
        refine ⟨ag3 _ _ t2.tb t2.t2, fun Q' X' hQ hX => ?_⟩
        walk_at "vc"
        refine ⟨_, hd3.1, rfl, a, l, w, m, blk, Bk, B, rfl, hd3, hg, by omega, hns _ hblk, fun z => (hr z).elim, fun _ => ⟨fun z => (h0 z).elim, fun _ S4 hd4 ag4 => hQ _ _ ?_⟩⟩
        exact t_same hq (t2.both hb3 ag3 hd4 ag4) (good_mono (good_reach hg hr h0) (Nat.le_succ B)) (by unfold reachM; simp) (.inl inA) (.inl inB) (agr_1 (agr_2 ag ag3) ag4) (.inl rfl) _ ⟨_, _, _, _, _, rfl⟩
  walk_at "vc"
  split
  · obtain ⟨o, ho, hho⟩ := t2.o
    refine ⟨h, 4, o, rfl, ho, hho, by decide, by decide, fun k o1 k0 k1 ho1 => ?_⟩
    have t3 := t2.sup ho1
    have ag3 : Agr (fpA h a l w b l' w') S (Dz.sup S1 h o1) := ag.sup (.inl (by simp [fpA]))
    generalize Dz.sup S1 h o1 = S2 at *
    clear t2 ag ho hho ho1
    refine ⟨by omega, by omega, ?_⟩
    unfold rngD
    refine compJ (fun i acc S4 => (∃ o, S4 h = some o ∧ HandO o) ∧ Agr [h] S2 S4 ∧ ∃ js : List Int, acc = iD js ∧ js.length ≤ i ∧ ∀ j ∈ js, j ∈ ns) (by simp [sizeLine]; omega) ⟨t3.o, Agr.refl, [], rfl, by decide, by simp⟩ ?_ (fun _ _ _ _ => trivial) ?_ ?_
    · rintro i acc S4 L u hL ⟨⟨o, i1, i2⟩, i3, i4⟩
      obtain ⟨o2, g1, _⟩ := t3.o
      have d1 := sne g1 hL
      exact ⟨⟨o, (sup_ne d1).trans i1, i2⟩, Agr.sup i3 (.inr hL), i4⟩
    · rintro i x acc S4 L K K' hL hx ha ⟨⟨o, i1, i2⟩, i3, js, rfl, i4, i5⟩ h6 hy hn
      obtain ⟨o2, g1, _⟩ := t3.o
      have d1 := sne g1 hL
      walk_at "vc"
      refine ⟨h, o, _, iD ns, rfl, i1, i2, rfl, by simp, by rw [len_iD]; exact List.length_pos_iff.mpr hne, by rw [len_iD]; omega, fun y o2 hy' ho2 => ?_⟩
      obtain ⟨j, hj, rfl⟩ := List.mem_map.mp hy'
      refine hy _ _ ((sup_ne (Ne.symm d1)).trans h6) ⟨⟨o2, sup_same, ho2⟩, Agr.sup i3 (.inl (by simp)), js ++ [j], by simp [iD], by simp; omega, fun x hx => ?_⟩
      rcases List.mem_append.mp hx with hx | hx
      · exact i5 x hx
      · rw [List.mem_singleton.mp hx]; exact hj
    · rintro acc S4 L hL h6 ha ⟨⟨o, i1, i2⟩, i3, js, rfl, i4, i5⟩
      refine .inl ?_
      obtain ⟨o2, g1, _⟩ := t3.o
      have d1 := sne g1 hL
      have j1 : sdel S4 L h = some o := (sdel_ne d1).trans i1
      have j3 : Agr [h] S2 (sdel S4 L) := fun x u hx hn => (sdel_ne (sne hx hL)).trans (i3 x u hx hn)
      generalize sdel S4 L = S5 at j1 j3
      have t4 := t3.hand j1 i2 j3
      have ag4 := agr_h ag3 j3
      rw [List.length_range] at i4
      walk_at "vc"
      refine ⟨js, rfl, by omega, fun ms hp hm => newL_f ?_⟩
      have hmB : ∀ x ∈ ms, x ∈ Bk := fun x hx => hin x (i5 x ((hm x).mp hx))
      have hml : ms.length ≤ 400 := Nat.le_trans (nodup_le (hp.imp fun h => Int.ne_of_lt h) hmB) hg.few
      obtain ⟨gf, lf⟩ := good_force ms m hg
      walk_at "vc"
      refine ⟨b, l', w', m, _, ms, Bk, B, rfl, .inl rfl, t4.k, hg, by omega, fun S6 hb6 ag6 => ?_⟩
      have hd6 := dis_disk t4.d ag6 t4.dis
      have tb6 : TB A S6 := ag6 _ _ t4.tb t4.t2
      cases hf : (forceM ms m).2
      · walk_at "vc"
        refine ⟨tb6, fun Q' X' hQ hX => ?_⟩
        walk_at "vc"
        refine ⟨_, hd6.1, rfl, a, l, w, m, ms, Bk, B, rfl, hd6, hg, by omega, by omega, hp, fun x hx => hg.blk x (hmB x hx), fun S7 hd7 ag7 => ?_⟩
        rw [hf, if_neg (by decide)]
        exact hX _ _ (.inl ⟨rfl, t_stop hq (t4.both hb6 ag6 hd7 ag7) (good_mono gf (Nat.le_succ B)) lf (agr_1 (agr_2 ag4 ag6) ag7) (by rw [lf]; exact hns) _ ⟨_, _, _, _, _, rfl⟩⟩)
      · walk_at "vc"
        refine ⟨tb6, fun Q' X' hQ hX => ?_⟩
        walk_at "vc"
        refine ⟨_, hd6.1, rfl, a, l, w, m, ms, Bk, B, rfl, hd6, hg, by omega, by omega, hp, fun x hx => hg.blk x (hmB x hx), fun S7 hd7 ag7 => ?_⟩
        rw [hf, if_pos rfl]
        exact hQ _ _ (t_same hq (t4.both hb6 ag6 hd7 ag7) (good_mono gf (Nat.le_succ B)) lf (.inl inA) (.inl inB) (agr_1 (agr_2 ag4 ag6) ag7) (.inl rfl) _ ⟨_, _, _, _, _, rfl⟩)
  walk_at "vc"
  split
  · have ⟨u1, u2, u3, u4⟩ := t2.k
    obtain ⟨q1, q2, q3, q4⟩ := keys_ok hg
    obtain ⟨gf, lf⟩ := good_force (sortI (keysI m)) m hg
    walk_at "vs"
    refine .inr (.inr (.inr ⟨w', m.waits, keysI m, rfl, .inl u3, q1, by omega, newL_f ?_⟩))
    walk_at "vc"
    refine ⟨b, l', w', m, _, sortI (keysI m), Bk, B, rfl, .inr rfl, t2.k, hg, by omega, fun S6 hb6 ag6 => ?_⟩
    have hd6 := dis_disk t2.d ag6 t2.dis
    have tb6 : TB A S6 := ag6 _ _ t2.tb t2.t2
    cases hf : (forceM (sortI (keysI m)) m).2
    · walk_at "vc"
      refine ⟨tb6, fun Q' X' hQ hX => ?_⟩
      walk_at "vc"
      refine ⟨_, hd6.1, rfl, a, l, w, m, Bk, B, rfl, hd6, hg, by omega, fun S7 hd7 ag7 => ?_⟩
      rw [hf, if_neg (by decide)]
      exact hX _ _ (.inl ⟨rfl, t_stop hq (t2.both hb6 ag6 hd7 ag7) (good_mono gf (Nat.le_succ B)) lf (agr_1 (agr_2 ag ag6) ag7) (by rw [lf]; exact hns) _ ⟨_, _, _, _, _, rfl⟩⟩)
    · walk_at "vc"
      refine ⟨tb6, fun Q' X' hQ hX => ?_⟩
      walk_at "vc"
      refine ⟨_, hd6.1, rfl, a, l, w, m, Bk, B, rfl, hd6, hg, by omega, fun S7 hd7 ag7 => ?_⟩
      rw [hf, if_pos rfl]
      exact hQ _ _ (t_same hq (t2.both hb6 ag6 hd7 ag7) (good_mono gf (Nat.le_succ B)) lf (.inl inA) (.inl inB) (agr_1 (agr_2 ag ag6) ag7) (.inl rfl) _ ⟨_, _, _, _, _, rfl⟩)
  walk_at "vc"
  split
  · obtain ⟨o, ho, hho⟩ := t2.o
    refine newL_f ⟨h, o, _, _, rfl, ho, hho, rfl, by simp, by simp, by simp, fun y o1 hy ho1 => ?_⟩
    have t3 := t2.sup ho1
    have ag3 : Agr (fpA h a l w b l' w') S (Dz.sup S1 h o1) := ag.sup (.inl (by simp [fpA]))
    generalize Dz.sup S1 h o1 = S2 at *
    clear t2 ag ho hho ho1
    obtain ⟨p, rfl, hp⟩ : ∃ p : Option Int, y = pD p ∧ ∀ i, p = some i → 0 ≤ i ∧ i ≤ 1000000 := by
      simp only [List.mem_cons, List.not_mem_nil, or_false] at hy
      rcases hy with rfl | rfl | rfl | rfl | rfl | rfl | rfl
      · exact ⟨none, rfl, fun i e => by cases e⟩
      · exact ⟨some 0, rfl, fun i e => by cases e; omega⟩
      · exact ⟨some 1, rfl, fun i e => by cases e; omega⟩
      · exact ⟨some 2, rfl, fun i e => by cases e; omega⟩
      · exact ⟨some 3, rfl, fun i e => by cases e; omega⟩
      · exact ⟨some 7, rfl, fun i e => by cases e; omega⟩
      · exact ⟨some _, rfl, fun i e => by cases e; decide⟩
    have ⟨u1, u2, u3, u4⟩ := t3.k
    have u5 : b ≠ l' := ne_kind u1 u2 (by simp)
    refine setW_dat u1 rfl (by simp [sizeLine]) ?_
    rw [pk_p]
    have hb4 : BookAt (Dz.sup S2 b (.dK [(.inr "lying", .ref l'), (.inr "waits", .ref w'), (.inr "power", pD p), (.inr "reached", .int m.reached)])) b l' w' { m with power := p } := ⟨sup_same, (sup_ne (Ne.symm u5)).trans u2, (sup_ne (Ne.symm u4)).trans u3, u4⟩
    have ag4 : Agr [b, l', w'] S2 (Dz.sup S2 b (.dK [(.inr "lying", .ref l'), (.inr "waits", .ref w'), (.inr "power", pD p), (.inr "reached", .int m.reached)])) := Agr.sup Agr.refl (.inl (by simp))
    generalize Dz.sup S2 b _ = S3 at *
    have hd4 := dis_disk t3.d ag4 t3.dis
    have ⟨v1, v2, v3, v4⟩ := hb4
    walk_at "vc"
    refine ⟨ag4 _ _ t3.tb t3.t2, fun Q' X' hQ hX => ?_⟩
    clear u1 u2 u3 u4 u5
    walk_at "vc"
    refine ⟨_, hd4.1, rfl, ?_⟩
    walk_at "vs"
    refine ⟨a, l, w, m, p, rfl, hd4, hp, fun S5 hd5 ag5 => hQ _ _ ?_⟩
    exact t_same hq (t3.both hb4 ag4 hd5 ag5) ⟨hgm.row, hgm.nd, hgm.lie, hgm.blk, hgm.few, hgm.len, fun i e => (hp i e).1⟩ rfl (.inl inA) (.inl inB) (agr_1 (agr_2 ag3 ag4) ag5) (.inl rfl) _ ⟨_, _, _, _, _, rfl⟩
  · refine ⟨b, l', w', m, rfl, t2.k, fun S2 w3 e3 hb2 ag2 => ?_⟩
    have hd2 := dis_disk t2.d ag2 t2.dis
    walk_at "vc"
    refine ⟨ag2 _ _ t2.tb t2.t2, fun Q' X' hQ hX => ?_⟩
    walk_at "vc"
    refine ⟨_, hd2.1, rfl, a, l, w, m, rfl, hd2, fun S3 w2 e2 hd3 ag3 => hQ _ _ ?_⟩
    have i3 : w3 ∈ fpA h a l w b l' w' ∨ S w3 = none := by
      by_cases hf : w3 ∈ fpA h a l w b l' w'
      · exact .inl hf
      · exact .inr (agr_none ag e3 hf)
    have i2 : w2 ∈ fpA h a l w b l' w' ∨ S w2 = none := by
      by_cases hf : w2 ∈ fpA h a l w b l' w'
      · exact .inl hf
      · exact .inr (agr_none (agr_2 ag ag2) e2 hf)
    exact t_same hq (t2.cut e3 hb2 ag2 e2 hd3 ag3) (good_cut hgm) rfl i2 i3 (agr_1 (agr_2 ag ag2) ag3) (.inl rfl) _ ⟨_, _, _, _, _, rfl⟩
end W
namespace W
open PySem L2 Dz
variable {A : Ad}
local macro_rules | `(tactic| walk_at "vc") => `(tactic| try simp only [wE_var, wE_int, wE_str, wE_bl, wE_non, wE_glob, wE_b2, wE_neg, wE_cm, wE_ch, wE_not, wE_and, wE_or, wE_ife, wE_tup, wE_lst, wE_ix, wE_sl, wE_rev, wE_bi, wE_isi, wE_call, wE_bm, wE_comp, wE_call0, wE_fld, wE_mt, wE_mk, wE_dic, wE_dic0, wE_dcomp, wE_lock, wE_xt, wE_tcall, wE_isE, wE_fldE, wB_not, wB_and, wB_or, wB_cm, wB_ch, wB_var, wB_ix, wB_bi, wB_isi, wB_call, wB_bm, wB_call0, wB_xt, wB_isE, wB_fld, wB_mt, wAnd_cons1, wAnd_cons, wOr_cons1, wOr_cons, wBAnd_cons1, wBAnd_cons, wBOr_cons1, wBOr_cons, wEs_nil, wEs_cons, wPr_nil, wPr_cons, wC_nil, wC_cons1, wO_no, wO_yes, wG_name, wG_sub, wI_seq, wI_rng, wI_enum, wI_items, wT_asg, wT_setc, wT_aug, wT_ex, wT_ret, wT_retN, wT_pass, wT_brk, wT_cont, wT_ite, wT_for, wT_whil, wT_fst, wT_faug, wT_saug, wT_par2, wT_par3, wT_del, wT_lock, wT_rais, wT_try1, wT_tryN, wT_ac, wTs_nil, wTs_cons, wH_nil, ixW_live, setW_live, ixW_dK, ixW_zK, setW_dK, inR_live, dget_dK, inR_dK, wH_c0, wH_c1, true_and_of, addW_int, addW_str, addW_tup, addW_ll, addW_lr, addW_rl, addW_rr, subW_int, mulW_int, mulW_tup, mulW_ref, fdivW_int, modW_int, powW_int, ltW_int, leW_int, gtW_int, geW_int, ltW_str, leW_str, gtW_str, geW_str, isNW_n, notNW_n, isNone_non, isNone_bl, isNone_int, isNone_str, isNone_tup, isNone_lst, isNone_ref, isNone_ty, tyName_non, tyName_bl, tyName_int, tyName_str, tyName_tup, tyName_lst, negW_int, intW_int, intW_bl, absW_int, minW_int, maxW_int, lenW_str, lenW_lst, lenW_tup, lenW_ref, len_lst, len_dK, len_dT, tupleW_lst, tupleW_tup, tupleW_ref, listW_lst, listW_tup, listW_ref, ixW_str, ixW_lst, ixW_tup, slW_str, slW_tup, slW_lst, slW_ref, revW_tup, revW_lst, revW_ref, appW_ref, appTy, extTy, remTy, extW_ref, remW_ref, lrngW_1, lrngW_2, iscW_ref, tru_bl, tru_non, tru_int, tru_str, tru_tup, tru_lst, seqI_lst, seqI_tup, seqI_ref, seqI_str, seqI_ctp, items_lst, items_zK, items_zT, enumI_lst, enumI_tup, enumI_ref, rngI_1, rngI_3, rngI_2, inW_e, notInW_e, inR_int, inR_lst, inR_tup, flat_int, flat_str, flat_non, flat_bl, ixN_1_0, ixN_2_0, ixN_2_1, ixN_3_0, ixN_3_1, ixN_3_2, ixN_4_0, ixN_4_1, ixN_4_2, ixN_4_3, ixN_5_0, ixN_5_1, ixN_5_2, ixN_5_3, ixN_5_4, ixN_6_0, ixN_6_1, ixN_6_2, ixN_6_3, ixN_6_4, ixN_6_5, ixN_7_0, ixN_7_1, ixN_7_2, ixN_7_3, ixN_7_4, ixN_7_5, ixN_7_6, ixN_8_0, ixN_8_1, ixN_8_2, ixN_8_3, ixN_8_4, ixN_8_5, ixN_8_6, ixN_8_7, seqOf_sup, lstOf_sup, cp10_1, cp2_1, cp10_2, cp2_2, cp10_3, cp2_3, cp10_4, cp2_4, cp10_5, cp2_5, cp10_6, cp2_6, cp10_7, cp2_7, cp10_8, cp2_8, cp10_9, cp2_9, cp10_10, cp2_10, cp10_11, cp2_11, cp10_12, cp2_12, cp10_13, cp2_13, cp10_14, cp2_14, cp10_15, cp2_15, cp10_16, cp2_16, cp10_17, cp2_17, cp10_18, cp2_18, cp10_19, cp2_19, cp10_20, cp2_20, cp10_21, cp2_21, cp10_22, cp2_22, cp10_23, cp2_23, cp10_24, cp2_24, cp10_25, cp2_25, cp10_26, cp2_26, cp10_27, cp2_27, cp10_28, cp2_28, cp10_29, cp2_29, cp10_30, cp2_30, cp10_31, cp2_31, cp10_32, cp2_32, cp10_33, cp2_33, cp10_34, cp2_34, cp10_35, cp2_35, cp10_36, cp2_36, cp10_37, cp2_37, cp10_38, cp2_38, cp10_39, cp2_39, cp10_40, cp2_40, lsl_0, lsl_1, lsl_2, lsl_3, lsl_4, lsl_5, lsl_6, lsl_7, lsl_8, lsl_9, lsl_10, lsl_11, lsl_12, lsl_13, lsl_14, lsl_15, lsl_16, lsl_17, lsl_18, lsl_19, lsl_20, isNW_b, notNW_b, three_c, isDic_dK, isDic_dT, isDic_zK, isDic_zT, lk_dK, lk_dT, key_int, key_str, keysOf_nil, augIx_ref, tupleW_ctp, ixW_ctp, tyName_ctp, tru_ctp, inR_ctp, seqOf_ctp, lenW_ctp, isNone_ctp, augW_int, augS_int, one_c, two_c, wGs_c, wGs_n, wT_never, inner_mk, suite_mk, goneD_nx, goneD_rt, acW_d, acW_s, acW_t, wG_tup1,
  startD, wipeD, List.map_cons, List.map_nil, List.length_cons, List.length_nil, List.cons_append, List.nil_append, List.append_nil,
  List.getElem?_cons_zero, List.getElem?_cons_succ, List.set_cons_zero, List.set_cons_succ, Option.some.injEq, exists_eq_left', exists_eq_left, exists_eq_right, exists_eq_right', exists_and_left, Nat.reduceAdd, Nat.reduceSub, Nat.reduceLT, List.replicate, List.replicate_zero, List.replicate_succ, if_true, Bool.false_eq_true, if_false, ite_true, ite_false, D.bl.injEq, D.int.injEq, D.str.injEq, D.tup.injEq, D.lst.injEq, D.ref.injEq,
  Option.isSome_some, Option.isSome_none, B2.w, Cm.w, Bi.w, Bm.w, Xt.w, MO.ins.injEq, MO.dK.injEq, and_assoc, List.mem_cons, true_or, or_true, _root_.eq_self, eqW, neW, List.cons.injEq, and_true, true_and, Bool.not_true, Bool.not_false, Gs.len, Es.len,
  ret_non, ret_bl, ret_int, ret_str, ret_tup, ret_lst, isiAny_nil, isiAny_cons, atI_0, atI_1, atI_2, atI_3, atI_4, lstOf_lst, seqOf_lst, seqOf_tup, sup_same, sup_sup, eq_int, ok_int, ok_non, ok_bl, eq_ni, eq_in, eq_bl, MO.lst.injEq, exists_eq', exists_eq,
  kit_NoneType_int, kit_NoneType_bool, kit_NoneType_str, kit_NoneType_tuple, kit_NoneType_list, kit_NoneType_dict, kit_bool_int, kit_bool_bool, kit_bool_str, kit_bool_tuple, kit_bool_list, kit_bool_dict, kit_int_int, kit_int_bool, kit_int_str, kit_int_tuple, kit_int_list, kit_int_dict,
  kit_str_int, kit_str_bool, kit_str_str, kit_str_tuple, kit_str_list, kit_str_dict, kit_list_int, kit_list_bool, kit_list_str, kit_list_tuple, kit_list_list, kit_list_dict, kit_tuple_int, kit_tuple_bool, kit_tuple_str, kit_tuple_tuple, kit_tuple_list, kit_tuple_dict,
  decide_eq_true_eq, Bool.not_eq_true', decide_eq_false_iff_not, forall_const, implies_true, decide_true, decide_false, reduceCtorEq, Int.cast_ofNat_Int, Int.reducePow, Int.reduceMul, Int.reduceAdd, Int.reduceSub, Int.reduceNeg, Int.reduceToNat, Int.reduceEq, Int.reduceLT, Int.reduceLE, lk_Disk_kept_lying, pf_Disk_kept_lying, pi_Disk_kept_lying, lp_Disk_kept_lying_1, lp_Disk_kept_lying_2, lp_Disk_kept_lying_3, lk_Disk_kept_waiting, pf_Disk_kept_waiting, pi_Disk_kept_waiting, lp_Disk_kept_waiting_2, lp_Disk_kept_waiting_3, lk_Disk_kept_power, pf_Disk_kept_power, pi_Disk_kept_power, lp_Disk_kept_power_3, lk_Disk_kept_reached, pf_Disk_kept_reached, pi_Disk_kept_reached, ln_Disk_blocks_0, ln_Disk_blocks_1, ln_Disk_blocks_2, ln_Disk_blocks_3, ln_Disk_blocks_4, ln_Disk_calm_0, ln_Disk_calm_1, ln_Disk_calm_2, ln_Disk_calm_3, ln_Disk_calm_4, ln_Disk_check_block_0, ln_Disk_check_block_1, ln_Disk_check_block_2, ln_Disk_check_block_3, ln_Disk_check_block_4, ln_Disk_copy_0, ln_Disk_copy_1, ln_Disk_copy_2, ln_Disk_copy_3, ln_Disk_copy_4, ln_Disk_cut_0, ln_Disk_cut_1, ln_Disk_cut_2, ln_Disk_cut_3, ln_Disk_cut_4, ln_Disk_force_0, ln_Disk_force_1, ln_Disk_force_2, ln_Disk_force_3, ln_Disk_force_4, ln_Disk_lying_0, ln_Disk_lying_1, ln_Disk_lying_2, ln_Disk_lying_3, ln_Disk_lying_4, ln_Disk_power_0, ln_Disk_power_1, ln_Disk_power_2, ln_Disk_power_3, ln_Disk_power_4, ln_Disk_reach_0, ln_Disk_reach_1, ln_Disk_reach_2, ln_Disk_reach_3, ln_Disk_reach_4, ln_Disk_reach_one_0, ln_Disk_reach_one_1, ln_Disk_reach_one_2, ln_Disk_reach_one_3, ln_Disk_reach_one_4, ln_Disk_reached_0, ln_Disk_reached_1, ln_Disk_reached_2, ln_Disk_reached_3, ln_Disk_reached_4, ln_Disk_read_0, ln_Disk_read_1, ln_Disk_read_2, ln_Disk_read_3, ln_Disk_read_4, ln_Disk_waiting_0, ln_Disk_waiting_1, ln_Disk_waiting_2, ln_Disk_waiting_3, ln_Disk_waiting_4, ln_Disk_write_0, ln_Disk_write_1, ln_Disk_write_2, ln_Disk_write_3, ln_Disk_write_4, lt_line4, kit_dict_int, kit_dict_bool, kit_dict_str, kit_dict_tuple, kit_dict_list, kit_dict_dict, len_iD, ixW_dS, ixW_lS, setW_dS, setW_lS, lenW_dS, lenW_lS, bk_l, bk_w, bk_p, bk_r, pk_w, pk_p, pk_r, lsl_4])
local macro_rules | `(tactic| walk_at "vs") => `(tactic| try simp only [wE_var, wE_int, wE_str, wE_bl, wE_non, wE_glob, wE_b2, wE_neg, wE_cm, wE_ch, wE_not, wE_and, wE_or, wE_ife, wE_tup, wE_lst, wE_ix, wE_sl, wE_rev, wE_bi, wE_isi, wE_call, wE_bm, wE_comp, wE_call0, wE_fld, wE_mt, wE_mk, wE_dic, wE_dic0, wE_dcomp, wE_lock, wE_xt, wE_tcall, wE_isE, wE_fldE, wB_not, wB_and, wB_or, wB_cm, wB_ch, wB_var, wB_ix, wB_bi, wB_isi, wB_call, wB_bm, wB_call0, wB_xt, wB_isE, wB_fld, wB_mt, wAnd_cons1, wAnd_cons, wOr_cons1, wOr_cons, wBAnd_cons1, wBAnd_cons, wBOr_cons1, wBOr_cons, wEs_nil, wEs_cons, wPr_nil, wPr_cons, wC_nil, wC_cons1, wO_no, wO_yes, wG_name, wG_sub, wI_seq, wI_rng, wI_enum, wI_items, wT_asg, wT_setc, wT_aug, wT_ex, wT_ret, wT_retN, wT_pass, wT_brk, wT_cont, wT_ite, wT_for, wT_whil, wT_fst, wT_faug, wT_saug, wT_par2, wT_par3, wT_del, wT_lock, wT_rais, wT_try1, wT_tryN, wT_ac, wTs_nil, wTs_cons, wH_nil, ixW_live, setW_live, ixW_dK, ixW_zK, setW_dK, inR_live, dget_dK, inR_dK, wH_c0, wH_c1, true_and_of, addW_int, addW_str, addW_tup, addW_ll, addW_lr, addW_rl, addW_rr, subW_int, mulW_int, mulW_tup, mulW_ref, fdivW_int, modW_int, powW_int, ltW_int, leW_int, gtW_int, geW_int, ltW_str, leW_str, gtW_str, geW_str, isNW_n, notNW_n, isNone_non, isNone_bl, isNone_int, isNone_str, isNone_tup, isNone_lst, isNone_ref, isNone_ty, tyName_non, tyName_bl, tyName_int, tyName_str, tyName_tup, tyName_lst, negW_int, intW_int, intW_bl, absW_int, minW_int, maxW_int, lenW_str, lenW_lst, lenW_tup, lenW_ref, len_lst, len_dK, len_dT, tupleW_lst, tupleW_tup, tupleW_ref, listW_lst, listW_tup, listW_ref, ixW_str, ixW_lst, ixW_tup, slW_str, slW_tup, slW_lst, slW_ref, revW_tup, revW_lst, revW_ref, appW_ref, appTy, extTy, remTy, extW_ref, remW_ref, lrngW_1, lrngW_2, iscW_ref, tru_bl, tru_non, tru_int, tru_str, tru_tup, tru_lst, seqI_lst, seqI_tup, seqI_ref, seqI_str, seqI_ctp, items_lst, items_zK, items_zT, enumI_lst, enumI_tup, enumI_ref, rngI_1, rngI_3, rngI_2, inW_e, notInW_e, inR_int, inR_lst, inR_tup, flat_int, flat_str, flat_non, flat_bl, ixN_1_0, ixN_2_0, ixN_2_1, ixN_3_0, ixN_3_1, ixN_3_2, ixN_4_0, ixN_4_1, ixN_4_2, ixN_4_3, ixN_5_0, ixN_5_1, ixN_5_2, ixN_5_3, ixN_5_4, ixN_6_0, ixN_6_1, ixN_6_2, ixN_6_3, ixN_6_4, ixN_6_5, ixN_7_0, ixN_7_1, ixN_7_2, ixN_7_3, ixN_7_4, ixN_7_5, ixN_7_6, ixN_8_0, ixN_8_1, ixN_8_2, ixN_8_3, ixN_8_4, ixN_8_5, ixN_8_6, ixN_8_7, seqOf_sup, lstOf_sup, cp10_1, cp2_1, cp10_2, cp2_2, cp10_3, cp2_3, cp10_4, cp2_4, cp10_5, cp2_5, cp10_6, cp2_6, cp10_7, cp2_7, cp10_8, cp2_8, cp10_9, cp2_9, cp10_10, cp2_10, cp10_11, cp2_11, cp10_12, cp2_12, cp10_13, cp2_13, cp10_14, cp2_14, cp10_15, cp2_15, cp10_16, cp2_16, cp10_17, cp2_17, cp10_18, cp2_18, cp10_19, cp2_19, cp10_20, cp2_20, cp10_21, cp2_21, cp10_22, cp2_22, cp10_23, cp2_23, cp10_24, cp2_24, cp10_25, cp2_25, cp10_26, cp2_26, cp10_27, cp2_27, cp10_28, cp2_28, cp10_29, cp2_29, cp10_30, cp2_30, cp10_31, cp2_31, cp10_32, cp2_32, cp10_33, cp2_33, cp10_34, cp2_34, cp10_35, cp2_35, cp10_36, cp2_36, cp10_37, cp2_37, cp10_38, cp2_38, cp10_39, cp2_39, cp10_40, cp2_40, lsl_0, lsl_1, lsl_2, lsl_3, lsl_4, lsl_5, lsl_6, lsl_7, lsl_8, lsl_9, lsl_10, lsl_11, lsl_12, lsl_13, lsl_14, lsl_15, lsl_16, lsl_17, lsl_18, lsl_19, lsl_20, isNW_b, notNW_b, three_c, isDic_dK, isDic_dT, isDic_zK, isDic_zT, lk_dK, lk_dT, key_int, key_str, keysOf_nil, augIx_ref, tupleW_ctp, ixW_ctp, tyName_ctp, tru_ctp, inR_ctp, seqOf_ctp, lenW_ctp, isNone_ctp, augW_int, augS_int, one_c, two_c, wGs_c, wGs_n, wT_never, inner_mk, suite_mk, goneD_nx, goneD_rt, acW_d, acW_s, acW_t, wG_tup1,
  startD, wipeD, List.map_cons, List.map_nil, List.length_cons, List.length_nil, List.cons_append, List.nil_append, List.append_nil,
  List.getElem?_cons_zero, List.getElem?_cons_succ, List.set_cons_zero, List.set_cons_succ, Option.some.injEq, exists_eq_left', exists_eq_left, exists_eq_right, exists_eq_right', exists_and_left, Nat.reduceAdd, Nat.reduceSub, Nat.reduceLT, List.replicate, List.replicate_zero, List.replicate_succ, if_true, Bool.false_eq_true, if_false, ite_true, ite_false, D.bl.injEq, D.int.injEq, D.str.injEq, D.tup.injEq, D.lst.injEq, D.ref.injEq,
  Option.isSome_some, Option.isSome_none, B2.w, Cm.w, Bi.w, Bm.w, Xt.w, MO.ins.injEq, MO.dK.injEq, and_assoc, List.mem_cons, true_or, or_true, _root_.eq_self, eqW, neW, List.cons.injEq, and_true, true_and, Bool.not_true, Bool.not_false, Gs.len, Es.len,
  ret_non, ret_bl, ret_int, ret_str, ret_tup, ret_lst, isiAny_nil, isiAny_cons, atI_0, atI_1, atI_2, atI_3, atI_4, lstOf_lst, seqOf_lst, seqOf_tup, sup_same, sup_sup, eq_int, ok_int, ok_non, ok_bl, eq_ni, eq_in, eq_bl, MO.lst.injEq, exists_eq', exists_eq,
  kit_NoneType_int, kit_NoneType_bool, kit_NoneType_str, kit_NoneType_tuple, kit_NoneType_list, kit_NoneType_dict, kit_bool_int, kit_bool_bool, kit_bool_str, kit_bool_tuple, kit_bool_list, kit_bool_dict, kit_int_int, kit_int_bool, kit_int_str, kit_int_tuple, kit_int_list, kit_int_dict,
  kit_str_int, kit_str_bool, kit_str_str, kit_str_tuple, kit_str_list, kit_str_dict, kit_list_int, kit_list_bool, kit_list_str, kit_list_tuple, kit_list_list, kit_list_dict, kit_tuple_int, kit_tuple_bool, kit_tuple_str, kit_tuple_tuple, kit_tuple_list, kit_tuple_dict,
  decide_eq_true_eq, Bool.not_eq_true', decide_eq_false_iff_not, forall_const, implies_true, decide_true, decide_false, reduceCtorEq, Int.cast_ofNat_Int, Int.reducePow, Int.reduceMul, Int.reduceAdd, Int.reduceSub, Int.reduceNeg, Int.reduceToNat, Int.reduceEq, Int.reduceLT, Int.reduceLE, lk_Disk_kept_lying, pf_Disk_kept_lying, pi_Disk_kept_lying, lp_Disk_kept_lying_1, lp_Disk_kept_lying_2, lp_Disk_kept_lying_3, lk_Disk_kept_waiting, pf_Disk_kept_waiting, pi_Disk_kept_waiting, lp_Disk_kept_waiting_2, lp_Disk_kept_waiting_3, lk_Disk_kept_power, pf_Disk_kept_power, pi_Disk_kept_power, lp_Disk_kept_power_3, lk_Disk_kept_reached, pf_Disk_kept_reached, pi_Disk_kept_reached, ln_Disk_blocks_0, ln_Disk_blocks_1, ln_Disk_blocks_2, ln_Disk_blocks_3, ln_Disk_blocks_4, ln_Disk_calm_0, ln_Disk_calm_1, ln_Disk_calm_2, ln_Disk_calm_3, ln_Disk_calm_4, ln_Disk_check_block_0, ln_Disk_check_block_1, ln_Disk_check_block_2, ln_Disk_check_block_3, ln_Disk_check_block_4, ln_Disk_copy_0, ln_Disk_copy_1, ln_Disk_copy_2, ln_Disk_copy_3, ln_Disk_copy_4, ln_Disk_cut_0, ln_Disk_cut_1, ln_Disk_cut_2, ln_Disk_cut_3, ln_Disk_cut_4, ln_Disk_force_0, ln_Disk_force_1, ln_Disk_force_2, ln_Disk_force_3, ln_Disk_force_4, ln_Disk_lying_0, ln_Disk_lying_1, ln_Disk_lying_2, ln_Disk_lying_3, ln_Disk_lying_4, ln_Disk_power_0, ln_Disk_power_1, ln_Disk_power_2, ln_Disk_power_3, ln_Disk_power_4, ln_Disk_reach_0, ln_Disk_reach_1, ln_Disk_reach_2, ln_Disk_reach_3, ln_Disk_reach_4, ln_Disk_reach_one_0, ln_Disk_reach_one_1, ln_Disk_reach_one_2, ln_Disk_reach_one_3, ln_Disk_reach_one_4, ln_Disk_reached_0, ln_Disk_reached_1, ln_Disk_reached_2, ln_Disk_reached_3, ln_Disk_reached_4, ln_Disk_read_0, ln_Disk_read_1, ln_Disk_read_2, ln_Disk_read_3, ln_Disk_read_4, ln_Disk_waiting_0, ln_Disk_waiting_1, ln_Disk_waiting_2, ln_Disk_waiting_3, ln_Disk_waiting_4, ln_Disk_write_0, ln_Disk_write_1, ln_Disk_write_2, ln_Disk_write_3, ln_Disk_write_4, lt_line4, kit_dict_int, kit_dict_bool, kit_dict_str, kit_dict_tuple, kit_dict_list, kit_dict_dict, len_iD, ixW_dS, ixW_lS, setW_dS, setW_lS, lenW_dS, lenW_lS, bk_l, bk_w, bk_p, bk_r, pk_w, pk_p, pk_r, lsl_4, sup_ne, sup_3, ne_eq, not_false_eq_true, *])
structure Pr where
  a : Addr
  l : Addr
  w : Addr
  b : Addr
  l' : Addr
  w' : Addr
  m : DM
def Pr.fp (p : Pr) : List Addr := [p.a, p.l, p.w, p.b, p.l', p.w']
def Pr.D (p : Pr) : Dz.D := .tup [.ref p.a, .ref p.b]
def Disj (p q : Pr) : Prop := ∀ x ∈ p.fp, x ∉ q.fp
theorem Disj.symm {p q : Pr} (h : Disj p q) : Disj q p := fun x hx hy => h x hy hx
structure POk (A : Ad) (S : Hs) (h L : Addr) (ns : List Int) (B n : Nat) (p : Pr) : Prop where
  d : DiskAt A S p.a p.l p.w p.m
  k : BookAt S p.b p.l' p.w' p.m
  dis : ∀ x ∈ [p.a, p.l, p.w], x ∉ [p.b, p.l', p.w']
  hh : h ∉ p.fp
  hL : L ∉ p.fp
  g : Good ns B p.m
  n : p.m.lying.length = n
theorem POk.ex {S : Hs} {h L : Addr} {ns : List Int} {B n : Nat} {p : Pr} (k : POk A S h L ns B n p) : ∀ x ∈ p.fp, ∃ o, S x = some o := fun x hx => by
  simp only [Pr.fp, List.mem_cons, List.not_mem_nil, or_false] at hx
  rcases hx with rfl | rfl | rfl | rfl | rfl | rfl
  · exact ⟨_, k.d.1⟩
  · exact ⟨_, k.d.2.1⟩
  · exact ⟨_, k.d.2.2⟩
  · exact ⟨_, k.k.1⟩
  · exact ⟨_, k.k.2.1⟩
  · exact ⟨_, k.k.2.2.1⟩
theorem POk.keep {S S' : Hs} {h L : Addr} {ns : List Int} {B B' n : Nat} {p : Pr} (k : POk A S h L ns B n p) (e : ∀ x o, x ∈ p.fp → S x = some o → S' x = some o) (hB : B ≤ B') : POk A S' h L ns B' n p :=
  ⟨⟨e _ _ (by simp [Pr.fp]) k.d.1, e _ _ (by simp [Pr.fp]) k.d.2.1, e _ _ (by simp [Pr.fp]) k.d.2.2⟩, ⟨e _ _ (by simp [Pr.fp]) k.k.1, e _ _ (by simp [Pr.fp]) k.k.2.1, e _ _ (by simp [Pr.fp]) k.k.2.2.1, k.k.2.2.2⟩, k.dis, k.hh, k.hL, good_mono k.g hB, k.n⟩
structure Ste (A : Ad) (S : Hs) (h L : Addr) (ns : List Int) (B n : Nat) (c : Pr) (ps : List Pr) : Prop where
  cu : POk A S h L ns B n c
  al : ∀ p ∈ ps, POk A S h L ns B n p
  dj : (c :: ps).Pairwise Disj
  o : ∃ o, S h = some o ∧ HandO o
  li : S L = some (.lst (ps.map Pr.D))
  tb : TB A S
theorem Ste.two {S : Hs} {h L : Addr} {ns : List Int} {B n : Nat} {c : Pr} {ps : List Pr} (s : Ste A S h L ns B n c ps) : Two A S h c.a c.l c.w c.b c.l' c.w' c.m := by
  refine ⟨s.cu.d, s.cu.k, s.cu.dis, ?_, s.o, s.tb⟩
  have := s.cu.hh
  simp only [Pr.fp, List.mem_cons, List.not_mem_nil, or_false, not_or] at this ⊢
  exact ⟨⟨this.1, this.2.1, this.2.2.1⟩, this.2.2.2⟩
theorem Ste.nhL {S : Hs} {h L : Addr} {ns : List Int} {B n : Nat} {c : Pr} {ps : List Pr} (s : Ste A S h L ns B n c ps) : h ≠ L := by
  obtain ⟨o, ho, cs, x, y, z, u, rfl, _⟩ := s.o
  refine ne_kind ho s.li fun e => ?_
  injection e with e
  cases ps with
  | nil => cases e
  | cons p r => rw [List.map_cons] at e; injection e with e1 _; cases e1
theorem Ste.hand {S : Hs} {h L : Addr} {ns : List Int} {B n : Nat} {c : Pr} {ps : List Pr} {o : MO} (s : Ste A S h L ns B n c ps) (ho : HandO o) : Ste A (sup S h o) h L ns B n c ps := by
  have e : ∀ p, POk A S h L ns B n p → ∀ x u, x ∈ p.fp → S x = some u → sup S h o x = some u := fun p k x u hx hu => (sup_ne (fun z => k.hh (by rw [z] at hx; exact hx))).trans hu
  exact ⟨s.cu.keep (e _ s.cu) (Nat.le_refl _), fun p hp => (s.al p hp).keep (e _ (s.al p hp)) (Nat.le_refl _), s.dj, ⟨o, sup_same, ho⟩, (sup_ne (Ne.symm s.nhL)).trans s.li, (sup_ne s.two.t3).trans s.tb⟩
/-- behind a deed -/
theorem Ste.deed {S S' : Hs} {h L w2 w3 : Addr} {ns : List Int} {B n : Nat} {c : Pr} {ps : List Pr} {m' : DM} (s : Ste A S h L ns B n c ps) (t : Two A S' h c.a c.l w2 c.b c.l' w3 m') (hg : Good ns (B + 1) m') (hn : m'.lying.length = c.m.lying.length) (e2 : w2 ∈ fpA h c.a c.l c.w c.b c.l' c.w' ∨ S w2 = none) (e3 : w3 ∈ fpA h c.a c.l c.w c.b c.l' c.w' ∨ S w3 = none) (ag : Agr (fpA h c.a c.l c.w c.b c.l' c.w') S S') :
    Ste A S' h L ns (B + 1) n ⟨c.a, c.l, w2, c.b, c.l', w3, m'⟩ ps := by
  have hfp : ∀ x, x ∈ fpA h c.a c.l c.w c.b c.l' c.w' ↔ x = h ∨ x ∈ c.fp := fun x => by simp [fpA, Pr.fp]
  have nL : L ∉ fpA h c.a c.l c.w c.b c.l' c.w' := fun z => by
    rcases (hfp L).mp z with z | z
    · exact s.nhL z.symm
    · exact s.cu.hL z
  have dc : ∀ p ∈ ps, Disj c p := (List.pairwise_cons.mp s.dj).1
  have np : ∀ p ∈ ps, ∀ x ∈ p.fp, x ∉ fpA h c.a c.l c.w c.b c.l' c.w' := fun p hp x hx z => by
    rcases (hfp x).mp z with z | z
    · exact (s.al p hp).hh (z ▸ hx)
    · exact dc p hp x z hx
  -- what is new of the pair in hand
  have new : ∀ x ∈ (⟨c.a, c.l, w2, c.b, c.l', w3, m'⟩ : Pr).fp, x ∈ fpA h c.a c.l c.w c.b c.l' c.w' ∨ S x = none := fun x hx => by
    simp only [Pr.fp, List.mem_cons, List.not_mem_nil, or_false] at hx
    rcases hx with rfl | rfl | rfl | rfl | rfl | rfl
    · exact .inl (by simp [fpA])
    · exact .inl (by simp [fpA])
    · exact e2
    · exact .inl (by simp [fpA])
    · exact .inl (by simp [fpA])
    · exact e3
  have th := t.hh
  simp only [List.mem_cons, List.not_mem_nil, or_false, not_or] at th
  refine ⟨⟨t.d, t.k, t.dis, ?_, fun z => ?_, hg, hn.trans s.cu.n⟩, fun p hp => (s.al p hp).keep (fun x o hx ho => ag x o ho (np p hp x hx)) (Nat.le_succ B), List.pairwise_cons.mpr ⟨fun p hp x hx hy => ?_, (List.pairwise_cons.mp s.dj).2⟩, t.o, ag _ _ s.li nL, t.tb⟩
  · simp only [Pr.fp, List.mem_cons, List.not_mem_nil, or_false, not_or]
    exact ⟨th.1.1, th.1.2.1, th.1.2.2, th.2.1, th.2.2.1, th.2.2.2⟩
  · rcases new L z with z | z
    · exact nL z
    · rw [s.li] at z; cases z
  · rcases new x hx with z | z
    · exact np p hp x hy z
    · obtain ⟨o, ho⟩ := (s.al p hp).ex x hy
      rw [z] at ho; cases ho
/-- a copy is put aside -/
theorem Ste.add {S S' : Hs} {h L a2 l2 w2 b2 l3 w3 : Addr} {ns : List Int} {B n : Nat} {c : Pr} {ps : List Pr} (s : Ste A S h L ns B n c ps) (e : ∀ x ∈ [a2, l2, w2, b2, l3, w3], S x = none) (hd : DiskAt A S' a2 l2 w2 (copyM c.m)) (hb : BookAt S' b2 l3 w3 (copyM c.m)) (dis : ∀ x ∈ [a2, l2, w2], x ∉ [b2, l3, w3]) (ag : Agr [] S S') :
    Ste A (sup S' L (.lst ((ps ++ [(⟨a2, l2, w2, b2, l3, w3, copyM c.m⟩ : Pr)]).map Pr.D))) h L ns B n c (ps ++ [(⟨a2, l2, w2, b2, l3, w3, copyM c.m⟩ : Pr)]) := by
  have nL : ∀ x ∈ [a2, l2, w2, b2, l3, w3], x ≠ L := fun x hx z => by
    have := e x hx
    rw [z, s.li] at this; cases this
  obtain ⟨o, ho, hho⟩ := s.o
  have nh : ∀ x ∈ [a2, l2, w2, b2, l3, w3], x ≠ h := fun x hx z => by
    have := e x hx
    rw [z, ho] at this; cases this
  have kp : ∀ p, POk A S h L ns B n p → POk A (sup S' L (.lst ((ps ++ [(⟨a2, l2, w2, b2, l3, w3, copyM c.m⟩ : Pr)]).map Pr.D))) h L ns B n p := fun p k => k.keep (fun x u hx hu => (sup_ne (fun z => k.hL (by rw [z] at hx; exact hx))).trans (ag x u hu (by simp))) (Nat.le_refl _)
  have pn : ∀ p, POk A S h L ns B n p → Disj p ⟨a2, l2, w2, b2, l3, w3, copyM c.m⟩ := fun p k x hx hy => by
    obtain ⟨u, hu⟩ := k.ex x hx
    rw [e x hy] at hu; cases hu
  have et : ∀ x u, x ∈ [a2, l2, w2, b2, l3, w3] → S' x = some u → sup S' L (.lst ((ps ++ [(⟨a2, l2, w2, b2, l3, w3, copyM c.m⟩ : Pr)]).map Pr.D)) x = some u := fun x u hx hu => (sup_ne (nL x hx)).trans hu
  have newp : POk A (sup S' L (.lst ((ps ++ [(⟨a2, l2, w2, b2, l3, w3, copyM c.m⟩ : Pr)]).map Pr.D))) h L ns B n ⟨a2, l2, w2, b2, l3, w3, copyM c.m⟩ :=
    ⟨⟨et _ _ (by simp) hd.1, et _ _ (by simp) hd.2.1, et _ _ (by simp) hd.2.2⟩, ⟨et _ _ (by simp) hb.1, et _ _ (by simp) hb.2.1, et _ _ (by simp) hb.2.2.1, hb.2.2.2⟩, dis, fun z => nh h z rfl, fun z => nL L z rfl, good_copy s.cu.g, s.cu.n⟩
  refine ⟨kp _ s.cu, fun p hp => ?_, ?_, ⟨o, (sup_ne s.nhL).trans (ag _ _ ho (by simp)), hho⟩, sup_same, ?_⟩
  · rcases List.mem_append.mp hp with hp | hp
    · exact kp p (s.al p hp)
    · rw [List.mem_singleton.mp hp]; exact newp
  · rw [← List.cons_append, List.pairwise_append]
    refine ⟨s.dj, List.pairwise_singleton .., fun p hp q hq => ?_⟩
    rw [List.mem_singleton.mp hq]
    rcases List.mem_cons.mp hp with rfl | hp
    · exact pn _ s.cu
    · exact pn _ (s.al p hp)
  · refine (sup_ne ?_).trans (ag _ _ s.tb (by simp))
    exact ne_kind s.tb s.li (by simp)
/-- the last one is taken, the pair in hand put there -/
theorem Ste.swap {S : Hs} {h L : Addr} {ns : List Int} {B n : Nat} {c p : Pr} {ps : List Pr} (s : Ste A S h L ns B n c (ps ++ [p])) : Ste A (sup S L (.lst ((ps ++ [c]).map Pr.D))) h L ns B n p (ps ++ [c]) := by
  have kp : ∀ q, POk A S h L ns B n q → POk A (sup S L (.lst ((ps ++ [c]).map Pr.D))) h L ns B n q := fun q k => k.keep (fun x u hx hu => (sup_ne (fun z => k.hL (by rw [z] at hx; exact hx))).trans hu) (Nat.le_refl _)
  obtain ⟨o, ho, hho⟩ := s.o
  obtain ⟨d1, d2⟩ := List.pairwise_cons.mp s.dj
  obtain ⟨d3, _, d4⟩ := List.pairwise_append.mp d2
  refine ⟨kp _ (s.al p (by simp)), fun q hq => ?_, List.pairwise_cons.mpr ⟨fun q hq => ?_, List.pairwise_append.mpr ⟨d3, List.pairwise_singleton .., fun q hq r hr => ?_⟩⟩, ⟨o, (sup_ne s.nhL).trans ho, hho⟩, sup_same, (sup_ne (ne_kind s.tb s.li (by simp))).trans s.tb⟩
  · rcases List.mem_append.mp hq with hq | hq
    · exact kp q (s.al q (by simp [hq]))
    · rw [List.mem_singleton.mp hq]; exact kp _ s.cu
  · rcases List.mem_append.mp hq with hq | hq
    · exact (d4 q hq p (by simp)).symm
    · rw [List.mem_singleton.mp hq]; exact (d1 p (by simp)).symm
  · rw [List.mem_singleton.mp hr]
    exact (d1 q (by simp [hq])).symm
theorem good_new {ns : List Int} {n : Nat} (h : ∀ i ∈ ns, 0 ≤ i ∧ i < n) (hf : ns.length ≤ 400) (hn : n ≤ 600) : Good ns 0 (newM n) := ⟨by simp [newM], by simp [newM], fun c hc => ⟨[], (by simp [newM] at hc; exact hc.2), by simp, by simp⟩, fun i hi => by have := h i hi; simp [newM]; omega, hf, by simp [newM]; omega, by simp [newM]⟩
theorem rng_iD (n : Nat) : rngD 0 ((n : Int)).toNat = iD ((List.range n).map fun i : Nat => (i : Int)) := by
  unfold rngD iD
  rw [List.map_map, Int.toNat_natCast]
  exact List.map_congr_left fun i _ => by simp
theorem in_rng {n : Nat} : ∀ x ∈ ((List.range n).map fun i : Nat => (i : Int)), 0 ≤ x ∧ x < n := fun x hx => by
  obtain ⟨i, hi, rfl⟩ := List.mem_map.mp hx
  have := List.mem_range.mp hi
  exact ⟨by omega, by omega⟩
theorem atI_last {xs : List D} {x : D} : atI (xs ++ [x]) (-1) = some x := by
  have e : ixN (xs ++ [x]).length (-1) = some xs.length := by
    unfold ixN
    rw [List.length_append, List.length_singleton, if_neg (by decide), if_pos (by omega)]
    congr 1
    omega
  unfold atI
  rw [e]
  simp
theorem ixN_last {n : Nat} : ixN (n + 1) (-1) = some n := by
  unfold ixN
  rw [if_neg (by decide), if_pos (by omega)]
  congr 1
  omega
def LI (A : Ad) (sc : D) (h L : Addr) (ns : List Int) (n : Nat) (i : Nat) (ρ : Ro) (S : Hs) : Prop := ∃ c ps x5 x8 x9, ρ = [some sc, some (.ref h), some (.int (n : Nat)), some (.lst (iD ns)), some (.ref L), x5, some (.ref c.a), some (.ref c.b), x8, x9] ∧ Ste A S h L ns i n c ps ∧ ps.length ≤ i
theorem t_r0 {sc : D} {h L : Addr} {ns : List Int} {n i : Nat} (hn : 16 ≤ n ∧ n ≤ 600) {Z : DE} (hz : ∀ ρ S, LI A sc h L ns n (i + 1) ρ S → Z.nx ρ S) : ∀ ρ S, (∃ c ps x5 x8 x9, ρ = [some sc, some (.ref h), some (.int (n : Nat)), some (.lst (iD ns)), some (.ref L), x5, some (.ref c.a), some (.ref c.b), x8, x9] ∧ Ste A S h L ns (i + 1) n c ps ∧ ps.length ≤ i) → i < 50 → wTs { fns := [("_law_hand", sp_law_hand), ("_law_draw", sp_law_draw), ("_law_book", sp_law_book), ("_law_shows", sp_law_shows A), ("_law_deed", sp_law_deed A), ("_law_copied", sp_law_copied A)], cons := [], nob := n_law.nob, mks := [⟨"Disk", A.Disk, sp_Disk___init__ A⟩] } b_law_r0 Z ρ S := by
  rintro ρ S ⟨c, ps, x5, x8, x9, rfl, s, hl⟩ hi
  unfold b_law_r0
  obtain ⟨o, ho, hho⟩ := s.o
  walk_at "vc"
  refine ⟨h, 8, o, rfl, ho, hho, by decide, by decide, fun k o1 k0 k1 ho1 => ?_⟩
  have s1 := s.hand ho1
  generalize sup S h o1 = S1 at *
  clear s ho hho ho1
  walk_at "vc"
  split
  · refine ⟨⟨_, lstOf_at s1.li⟩, _, c.a, c.l, c.w, c.b, c.l', c.w', c.m, rfl, s1.cu.d, s1.cu.k, by rw [s1.cu.n]; exact hn.1, by rw [s1.cu.n]; exact hn.2, fun S2 a2 l2 w2 b2 l3 w3 e1 e2 e3 e4 e5 e6 hd hb dis ag => ?_⟩
    have s2 := s1.add (a2 := a2) (l2 := l2) (w2 := w2) (b2 := b2) (l3 := l3) (w3 := w3) (by simp only [List.mem_cons, List.not_mem_nil, or_false, forall_eq_or_imp, forall_eq]; exact ⟨e1, e2, e3, e4, e5, e6⟩) hd hb dis ag
    refine ⟨_, ag _ _ s1.li (by simp), by rw [List.length_map]; unfold sizeLine; omega, ?_⟩
    rw [show ps.map Pr.D ++ [D.tup [.ref a2, .ref b2]] = (ps ++ [(⟨a2, l2, w2, b2, l3, w3, copyM c.m⟩ : Pr)]).map Pr.D by rw [List.map_append]; rfl]
    generalize sup S2 L _ = S3 at *
    clear s1 e1 e2 e3 e4 e5 e6 hd hb ag
    obtain ⟨o, ho, hho⟩ := s2.o
    refine ⟨h, 2, o, rfl, ho, hho, by decide, by decide, fun k o1 k0 k1 ho1 => ?_⟩
    have s3 := s2.hand ho1
    generalize sup S3 h o1 = S4 at *
    clear s2 ho hho ho1
    walk_at "vc"
    split
    · have hlen : (ps ++ [(⟨a2, l2, w2, b2, l3, w3, copyM c.m⟩ : Pr)]).length = ps.length + 1 := by simp
      have li := s3.li
      have e1 : atI ((ps ++ [(⟨a2, l2, w2, b2, l3, w3, copyM c.m⟩ : Pr)]).map Pr.D) (-1) = some (.tup [.ref a2, .ref b2]) := by
        rw [List.map_append]
        exact atI_last
      have e2 : ixN ((ps ++ [(⟨a2, l2, w2, b2, l3, w3, copyM c.m⟩ : Pr)]).map Pr.D).length (-1) = some ps.length := by
        rw [List.length_map, hlen]
        exact ixN_last
      refine .inl ⟨_, -1, _, li, rfl, e1, ?_⟩
      walk_at "vc"
      refine .inl ⟨_, -1, ps.length, li, rfl, e2, ?_⟩
      rw [show ((ps ++ [(⟨a2, l2, w2, b2, l3, w3, copyM c.m⟩ : Pr)]).map Pr.D).set ps.length (.tup [.ref c.a, .ref c.b]) = (ps ++ [c]).map Pr.D by
        rw [List.map_append, List.map_append, List.set_append_right _ _ (by simp)]
        simp [Pr.D]]
      exact hz _ _ ⟨⟨a2, l2, w2, b2, l3, w3, copyM c.m⟩, _, _, _, _, rfl, s3.swap, by simp; omega⟩
    · exact hz _ _ ⟨c, _, _, _, _, rfl, s3, by simp; omega⟩
  · exact hz _ _ ⟨c, ps, _, _, _, rfl, s1, by omega⟩
theorem t_f1 {sc : D} {h L : Addr} {ns : List Int} {n i : Nat} (hne : ns ≠ []) (hnl : ns.length ≤ 60) (hn : 16 ≤ n ∧ n ≤ 600) (hi : i < 50) {Z : DE} (hz : ∀ ρ S, LI A sc h L ns n (i + 1) ρ S → Z.nx ρ S) : ∀ ρ S, LI A sc h L ns n i ρ S → wTs { fns := [("_law_hand", sp_law_hand), ("_law_draw", sp_law_draw), ("_law_book", sp_law_book), ("_law_shows", sp_law_shows A), ("_law_deed", sp_law_deed A), ("_law_copied", sp_law_copied A)], cons := [], nob := n_law.nob, mks := [⟨"Disk", A.Disk, sp_Disk___init__ A⟩] } b_law_f1 Z ρ S := by
  rintro ρ S ⟨c, ps, x5, x8, x9, rfl, s, hl⟩
  have r0 := t_r0 (A := A) (sc := sc) (h := h) (L := L) (ns := ns) (i := i) hn hz
  unfold b_law_f1
  walk_at "vc"
  refine ⟨h, c.a, c.l, c.w, c.b, c.l', c.w', c.m, ns, ns, i, rfl, s.two, s.cu.g, by omega, hne, hnl, fun i hi => hi, fun S' w2 w3 m' t hg hn' e2 e3 ag => ?_⟩
  have s2 := s.deed t hg hn' e2 e3 ag
  walk_at "vc"
  refine ⟨c.a, c.l, w2, c.b, c.l', w3, m', _, ns, ns, i + 1, rfl, rfl, t.d, t.k, hg, fun j hj => hg.blk j hj, ?_⟩
  walk_at "vc"
  exact r0 _ _ ⟨⟨c.a, c.l, w2, c.b, c.l', w3, m'⟩, ps, _, _, _, rfl, s2, hl⟩ hi
def b_law_rest : Ts := match b_law with
  | .cons _ (.cons _ r) => r
  | _ => .nil
theorem b_law_eq : b_law = .cons (.asg (.name 1) (.call 0 (.cons (.var 0) .nil))) (.cons (.asg (.name 2) (.ife (.cm .eq (.call 1 (.cons (.var 1) (.cons (.int 20) .nil))) (.int 0)) (.int 600) (.b2 .add (.int 16) (.call 1 (.cons (.var 1) (.cons (.int 25) .nil)))))) b_law_rest) := rfl
theorem two_new {S1 S2 S3 : Hs} {h y l w b l' w' : Addr} {m : DM} {o : MO} (h1 : S1 y = none) (h2 : S1 h = some o) (ho : HandO o) (tb : TB A S1) (e1 : sup S1 y (.ins A.Disk []) l = none) (e2 : sup S1 y (.ins A.Disk []) w = none) (hd : DiskAt A S2 y l w m) (ag : Agr [y] (sup S1 y (.ins A.Disk [])) S2)
    (e3 : S2 b = none) (e4 : S2 l' = none) (e5 : S2 w' = none) (hb : BookAt S3 b l' w' m) (ag2 : Agr [] S2 S3) : Two A S3 h y l w b l' w' m := by
  have n1 := sne h2 h1
  obtain ⟨p1, p2⟩ := none_sup e1
  obtain ⟨p3, p4⟩ := none_sup e2
  have hS2 : S2 h = some o := ag _ _ ((sup_ne n1).trans h2) (by simp [n1])
  have n2 := sne tb h1
  have tS2 : TB A S2 := ag _ _ ((sup_ne n2).trans tb) (by simp [n2])
  refine ⟨⟨ag2 _ _ hd.1 (by simp), ag2 _ _ hd.2.1 (by simp), ag2 _ _ hd.2.2 (by simp)⟩, hb, fun x hx => ?_, ⟨?_, ?_⟩, ⟨o, ag2 _ _ hS2 (by simp), ho⟩, ag2 _ _ tS2 (by simp)⟩
  · have hx2 : ∃ u, S2 x = some u := by
      simp only [List.mem_cons, List.not_mem_nil, or_false] at hx
      rcases hx with rfl | rfl | rfl
      · exact ⟨_, hd.1⟩
      · exact ⟨_, hd.2.1⟩
      · exact ⟨_, hd.2.2⟩
    obtain ⟨u, hu⟩ := hx2
    simp only [List.mem_cons, List.not_mem_nil, or_false, not_or]
    exact ⟨sne hu e3, sne hu e4, sne hu e5⟩
  · simp only [List.mem_cons, List.not_mem_nil, or_false, not_or]
    exact ⟨n1, sne h2 p2, sne h2 p4⟩
  · simp only [List.mem_cons, List.not_mem_nil, or_false, not_or]
    exact ⟨sne hS2 e3, sne hS2 e4, sne hS2 e5⟩
theorem t_end {sc : D} {h L : Addr} {ns : List Int} {n i : Nat} (hi : i < 50) {Q : QD} {Y : XQ} (q : ∀ S', Q (.bl true) S') : ∀ ρ S, LI A sc h L ns n i ρ S → wTs { fns := [("_law_hand", sp_law_hand), ("_law_draw", sp_law_draw), ("_law_book", sp_law_book), ("_law_shows", sp_law_shows A), ("_law_deed", sp_law_deed A), ("_law_copied", sp_law_copied A)], cons := [], nob := n_law.nob, mks := [⟨"Disk", A.Disk, sp_Disk___init__ A⟩] } b_law_r3 { nx := fun _ S' => Q .non S', rt := Q, ex := fun x _ S' => Y x S' } ρ S := by
  rintro ρ S ⟨c, ps, x5, x8, x9, rfl, s, hl⟩
  unfold b_law_r3
  have fin : wTs { fns := [("_law_hand", sp_law_hand), ("_law_draw", sp_law_draw), ("_law_book", sp_law_book), ("_law_shows", sp_law_shows A), ("_law_deed", sp_law_deed A), ("_law_copied", sp_law_copied A)], cons := [], nob := n_law.nob, mks := [⟨"Disk", A.Disk, sp_Disk___init__ A⟩] } b_law_r2 { nx := fun _ S' => Q .non S', rt := Q, ex := fun x _ S' => Y x S' } [some sc, some (.ref h), some (.int (n : Nat)), some (.lst (iD ns)), some (.ref L), x5, some (.ref c.a), some (.ref c.b), x8, x9] S := by
    unfold b_law_r2
    walk_at "vc"
    refine ⟨by unfold RgOk; have := s.cu.g.len; rw [s.cu.n] at this; omega, newL_f ?_⟩
    refine ⟨c.a, c.l, c.w, c.b, c.l', c.w', c.m, _, _, ns, i, rfl, congrArg D.lst (rng_iD n), s.cu.d, s.cu.k, s.cu.g, by rw [s.cu.n]; exact in_rng, ?_⟩
    exact ret_any (q S)
  walk_at "vc"
  refine ⟨_, s.li, _, rfl, ?_⟩
  refine compK (fun p : Pr => some (.bl true)) (by unfold sizeLine; omega) (fun S2 h => h _ _ s.li) ?_ ?_
  · intro j p S2 K K' hx ext hy hn
    have k := (s.al p (mem_of hx)).keep (S' := S2) (fun x o _ h => ext x o h) (Nat.le_refl _)
    unfold Pr.D
    walk_at "vc"
    refine ⟨by unfold RgOk; have := k.g.len; rw [k.n] at this; omega, newL_f ?_⟩
    exact ⟨p.a, p.l, p.w, p.b, p.l', p.w', p.m, _, _, ns, i, rfl, congrArg D.lst (rng_iD n), k.d, k.k, k.g, by rw [k.n]; exact in_rng, hy _ rfl⟩
  · rw [filterMap_all]
    refine ⟨ps.map fun _ => true, by rw [List.map_map]; rfl, ?_⟩
    rw [show (ps.map fun _ => true).all id = true by rw [List.all_map]; simp]
    walk_at "vc"
    exact fin
theorem t_rest {sc : List Int} {h : Addr} {n : Nat} {S1 : Hs} {o : MO} {Q : QD} {Y : XQ} (hn : 16 ≤ n ∧ n ≤ 600) (eh : S1 h = some o) (ho : HandO o) (tb : TB A S1) (q : ∀ S', Q (.bl true) S') : wTs { fns := [("_law_hand", sp_law_hand), ("_law_draw", sp_law_draw), ("_law_book", sp_law_book), ("_law_shows", sp_law_shows A), ("_law_deed", sp_law_deed A), ("_law_copied", sp_law_copied A)], cons := [], nob := n_law.nob, mks := [⟨"Disk", A.Disk, sp_Disk___init__ A⟩] } b_law_rest { nx := fun _ S' => Q .non S', rt := Q, ex := fun x _ S' => Y x S' } [some (.lst (iD sc)), some (.ref h), some (.int (n : Nat)), none, none, none, none, none, none, none] S1 := by
  unfold b_law_rest b_law
  walk_at "vc"
  intro a ha
  refine ⟨a, n, rfl, sup_same, hn.1, hn.2, fun S2 l w e1 e2 hd ag => ⟨rfl, ?_⟩⟩
  refine ⟨n, rfl, hn.2, fun S3 b l' w' e3 e4 e5 hb ag3 => ?_⟩
  have t := two_new ha eh ho tb e1 e2 hd ag e3 e4 e5 hb ag3
  clear e1 e2 e3 e4 e5 hd hb ag ag3 ha eh tb
  walk_at "vc"
  refine newL_f ?_
  unfold rngD
  refine compJ (fun i acc S4 => (∃ o, S4 h = some o ∧ HandO o) ∧ Agr [h] S3 S4 ∧ ∃ js : List Int, acc = iD js ∧ js.length ≤ i ∧ ∀ j ∈ js, 0 ≤ j ∧ j < n) (by simp [sizeLine]) ⟨t.o, Agr.refl, [], rfl, by decide, by simp⟩ ?_ (fun _ _ _ _ => trivial) ?_ ?_
  · rintro i acc S4 L u hL ⟨⟨o, i1, i2⟩, i3, i4⟩
    obtain ⟨o2, g1, _⟩ := t.o
    have d1 := sne g1 hL
    exact ⟨⟨o, (sup_ne d1).trans i1, i2⟩, Agr.sup i3 (.inr hL), i4⟩
  · rintro i x acc S4 L K K' hL hx hacc ⟨⟨o, i1, i2⟩, i3, js, rfl, i4, i5⟩ h6 hy hn'
    obtain ⟨o2, g1, _⟩ := t.o
    have d1 := sne g1 hL
    walk_at "vc"
    refine ⟨h, n, o, rfl, i1, i2, by omega, by omega, fun k o2 k0 k1 ho2 => ?_⟩
    refine hy _ _ ((sup_ne (Ne.symm d1)).trans h6) ⟨⟨o2, sup_same, ho2⟩, Agr.sup i3 (.inl (by simp)), js ++ [k], by simp [iD], by simp; omega, fun x hx => ?_⟩
    rcases List.mem_append.mp hx with hx | hx
    · exact i5 x hx
    · rw [List.mem_singleton.mp hx]; exact ⟨k0, k1⟩
  · rintro acc S4 L0 hL0 h6 hacc ⟨⟨o, i1, i2⟩, i3, js, rfl, i4, i5⟩
    refine .inl ?_
    obtain ⟨o2, g1, _⟩ := t.o
    have d1 := sne g1 hL0
    have j1 : sdel S4 L0 h = some o := (sdel_ne d1).trans i1
    have j3 : Agr [h] S3 (sdel S4 L0) := fun x u hx hn => (sdel_ne (sne hx hL0)).trans (i3 x u hx hn)
    generalize sdel S4 L0 = S5 at j1 j3
    have t2 := t.hand j1 i2 j3
    rw [List.length_range] at i4
    have i4 : js.length ≤ 5 := i4
    clear j1 j3 i1 i2 i3 d1 g1 hL0 h6
    walk_at "vc"
    refine ⟨by unfold sizeLine; omega, newL_f ⟨[0, (n : Int) - 1] ++ js, rfl, by simp; omega, fun ms hp hm => newL_f (newL_l fun L hL => ?_)⟩⟩
    have hmB : ∀ x ∈ ms, x ∈ [0, (n : Int) - 1] ++ js := fun x hx => (hm x).mp hx
    have hml : ms.length ≤ 7 := by
      have := nodup_le (hp.imp fun h => Int.ne_of_lt h) hmB
      simp at this
      omega
    have hmr : ∀ x ∈ ms, 0 ≤ x ∧ x < (n : Int) := fun x hx => by
      rcases List.mem_append.mp (hmB x hx) with h | h
      · simp only [List.mem_cons, List.not_mem_nil, or_false] at h
        omega
      · exact i5 x h
    have hmn : ms ≠ [] := fun z => by
      have : (0 : Int) ∈ ms := (hm 0).mpr (by simp)
      rw [z] at this
      cases this
    have t3 := t2.new hL (o := .lst [])
    have hx : ∀ {x : Addr} {u : MO}, S5 x = some u → x ≠ L := fun h => sne h hL
    have g0 : Good ms 0 (newM n) := good_new hmr (by omega) hn.2
    have s0 : Ste A (sup S5 L (.lst [])) h L ms 0 n ⟨a, l, w, b, l', w', newM n⟩ [] := by
      have th := t3.hh
      simp only [List.mem_cons, List.not_mem_nil, or_false, not_or] at th
      refine ⟨⟨t3.d, t3.k, t3.dis, ?_, ?_, g0, by simp [newM]⟩, by simp, by simp, t3.o, sup_same, t3.tb⟩
      · simp only [Pr.fp, List.mem_cons, List.not_mem_nil, or_false, not_or]
        exact ⟨th.1.1, th.1.2.1, th.1.2.2, th.2.1, th.2.2.1, th.2.2.2⟩
      · simp only [Pr.fp, List.mem_cons, List.not_mem_nil, or_false, not_or]
        exact ⟨Ne.symm (hx t2.d.1), Ne.symm (hx t2.d.2.1), Ne.symm (hx t2.d.2.2), Ne.symm (hx t2.k.1), Ne.symm (hx t2.k.2.1), Ne.symm (hx t2.k.2.2.1)⟩
    generalize sup S5 L (.lst []) = S6 at *
    clear t3 t2 t hx hL
    obtain ⟨o, ho, hho⟩ := s0.o
    refine ⟨h, 21, o, rfl, ho, hho, by decide, by decide, fun k o1 k0 k1 ho1 => ?_⟩
    have s1 := s0.hand ho1
    generalize sup S6 h o1 = S7 at *
    clear s0 ho hho ho1
    walk_at "vc"
    refine ⟨by omega, by omega, ?_⟩
    refine for_inv (LI A (.lst (iD sc)) h L ms n) ?_ ?_ ?_
    · exact ⟨_, [], _, _, _, rfl, s1, by simp⟩
    · rintro i x ρ S8 hi hL
      obtain ⟨hi1, rfl⟩ := rng_of hi
      refine ⟨trivial, ?_⟩
      obtain ⟨c, ps, x5, x8, x9, rfl, s, hl⟩ := hL
      walk_at "vc"
      exact t_f1 hmn (by omega) hn (by omega) (fun ρ S h => h) _ _ ⟨c, ps, _, _, _, rfl, s, hl⟩
    · rintro ρ S8 hL
      rw [rng_len] at hL
      exact ⟨trivial, t_end (by omega) q _ _ hL⟩
def sp_law (A : Ad) : DSp := fun ds S Q _ => ∃ ns, ds = [.lst (iD ns)] ∧ TB A S ∧ ∀ S', Q (.bl true) S'
theorem v_law : VC n_law b_law { fns := [("_law_hand", sp_law_hand), ("_law_draw", sp_law_draw), ("_law_book", sp_law_book), ("_law_shows", sp_law_shows A), ("_law_deed", sp_law_deed A), ("_law_copied", sp_law_copied A)], cons := [], nob := n_law.nob, mks := [⟨"Disk", A.Disk, sp_Disk___init__ A⟩] } 1 (sp_law A) := by
  rintro ds S Q Y ⟨sc, rfl, htb, q⟩
  refine ⟨rfl, ?_⟩
  rw [b_law_eq]
  unfold n_law
  walk_at "vc"
  refine ⟨sc, rfl, fun h o hh ho => ?_⟩
  have htb1 : ∀ o, TB A (sup S h o) := fun o => (sup_ne (sne htb hh)).trans htb
  refine ⟨h, 20, o, rfl, sup_same, ho, by decide, by decide, fun k o1 k0 k1 ho1 => ?_⟩
  rw [sup_sup]
  walk_at "vc"
  split
  · exact t_rest (n := 600) (by decide) sup_same ho1 (htb1 _) q
  · refine ⟨h, 25, o1, rfl, sup_same, ho1, by decide, by decide, fun k o2 k0 k1 ho2 => ?_⟩
    rw [sup_sup]
    walk_at "vc"
    rw [show 16 + k = ((16 + k.toNat : Nat) : Int) by omega]
    exact t_rest ⟨by omega, by omega⟩ sup_same ho2 (htb1 _) q
end W
namespace W
open PySem PySem.Spec PyProof.Rows L2 Dz
theorem kit_self {K : PySem.W.Frag} {C : Addr} : PySem.W.kitOne K (.ref C) (.ref C) = some true := by
  unfold PySem.W.kitOne
  rw [if_pos]
  simp
theorem hsp (A : Ad) : ∀ (ns : List Int) (S : Hs), ns.length ≤ 63 → (∀ z ∈ ns, PySem.Builtin.Int.intBits z ≤ 1048576) → S A.t_law_deed = some (.tab "_law_deed.<locals>.<lambda>") → sp_law A [.lst (ns.map D.int)] S (fun d _ => d = .bl true) X0 := fun ns S _ _ h => ⟨ns, rfl, h, fun _ => rfl⟩
section
open PySem PySem.Spec PyProof.Rows L2 Dz
theorem all_mk0 {l : PySem.W.OpenLaw} {w : World} {K : PySem.W.Frag} {h : Heap} {mg : Str → Option Value} {fa : Addr} {A : Ad} (X : K.In h) (G : h.Ns mainGlobals mg) (hfa : mg "law" = some (.ref fa))
  {q : Program} (HT : ∀ (x : Str) (d : DefRec) (c P : Addr), (recsOf q).find? (fun e => e.name == x) = some d → PySem.W.tabIn K x = some (c, P) → PySem.W.CodeHd h c P ∧ h.get? P = some (PySem.W.tabObj #[]))
  (aCDisk : PySem.W.nsIn K mainGlobals "Disk" = some (some (.ref A.Disk))) (pgDisk : PySem.W.plainGet K A.Disk Str.empty = true) (hdDisk : PySem.W.hasDictIn K A.Disk = true) (poDisk : PySem.W.plainOver K A.Disk = true) (saDisk : PySem.W.findIn K (.ref A.Disk) "__setattr__" = some (some (.builtin "object.__setattr__"))) (mkDisk : PySem.W.makesIn K A.Disk = true) (kcDisk : PySem.W.keepIn K (.ref A.Disk) = true)
  (naDisk_kept_lying : PySem.W.findIn K (.ref A.Disk) "kept_lying" = some none)
  (naDisk_kept_waiting : PySem.W.findIn K (.ref A.Disk) "kept_waiting" = some none)
  (naDisk_kept_reached : PySem.W.findIn K (.ref A.Disk) "kept_reached" = some none)
  (naDisk_kept_power : PySem.W.findIn K (.ref A.Disk) "kept_power" = some none)
  (aXNoBlock : PySem.W.nsIn K mainGlobals "NoBlock" = some (some (.ref A.NoBlock))) (xXNoBlock : PySem.W.excIn K A.NoBlock [.type "ValueError", .type "Exception", .type "BaseException", .type "object"] "ValueError.__new__" = true) (kXNoBlock : PySem.W.keepIn K (.ref A.NoBlock) = true) (bXNoBlock : PySem.W.subIn K (.ref A.NoBlock) (.type "BaseException") = some true) (tXNoBlock : PySem.W.typeIn K (.ref A.NoBlock) = some (.type "type"))
  (aXNoContent : PySem.W.nsIn K mainGlobals "NoContent" = some (some (.ref A.NoContent))) (xXNoContent : PySem.W.excIn K A.NoContent [.type "ValueError", .type "Exception", .type "BaseException", .type "object"] "ValueError.__new__" = true) (kXNoContent : PySem.W.keepIn K (.ref A.NoContent) = true) (bXNoContent : PySem.W.subIn K (.ref A.NoContent) (.type "BaseException") = some true) (tXNoContent : PySem.W.typeIn K (.ref A.NoContent) = some (.type "type"))
  (aXStopped : PySem.W.nsIn K mainGlobals "Stopped" = some (some (.ref A.Stopped))) (xXStopped : PySem.W.excIn K A.Stopped [.type "ValueError", .type "Exception", .type "BaseException", .type "object"] "ValueError.__new__" = true) (kXStopped : PySem.W.keepIn K (.ref A.Stopped) = true) (bXStopped : PySem.W.subIn K (.ref A.Stopped) (.type "BaseException") = some true) (tXStopped : PySem.W.typeIn K (.ref A.Stopped) = some (.type "type"))
  (aXNothingWaits : PySem.W.nsIn K mainGlobals "NothingWaits" = some (some (.ref A.NothingWaits))) (xXNothingWaits : PySem.W.excIn K A.NothingWaits [.type "ValueError", .type "Exception", .type "BaseException", .type "object"] "ValueError.__new__" = true) (kXNothingWaits : PySem.W.keepIn K (.ref A.NothingWaits) = true) (bXNothingWaits : PySem.W.subIn K (.ref A.NothingWaits) (.type "BaseException") = some true) (tXNothingWaits : PySem.W.typeIn K (.ref A.NothingWaits) = some (.type "type"))
  (aXNoNumber : PySem.W.nsIn K mainGlobals "NoNumber" = some (some (.ref A.NoNumber))) (xXNoNumber : PySem.W.excIn K A.NoNumber [.type "ValueError", .type "Exception", .type "BaseException", .type "object"] "ValueError.__new__" = true) (kXNoNumber : PySem.W.keepIn K (.ref A.NoNumber) = true) (bXNoNumber : PySem.W.subIn K (.ref A.NoNumber) (.type "BaseException") = some true) (tXNoNumber : PySem.W.typeIn K (.ref A.NoNumber) = some (.type "type"))
  (aXBadDisk : PySem.W.nsIn K mainGlobals "BadDisk" = some (some (.ref A.BadDisk))) (xXBadDisk : PySem.W.excIn K A.BadDisk [.type "ValueError", .type "Exception", .type "BaseException", .type "object"] "ValueError.__new__" = true) (kXBadDisk : PySem.W.keepIn K (.ref A.BadDisk) = true) (bXBadDisk : PySem.W.subIn K (.ref A.BadDisk) (.type "BaseException") = some true) (tXBadDisk : PySem.W.typeIn K (.ref A.BadDisk) = some (.type "type"))
  (aXStoreError : PySem.W.nsIn K mainGlobals "StoreError" = some (some (.ref A.StoreError))) (xXStoreError : PySem.W.excIn K A.StoreError [.type "ValueError", .type "Exception", .type "BaseException", .type "object"] "ValueError.__new__" = true) (kXStoreError : PySem.W.keepIn K (.ref A.StoreError) = true) (bXStoreError : PySem.W.subIn K (.ref A.StoreError) (.type "BaseException") = some true) (tXStoreError : PySem.W.typeIn K (.ref A.StoreError) = some (.type "type"))
  (iXStopped : PySem.W.hasDictIn K A.Stopped = true)
  (iXNothingWaits : PySem.W.hasDictIn K A.NothingWaits = true)
  (iXStoreError : PySem.W.hasDictIn K A.StoreError = true)
  (sXStopped_Stopped : PySem.W.subIn K (.ref A.Stopped) (.ref A.Stopped) = some true)
  (sXNothingWaits_Stopped : PySem.W.subIn K (.ref A.NothingWaits) (.ref A.Stopped) = some false)
  (sXNothingWaits_NothingWaits : PySem.W.subIn K (.ref A.NothingWaits) (.ref A.NothingWaits) = some true)
  (eAStopped : PySem.W.findIn K (.ref A.Stopped) "__getattribute__" = some (some (.builtin "BaseException.__getattribute__"))) (eBStopped : PySem.W.findIn K (.ref A.Stopped) "__getattr__" = some none) (eCStopped : PySem.W.hasDictIn K A.Stopped = true) (eDStopped : PySem.W.findIn K (.ref A.Stopped) "__class__" = some (some (.builtin "object.__class__"))) (eEStopped : PySem.W.specialIn K (.builtin "object.__class__") "__get__" = some (some (.builtin "getset_descriptor.__get__"))) (eFStopped : PySem.W.takesIn K (.builtin "object.__class__") = some true) (eGStopped : PySem.W.mroIn K A.Stopped (.type "object") = some true)
  (eANothingWaits : PySem.W.findIn K (.ref A.NothingWaits) "__getattribute__" = some (some (.builtin "BaseException.__getattribute__"))) (eBNothingWaits : PySem.W.findIn K (.ref A.NothingWaits) "__getattr__" = some none) (eCNothingWaits : PySem.W.hasDictIn K A.NothingWaits = true) (eDNothingWaits : PySem.W.findIn K (.ref A.NothingWaits) "__class__" = some (some (.builtin "object.__class__"))) (eENothingWaits : PySem.W.specialIn K (.builtin "object.__class__") "__get__" = some (some (.builtin "getset_descriptor.__get__"))) (eFNothingWaits : PySem.W.takesIn K (.builtin "object.__class__") = some true) (eGNothingWaits : PySem.W.mroIn K A.NothingWaits (.type "object") = some true)
  (eKStopped_StoreError : PySem.W.subIn K (.ref A.Stopped) (.ref A.StoreError) = some true)
  (eKStopped_ValueError : PySem.W.subIn K (.ref A.Stopped) (.type "ValueError") = some true)
  (eKNothingWaits_StoreError : PySem.W.subIn K (.ref A.NothingWaits) (.ref A.StoreError) = some true)
  (eKNothingWaits_ValueError : PySem.W.subIn K (.ref A.NothingWaits) (.type "ValueError") = some true)
  {f0 : Addr} {od0 an0 : Option Addr} {sl0 : Array (Option Value)} {oc0 kV0 dc0 pm0 cd0 ct0 : Value}
  (a0 : PySem.W.nsIn K mainGlobals "_law_hand" = some (some (.ref f0)))
  (l0 : K.lookup f0 = some ⟨oc0, od0, .func (PySem.W.fnOf "_law_hand" "_law_hand" (defArgs (top 24)) (defBody (top 24)) (defScope (top 24)) .none kV0 dc0 pm0 an0 cd0 ct0), sl0⟩) (c0 : PySem.W.codeIn K cd0 "_law_hand" = true) (k0 : PySem.W.keepIn K (.ref f0) = true)
  {f1 : Addr} {od1 an1 : Option Addr} {sl1 : Array (Option Value)} {oc1 kV1 dc1 pm1 cd1 ct1 : Value}
  (a1 : PySem.W.nsIn K mainGlobals "_law_draw" = some (some (.ref f1)))
  (l1 : K.lookup f1 = some ⟨oc1, od1, .func (PySem.W.fnOf "_law_draw" "_law_draw" (defArgs (top 25)) (defBody (top 25)) (defScope (top 25)) .none kV1 dc1 pm1 an1 cd1 ct1), sl1⟩) (c1 : PySem.W.codeIn K cd1 "_law_draw" = true) (k1 : PySem.W.keepIn K (.ref f1) = true)
  {f2 : Addr} {od2 an2 : Option Addr} {sl2 : Array (Option Value)} {oc2 kV2 dc2 pm2 cd2 ct2 : Value}
  (a2 : PySem.W.nsIn K mainGlobals "_law_book" = some (some (.ref f2)))
  (l2 : K.lookup f2 = some ⟨oc2, od2, .func (PySem.W.fnOf "_law_book" "_law_book" (defArgs (top 28)) (defBody (top 28)) (defScope (top 28)) .none kV2 dc2 pm2 an2 cd2 ct2), sl2⟩) (c2 : PySem.W.codeIn K cd2 "_law_book" = true) (k2 : PySem.W.keepIn K (.ref f2) = true)
  {f3 : Addr} {od3 an3 : Option Addr} {sl3 : Array (Option Value)} {oc3 kV3 dc3 pm3 cd3 ct3 : Value}
  (a3 : PySem.W.nsIn K mainGlobals "is_integer" = some (some (.ref f3)))
  (l3 : K.lookup f3 = some ⟨oc3, od3, .func (PySem.W.fnOf "is_integer" "is_integer" (defArgs (top 1)) (defBody (top 1)) (defScope (top 1)) .none kV3 dc3 pm3 an3 cd3 ct3), sl3⟩) (c3 : PySem.W.codeIn K cd3 "is_integer" = true) (k3 : PySem.W.keepIn K (.ref f3) = true)
  {f4 : Addr} {od4 an4 : Option Addr} {sl4 : Array (Option Value)} {oc4 kV4 dc4 pm4 cd4 ct4 : Value}
  (a4 : PySem.W.nsIn K mainGlobals "is_within" = some (some (.ref f4)))
  (l4 : K.lookup f4 = some ⟨oc4, od4, .func (PySem.W.fnOf "is_within" "is_within" (defArgs (top 2)) (defBody (top 2)) (defScope (top 2)) .none kV4 dc4 pm4 an4 cd4 ct4), sl4⟩) (c4 : PySem.W.codeIn K cd4 "is_within" = true) (k4 : PySem.W.keepIn K (.ref f4) = true)
  {f5 : Addr} {od5 an5 : Option Addr} {sl5 : Array (Option Value)} {oc5 kV5 dc5 pm5 cd5 ct5 : Value}
  (a5 : PySem.W.findIn K (.ref A.Disk) "check_block" = some (some (.ref f5))) (i5 : PySem.W.isFn K (.ref f5) = true)
  (l5 : K.lookup f5 = some ⟨oc5, od5, .func (PySem.W.fnOf "check_block" "Disk.check_block" (defArgs (inClass (top 22) 2)) (defBody (inClass (top 22) 2)) (defScope (inClass (top 22) 2)) .none kV5 dc5 pm5 an5 cd5 ct5), sl5⟩) (c5 : PySem.W.codeIn K cd5 "Disk.check_block" = true) (k5 : PySem.W.keepIn K (.ref f5) = true)
  {f6 : Addr} {od6 an6 : Option Addr} {sl6 : Array (Option Value)} {oc6 kV6 dc6 pm6 cd6 ct6 : Value}
  (a6 : PySem.W.findIn K (.ref A.Disk) "lying" = some (some (.ref f6))) (i6 : PySem.W.isFn K (.ref f6) = true)
  (l6 : K.lookup f6 = some ⟨oc6, od6, .func (PySem.W.fnOf "lying" "Disk.lying" (defArgs (inClass (top 22) 12)) (defBody (inClass (top 22) 12)) (defScope (inClass (top 22) 12)) .none kV6 dc6 pm6 an6 cd6 ct6), sl6⟩) (c6 : PySem.W.codeIn K cd6 "Disk.lying" = true) (k6 : PySem.W.keepIn K (.ref f6) = true)
  {f7 : Addr} {od7 an7 : Option Addr} {sl7 : Array (Option Value)} {oc7 kV7 dc7 pm7 cd7 ct7 : Value}
  (a7 : PySem.W.findIn K (.ref A.Disk) "read" = some (some (.ref f7))) (i7 : PySem.W.isFn K (.ref f7) = true)
  (l7 : K.lookup f7 = some ⟨oc7, od7, .func (PySem.W.fnOf "read" "Disk.read" (defArgs (inClass (top 22) 4)) (defBody (inClass (top 22) 4)) (defScope (inClass (top 22) 4)) .none kV7 dc7 pm7 an7 cd7 ct7), sl7⟩) (c7 : PySem.W.codeIn K cd7 "Disk.read" = true) (k7 : PySem.W.keepIn K (.ref f7) = true)
  {f8 : Addr} {od8 an8 : Option Addr} {sl8 : Array (Option Value)} {oc8 kV8 dc8 pm8 cd8 ct8 : Value}
  (a8 : PySem.W.findIn K (.ref A.Disk) "waiting" = some (some (.ref f8))) (i8 : PySem.W.isFn K (.ref f8) = true)
  (l8 : K.lookup f8 = some ⟨oc8, od8, .func (PySem.W.fnOf "waiting" "Disk.waiting" (defArgs (inClass (top 22) 11)) (defBody (inClass (top 22) 11)) (defScope (inClass (top 22) 11)) .none kV8 dc8 pm8 an8 cd8 ct8), sl8⟩) (c8 : PySem.W.codeIn K cd8 "Disk.waiting" = true) (k8 : PySem.W.keepIn K (.ref f8) = true)
  {f9 : Addr} {od9 an9 : Option Addr} {sl9 : Array (Option Value)} {oc9 kV9 dc9 pm9 cd9 ct9 : Value}
  (a9 : PySem.W.findIn K (.ref A.Disk) "reached" = some (some (.ref f9))) (i9 : PySem.W.isFn K (.ref f9) = true)
  (l9 : K.lookup f9 = some ⟨oc9, od9, .func (PySem.W.fnOf "reached" "Disk.reached" (defArgs (inClass (top 22) 13)) (defBody (inClass (top 22) 13)) (defScope (inClass (top 22) 13)) .none kV9 dc9 pm9 an9 cd9 ct9), sl9⟩) (c9 : PySem.W.codeIn K cd9 "Disk.reached" = true) (k9 : PySem.W.keepIn K (.ref f9) = true)
  {f10 : Addr} {od10 an10 : Option Addr} {sl10 : Array (Option Value)} {oc10 kV10 dc10 pm10 cd10 ct10 : Value}
  (a10 : PySem.W.findIn K (.ref A.Disk) "blocks" = some (some (.ref f10))) (i10 : PySem.W.isFn K (.ref f10) = true)
  (l10 : K.lookup f10 = some ⟨oc10, od10, .func (PySem.W.fnOf "blocks" "Disk.blocks" (defArgs (inClass (top 22) 1)) (defBody (inClass (top 22) 1)) (defScope (inClass (top 22) 1)) .none kV10 dc10 pm10 an10 cd10 ct10), sl10⟩) (c10 : PySem.W.codeIn K cd10 "Disk.blocks" = true) (k10 : PySem.W.keepIn K (.ref f10) = true)
  {f11 : Addr} {od11 an11 : Option Addr} {sl11 : Array (Option Value)} {oc11 kV11 dc11 pm11 cd11 ct11 : Value}
  (a11 : PySem.W.nsIn K mainGlobals "_law_shows" = some (some (.ref f11)))
  (l11 : K.lookup f11 = some ⟨oc11, od11, .func (PySem.W.fnOf "_law_shows" "_law_shows" (defArgs (top 33)) (defBody (top 33)) (defScope (top 33)) .none kV11 dc11 pm11 an11 cd11 ct11), sl11⟩) (c11 : PySem.W.codeIn K cd11 "_law_shows" = true) (k11 : PySem.W.keepIn K (.ref f11) = true)
  {f12 : Addr} {od12 an12 : Option Addr} {sl12 : Array (Option Value)} {oc12 kV12 dc12 pm12 cd12 ct12 : Value}
  (a12 : PySem.W.nsIn K mainGlobals "_law_any" = some (some (.ref f12)))
  (l12 : K.lookup f12 = some ⟨oc12, od12, .func (PySem.W.fnOf "_law_any" "_law_any" (defArgs (top 26)) (defBody (top 26)) (defScope (top 26)) .none kV12 dc12 pm12 an12 cd12 ct12), sl12⟩) (c12 : PySem.W.codeIn K cd12 "_law_any" = true) (k12 : PySem.W.keepIn K (.ref f12) = true)
  {f13 : Addr} {od13 an13 : Option Addr} {sl13 : Array (Option Value)} {oc13 kV13 dc13 pm13 cd13 ct13 : Value}
  (a13 : PySem.W.nsIn K mainGlobals "_law_content" = some (some (.ref f13)))
  (l13 : K.lookup f13 = some ⟨oc13, od13, .func (PySem.W.fnOf "_law_content" "_law_content" (defArgs (top 27)) (defBody (top 27)) (defScope (top 27)) .none kV13 dc13 pm13 an13 cd13 ct13), sl13⟩) (c13 : PySem.W.codeIn K cd13 "_law_content" = true) (k13 : PySem.W.keepIn K (.ref f13) = true)
  {f14 : Addr} {od14 an14 : Option Addr} {sl14 : Array (Option Value)} {oc14 kV14 dc14 pm14 cd14 ct14 : Value}
  (a14 : PySem.W.nsIn K mainGlobals "_law_wrote" = some (some (.ref f14)))
  (l14 : K.lookup f14 = some ⟨oc14, od14, .func (PySem.W.fnOf "_law_wrote" "_law_wrote" (defArgs (top 29)) (defBody (top 29)) (defScope (top 29)) .none kV14 dc14 pm14 an14 cd14 ct14), sl14⟩) (c14 : PySem.W.codeIn K cd14 "_law_wrote" = true) (k14 : PySem.W.keepIn K (.ref f14) = true)
  {f15 : Addr} {od15 an15 : Option Addr} {sl15 : Array (Option Value)} {oc15 kV15 dc15 pm15 cd15 ct15 : Value}
  (a15 : PySem.W.nsIn K mainGlobals "_law_reached" = some (some (.ref f15)))
  (l15 : K.lookup f15 = some ⟨oc15, od15, .func (PySem.W.fnOf "_law_reached" "_law_reached" (defArgs (top 30)) (defBody (top 30)) (defScope (top 30)) .none kV15 dc15 pm15 an15 cd15 ct15), sl15⟩) (c15 : PySem.W.codeIn K cd15 "_law_reached" = true) (k15 : PySem.W.keepIn K (.ref f15) = true)
  {f16 : Addr} {od16 an16 : Option Addr} {sl16 : Array (Option Value)} {oc16 kV16 dc16 pm16 cd16 ct16 : Value}
  (a16 : PySem.W.nsIn K mainGlobals "_law_forced" = some (some (.ref f16)))
  (l16 : K.lookup f16 = some ⟨oc16, od16, .func (PySem.W.fnOf "_law_forced" "_law_forced" (defArgs (top 31)) (defBody (top 31)) (defScope (top 31)) .none kV16 dc16 pm16 an16 cd16 ct16), sl16⟩) (c16 : PySem.W.codeIn K cd16 "_law_forced" = true) (k16 : PySem.W.keepIn K (.ref f16) = true)
  {f17 : Addr} {od17 an17 : Option Addr} {sl17 : Array (Option Value)} {oc17 kV17 dc17 pm17 cd17 ct17 : Value}
  (a17 : PySem.W.nsIn K mainGlobals "_law_cut" = some (some (.ref f17)))
  (l17 : K.lookup f17 = some ⟨oc17, od17, .func (PySem.W.fnOf "_law_cut" "_law_cut" (defArgs (top 32)) (defBody (top 32)) (defScope (top 32)) .none kV17 dc17 pm17 an17 cd17 ct17), sl17⟩) (c17 : PySem.W.codeIn K cd17 "_law_cut" = true) (k17 : PySem.W.keepIn K (.ref f17) = true)
  {f18 : Addr} {od18 an18 : Option Addr} {sl18 : Array (Option Value)} {oc18 kV18 dc18 pm18 cd18 ct18 : Value}
  (a18 : PySem.W.nsIn K mainGlobals "is_item" = some (some (.ref f18)))
  (l18 : K.lookup f18 = some ⟨oc18, od18, .func (PySem.W.fnOf "is_item" "is_item" (defArgs (top 20)) (defBody (top 20)) (defScope (top 20)) .none kV18 dc18 pm18 an18 cd18 ct18), sl18⟩) (c18 : PySem.W.codeIn K cd18 "is_item" = true) (k18 : PySem.W.keepIn K (.ref f18) = true)
  {f19 : Addr} {od19 an19 : Option Addr} {sl19 : Array (Option Value)} {oc19 kV19 dc19 pm19 cd19 ct19 : Value}
  (a19 : PySem.W.nsIn K mainGlobals "are_items" = some (some (.ref f19)))
  (l19 : K.lookup f19 = some ⟨oc19, od19, .func (PySem.W.fnOf "are_items" "are_items" (defArgs (top 21)) (defBody (top 21)) (defScope (top 21)) .none kV19 dc19 pm19 an19 cd19 ct19), sl19⟩) (c19 : PySem.W.codeIn K cd19 "are_items" = true) (k19 : PySem.W.keepIn K (.ref f19) = true)
  {f20 : Addr} {od20 an20 : Option Addr} {sl20 : Array (Option Value)} {oc20 kV20 dc20 pm20 cd20 ct20 : Value}
  (a20 : PySem.W.findIn K (.ref A.Disk) "write" = some (some (.ref f20))) (i20 : PySem.W.isFn K (.ref f20) = true)
  (l20 : K.lookup f20 = some ⟨oc20, od20, .func (PySem.W.fnOf "write" "Disk.write" (defArgs (inClass (top 22) 3)) (defBody (inClass (top 22) 3)) (defScope (inClass (top 22) 3)) .none kV20 dc20 pm20 an20 cd20 ct20), sl20⟩) (c20 : PySem.W.codeIn K cd20 "Disk.write" = true) (k20 : PySem.W.keepIn K (.ref f20) = true)
  {f21 : Addr} {od21 an21 : Option Addr} {sl21 : Array (Option Value)} {oc21 kV21 dc21 pm21 cd21 ct21 : Value}
  (a21 : PySem.W.findIn K (.ref A.Disk) "reach_one" = some (some (.ref f21))) (i21 : PySem.W.isFn K (.ref f21) = true)
  (l21 : K.lookup f21 = some ⟨oc21, od21, .func (PySem.W.fnOf "reach_one" "Disk.reach_one" (defArgs (inClass (top 22) 5)) (defBody (inClass (top 22) 5)) (defScope (inClass (top 22) 5)) .none kV21 dc21 pm21 an21 cd21 ct21), sl21⟩) (c21 : PySem.W.codeIn K cd21 "Disk.reach_one" = true) (k21 : PySem.W.keepIn K (.ref f21) = true)
  {f22 : Addr} {od22 an22 : Option Addr} {sl22 : Array (Option Value)} {oc22 kV22 dc22 pm22 cd22 ct22 : Value}
  (a22 : PySem.W.findIn K (.ref A.Disk) "reach" = some (some (.ref f22))) (i22 : PySem.W.isFn K (.ref f22) = true)
  (l22 : K.lookup f22 = some ⟨oc22, od22, .func (PySem.W.fnOf "reach" "Disk.reach" (defArgs (inClass (top 22) 6)) (defBody (inClass (top 22) 6)) (defScope (inClass (top 22) 6)) .none kV22 dc22 pm22 an22 cd22 ct22), sl22⟩) (c22 : PySem.W.codeIn K cd22 "Disk.reach" = true) (k22 : PySem.W.keepIn K (.ref f22) = true)
  {f23 : Addr} {od23 an23 : Option Addr} {sl23 : Array (Option Value)} {oc23 kV23 dc23 pm23 cd23 ct23 : Value}
  (a23 : PySem.W.nsIn K mainGlobals "is_lot" = some (some (.ref f23)))
  (l23 : K.lookup f23 = some ⟨oc23, od23, .func (PySem.W.fnOf "is_lot" "is_lot" (defArgs (top 3)) (defBody (top 3)) (defScope (top 3)) .none kV23 dc23 pm23 an23 cd23 ct23), sl23⟩) (c23 : PySem.W.codeIn K cd23 "is_lot" = true) (k23 : PySem.W.keepIn K (.ref f23) = true)
  {f24 : Addr} {od24 an24 : Option Addr} {sl24 : Array (Option Value)} {oc24 kV24 dc24 pm24 cd24 ct24 : Value}
  (a24 : PySem.W.findIn K (.ref A.Disk) "force" = some (some (.ref f24))) (i24 : PySem.W.isFn K (.ref f24) = true)
  (l24 : K.lookup f24 = some ⟨oc24, od24, .func (PySem.W.fnOf "force" "Disk.force" (defArgs (inClass (top 22) 7)) (defBody (inClass (top 22) 7)) (defScope (inClass (top 22) 7)) .none kV24 dc24 pm24 an24 cd24 ct24), sl24⟩) (c24 : PySem.W.codeIn K cd24 "Disk.force" = true) (k24 : PySem.W.keepIn K (.ref f24) = true)
  {f25 : Addr} {od25 an25 : Option Addr} {sl25 : Array (Option Value)} {oc25 kV25 dc25 pm25 cd25 ct25 : Value}
  (a25 : PySem.W.findIn K (.ref A.Disk) "calm" = some (some (.ref f25))) (i25 : PySem.W.isFn K (.ref f25) = true)
  (l25 : K.lookup f25 = some ⟨oc25, od25, .func (PySem.W.fnOf "calm" "Disk.calm" (defArgs (inClass (top 22) 8)) (defBody (inClass (top 22) 8)) (defScope (inClass (top 22) 8)) .none kV25 dc25 pm25 an25 cd25 ct25), sl25⟩) (c25 : PySem.W.codeIn K cd25 "Disk.calm" = true) (k25 : PySem.W.keepIn K (.ref f25) = true)
  {f26 : Addr} {od26 an26 : Option Addr} {sl26 : Array (Option Value)} {oc26 kV26 dc26 pm26 cd26 ct26 : Value}
  (a26 : PySem.W.findIn K (.ref A.Disk) "power" = some (some (.ref f26))) (i26 : PySem.W.isFn K (.ref f26) = true)
  (l26 : K.lookup f26 = some ⟨oc26, od26, .func (PySem.W.fnOf "power" "Disk.power" (defArgs (inClass (top 22) 9)) (defBody (inClass (top 22) 9)) (defScope (inClass (top 22) 9)) .none kV26 dc26 pm26 an26 cd26 ct26), sl26⟩) (c26 : PySem.W.codeIn K cd26 "Disk.power" = true) (k26 : PySem.W.keepIn K (.ref f26) = true)
  {f27 : Addr} {od27 an27 : Option Addr} {sl27 : Array (Option Value)} {oc27 kV27 dc27 pm27 cd27 ct27 : Value}
  (a27 : PySem.W.findIn K (.ref A.Disk) "cut" = some (some (.ref f27))) (i27 : PySem.W.isFn K (.ref f27) = true)
  (l27 : K.lookup f27 = some ⟨oc27, od27, .func (PySem.W.fnOf "cut" "Disk.cut" (defArgs (inClass (top 22) 10)) (defBody (inClass (top 22) 10)) (defScope (inClass (top 22) 10)) .none kV27 dc27 pm27 an27 cd27 ct27), sl27⟩) (c27 : PySem.W.codeIn K cd27 "Disk.cut" = true) (k27 : PySem.W.keepIn K (.ref f27) = true)
  {f28 : Addr} {od28 an28 : Option Addr} {sl28 : Array (Option Value)} {oc28 kV28 dc28 pm28 cd28 ct28 : Value}
  (a28 : PySem.W.nsIn K mainGlobals "_law_word" = some (some (.ref f28)))
  (l28 : K.lookup f28 = some ⟨oc28, od28, .func (PySem.W.fnOf "_law_word" "_law_word" (defArgs (top 34)) (defBody (top 34)) (defScope (top 34)) .none kV28 dc28 pm28 an28 cd28 ct28), sl28⟩) (c28 : PySem.W.codeIn K cd28 "_law_word" = true) (k28 : PySem.W.keepIn K (.ref f28) = true)
  {f29 cc29 : Addr} {od29 an29 : Option Addr} {sl29 : Array (Option Value)} {oc29 kV29 dc29 pm29 ct29 : Value}
  (a29 : PySem.W.nsIn K mainGlobals "_law_deed" = some (some (.ref f29)))
  (l29 : K.lookup f29 = some ⟨oc29, od29, .func (PySem.W.fnOf "_law_deed" "_law_deed" (defArgs (top 35)) (defBody (top 35)) (defScope (top 35)) .none kV29 dc29 pm29 an29 (.ref cc29) ct29), sl29⟩) (c29 : PySem.W.codeIn K (.ref cc29) "_law_deed" = true) (k29 : PySem.W.keepIn K (.ref f29) = true)
  {f30 : Addr} {od30 an30 : Option Addr} {sl30 : Array (Option Value)} {oc30 kV30 dc30 pm30 cd30 ct30 : Value}
  (a30 : PySem.W.findIn K (.ref A.Disk) "__init__" = some (some (.ref f30))) (i30 : PySem.W.isFn K (.ref f30) = true)
  (l30 : K.lookup f30 = some ⟨oc30, od30, .func (PySem.W.fnOf "__init__" "Disk.__init__" (defArgs (inClass (top 22) 0)) (defBody (inClass (top 22) 0)) (defScope (inClass (top 22) 0)) .none kV30 dc30 pm30 an30 cd30 ct30), sl30⟩) (c30 : PySem.W.codeIn K cd30 "Disk.__init__" = true) (k30 : PySem.W.keepIn K (.ref f30) = true)
  {f31 : Addr} {od31 an31 : Option Addr} {sl31 : Array (Option Value)} {oc31 kV31 dc31 pm31 cd31 ct31 : Value}
  (a31 : PySem.W.findIn K (.ref A.Disk) "copy" = some (some (.ref f31))) (i31 : PySem.W.isFn K (.ref f31) = true)
  (l31 : K.lookup f31 = some ⟨oc31, od31, .func (PySem.W.fnOf "copy" "Disk.copy" (defArgs (inClass (top 22) 14)) (defBody (inClass (top 22) 14)) (defScope (inClass (top 22) 14)) .none kV31 dc31 pm31 an31 cd31 ct31), sl31⟩) (c31 : PySem.W.codeIn K cd31 "Disk.copy" = true) (k31 : PySem.W.keepIn K (.ref f31) = true)
  {f32 : Addr} {od32 an32 : Option Addr} {sl32 : Array (Option Value)} {oc32 kV32 dc32 pm32 cd32 ct32 : Value}
  (a32 : PySem.W.nsIn K mainGlobals "_law_copied" = some (some (.ref f32)))
  (l32 : K.lookup f32 = some ⟨oc32, od32, .func (PySem.W.fnOf "_law_copied" "_law_copied" (defArgs (top 36)) (defBody (top 36)) (defScope (top 36)) .none kV32 dc32 pm32 an32 cd32 ct32), sl32⟩) (c32 : PySem.W.codeIn K cd32 "_law_copied" = true) (k32 : PySem.W.keepIn K (.ref f32) = true)
  {f33 : Addr} {od33 an33 : Option Addr} {sl33 : Array (Option Value)} {oc33 kV33 dc33 pm33 cd33 ct33 : Value}
  (a33 : PySem.W.nsIn K mainGlobals "law" = some (some (.ref f33)))
  (l33 : K.lookup f33 = some ⟨oc33, od33, .func (PySem.W.fnOf "law" "law" (defArgs (top 37)) (defBody (top 37)) (defScope (top 37)) .none kV33 dc33 pm33 an33 cd33 ct33), sl33⟩) (c33 : PySem.W.codeIn K cd33 "law" = true) (k33 : PySem.W.keepIn K (.ref f33) = true)
  {xo29 : Value} {xd29 : Option Addr} {xv29 : Array Value} {xs29 : Array (Option Value)} (lc29 : K.lookup cc29 = some ⟨xo29, xd29, .fields xv29, xs29⟩) (tv29 : xv29[11]? = some (.ref A.t_law_deed)) (nt29 : K.lookup A.t_law_deed = none) {dd29 : DefRec} (rd29 : (recsOf q).find? (fun e => e.name == ("_law_deed" : Str)) = some dd29)
  (z0 : PySem.W.nsIn K mainGlobals "len" = some none)
  (z1 : PySem.W.nsIn K mainGlobals "abs" = some none)
  (z2 : PySem.W.nsIn K mainGlobals "int" = some none)
  (z3 : PySem.W.nsIn K mainGlobals "isinstance" = some none)
  (z4 : PySem.W.nsIn K mainGlobals "bool" = some none)
  (z5 : PySem.W.nsIn K mainGlobals "dict" = some none)
  (z6 : PySem.W.nsIn K mainGlobals "tuple" = some none)
  (z7 : PySem.W.nsIn K mainGlobals "range" = some none)
  (z8 : PySem.W.nsIn K mainGlobals "str" = some none)
  (z9 : PySem.W.nsIn K mainGlobals "all" = some none)
  (z10 : PySem.W.nsIn K mainGlobals "sorted" = some none)
  (z11 : PySem.W.nsIn K mainGlobals "ValueError" = some none)
  (z12 : PySem.W.nsIn K mainGlobals "set" = some none)
  (z13 : PySem.W.nsIn K mainGlobals "list" = some none)
  {t0 : Tok} (m0 : mg "MOST_INTEGER" = some (.int 1000000000000000000000000000000 t0))
  {t1 : Tok} (m1 : mg "LETTERS" = some (.str "abcdefghijklmnopqrstuvwxyz" t1))
  {t2 : Tok} (m2 : mg "MOST_LETTERS" = some (.int 12 t2))
  {t3 : Tok} (m3 : mg "MOST_ITEMS" = some (.int 40 t3))
  {t4 : Tok} (m4 : mg "MOST_POWER" = some (.int 1000000 t4))
  {t5 : Tok} (m5 : mg "MOST_BLOCKS" = some (.int 600 t5))
  {t6 : Tok} (m6 : mg "LEAST_BLOCKS" = some (.int 16 t6))
  : ∃ (fd : FuncData) (c P : Addr) (nm : Str) (sp : DSp), PySem.W.CodeHd h c P ∧ h.get? P = some (PySem.W.tabObj #[]) ∧ K.lookup P = none ∧ (∀ (s : Shared) (u : Value), BindsTo s fd ⟨[u], []⟩ [("script", u)]) ∧ (∀ (ns : List Int) (S : Hs), ns.length ≤ 63 → (∀ z ∈ ns, Builtin.Int.intBits z ≤ 1048576) → S P = some (.tab nm) → sp [.lst (ns.map D.int)] S (fun d _ => d = .bl true) X0) ∧ ∀ base : Heap, K.In base → base.Ns mainGlobals mg → LamX.TabB base mg c P → FnOk l.prog w K mg base (L2.CX l.prog w) 9 fa fd ["script"] (toSp K sp) := by
  have e := hfa.symm.trans (PySem.W.mg_of X G a33)
  cases e
  have tb29 := tab_in (x := "_law_deed") a29 l29 lc29 tv29
  obtain ⟨HC, HP⟩ := HT _ _ _ _ rd29 tb29
  refine ⟨PySem.W.fnOf "law" "law" (defArgs (top 37)) (defBody (top 37)) (defScope (top 37)) .none kV33 dc33 pm33 an33 cd33 ct33, cc29, A.t_law_deed, "_law_deed.<locals>.<lambda>", sp_law A, HC, HP, nt29, fun s v => .of_eq rfl, hsp A, fun base _ _ TB => ?_⟩
  have y0 := PySem.W.mg_none_of X G z0
  have y1 := PySem.W.mg_none_of X G z1
  have y2 := PySem.W.mg_none_of X G z2
  have y3 := PySem.W.mg_none_of X G z3
  have y4 := PySem.W.mg_none_of X G z4
  have y5 := PySem.W.mg_none_of X G z5
  have y6 := PySem.W.mg_none_of X G z6
  have y7 := PySem.W.mg_none_of X G z7
  have y8 := PySem.W.mg_none_of X G z8
  have y9 := PySem.W.mg_none_of X G z9
  have y10 := PySem.W.mg_none_of X G z10
  have y11 := PySem.W.mg_none_of X G z11
  have y12 := PySem.W.mg_none_of X G z12
  have y13 := PySem.W.mg_none_of X G z13
  have clDisk : Cls K A.Disk := ⟨pgDisk, hdDisk, poDisk, saDisk⟩
  have exNoBlock : ExcAt K mg ("NoBlock", A.NoBlock) := ⟨PySem.W.mg_of X G aXNoBlock, xXNoBlock, kXNoBlock, bXNoBlock, tXNoBlock⟩
  have exNoContent : ExcAt K mg ("NoContent", A.NoContent) := ⟨PySem.W.mg_of X G aXNoContent, xXNoContent, kXNoContent, bXNoContent, tXNoContent⟩
  have exStopped : ExcAt K mg ("Stopped", A.Stopped) := ⟨PySem.W.mg_of X G aXStopped, xXStopped, kXStopped, bXStopped, tXStopped⟩
  have exNothingWaits : ExcAt K mg ("NothingWaits", A.NothingWaits) := ⟨PySem.W.mg_of X G aXNothingWaits, xXNothingWaits, kXNothingWaits, bXNothingWaits, tXNothingWaits⟩
  have exNoNumber : ExcAt K mg ("NoNumber", A.NoNumber) := ⟨PySem.W.mg_of X G aXNoNumber, xXNoNumber, kXNoNumber, bXNoNumber, tXNoNumber⟩
  have exBadDisk : ExcAt K mg ("BadDisk", A.BadDisk) := ⟨PySem.W.mg_of X G aXBadDisk, xXBadDisk, kXBadDisk, bXBadDisk, tXBadDisk⟩
  have exStoreError : ExcAt K mg ("StoreError", A.StoreError) := ⟨PySem.W.mg_of X G aXStoreError, xXStoreError, kXStoreError, bXStoreError, tXStoreError⟩
  have xcStopped : ExcC K A.Stopped := ⟨eAStopped, eBStopped, bXStopped, eCStopped, eDStopped, eEStopped, eFStopped, eGStopped⟩
  have xcNothingWaits : ExcC K A.NothingWaits := ⟨eANothingWaits, eBNothingWaits, bXNothingWaits, eCNothingWaits, eDNothingWaits, eENothingWaits, eFNothingWaits, eGNothingWaits⟩
  have F0 := fun_mk (st := (top 24)) l0 c0 k0
  have h0 : FnOk l.prog w K mg base (L2.CX l.prog w) 1 f0 _ ["script"] (toSp K (sp_law_hand)) := fn_D F0 sc_law_hand ⟨rfl, rfl, rfl, rfl, rfl, rfl, rfl, rfl, rfl⟩ ⟨fns_nil, con_nil, (nob_cons y0 (nob_cons y1 (nob_cons y2 nob_nil))), all_nil, all_nil, all_nil, all_nil, all_nil, all_nil, all_nil, all_nil, all_nil⟩ k_law_hand v_law_hand
  have g0 : FnAt l.prog w K mg base 1 ("_law_hand", sp_law_hand) := ⟨f0, _, ["script"], PySem.W.mg_of X G a0, k0, (F0.binds (ps := ["script"]) fun _ _ _ _ _ _ us hl => match us, hl with | [_], _ => rfl), h0⟩
  have F1 := fun_mk (st := (top 25)) l1 c1 k1
  have h1 : FnOk l.prog w K mg base (L2.CX l.prog w) 1 f1 _ ["hand", "many"] (toSp K (sp_law_draw)) := fn_D F1 sc_law_draw ⟨rfl, rfl, rfl, rfl, rfl, rfl, rfl, rfl, rfl⟩ ⟨fns_nil, con_nil, (nob_cons y2 (nob_cons y0 nob_nil)), all_nil, all_nil, all_nil, all_nil, all_nil, all_nil, all_nil, all_nil, all_nil⟩ k_law_draw v_law_draw
  have g1 : FnAt l.prog w K mg base 1 ("_law_draw", sp_law_draw) := ⟨f1, _, ["hand", "many"], PySem.W.mg_of X G a1, k1, (F1.binds (ps := ["hand", "many"]) fun _ _ _ _ _ _ us hl => match us, hl with | [_, _], _ => rfl), h1⟩
  have F2 := fun_mk (st := (top 28)) l2 c2 k2
  have h2 : FnOk l.prog w K mg base (L2.CX l.prog w) 1 f2 _ ["blocks"] (toSp K (sp_law_book)) := fn_D F2 sc_law_book ⟨rfl, rfl, rfl, rfl, rfl, rfl, rfl, rfl, rfl⟩ ⟨fns_nil, con_nil, nob_nil, all_nil, all_nil, all_nil, all_nil, all_nil, all_nil, all_nil, all_nil, all_nil⟩ k_law_book v_law_book
  have g2 : FnAt l.prog w K mg base 1 ("_law_book", sp_law_book) := ⟨f2, _, ["blocks"], PySem.W.mg_of X G a2, k2, (F2.binds (ps := ["blocks"]) fun _ _ _ _ _ _ us hl => match us, hl with | [_], _ => rfl), h2⟩
  have F3 := fun_mk (st := (top 1)) l3 c3 k3
  have h3 : FnOk l.prog w K mg base (L2.CX l.prog w) 1 f3 _ ["thing"] (toSp K (sp_is_integer)) := fn_D F3 sc_is_integer ⟨rfl, rfl, rfl, rfl, rfl, rfl, rfl, rfl, rfl⟩ ⟨fns_nil, con_nil, (nob_cons y3 (nob_cons y4 (nob_cons y2 nob_nil))), all_nil, all_nil, all_nil, all_nil, all_nil, all_nil, all_nil, all_nil, all_nil⟩ k_is_integer v_is_integer
  have g3 : FnAt l.prog w K mg base 1 ("is_integer", sp_is_integer) := ⟨f3, _, ["thing"], PySem.W.mg_of X G a3, k3, (F3.binds (ps := ["thing"]) fun _ _ _ _ _ _ us hl => match us, hl with | [_], _ => rfl), h3⟩
  have F4 := fun_mk (st := (top 2)) l4 c4 k4
  have h4 : FnOk l.prog w K mg base (L2.CX l.prog w) 2 f4 _ ["thing", "least", "most"] (toSp K (sp_is_within)) := fn_D F4 sc_is_within ⟨rfl, rfl, rfl, rfl, rfl, rfl, rfl, rfl, rfl⟩ ⟨(fns_cons g3 (by decide) fns_nil), con_nil, nob_nil, all_nil, all_nil, all_nil, all_nil, all_nil, all_nil, all_nil, all_nil, all_nil⟩ k_is_within v_is_within
  have g4 : FnAt l.prog w K mg base 2 ("is_within", sp_is_within) := ⟨f4, _, ["thing", "least", "most"], PySem.W.mg_of X G a4, k4, (F4.binds (ps := ["thing", "least", "most"]) fun _ _ _ _ _ _ us hl => match us, hl with | [_, _, _], _ => rfl), h4⟩
  have F5 := fun_mk (st := (inClass (top 22) 2)) l5 c5 k5
  have h5 : FnOk l.prog w K mg base (L2.CX l.prog w) 3 f5 _ ["self", "block"] (toSp K (sp_Disk_check_block A)) := fn_D F5 sc_Disk_check_block ⟨rfl, rfl, rfl, rfl, rfl, rfl, rfl, rfl, rfl⟩ ⟨(fns_cons g4 (by decide) fns_nil), con_nil, (nob_cons y0 nob_nil), (all_cons ⟨clDisk, naDisk_kept_lying⟩ all_nil), all_nil, all_nil, (all_cons exNoBlock all_nil), all_nil, all_nil, all_nil, all_nil, all_nil⟩ k_Disk_check_block v_Disk_check_block
  have g5 : MthAt l.prog w K base mg 3 ⟨"check_block", A.Disk, sp_Disk_check_block A⟩ := ⟨clDisk, f5, _, ["self", "block"], ⟨a5, i5, k5⟩, (F5.binds (ps := ["self", "block"]) fun _ _ _ _ _ _ us hl => match us, hl with | [_, _], _ => rfl), h5⟩
  have F6 := fun_mk (st := (inClass (top 22) 12)) l6 c6 k6
  have h6 : FnOk l.prog w K mg base (L2.CX l.prog w) 4 f6 _ ["self", "block"] (toSp K (sp_Disk_lying A)) := fn_D F6 sc_Disk_lying ⟨rfl, rfl, rfl, rfl, rfl, rfl, rfl, rfl, rfl⟩ ⟨fns_nil, con_nil, nob_nil, (all_cons ⟨clDisk, naDisk_kept_lying⟩ all_nil), (all_cons (g5.mono (by decide)) all_nil), all_nil, all_nil, all_nil, all_nil, all_nil, all_nil, all_nil⟩ k_Disk_lying v_Disk_lying
  have g6 : MthAt l.prog w K base mg 4 ⟨"lying", A.Disk, sp_Disk_lying A⟩ := ⟨clDisk, f6, _, ["self", "block"], ⟨a6, i6, k6⟩, (F6.binds (ps := ["self", "block"]) fun _ _ _ _ _ _ us hl => match us, hl with | [_, _], _ => rfl), h6⟩
  have F7 := fun_mk (st := (inClass (top 22) 4)) l7 c7 k7
  have h7 : FnOk l.prog w K mg base (L2.CX l.prog w) 4 f7 _ ["self", "block"] (toSp K (sp_Disk_read A)) := fn_D F7 sc_Disk_read ⟨rfl, rfl, rfl, rfl, rfl, rfl, rfl, rfl, rfl⟩ ⟨fns_nil, con_nil, nob_nil, (all_cons ⟨clDisk, naDisk_kept_lying⟩ (all_cons ⟨clDisk, naDisk_kept_waiting⟩ all_nil)), (all_cons (g5.mono (by decide)) all_nil), all_nil, all_nil, all_nil, all_nil, all_nil, all_nil, all_nil⟩ k_Disk_read v_Disk_read
  have g7 : MthAt l.prog w K base mg 4 ⟨"read", A.Disk, sp_Disk_read A⟩ := ⟨clDisk, f7, _, ["self", "block"], ⟨a7, i7, k7⟩, (F7.binds (ps := ["self", "block"]) fun _ _ _ _ _ _ us hl => match us, hl with | [_, _], _ => rfl), h7⟩
  have F8 := fun_mk (st := (inClass (top 22) 11)) l8 c8 k8
  have h8 : FnOk l.prog w K mg base (L2.CX l.prog w) 1 f8 _ ["self"] (toSp K (sp_Disk_waiting A)) := fn_D F8 sc_Disk_waiting ⟨rfl, rfl, rfl, rfl, rfl, rfl, rfl, rfl, rfl⟩ ⟨fns_nil, con_nil, (nob_cons y0 nob_nil), (all_cons ⟨clDisk, naDisk_kept_waiting⟩ all_nil), all_nil, all_nil, all_nil, all_nil, all_nil, all_nil, all_nil, all_nil⟩ k_Disk_waiting v_Disk_waiting
  have g8 : MthAt l.prog w K base mg 1 ⟨"waiting", A.Disk, sp_Disk_waiting A⟩ := ⟨clDisk, f8, _, ["self"], ⟨a8, i8, k8⟩, (F8.binds (ps := ["self"]) fun _ _ _ _ _ _ us hl => match us, hl with | [_], _ => rfl), h8⟩
  have F9 := fun_mk (st := (inClass (top 22) 13)) l9 c9 k9
  have h9 : FnOk l.prog w K mg base (L2.CX l.prog w) 1 f9 _ ["self"] (toSp K (sp_Disk_reached A)) := fn_D F9 sc_Disk_reached ⟨rfl, rfl, rfl, rfl, rfl, rfl, rfl, rfl, rfl⟩ ⟨fns_nil, con_nil, nob_nil, (all_cons ⟨clDisk, naDisk_kept_reached⟩ all_nil), all_nil, all_nil, all_nil, all_nil, all_nil, all_nil, all_nil, all_nil⟩ k_Disk_reached v_Disk_reached
  have g9 : MthAt l.prog w K base mg 1 ⟨"reached", A.Disk, sp_Disk_reached A⟩ := ⟨clDisk, f9, _, ["self"], ⟨a9, i9, k9⟩, (F9.binds (ps := ["self"]) fun _ _ _ _ _ _ us hl => match us, hl with | [_], _ => rfl), h9⟩
  have F10 := fun_mk (st := (inClass (top 22) 1)) l10 c10 k10
  have h10 : FnOk l.prog w K mg base (L2.CX l.prog w) 1 f10 _ ["self"] (toSp K (sp_Disk_blocks A)) := fn_D F10 sc_Disk_blocks ⟨rfl, rfl, rfl, rfl, rfl, rfl, rfl, rfl, rfl⟩ ⟨fns_nil, con_nil, (nob_cons y0 nob_nil), (all_cons ⟨clDisk, naDisk_kept_lying⟩ all_nil), all_nil, all_nil, all_nil, all_nil, all_nil, all_nil, all_nil, all_nil⟩ k_Disk_blocks v_Disk_blocks
  have g10 : MthAt l.prog w K base mg 1 ⟨"blocks", A.Disk, sp_Disk_blocks A⟩ := ⟨clDisk, f10, _, ["self"], ⟨a10, i10, k10⟩, (F10.binds (ps := ["self"]) fun _ _ _ _ _ _ us hl => match us, hl with | [_], _ => rfl), h10⟩
  have F11 := fun_mk (st := (top 33)) l11 c11 k11
  have h11 : FnOk l.prog w K mg base (L2.CX l.prog w) 5 f11 _ ["disk", "book", "some"] (toSp K (sp_law_shows A)) := fn_Dd F11 sc_law_shows ⟨rfl, rfl, rfl, rfl, rfl, rfl, rfl, rfl, rfl⟩ ⟨fns_nil, con_nil, (nob_cons y5 (nob_cons y0 nob_nil)), all_nil, (all_cons (g6.mono (by decide)) (all_cons (g7.mono (by decide)) (all_cons (g8.mono (by decide)) (all_cons (g9.mono (by decide)) (all_cons (g10.mono (by decide)) all_nil))))), all_nil, all_nil, all_nil, all_nil, all_nil, all_nil, all_nil⟩ k_law_shows v_law_shows
  have g11 : FnAt l.prog w K mg base 5 ("_law_shows", sp_law_shows A) := ⟨f11, _, ["disk", "book", "some"], PySem.W.mg_of X G a11, k11, (F11.binds (ps := ["disk", "book", "some"]) fun _ _ _ _ _ _ us hl => match us, hl with | [_, _, _], _ => rfl), h11⟩
  have F12 := fun_mk (st := (top 26)) l12 c12 k12
  have h12 : FnOk l.prog w K mg base (L2.CX l.prog w) 2 f12 _ ["hand", "some"] (toSp K (sp_law_any)) := fn_D F12 sc_law_any ⟨rfl, rfl, rfl, rfl, rfl, rfl, rfl, rfl, rfl⟩ ⟨(fns_cons g1 (by decide) fns_nil), con_nil, (nob_cons y0 nob_nil), all_nil, all_nil, all_nil, all_nil, all_nil, all_nil, all_nil, all_nil, all_nil⟩ k_law_any v_law_any
  have g12 : FnAt l.prog w K mg base 2 ("_law_any", sp_law_any) := ⟨f12, _, ["hand", "some"], PySem.W.mg_of X G a12, k12, (F12.binds (ps := ["hand", "some"]) fun _ _ _ _ _ _ us hl => match us, hl with | [_, _], _ => rfl), h12⟩
  have F13 := fun_mk (st := (top 27)) l13 c13 k13
  have h13 : FnOk l.prog w K mg base (L2.CX l.prog w) 3 f13 _ ["hand"] (toSp K (sp_law_content)) := fn_D F13 sc_law_content ⟨rfl, rfl, rfl, rfl, rfl, rfl, rfl, rfl, rfl⟩ ⟨(fns_cons g12 (by decide) (fns_cons g1 (by decide) fns_nil)), con_nil, (nob_cons y6 (nob_cons y7 nob_nil)), all_nil, all_nil, all_nil, all_nil, all_nil, all_nil, all_nil, all_nil, all_nil⟩ k_law_content v_law_content
  have g13 : FnAt l.prog w K mg base 3 ("_law_content", sp_law_content) := ⟨f13, _, ["hand"], PySem.W.mg_of X G a13, k13, (F13.binds (ps := ["hand"]) fun _ _ _ _ _ _ us hl => match us, hl with | [_], _ => rfl), h13⟩
  have F14 := fun_mk (st := (top 29)) l14 c14 k14
  have h14 : FnOk l.prog w K mg base (L2.CX l.prog w) 1 f14 _ ["book", "block", "content"] (toSp K (sp_law_wrote)) := fn_D F14 sc_law_wrote ⟨rfl, rfl, rfl, rfl, rfl, rfl, rfl, rfl, rfl⟩ ⟨fns_nil, con_nil, nob_nil, all_nil, all_nil, all_nil, all_nil, all_nil, all_nil, all_nil, all_nil, all_nil⟩ k_law_wrote v_law_wrote
  have g14 : FnAt l.prog w K mg base 1 ("_law_wrote", sp_law_wrote) := ⟨f14, _, ["book", "block", "content"], PySem.W.mg_of X G a14, k14, (F14.binds (ps := ["book", "block", "content"]) fun _ _ _ _ _ _ us hl => match us, hl with | [_, _, _], _ => rfl), h14⟩
  have F15 := fun_mk (st := (top 30)) l15 c15 k15
  have h15 : FnOk l.prog w K mg base (L2.CX l.prog w) 1 f15 _ ["book", "block"] (toSp K (sp_law_reached)) := fn_D F15 sc_law_reached ⟨rfl, rfl, rfl, rfl, rfl, rfl, rfl, rfl, rfl⟩ ⟨fns_nil, con_nil, (nob_cons y0 nob_nil), all_nil, all_nil, all_nil, all_nil, all_nil, all_nil, all_nil, all_nil, all_nil⟩ k_law_reached v_law_reached
  have g15 : FnAt l.prog w K mg base 1 ("_law_reached", sp_law_reached) := ⟨f15, _, ["book", "block"], PySem.W.mg_of X G a15, k15, (F15.binds (ps := ["book", "block"]) fun _ _ _ _ _ _ us hl => match us, hl with | [_, _], _ => rfl), h15⟩
  have F16 := fun_mk (st := (top 31)) l16 c16 k16
  have h16 : FnOk l.prog w K mg base (L2.CX l.prog w) 2 f16 _ ["book", "lot"] (toSp K (sp_law_forced)) := fn_D F16 sc_law_forced ⟨rfl, rfl, rfl, rfl, rfl, rfl, rfl, rfl, rfl⟩ ⟨(fns_cons g15 (by decide) fns_nil), con_nil, nob_nil, all_nil, all_nil, all_nil, all_nil, all_nil, all_nil, all_nil, all_nil, all_nil⟩ k_law_forced v_law_forced
  have g16 : FnAt l.prog w K mg base 2 ("_law_forced", sp_law_forced) := ⟨f16, _, ["book", "lot"], PySem.W.mg_of X G a16, k16, (F16.binds (ps := ["book", "lot"]) fun _ _ _ _ _ _ us hl => match us, hl with | [_, _], _ => rfl), h16⟩
  have F17 := fun_mk (st := (top 32)) l17 c17 k17
  have h17 : FnOk l.prog w K mg base (L2.CX l.prog w) 1 f17 _ ["book"] (toSp K (sp_law_cut)) := fn_D F17 sc_law_cut ⟨rfl, rfl, rfl, rfl, rfl, rfl, rfl, rfl, rfl⟩ ⟨fns_nil, con_nil, nob_nil, all_nil, all_nil, all_nil, all_nil, all_nil, all_nil, all_nil, all_nil, all_nil⟩ k_law_cut v_law_cut
  have g17 : FnAt l.prog w K mg base 1 ("_law_cut", sp_law_cut) := ⟨f17, _, ["book"], PySem.W.mg_of X G a17, k17, (F17.binds (ps := ["book"]) fun _ _ _ _ _ _ us hl => match us, hl with | [_], _ => rfl), h17⟩
  have F18 := fun_mk (st := (top 20)) l18 c18 k18
  have h18 : FnOk l.prog w K mg base (L2.CX l.prog w) 2 f18 _ ["thing"] (toSp K (sp_is_item)) := fn_D F18 sc_is_item ⟨rfl, rfl, rfl, rfl, rfl, rfl, rfl, rfl, rfl⟩ ⟨(fns_cons g3 (by decide) fns_nil), (con_int m0 (con_str m1 (con_int m2 con_nil))), (nob_cons y3 (nob_cons y8 (nob_cons y9 (nob_cons y0 nob_nil)))), all_nil, all_nil, all_nil, all_nil, all_nil, all_nil, all_nil, all_nil, all_nil⟩ k_is_item v_is_item
  have g18 : FnAt l.prog w K mg base 2 ("is_item", sp_is_item) := ⟨f18, _, ["thing"], PySem.W.mg_of X G a18, k18, (F18.binds (ps := ["thing"]) fun _ _ _ _ _ _ us hl => match us, hl with | [_], _ => rfl), h18⟩
  have F19 := fun_mk (st := (top 21)) l19 c19 k19
  have h19 : FnOk l.prog w K mg base (L2.CX l.prog w) 3 f19 _ ["thing", "most"] (toSp K (sp_are_items)) := fn_D F19 sc_are_items ⟨rfl, rfl, rfl, rfl, rfl, rfl, rfl, rfl, rfl⟩ ⟨(fns_cons g18 (by decide) fns_nil), con_nil, (nob_cons y9 (nob_cons y0 (nob_cons y3 (nob_cons y6 nob_nil)))), all_nil, all_nil, all_nil, all_nil, all_nil, all_nil, all_nil, all_nil, all_nil⟩ k_are_items v_are_items
  have g19 : FnAt l.prog w K mg base 3 ("are_items", sp_are_items) := ⟨f19, _, ["thing", "most"], PySem.W.mg_of X G a19, k19, (F19.binds (ps := ["thing", "most"]) fun _ _ _ _ _ _ us hl => match us, hl with | [_, _], _ => rfl), h19⟩
  have F20 := fun_mk (st := (inClass (top 22) 3)) l20 c20 k20
  have h20 : FnOk l.prog w K mg base (L2.CX l.prog w) 4 f20 _ ["self", "block", "content"] (toSp K (sp_Disk_write A)) := fn_D F20 sc_Disk_write ⟨rfl, rfl, rfl, rfl, rfl, rfl, rfl, rfl, rfl⟩ ⟨(fns_cons g19 (by decide) fns_nil), (con_int m3 con_nil), nob_nil, (all_cons ⟨clDisk, naDisk_kept_waiting⟩ all_nil), (all_cons (g5.mono (by decide)) all_nil), all_nil, (all_cons exNoContent all_nil), all_nil, all_nil, all_nil, all_nil, all_nil⟩ k_Disk_write v_Disk_write
  have g20 : MthAt l.prog w K base mg 4 ⟨"write", A.Disk, sp_Disk_write A⟩ := ⟨clDisk, f20, _, ["self", "block", "content"], ⟨a20, i20, k20⟩, (F20.binds (ps := ["self", "block", "content"]) fun _ _ _ _ _ _ us hl => match us, hl with | [_, _, _], _ => rfl), h20⟩
  have F21 := fun_mk (st := (inClass (top 22) 5)) l21 c21 k21
  have h21 : FnOk l.prog w K mg base (L2.CX l.prog w) 1 f21 _ ["self", "block"] (toSp K (sp_Disk_reach_one A)) := fn_D F21 sc_Disk_reach_one ⟨rfl, rfl, rfl, rfl, rfl, rfl, rfl, rfl, rfl⟩ ⟨fns_nil, con_nil, (nob_cons y0 nob_nil), (all_cons ⟨clDisk, naDisk_kept_waiting⟩ (all_cons ⟨clDisk, naDisk_kept_reached⟩ (all_cons ⟨clDisk, naDisk_kept_lying⟩ (all_cons ⟨clDisk, naDisk_kept_power⟩ all_nil)))), all_nil, all_nil, (all_cons exStopped all_nil), all_nil, all_nil, all_nil, all_nil, all_nil⟩ k_Disk_reach_one v_Disk_reach_one
  have g21 : MthAt l.prog w K base mg 1 ⟨"reach_one", A.Disk, sp_Disk_reach_one A⟩ := ⟨clDisk, f21, _, ["self", "block"], ⟨a21, i21, k21⟩, (F21.binds (ps := ["self", "block"]) fun _ _ _ _ _ _ us hl => match us, hl with | [_, _], _ => rfl), h21⟩
  have F22 := fun_mk (st := (inClass (top 22) 6)) l22 c22 k22
  have h22 : FnOk l.prog w K mg base (L2.CX l.prog w) 4 f22 _ ["self", "block"] (toSp K (sp_Disk_reach A)) := fn_D F22 sc_Disk_reach ⟨rfl, rfl, rfl, rfl, rfl, rfl, rfl, rfl, rfl⟩ ⟨fns_nil, con_nil, nob_nil, (all_cons ⟨clDisk, naDisk_kept_waiting⟩ all_nil), (all_cons (g21.mono (by decide)) (all_cons (g5.mono (by decide)) all_nil)), all_nil, (all_cons exNothingWaits all_nil), all_nil, all_nil, all_nil, all_nil, all_nil⟩ k_Disk_reach v_Disk_reach
  have g22 : MthAt l.prog w K base mg 4 ⟨"reach", A.Disk, sp_Disk_reach A⟩ := ⟨clDisk, f22, _, ["self", "block"], ⟨a22, i22, k22⟩, (F22.binds (ps := ["self", "block"]) fun _ _ _ _ _ _ us hl => match us, hl with | [_, _], _ => rfl), h22⟩
  have F23 := fun_mk (st := (top 3)) l23 c23 k23
  have h23 : FnOk l.prog w K mg base (L2.CX l.prog w) 3 f23 _ ["thing", "many"] (toSp K (sp_is_lot)) := fn_D F23 sc_is_lot ⟨rfl, rfl, rfl, rfl, rfl, rfl, rfl, rfl, rfl⟩ ⟨(fns_cons g4 (by decide) fns_nil), con_nil, (nob_cons y3 (nob_cons y6 nob_nil)), all_nil, all_nil, all_nil, all_nil, all_nil, all_nil, all_nil, all_nil, all_nil⟩ k_is_lot v_is_lot
  have g23 : FnAt l.prog w K mg base 3 ("is_lot", sp_is_lot) := ⟨f23, _, ["thing", "many"], PySem.W.mg_of X G a23, k23, (F23.binds (ps := ["thing", "many"]) fun _ _ _ _ _ _ us hl => match us, hl with | [_, _], _ => rfl), h23⟩
  have F24 := fun_mk (st := (inClass (top 22) 7)) l24 c24 k24
  have h24 : FnOk l.prog w K mg base (L2.CX l.prog w) 4 f24 _ ["self", "lot"] (toSp K (sp_Disk_force A)) := fn_D F24 sc_Disk_force ⟨rfl, rfl, rfl, rfl, rfl, rfl, rfl, rfl, rfl⟩ ⟨(fns_cons g23 (by decide) fns_nil), con_nil, (nob_cons y0 nob_nil), (all_cons ⟨clDisk, naDisk_kept_waiting⟩ (all_cons ⟨clDisk, naDisk_kept_lying⟩ all_nil)), (all_cons (g21.mono (by decide)) all_nil), all_nil, (all_cons exNoBlock all_nil), all_nil, all_nil, all_nil, all_nil, all_nil⟩ k_Disk_force v_Disk_force
  have g24 : MthAt l.prog w K base mg 4 ⟨"force", A.Disk, sp_Disk_force A⟩ := ⟨clDisk, f24, _, ["self", "lot"], ⟨a24, i24, k24⟩, (F24.binds (ps := ["self", "lot"]) fun _ _ _ _ _ _ us hl => match us, hl with | [_, _], _ => rfl), h24⟩
  have F25 := fun_mk (st := (inClass (top 22) 8)) l25 c25 k25
  have h25 : FnOk l.prog w K mg base (L2.CX l.prog w) 5 f25 _ ["self"] (toSp K (sp_Disk_calm A)) := fn_D F25 sc_Disk_calm ⟨rfl, rfl, rfl, rfl, rfl, rfl, rfl, rfl, rfl⟩ ⟨fns_nil, con_nil, (nob_cons y6 (nob_cons y10 nob_nil)), (all_cons ⟨clDisk, naDisk_kept_waiting⟩ all_nil), (all_cons (g24.mono (by decide)) all_nil), all_nil, all_nil, all_nil, all_nil, all_nil, all_nil, all_nil⟩ k_Disk_calm v_Disk_calm
  have g25 : MthAt l.prog w K base mg 5 ⟨"calm", A.Disk, sp_Disk_calm A⟩ := ⟨clDisk, f25, _, ["self"], ⟨a25, i25, k25⟩, (F25.binds (ps := ["self"]) fun _ _ _ _ _ _ us hl => match us, hl with | [_], _ => rfl), h25⟩
  have F26 := fun_mk (st := (inClass (top 22) 9)) l26 c26 k26
  have h26 : FnOk l.prog w K mg base (L2.CX l.prog w) 3 f26 _ ["self", "many"] (toSp K (sp_Disk_power A)) := fn_D F26 sc_Disk_power ⟨rfl, rfl, rfl, rfl, rfl, rfl, rfl, rfl, rfl⟩ ⟨(fns_cons g4 (by decide) fns_nil), (con_int m4 con_nil), nob_nil, (all_cons ⟨clDisk, naDisk_kept_power⟩ all_nil), all_nil, all_nil, (all_cons exNoNumber all_nil), all_nil, all_nil, all_nil, all_nil, all_nil⟩ k_Disk_power v_Disk_power
  have g26 : MthAt l.prog w K base mg 3 ⟨"power", A.Disk, sp_Disk_power A⟩ := ⟨clDisk, f26, _, ["self", "many"], ⟨a26, i26, k26⟩, (F26.binds (ps := ["self", "many"]) fun _ _ _ _ _ _ us hl => match us, hl with | [_, _], _ => rfl), h26⟩
  have F27 := fun_mk (st := (inClass (top 22) 10)) l27 c27 k27
  have h27 : FnOk l.prog w K mg base (L2.CX l.prog w) 1 f27 _ ["self"] (toSp K (sp_Disk_cut A)) := fn_D F27 sc_Disk_cut ⟨rfl, rfl, rfl, rfl, rfl, rfl, rfl, rfl, rfl⟩ ⟨fns_nil, con_nil, nob_nil, (all_cons ⟨clDisk, naDisk_kept_power⟩ (all_cons ⟨clDisk, naDisk_kept_waiting⟩ all_nil)), all_nil, all_nil, all_nil, all_nil, all_nil, all_nil, all_nil, all_nil⟩ k_Disk_cut v_Disk_cut
  have g27 : MthAt l.prog w K base mg 1 ⟨"cut", A.Disk, sp_Disk_cut A⟩ := ⟨clDisk, f27, _, ["self"], ⟨a27, i27, k27⟩, (F27.binds (ps := ["self"]) fun _ _ _ _ _ _ us hl => match us, hl with | [_], _ => rfl), h27⟩
  have F28 := fun_mk (st := (top 34)) l28 c28 k28
  have L28 : ∀ (tab : Addr) (qq : Str), LamAt l.prog w K mg base 1 ⟨"_law_word", tab, qq, lsp_law_word A⟩ := fun tab qq => act_at (n := n_law_word) (a := "call") F28 (PySem.W.mg_of X G a28) (F28.binds (ps := ["call"]) fun _ _ _ _ _ _ us hl => match us, hl with | [_], _ => rfl) sc_law_word rfl (by decide +kernel) (by decide +kernel) (fun _ => ⟨rfl, rfl, rfl, rfl, rfl, rfl, rfl, rfl, rfl⟩) rfl rfl ⟨fns_nil, con_nil, (nob_cons y3 (nob_cons y11 nob_nil)), all_nil, all_nil, all_nil, (all_cons exStopped (all_cons exNothingWaits all_nil)), (all_cons (Z := fun p : Addr × Addr × Bool => PySem.W.exmOne K (.ref p.1) (.ref p.2.1) = some p.2.2) (a := (A.Stopped, A.Stopped, true)) (PySem.W.exm_ref bXStopped iXStopped tXStopped sXStopped_Stopped) (all_cons (Z := fun p : Addr × Addr × Bool => PySem.W.exmOne K (.ref p.1) (.ref p.2.1) = some p.2.2) (a := (A.NothingWaits, A.Stopped, false)) (PySem.W.exm_ref bXStopped iXStopped tXStopped sXNothingWaits_Stopped) (all_cons (Z := fun p : Addr × Addr × Bool => PySem.W.exmOne K (.ref p.1) (.ref p.2.1) = some p.2.2) (a := (A.NothingWaits, A.NothingWaits, true)) (PySem.W.exm_ref bXNothingWaits iXNothingWaits tXNothingWaits sXNothingWaits_NothingWaits) all_nil))), all_nil, (all_cons (.inr ⟨_, rfl, y11, by decide +kernel⟩) (all_cons (.inl ⟨_, rfl, exStoreError.g⟩) all_nil)), (all_cons (Z := fun p : Addr × Nat × Bool => ExcC K p.1 ∧ ∃ q, ([("ValueError", .type "ValueError"), ("StoreError", .ref A.StoreError)] : List (Str × Value))[p.2.1]? = some q ∧ PySem.W.kitOne K (.ref p.1) q.2 = some p.2.2) (a := (A.Stopped, 1, true)) ⟨xcStopped, _, rfl, (kit_sub eKStopped_StoreError iXStoreError tXStoreError)⟩ (all_cons (Z := fun p : Addr × Nat × Bool => ExcC K p.1 ∧ ∃ q, ([("ValueError", .type "ValueError"), ("StoreError", .ref A.StoreError)] : List (Str × Value))[p.2.1]? = some q ∧ PySem.W.kitOne K (.ref p.1) q.2 = some p.2.2) (a := (A.Stopped, 0, true)) ⟨xcStopped, _, rfl, (kit_subT eKStopped_ValueError (by decide +kernel))⟩ (all_cons (Z := fun p : Addr × Nat × Bool => ExcC K p.1 ∧ ∃ q, ([("ValueError", .type "ValueError"), ("StoreError", .ref A.StoreError)] : List (Str × Value))[p.2.1]? = some q ∧ PySem.W.kitOne K (.ref p.1) q.2 = some p.2.2) (a := (A.NothingWaits, 1, true)) ⟨xcNothingWaits, _, rfl, (kit_sub eKNothingWaits_StoreError iXStoreError tXStoreError)⟩ (all_cons (Z := fun p : Addr × Nat × Bool => ExcC K p.1 ∧ ∃ q, ([("ValueError", .type "ValueError"), ("StoreError", .ref A.StoreError)] : List (Str × Value))[p.2.1]? = some q ∧ PySem.W.kitOne K (.ref p.1) q.2 = some p.2.2) (a := (A.NothingWaits, 0, true)) ⟨xcNothingWaits, _, rfl, (kit_subT eKNothingWaits_ValueError (by decide +kernel))⟩ all_nil)))), all_nil⟩ k_law_word v_law_word
  have F29 := fun_mk (st := (top 35)) l29 c29 k29
  have h29 : FnOk l.prog w K mg base (L2.CX l.prog w) 8 f29 _ ["hand", "disk", "book", "some"] (toSp K (sp_law_deed A)) := fn_D F29 sc_law_deed ⟨rfl, rfl, rfl, rfl, rfl, rfl, rfl, rfl, rfl⟩ ⟨(fns_cons g12 (by decide) (fns_cons g1 (by decide) (fns_cons g13 (by decide) (fns_cons g14 (by decide) (fns_cons g15 (by decide) (fns_cons g16 (by decide) (fns_cons g17 (by decide) (fns_cons g11 (by decide) fns_nil)))))))), con_nil, (nob_cons y6 (nob_cons y10 (nob_cons y12 (nob_cons y7 nob_nil)))), all_nil, (all_cons (g20.mono (by decide)) (all_cons (g22.mono (by decide)) (all_cons (g24.mono (by decide)) (all_cons (g25.mono (by decide)) (all_cons (g26.mono (by decide)) (all_cons (g27.mono (by decide)) all_nil)))))), all_nil, all_nil, all_nil, all_nil, all_nil, all_nil, all_nil⟩ k_law_deed v_law_deed (all_cons ⟨rfl, ⟨_, tab_code a29 l29 tb29, TB⟩, 5, by decide, ⟨(fns_cons g12 (by decide) (fns_cons g1 (by decide) (fns_cons g13 (by decide) (fns_cons g14 (by decide) (fns_cons g15 (by decide) (fns_cons g16 (by decide) (fns_cons g17 (by decide) (fns_cons g11 (by decide) fns_nil)))))))), con_nil, (nob_cons y6 (nob_cons y10 (nob_cons y12 (nob_cons y7 nob_nil)))), all_nil, (all_cons (g20.mono (by decide)) (all_cons (g22.mono (by decide)) (all_cons (g24.mono (by decide)) (all_cons (g25.mono (by decide)) (all_cons (g26.mono (by decide)) (all_cons (g27.mono (by decide)) all_nil)))))), all_nil, all_nil, all_nil, all_nil, all_nil, all_nil, all_nil⟩, (L28 _ _).mono (by decide)⟩ all_nil)
  have g29 : FnAt l.prog w K mg base 8 ("_law_deed", sp_law_deed A) := ⟨f29, _, ["hand", "disk", "book", "some"], PySem.W.mg_of X G a29, k29, (F29.binds (ps := ["hand", "disk", "book", "some"]) fun _ _ _ _ _ _ us hl => match us, hl with | [_, _, _, _], _ => rfl), h29⟩
  have F30 := fun_mk (st := (inClass (top 22) 0)) l30 c30 k30
  have h30 : FnOk l.prog w K mg base (L2.CX l.prog w) 3 f30 _ ["self", "blocks"] (toSp K (sp_Disk___init__ A)) := fn_D F30 sc_Disk___init__ ⟨rfl, rfl, rfl, rfl, rfl, rfl, rfl, rfl, rfl⟩ ⟨(fns_cons g4 (by decide) fns_nil), (con_int m5 (con_int m6 con_nil)), (nob_cons y7 nob_nil), (all_cons ⟨clDisk, naDisk_kept_reached⟩ (all_cons ⟨clDisk, naDisk_kept_power⟩ (all_cons ⟨clDisk, naDisk_kept_waiting⟩ (all_cons ⟨clDisk, naDisk_kept_lying⟩ all_nil)))), all_nil, all_nil, (all_cons exBadDisk all_nil), all_nil, all_nil, all_nil, all_nil, all_nil⟩ k_Disk___init__ v_Disk___init__
  have n30 : MkAt l.prog w K base mg 4 ⟨"Disk", A.Disk, sp_Disk___init__ A⟩ := ⟨PySem.W.mg_of X G aCDisk, f30, _, ["self", "blocks"], 3, by decide, ⟨mkDisk, a30, i30, kcDisk⟩, (F30.binds (ps := ["self", "blocks"]) fun _ _ _ _ _ _ us hl => match us, hl with | [_, _], _ => rfl), h30⟩
  have F31 := fun_mk (st := (inClass (top 22) 14)) l31 c31 k31
  have h31 : FnOk l.prog w K mg base (L2.CX l.prog w) 5 f31 _ ["self"] (toSp K (sp_Disk_copy A)) := fn_D F31 sc_Disk_copy ⟨rfl, rfl, rfl, rfl, rfl, rfl, rfl, rfl, rfl⟩ ⟨fns_nil, con_nil, (nob_cons y13 (nob_cons y0 nob_nil)), (all_cons ⟨clDisk, naDisk_kept_lying⟩ all_nil), all_nil, (all_cons (n30.mono (by decide)) all_nil), all_nil, all_nil, all_nil, all_nil, all_nil, all_nil⟩ k_Disk_copy v_Disk_copy
  have g31 : MthAt l.prog w K base mg 5 ⟨"copy", A.Disk, sp_Disk_copy A⟩ := ⟨clDisk, f31, _, ["self"], ⟨a31, i31, k31⟩, (F31.binds (ps := ["self"]) fun _ _ _ _ _ _ us hl => match us, hl with | [_], _ => rfl), h31⟩
  have F32 := fun_mk (st := (top 36)) l32 c32 k32
  have h32 : FnOk l.prog w K mg base (L2.CX l.prog w) 6 f32 _ ["hand", "disk", "book"] (toSp K (sp_law_copied A)) := fn_D F32 sc_law_copied ⟨rfl, rfl, rfl, rfl, rfl, rfl, rfl, rfl, rfl⟩ ⟨(fns_cons g2 (by decide) fns_nil), con_nil, (nob_cons y13 (nob_cons y0 nob_nil)), all_nil, (all_cons (g31.mono (by decide)) all_nil), all_nil, all_nil, all_nil, all_nil, all_nil, all_nil, all_nil⟩ k_law_copied v_law_copied
  have g32 : FnAt l.prog w K mg base 6 ("_law_copied", sp_law_copied A) := ⟨f32, _, ["hand", "disk", "book"], PySem.W.mg_of X G a32, k32, (F32.binds (ps := ["hand", "disk", "book"]) fun _ _ _ _ _ _ us hl => match us, hl with | [_, _, _], _ => rfl), h32⟩
  have F33 := fun_mk (st := (top 37)) l33 c33 k33
  have h33 : FnOk l.prog w K mg base (L2.CX l.prog w) 9 _ _ ["script"] (toSp K (sp_law A)) := fn_D F33 sc_law ⟨rfl, rfl, rfl, rfl, rfl, rfl, rfl, rfl, rfl⟩ ⟨(fns_cons g0 (by decide) (fns_cons g1 (by decide) (fns_cons g2 (by decide) (fns_cons g11 (by decide) (fns_cons g29 (by decide) (fns_cons g32 (by decide) fns_nil)))))), con_nil, (nob_cons y10 (nob_cons y12 (nob_cons y7 (nob_cons y9 (nob_cons y13 nob_nil))))), all_nil, all_nil, (all_cons (n30.mono (by decide)) all_nil), all_nil, all_nil, all_nil, all_nil, all_nil, all_nil⟩ k_law v_law
  exact h33
theorem all_mk {l : PySem.W.OpenLaw} {w : World} {K : PySem.W.Frag} {h : Heap} {mg : Str → Option Value} {fa : Addr} {zDisk zNoBlock zNoContent zStopped zNothingWaits zNoNumber zBadDisk zStoreError zt_law_deed : Addr} (X : K.In h) (G : h.Ns mainGlobals mg) (hfa : mg "law" = some (.ref fa))
  {q : Program} (HT : ∀ (x : Str) (d : DefRec) (c P : Addr), (recsOf q).find? (fun e => e.name == x) = some d → PySem.W.tabIn K x = some (c, P) → PySem.W.CodeHd h c P ∧ h.get? P = some (PySem.W.tabObj #[]))
  (aCDisk : PySem.W.nsIn K mainGlobals "Disk" = some (some (.ref zDisk))) (pgDisk : PySem.W.plainGet K zDisk Str.empty = true) (hdDisk : PySem.W.hasDictIn K zDisk = true) (poDisk : PySem.W.plainOver K zDisk = true) (saDisk : PySem.W.findIn K (.ref zDisk) "__setattr__" = some (some (.builtin "object.__setattr__"))) (mkDisk : PySem.W.makesIn K zDisk = true) (kcDisk : PySem.W.keepIn K (.ref zDisk) = true)
  (naDisk_kept_lying : PySem.W.findIn K (.ref zDisk) "kept_lying" = some none)
  (naDisk_kept_waiting : PySem.W.findIn K (.ref zDisk) "kept_waiting" = some none)
  (naDisk_kept_reached : PySem.W.findIn K (.ref zDisk) "kept_reached" = some none)
  (naDisk_kept_power : PySem.W.findIn K (.ref zDisk) "kept_power" = some none)
  (aXNoBlock : PySem.W.nsIn K mainGlobals "NoBlock" = some (some (.ref zNoBlock))) (xXNoBlock : PySem.W.excIn K zNoBlock [.type "ValueError", .type "Exception", .type "BaseException", .type "object"] "ValueError.__new__" = true) (kXNoBlock : PySem.W.keepIn K (.ref zNoBlock) = true) (bXNoBlock : PySem.W.subIn K (.ref zNoBlock) (.type "BaseException") = some true) (tXNoBlock : PySem.W.typeIn K (.ref zNoBlock) = some (.type "type"))
  (aXNoContent : PySem.W.nsIn K mainGlobals "NoContent" = some (some (.ref zNoContent))) (xXNoContent : PySem.W.excIn K zNoContent [.type "ValueError", .type "Exception", .type "BaseException", .type "object"] "ValueError.__new__" = true) (kXNoContent : PySem.W.keepIn K (.ref zNoContent) = true) (bXNoContent : PySem.W.subIn K (.ref zNoContent) (.type "BaseException") = some true) (tXNoContent : PySem.W.typeIn K (.ref zNoContent) = some (.type "type"))
  (aXStopped : PySem.W.nsIn K mainGlobals "Stopped" = some (some (.ref zStopped))) (xXStopped : PySem.W.excIn K zStopped [.type "ValueError", .type "Exception", .type "BaseException", .type "object"] "ValueError.__new__" = true) (kXStopped : PySem.W.keepIn K (.ref zStopped) = true) (bXStopped : PySem.W.subIn K (.ref zStopped) (.type "BaseException") = some true) (tXStopped : PySem.W.typeIn K (.ref zStopped) = some (.type "type"))
  (aXNothingWaits : PySem.W.nsIn K mainGlobals "NothingWaits" = some (some (.ref zNothingWaits))) (xXNothingWaits : PySem.W.excIn K zNothingWaits [.type "ValueError", .type "Exception", .type "BaseException", .type "object"] "ValueError.__new__" = true) (kXNothingWaits : PySem.W.keepIn K (.ref zNothingWaits) = true) (bXNothingWaits : PySem.W.subIn K (.ref zNothingWaits) (.type "BaseException") = some true) (tXNothingWaits : PySem.W.typeIn K (.ref zNothingWaits) = some (.type "type"))
  (aXNoNumber : PySem.W.nsIn K mainGlobals "NoNumber" = some (some (.ref zNoNumber))) (xXNoNumber : PySem.W.excIn K zNoNumber [.type "ValueError", .type "Exception", .type "BaseException", .type "object"] "ValueError.__new__" = true) (kXNoNumber : PySem.W.keepIn K (.ref zNoNumber) = true) (bXNoNumber : PySem.W.subIn K (.ref zNoNumber) (.type "BaseException") = some true) (tXNoNumber : PySem.W.typeIn K (.ref zNoNumber) = some (.type "type"))
  (aXBadDisk : PySem.W.nsIn K mainGlobals "BadDisk" = some (some (.ref zBadDisk))) (xXBadDisk : PySem.W.excIn K zBadDisk [.type "ValueError", .type "Exception", .type "BaseException", .type "object"] "ValueError.__new__" = true) (kXBadDisk : PySem.W.keepIn K (.ref zBadDisk) = true) (bXBadDisk : PySem.W.subIn K (.ref zBadDisk) (.type "BaseException") = some true) (tXBadDisk : PySem.W.typeIn K (.ref zBadDisk) = some (.type "type"))
  (aXStoreError : PySem.W.nsIn K mainGlobals "StoreError" = some (some (.ref zStoreError))) (xXStoreError : PySem.W.excIn K zStoreError [.type "ValueError", .type "Exception", .type "BaseException", .type "object"] "ValueError.__new__" = true) (kXStoreError : PySem.W.keepIn K (.ref zStoreError) = true) (bXStoreError : PySem.W.subIn K (.ref zStoreError) (.type "BaseException") = some true) (tXStoreError : PySem.W.typeIn K (.ref zStoreError) = some (.type "type"))
  (iXStopped : PySem.W.hasDictIn K zStopped = true)
  (iXNothingWaits : PySem.W.hasDictIn K zNothingWaits = true)
  (iXStoreError : PySem.W.hasDictIn K zStoreError = true)
  (sXStopped_Stopped : PySem.W.subIn K (.ref zStopped) (.ref zStopped) = some true)
  (sXNothingWaits_Stopped : PySem.W.subIn K (.ref zNothingWaits) (.ref zStopped) = some false)
  (sXNothingWaits_NothingWaits : PySem.W.subIn K (.ref zNothingWaits) (.ref zNothingWaits) = some true)
  (eAStopped : PySem.W.findIn K (.ref zStopped) "__getattribute__" = some (some (.builtin "BaseException.__getattribute__"))) (eBStopped : PySem.W.findIn K (.ref zStopped) "__getattr__" = some none) (eCStopped : PySem.W.hasDictIn K zStopped = true) (eDStopped : PySem.W.findIn K (.ref zStopped) "__class__" = some (some (.builtin "object.__class__"))) (eEStopped : PySem.W.specialIn K (.builtin "object.__class__") "__get__" = some (some (.builtin "getset_descriptor.__get__"))) (eFStopped : PySem.W.takesIn K (.builtin "object.__class__") = some true) (eGStopped : PySem.W.mroIn K zStopped (.type "object") = some true)
  (eANothingWaits : PySem.W.findIn K (.ref zNothingWaits) "__getattribute__" = some (some (.builtin "BaseException.__getattribute__"))) (eBNothingWaits : PySem.W.findIn K (.ref zNothingWaits) "__getattr__" = some none) (eCNothingWaits : PySem.W.hasDictIn K zNothingWaits = true) (eDNothingWaits : PySem.W.findIn K (.ref zNothingWaits) "__class__" = some (some (.builtin "object.__class__"))) (eENothingWaits : PySem.W.specialIn K (.builtin "object.__class__") "__get__" = some (some (.builtin "getset_descriptor.__get__"))) (eFNothingWaits : PySem.W.takesIn K (.builtin "object.__class__") = some true) (eGNothingWaits : PySem.W.mroIn K zNothingWaits (.type "object") = some true)
  (eKStopped_StoreError : PySem.W.subIn K (.ref zStopped) (.ref zStoreError) = some true)
  (eKStopped_ValueError : PySem.W.subIn K (.ref zStopped) (.type "ValueError") = some true)
  (eKNothingWaits_StoreError : PySem.W.subIn K (.ref zNothingWaits) (.ref zStoreError) = some true)
  (eKNothingWaits_ValueError : PySem.W.subIn K (.ref zNothingWaits) (.type "ValueError") = some true)
  {f0 : Addr} {od0 an0 : Option Addr} {sl0 : Array (Option Value)} {oc0 kV0 dc0 pm0 cd0 ct0 : Value}
  (a0 : PySem.W.nsIn K mainGlobals "_law_hand" = some (some (.ref f0)))
  (l0 : K.lookup f0 = some ⟨oc0, od0, .func (PySem.W.fnOf "_law_hand" "_law_hand" (defArgs (top 24)) (defBody (top 24)) (defScope (top 24)) .none kV0 dc0 pm0 an0 cd0 ct0), sl0⟩) (c0 : PySem.W.codeIn K cd0 "_law_hand" = true) (k0 : PySem.W.keepIn K (.ref f0) = true)
  {f1 : Addr} {od1 an1 : Option Addr} {sl1 : Array (Option Value)} {oc1 kV1 dc1 pm1 cd1 ct1 : Value}
  (a1 : PySem.W.nsIn K mainGlobals "_law_draw" = some (some (.ref f1)))
  (l1 : K.lookup f1 = some ⟨oc1, od1, .func (PySem.W.fnOf "_law_draw" "_law_draw" (defArgs (top 25)) (defBody (top 25)) (defScope (top 25)) .none kV1 dc1 pm1 an1 cd1 ct1), sl1⟩) (c1 : PySem.W.codeIn K cd1 "_law_draw" = true) (k1 : PySem.W.keepIn K (.ref f1) = true)
  {f2 : Addr} {od2 an2 : Option Addr} {sl2 : Array (Option Value)} {oc2 kV2 dc2 pm2 cd2 ct2 : Value}
  (a2 : PySem.W.nsIn K mainGlobals "_law_book" = some (some (.ref f2)))
  (l2 : K.lookup f2 = some ⟨oc2, od2, .func (PySem.W.fnOf "_law_book" "_law_book" (defArgs (top 28)) (defBody (top 28)) (defScope (top 28)) .none kV2 dc2 pm2 an2 cd2 ct2), sl2⟩) (c2 : PySem.W.codeIn K cd2 "_law_book" = true) (k2 : PySem.W.keepIn K (.ref f2) = true)
  {f3 : Addr} {od3 an3 : Option Addr} {sl3 : Array (Option Value)} {oc3 kV3 dc3 pm3 cd3 ct3 : Value}
  (a3 : PySem.W.nsIn K mainGlobals "is_integer" = some (some (.ref f3)))
  (l3 : K.lookup f3 = some ⟨oc3, od3, .func (PySem.W.fnOf "is_integer" "is_integer" (defArgs (top 1)) (defBody (top 1)) (defScope (top 1)) .none kV3 dc3 pm3 an3 cd3 ct3), sl3⟩) (c3 : PySem.W.codeIn K cd3 "is_integer" = true) (k3 : PySem.W.keepIn K (.ref f3) = true)
  {f4 : Addr} {od4 an4 : Option Addr} {sl4 : Array (Option Value)} {oc4 kV4 dc4 pm4 cd4 ct4 : Value}
  (a4 : PySem.W.nsIn K mainGlobals "is_within" = some (some (.ref f4)))
  (l4 : K.lookup f4 = some ⟨oc4, od4, .func (PySem.W.fnOf "is_within" "is_within" (defArgs (top 2)) (defBody (top 2)) (defScope (top 2)) .none kV4 dc4 pm4 an4 cd4 ct4), sl4⟩) (c4 : PySem.W.codeIn K cd4 "is_within" = true) (k4 : PySem.W.keepIn K (.ref f4) = true)
  {f5 : Addr} {od5 an5 : Option Addr} {sl5 : Array (Option Value)} {oc5 kV5 dc5 pm5 cd5 ct5 : Value}
  (a5 : PySem.W.findIn K (.ref zDisk) "check_block" = some (some (.ref f5))) (i5 : PySem.W.isFn K (.ref f5) = true)
  (l5 : K.lookup f5 = some ⟨oc5, od5, .func (PySem.W.fnOf "check_block" "Disk.check_block" (defArgs (inClass (top 22) 2)) (defBody (inClass (top 22) 2)) (defScope (inClass (top 22) 2)) .none kV5 dc5 pm5 an5 cd5 ct5), sl5⟩) (c5 : PySem.W.codeIn K cd5 "Disk.check_block" = true) (k5 : PySem.W.keepIn K (.ref f5) = true)
  {f6 : Addr} {od6 an6 : Option Addr} {sl6 : Array (Option Value)} {oc6 kV6 dc6 pm6 cd6 ct6 : Value}
  (a6 : PySem.W.findIn K (.ref zDisk) "lying" = some (some (.ref f6))) (i6 : PySem.W.isFn K (.ref f6) = true)
  (l6 : K.lookup f6 = some ⟨oc6, od6, .func (PySem.W.fnOf "lying" "Disk.lying" (defArgs (inClass (top 22) 12)) (defBody (inClass (top 22) 12)) (defScope (inClass (top 22) 12)) .none kV6 dc6 pm6 an6 cd6 ct6), sl6⟩) (c6 : PySem.W.codeIn K cd6 "Disk.lying" = true) (k6 : PySem.W.keepIn K (.ref f6) = true)
  {f7 : Addr} {od7 an7 : Option Addr} {sl7 : Array (Option Value)} {oc7 kV7 dc7 pm7 cd7 ct7 : Value}
  (a7 : PySem.W.findIn K (.ref zDisk) "read" = some (some (.ref f7))) (i7 : PySem.W.isFn K (.ref f7) = true)
  (l7 : K.lookup f7 = some ⟨oc7, od7, .func (PySem.W.fnOf "read" "Disk.read" (defArgs (inClass (top 22) 4)) (defBody (inClass (top 22) 4)) (defScope (inClass (top 22) 4)) .none kV7 dc7 pm7 an7 cd7 ct7), sl7⟩) (c7 : PySem.W.codeIn K cd7 "Disk.read" = true) (k7 : PySem.W.keepIn K (.ref f7) = true)
  {f8 : Addr} {od8 an8 : Option Addr} {sl8 : Array (Option Value)} {oc8 kV8 dc8 pm8 cd8 ct8 : Value}
  (a8 : PySem.W.findIn K (.ref zDisk) "waiting" = some (some (.ref f8))) (i8 : PySem.W.isFn K (.ref f8) = true)
  (l8 : K.lookup f8 = some ⟨oc8, od8, .func (PySem.W.fnOf "waiting" "Disk.waiting" (defArgs (inClass (top 22) 11)) (defBody (inClass (top 22) 11)) (defScope (inClass (top 22) 11)) .none kV8 dc8 pm8 an8 cd8 ct8), sl8⟩) (c8 : PySem.W.codeIn K cd8 "Disk.waiting" = true) (k8 : PySem.W.keepIn K (.ref f8) = true)
  {f9 : Addr} {od9 an9 : Option Addr} {sl9 : Array (Option Value)} {oc9 kV9 dc9 pm9 cd9 ct9 : Value}
  (a9 : PySem.W.findIn K (.ref zDisk) "reached" = some (some (.ref f9))) (i9 : PySem.W.isFn K (.ref f9) = true)
  (l9 : K.lookup f9 = some ⟨oc9, od9, .func (PySem.W.fnOf "reached" "Disk.reached" (defArgs (inClass (top 22) 13)) (defBody (inClass (top 22) 13)) (defScope (inClass (top 22) 13)) .none kV9 dc9 pm9 an9 cd9 ct9), sl9⟩) (c9 : PySem.W.codeIn K cd9 "Disk.reached" = true) (k9 : PySem.W.keepIn K (.ref f9) = true)
  {f10 : Addr} {od10 an10 : Option Addr} {sl10 : Array (Option Value)} {oc10 kV10 dc10 pm10 cd10 ct10 : Value}
  (a10 : PySem.W.findIn K (.ref zDisk) "blocks" = some (some (.ref f10))) (i10 : PySem.W.isFn K (.ref f10) = true)
  (l10 : K.lookup f10 = some ⟨oc10, od10, .func (PySem.W.fnOf "blocks" "Disk.blocks" (defArgs (inClass (top 22) 1)) (defBody (inClass (top 22) 1)) (defScope (inClass (top 22) 1)) .none kV10 dc10 pm10 an10 cd10 ct10), sl10⟩) (c10 : PySem.W.codeIn K cd10 "Disk.blocks" = true) (k10 : PySem.W.keepIn K (.ref f10) = true)
  {f11 : Addr} {od11 an11 : Option Addr} {sl11 : Array (Option Value)} {oc11 kV11 dc11 pm11 cd11 ct11 : Value}
  (a11 : PySem.W.nsIn K mainGlobals "_law_shows" = some (some (.ref f11)))
  (l11 : K.lookup f11 = some ⟨oc11, od11, .func (PySem.W.fnOf "_law_shows" "_law_shows" (defArgs (top 33)) (defBody (top 33)) (defScope (top 33)) .none kV11 dc11 pm11 an11 cd11 ct11), sl11⟩) (c11 : PySem.W.codeIn K cd11 "_law_shows" = true) (k11 : PySem.W.keepIn K (.ref f11) = true)
  {f12 : Addr} {od12 an12 : Option Addr} {sl12 : Array (Option Value)} {oc12 kV12 dc12 pm12 cd12 ct12 : Value}
  (a12 : PySem.W.nsIn K mainGlobals "_law_any" = some (some (.ref f12)))
  (l12 : K.lookup f12 = some ⟨oc12, od12, .func (PySem.W.fnOf "_law_any" "_law_any" (defArgs (top 26)) (defBody (top 26)) (defScope (top 26)) .none kV12 dc12 pm12 an12 cd12 ct12), sl12⟩) (c12 : PySem.W.codeIn K cd12 "_law_any" = true) (k12 : PySem.W.keepIn K (.ref f12) = true)
  {f13 : Addr} {od13 an13 : Option Addr} {sl13 : Array (Option Value)} {oc13 kV13 dc13 pm13 cd13 ct13 : Value}
  (a13 : PySem.W.nsIn K mainGlobals "_law_content" = some (some (.ref f13)))
  (l13 : K.lookup f13 = some ⟨oc13, od13, .func (PySem.W.fnOf "_law_content" "_law_content" (defArgs (top 27)) (defBody (top 27)) (defScope (top 27)) .none kV13 dc13 pm13 an13 cd13 ct13), sl13⟩) (c13 : PySem.W.codeIn K cd13 "_law_content" = true) (k13 : PySem.W.keepIn K (.ref f13) = true)
  {f14 : Addr} {od14 an14 : Option Addr} {sl14 : Array (Option Value)} {oc14 kV14 dc14 pm14 cd14 ct14 : Value}
  (a14 : PySem.W.nsIn K mainGlobals "_law_wrote" = some (some (.ref f14)))
  (l14 : K.lookup f14 = some ⟨oc14, od14, .func (PySem.W.fnOf "_law_wrote" "_law_wrote" (defArgs (top 29)) (defBody (top 29)) (defScope (top 29)) .none kV14 dc14 pm14 an14 cd14 ct14), sl14⟩) (c14 : PySem.W.codeIn K cd14 "_law_wrote" = true) (k14 : PySem.W.keepIn K (.ref f14) = true)
  {f15 : Addr} {od15 an15 : Option Addr} {sl15 : Array (Option Value)} {oc15 kV15 dc15 pm15 cd15 ct15 : Value}
  (a15 : PySem.W.nsIn K mainGlobals "_law_reached" = some (some (.ref f15)))
  (l15 : K.lookup f15 = some ⟨oc15, od15, .func (PySem.W.fnOf "_law_reached" "_law_reached" (defArgs (top 30)) (defBody (top 30)) (defScope (top 30)) .none kV15 dc15 pm15 an15 cd15 ct15), sl15⟩) (c15 : PySem.W.codeIn K cd15 "_law_reached" = true) (k15 : PySem.W.keepIn K (.ref f15) = true)
  {f16 : Addr} {od16 an16 : Option Addr} {sl16 : Array (Option Value)} {oc16 kV16 dc16 pm16 cd16 ct16 : Value}
  (a16 : PySem.W.nsIn K mainGlobals "_law_forced" = some (some (.ref f16)))
  (l16 : K.lookup f16 = some ⟨oc16, od16, .func (PySem.W.fnOf "_law_forced" "_law_forced" (defArgs (top 31)) (defBody (top 31)) (defScope (top 31)) .none kV16 dc16 pm16 an16 cd16 ct16), sl16⟩) (c16 : PySem.W.codeIn K cd16 "_law_forced" = true) (k16 : PySem.W.keepIn K (.ref f16) = true)
  {f17 : Addr} {od17 an17 : Option Addr} {sl17 : Array (Option Value)} {oc17 kV17 dc17 pm17 cd17 ct17 : Value}
  (a17 : PySem.W.nsIn K mainGlobals "_law_cut" = some (some (.ref f17)))
  (l17 : K.lookup f17 = some ⟨oc17, od17, .func (PySem.W.fnOf "_law_cut" "_law_cut" (defArgs (top 32)) (defBody (top 32)) (defScope (top 32)) .none kV17 dc17 pm17 an17 cd17 ct17), sl17⟩) (c17 : PySem.W.codeIn K cd17 "_law_cut" = true) (k17 : PySem.W.keepIn K (.ref f17) = true)
  {f18 : Addr} {od18 an18 : Option Addr} {sl18 : Array (Option Value)} {oc18 kV18 dc18 pm18 cd18 ct18 : Value}
  (a18 : PySem.W.nsIn K mainGlobals "is_item" = some (some (.ref f18)))
  (l18 : K.lookup f18 = some ⟨oc18, od18, .func (PySem.W.fnOf "is_item" "is_item" (defArgs (top 20)) (defBody (top 20)) (defScope (top 20)) .none kV18 dc18 pm18 an18 cd18 ct18), sl18⟩) (c18 : PySem.W.codeIn K cd18 "is_item" = true) (k18 : PySem.W.keepIn K (.ref f18) = true)
  {f19 : Addr} {od19 an19 : Option Addr} {sl19 : Array (Option Value)} {oc19 kV19 dc19 pm19 cd19 ct19 : Value}
  (a19 : PySem.W.nsIn K mainGlobals "are_items" = some (some (.ref f19)))
  (l19 : K.lookup f19 = some ⟨oc19, od19, .func (PySem.W.fnOf "are_items" "are_items" (defArgs (top 21)) (defBody (top 21)) (defScope (top 21)) .none kV19 dc19 pm19 an19 cd19 ct19), sl19⟩) (c19 : PySem.W.codeIn K cd19 "are_items" = true) (k19 : PySem.W.keepIn K (.ref f19) = true)
  {f20 : Addr} {od20 an20 : Option Addr} {sl20 : Array (Option Value)} {oc20 kV20 dc20 pm20 cd20 ct20 : Value}
  (a20 : PySem.W.findIn K (.ref zDisk) "write" = some (some (.ref f20))) (i20 : PySem.W.isFn K (.ref f20) = true)
  (l20 : K.lookup f20 = some ⟨oc20, od20, .func (PySem.W.fnOf "write" "Disk.write" (defArgs (inClass (top 22) 3)) (defBody (inClass (top 22) 3)) (defScope (inClass (top 22) 3)) .none kV20 dc20 pm20 an20 cd20 ct20), sl20⟩) (c20 : PySem.W.codeIn K cd20 "Disk.write" = true) (k20 : PySem.W.keepIn K (.ref f20) = true)
  {f21 : Addr} {od21 an21 : Option Addr} {sl21 : Array (Option Value)} {oc21 kV21 dc21 pm21 cd21 ct21 : Value}
  (a21 : PySem.W.findIn K (.ref zDisk) "reach_one" = some (some (.ref f21))) (i21 : PySem.W.isFn K (.ref f21) = true)
  (l21 : K.lookup f21 = some ⟨oc21, od21, .func (PySem.W.fnOf "reach_one" "Disk.reach_one" (defArgs (inClass (top 22) 5)) (defBody (inClass (top 22) 5)) (defScope (inClass (top 22) 5)) .none kV21 dc21 pm21 an21 cd21 ct21), sl21⟩) (c21 : PySem.W.codeIn K cd21 "Disk.reach_one" = true) (k21 : PySem.W.keepIn K (.ref f21) = true)
  {f22 : Addr} {od22 an22 : Option Addr} {sl22 : Array (Option Value)} {oc22 kV22 dc22 pm22 cd22 ct22 : Value}
  (a22 : PySem.W.findIn K (.ref zDisk) "reach" = some (some (.ref f22))) (i22 : PySem.W.isFn K (.ref f22) = true)
  (l22 : K.lookup f22 = some ⟨oc22, od22, .func (PySem.W.fnOf "reach" "Disk.reach" (defArgs (inClass (top 22) 6)) (defBody (inClass (top 22) 6)) (defScope (inClass (top 22) 6)) .none kV22 dc22 pm22 an22 cd22 ct22), sl22⟩) (c22 : PySem.W.codeIn K cd22 "Disk.reach" = true) (k22 : PySem.W.keepIn K (.ref f22) = true)
  {f23 : Addr} {od23 an23 : Option Addr} {sl23 : Array (Option Value)} {oc23 kV23 dc23 pm23 cd23 ct23 : Value}
  (a23 : PySem.W.nsIn K mainGlobals "is_lot" = some (some (.ref f23)))
  (l23 : K.lookup f23 = some ⟨oc23, od23, .func (PySem.W.fnOf "is_lot" "is_lot" (defArgs (top 3)) (defBody (top 3)) (defScope (top 3)) .none kV23 dc23 pm23 an23 cd23 ct23), sl23⟩) (c23 : PySem.W.codeIn K cd23 "is_lot" = true) (k23 : PySem.W.keepIn K (.ref f23) = true)
  {f24 : Addr} {od24 an24 : Option Addr} {sl24 : Array (Option Value)} {oc24 kV24 dc24 pm24 cd24 ct24 : Value}
  (a24 : PySem.W.findIn K (.ref zDisk) "force" = some (some (.ref f24))) (i24 : PySem.W.isFn K (.ref f24) = true)
  (l24 : K.lookup f24 = some ⟨oc24, od24, .func (PySem.W.fnOf "force" "Disk.force" (defArgs (inClass (top 22) 7)) (defBody (inClass (top 22) 7)) (defScope (inClass (top 22) 7)) .none kV24 dc24 pm24 an24 cd24 ct24), sl24⟩) (c24 : PySem.W.codeIn K cd24 "Disk.force" = true) (k24 : PySem.W.keepIn K (.ref f24) = true)
  {f25 : Addr} {od25 an25 : Option Addr} {sl25 : Array (Option Value)} {oc25 kV25 dc25 pm25 cd25 ct25 : Value}
  (a25 : PySem.W.findIn K (.ref zDisk) "calm" = some (some (.ref f25))) (i25 : PySem.W.isFn K (.ref f25) = true)
  (l25 : K.lookup f25 = some ⟨oc25, od25, .func (PySem.W.fnOf "calm" "Disk.calm" (defArgs (inClass (top 22) 8)) (defBody (inClass (top 22) 8)) (defScope (inClass (top 22) 8)) .none kV25 dc25 pm25 an25 cd25 ct25), sl25⟩) (c25 : PySem.W.codeIn K cd25 "Disk.calm" = true) (k25 : PySem.W.keepIn K (.ref f25) = true)
  {f26 : Addr} {od26 an26 : Option Addr} {sl26 : Array (Option Value)} {oc26 kV26 dc26 pm26 cd26 ct26 : Value}
  (a26 : PySem.W.findIn K (.ref zDisk) "power" = some (some (.ref f26))) (i26 : PySem.W.isFn K (.ref f26) = true)
  (l26 : K.lookup f26 = some ⟨oc26, od26, .func (PySem.W.fnOf "power" "Disk.power" (defArgs (inClass (top 22) 9)) (defBody (inClass (top 22) 9)) (defScope (inClass (top 22) 9)) .none kV26 dc26 pm26 an26 cd26 ct26), sl26⟩) (c26 : PySem.W.codeIn K cd26 "Disk.power" = true) (k26 : PySem.W.keepIn K (.ref f26) = true)
  {f27 : Addr} {od27 an27 : Option Addr} {sl27 : Array (Option Value)} {oc27 kV27 dc27 pm27 cd27 ct27 : Value}
  (a27 : PySem.W.findIn K (.ref zDisk) "cut" = some (some (.ref f27))) (i27 : PySem.W.isFn K (.ref f27) = true)
  (l27 : K.lookup f27 = some ⟨oc27, od27, .func (PySem.W.fnOf "cut" "Disk.cut" (defArgs (inClass (top 22) 10)) (defBody (inClass (top 22) 10)) (defScope (inClass (top 22) 10)) .none kV27 dc27 pm27 an27 cd27 ct27), sl27⟩) (c27 : PySem.W.codeIn K cd27 "Disk.cut" = true) (k27 : PySem.W.keepIn K (.ref f27) = true)
  {f28 : Addr} {od28 an28 : Option Addr} {sl28 : Array (Option Value)} {oc28 kV28 dc28 pm28 cd28 ct28 : Value}
  (a28 : PySem.W.nsIn K mainGlobals "_law_word" = some (some (.ref f28)))
  (l28 : K.lookup f28 = some ⟨oc28, od28, .func (PySem.W.fnOf "_law_word" "_law_word" (defArgs (top 34)) (defBody (top 34)) (defScope (top 34)) .none kV28 dc28 pm28 an28 cd28 ct28), sl28⟩) (c28 : PySem.W.codeIn K cd28 "_law_word" = true) (k28 : PySem.W.keepIn K (.ref f28) = true)
  {f29 cc29 : Addr} {od29 an29 : Option Addr} {sl29 : Array (Option Value)} {oc29 kV29 dc29 pm29 ct29 : Value}
  (a29 : PySem.W.nsIn K mainGlobals "_law_deed" = some (some (.ref f29)))
  (l29 : K.lookup f29 = some ⟨oc29, od29, .func (PySem.W.fnOf "_law_deed" "_law_deed" (defArgs (top 35)) (defBody (top 35)) (defScope (top 35)) .none kV29 dc29 pm29 an29 (.ref cc29) ct29), sl29⟩) (c29 : PySem.W.codeIn K (.ref cc29) "_law_deed" = true) (k29 : PySem.W.keepIn K (.ref f29) = true)
  {f30 : Addr} {od30 an30 : Option Addr} {sl30 : Array (Option Value)} {oc30 kV30 dc30 pm30 cd30 ct30 : Value}
  (a30 : PySem.W.findIn K (.ref zDisk) "__init__" = some (some (.ref f30))) (i30 : PySem.W.isFn K (.ref f30) = true)
  (l30 : K.lookup f30 = some ⟨oc30, od30, .func (PySem.W.fnOf "__init__" "Disk.__init__" (defArgs (inClass (top 22) 0)) (defBody (inClass (top 22) 0)) (defScope (inClass (top 22) 0)) .none kV30 dc30 pm30 an30 cd30 ct30), sl30⟩) (c30 : PySem.W.codeIn K cd30 "Disk.__init__" = true) (k30 : PySem.W.keepIn K (.ref f30) = true)
  {f31 : Addr} {od31 an31 : Option Addr} {sl31 : Array (Option Value)} {oc31 kV31 dc31 pm31 cd31 ct31 : Value}
  (a31 : PySem.W.findIn K (.ref zDisk) "copy" = some (some (.ref f31))) (i31 : PySem.W.isFn K (.ref f31) = true)
  (l31 : K.lookup f31 = some ⟨oc31, od31, .func (PySem.W.fnOf "copy" "Disk.copy" (defArgs (inClass (top 22) 14)) (defBody (inClass (top 22) 14)) (defScope (inClass (top 22) 14)) .none kV31 dc31 pm31 an31 cd31 ct31), sl31⟩) (c31 : PySem.W.codeIn K cd31 "Disk.copy" = true) (k31 : PySem.W.keepIn K (.ref f31) = true)
  {f32 : Addr} {od32 an32 : Option Addr} {sl32 : Array (Option Value)} {oc32 kV32 dc32 pm32 cd32 ct32 : Value}
  (a32 : PySem.W.nsIn K mainGlobals "_law_copied" = some (some (.ref f32)))
  (l32 : K.lookup f32 = some ⟨oc32, od32, .func (PySem.W.fnOf "_law_copied" "_law_copied" (defArgs (top 36)) (defBody (top 36)) (defScope (top 36)) .none kV32 dc32 pm32 an32 cd32 ct32), sl32⟩) (c32 : PySem.W.codeIn K cd32 "_law_copied" = true) (k32 : PySem.W.keepIn K (.ref f32) = true)
  {f33 : Addr} {od33 an33 : Option Addr} {sl33 : Array (Option Value)} {oc33 kV33 dc33 pm33 cd33 ct33 : Value}
  (a33 : PySem.W.nsIn K mainGlobals "law" = some (some (.ref f33)))
  (l33 : K.lookup f33 = some ⟨oc33, od33, .func (PySem.W.fnOf "law" "law" (defArgs (top 37)) (defBody (top 37)) (defScope (top 37)) .none kV33 dc33 pm33 an33 cd33 ct33), sl33⟩) (c33 : PySem.W.codeIn K cd33 "law" = true) (k33 : PySem.W.keepIn K (.ref f33) = true)
  {xo29 : Value} {xd29 : Option Addr} {xv29 : Array Value} {xs29 : Array (Option Value)} (lc29 : K.lookup cc29 = some ⟨xo29, xd29, .fields xv29, xs29⟩) (tv29 : xv29[11]? = some (.ref zt_law_deed)) (nt29 : K.lookup zt_law_deed = none) {dd29 : DefRec} (rd29 : (recsOf q).find? (fun e => e.name == ("_law_deed" : Str)) = some dd29)
  (z0 : PySem.W.nsIn K mainGlobals "len" = some none)
  (z1 : PySem.W.nsIn K mainGlobals "abs" = some none)
  (z2 : PySem.W.nsIn K mainGlobals "int" = some none)
  (z3 : PySem.W.nsIn K mainGlobals "isinstance" = some none)
  (z4 : PySem.W.nsIn K mainGlobals "bool" = some none)
  (z5 : PySem.W.nsIn K mainGlobals "dict" = some none)
  (z6 : PySem.W.nsIn K mainGlobals "tuple" = some none)
  (z7 : PySem.W.nsIn K mainGlobals "range" = some none)
  (z8 : PySem.W.nsIn K mainGlobals "str" = some none)
  (z9 : PySem.W.nsIn K mainGlobals "all" = some none)
  (z10 : PySem.W.nsIn K mainGlobals "sorted" = some none)
  (z11 : PySem.W.nsIn K mainGlobals "ValueError" = some none)
  (z12 : PySem.W.nsIn K mainGlobals "set" = some none)
  (z13 : PySem.W.nsIn K mainGlobals "list" = some none)
  {t0 : Tok} (m0 : mg "MOST_INTEGER" = some (.int 1000000000000000000000000000000 t0))
  {t1 : Tok} (m1 : mg "LETTERS" = some (.str "abcdefghijklmnopqrstuvwxyz" t1))
  {t2 : Tok} (m2 : mg "MOST_LETTERS" = some (.int 12 t2))
  {t3 : Tok} (m3 : mg "MOST_ITEMS" = some (.int 40 t3))
  {t4 : Tok} (m4 : mg "MOST_POWER" = some (.int 1000000 t4))
  {t5 : Tok} (m5 : mg "MOST_BLOCKS" = some (.int 600 t5))
  {t6 : Tok} (m6 : mg "LEAST_BLOCKS" = some (.int 16 t6))
  : ∃ (fd : FuncData) (c P : Addr) (nm : Str) (sp : DSp), PySem.W.CodeHd h c P ∧ h.get? P = some (PySem.W.tabObj #[]) ∧ K.lookup P = none ∧ (∀ (s : Shared) (u : Value), BindsTo s fd ⟨[u], []⟩ [("script", u)]) ∧ (∀ (ns : List Int) (S : Hs), ns.length ≤ 63 → (∀ z ∈ ns, Builtin.Int.intBits z ≤ 1048576) → S P = some (.tab nm) → sp [.lst (ns.map D.int)] S (fun d _ => d = .bl true) X0) ∧ ∀ base : Heap, K.In base → base.Ns mainGlobals mg → LamX.TabB base mg c P → FnOk l.prog w K mg base (L2.CX l.prog w) 9 fa fd ["script"] (toSp K sp) := by
  exact all_mk0 (A := ⟨zDisk, zNoBlock, zNoContent, zStopped, zNothingWaits, zNoNumber, zBadDisk, zStoreError, zt_law_deed⟩) X G hfa HT aCDisk pgDisk hdDisk poDisk saDisk mkDisk kcDisk naDisk_kept_lying naDisk_kept_waiting naDisk_kept_reached naDisk_kept_power aXNoBlock xXNoBlock kXNoBlock bXNoBlock tXNoBlock aXNoContent xXNoContent kXNoContent bXNoContent tXNoContent aXStopped xXStopped kXStopped bXStopped tXStopped aXNothingWaits xXNothingWaits kXNothingWaits bXNothingWaits tXNothingWaits aXNoNumber xXNoNumber kXNoNumber bXNoNumber tXNoNumber aXBadDisk xXBadDisk kXBadDisk bXBadDisk tXBadDisk aXStoreError xXStoreError kXStoreError bXStoreError tXStoreError iXStopped iXNothingWaits iXStoreError sXStopped_Stopped sXNothingWaits_Stopped sXNothingWaits_NothingWaits eAStopped eBStopped eCStopped eDStopped eEStopped eFStopped eGStopped eANothingWaits eBNothingWaits eCNothingWaits eDNothingWaits eENothingWaits eFNothingWaits eGNothingWaits eKStopped_StoreError eKStopped_ValueError eKNothingWaits_StoreError eKNothingWaits_ValueError a0 l0 c0 k0 a1 l1 c1 k1 a2 l2 c2 k2 a3 l3 c3 k3 a4 l4 c4 k4 a5 i5 l5 c5 k5 a6 i6 l6 c6 k6 a7 i7 l7 c7 k7 a8 i8 l8 c8 k8 a9 i9 l9 c9 k9 a10 i10 l10 c10 k10 a11 l11 c11 k11 a12 l12 c12 k12 a13 l13 c13 k13 a14 l14 c14 k14 a15 l15 c15 k15 a16 l16 c16 k16 a17 l17 c17 k17 a18 l18 c18 k18 a19 l19 c19 k19 a20 i20 l20 c20 k20 a21 i21 l21 c21 k21 a22 i22 l22 c22 k22 a23 l23 c23 k23 a24 i24 l24 c24 k24 a25 i25 l25 c25 k25 a26 i26 l26 c26 k26 a27 i27 l27 c27 k27 a28 l28 c28 k28 a29 l29 c29 k29 a30 i30 l30 c30 k30 a31 i31 l31 c31 k31 a32 l32 c32 k32 a33 l33 c33 k33 lc29 tv29 nt29 rd29 z0 z1 z2 z3 z4 z5 z6 z7 z8 z9 z10 z11 z12 z13 m0 m1 m2 m3 m4 m5 m6
end
end W
open PySem PySem.W PyProof.Rows
set_option maxRecDepth 100000 in
set_option maxHeartbeats 0 in
theorem PySem.Challenge.cw_waysinstep_k01_whole_lives_of_disks_holds : PySem.Challenge.rw_waysinstep_k01_whole_lives_of_disks.Holds := by
  w_on; o_law; k_head; (case hw => w_witness2)
  k_fill
  refine Dz.walk_DT (l := PySem.Challenge.rw_waysinstep_k01_whole_lives_of_disks) (n := 63) (k := 9) (x := "script") rfl (by decide) rfl ⟨rfl, by decide, by decide⟩ (fun w h Y => PySem.W.km_in_of Y) ?F
  case F =>
    intro w mg h KX G XP HT fa hmg
    refine' W.all_mk KX G hmg HT ?aCDisk ?pgDisk ?hdDisk ?poDisk ?saDisk ?mkDisk ?kcDisk ?naDisk_kept_lying ?naDisk_kept_waiting ?naDisk_kept_reached ?naDisk_kept_power ?aXNoBlock ?xXNoBlock ?kXNoBlock ?bXNoBlock ?tXNoBlock ?aXNoContent ?xXNoContent ?kXNoContent ?bXNoContent ?tXNoContent ?aXStopped ?xXStopped ?kXStopped ?bXStopped ?tXStopped ?aXNothingWaits ?xXNothingWaits ?kXNothingWaits ?bXNothingWaits ?tXNothingWaits ?aXNoNumber ?xXNoNumber ?kXNoNumber ?bXNoNumber ?tXNoNumber ?aXBadDisk ?xXBadDisk ?kXBadDisk ?bXBadDisk ?tXBadDisk ?aXStoreError ?xXStoreError ?kXStoreError ?bXStoreError ?tXStoreError ?iXStopped ?iXNothingWaits ?iXStoreError ?sXStopped_Stopped ?sXNothingWaits_Stopped ?sXNothingWaits_NothingWaits ?eAStopped ?eBStopped ?eCStopped ?eDStopped ?eEStopped ?eFStopped ?eGStopped ?eANothingWaits ?eBNothingWaits ?eCNothingWaits ?eDNothingWaits ?eENothingWaits ?eFNothingWaits ?eGNothingWaits ?eKStopped_StoreError ?eKStopped_ValueError ?eKNothingWaits_StoreError ?eKNothingWaits_ValueError ?a0 ?l0 ?c0 ?k0 ?a1 ?l1 ?c1 ?k1 ?a2 ?l2 ?c2 ?k2 ?a3 ?l3 ?c3 ?k3 ?a4 ?l4 ?c4 ?k4 ?a5 ?i5 ?l5 ?c5 ?k5 ?a6 ?i6 ?l6 ?c6 ?k6 ?a7 ?i7 ?l7 ?c7 ?k7 ?a8 ?i8 ?l8 ?c8 ?k8 ?a9 ?i9 ?l9 ?c9 ?k9 ?a10 ?i10 ?l10 ?c10 ?k10 ?a11 ?l11 ?c11 ?k11 ?a12 ?l12 ?c12 ?k12 ?a13 ?l13 ?c13 ?k13 ?a14 ?l14 ?c14 ?k14 ?a15 ?l15 ?c15 ?k15 ?a16 ?l16 ?c16 ?k16 ?a17 ?l17 ?c17 ?k17 ?a18 ?l18 ?c18 ?k18 ?a19 ?l19 ?c19 ?k19 ?a20 ?i20 ?l20 ?c20 ?k20 ?a21 ?i21 ?l21 ?c21 ?k21 ?a22 ?i22 ?l22 ?c22 ?k22 ?a23 ?l23 ?c23 ?k23 ?a24 ?i24 ?l24 ?c24 ?k24 ?a25 ?i25 ?l25 ?c25 ?k25 ?a26 ?i26 ?l26 ?c26 ?k26 ?a27 ?i27 ?l27 ?c27 ?k27 ?a28 ?l28 ?c28 ?k28 ?a29 ?l29 ?c29 ?k29 ?a30 ?i30 ?l30 ?c30 ?k30 ?a31 ?i31 ?l31 ?c31 ?k31 ?a32 ?l32 ?c32 ?k32 ?a33 ?l33 ?c33 ?k33 ?lc29 ?tv29 ?nt29 ?rd29 ?z0 ?z1 ?z2 ?z3 ?z4 ?z5 ?z6 ?z7 ?z8 ?z9 ?z10 ?z11 ?z12 ?z13 ?m0 ?m1 ?m2 ?m3 ?m4 ?m5 ?m6
    (case aCDisk => k_is)
    (case pgDisk => k_is)
    (case hdDisk => k_is)
    (case poDisk => k_is)
    (case saDisk => k_is)
    (case mkDisk => k_is)
    (case kcDisk => k_is)
    (case naDisk_kept_lying => k_is)
    (case naDisk_kept_waiting => k_is)
    (case naDisk_kept_reached => k_is)
    (case naDisk_kept_power => k_is)
    (case aXNoBlock => k_is)
    (case xXNoBlock => k_exc)
    (case kXNoBlock => k_is)
    (case bXNoBlock => k_is)
    (case tXNoBlock => k_is)
    (case aXNoContent => k_is)
    (case xXNoContent => k_exc)
    (case kXNoContent => k_is)
    (case bXNoContent => k_is)
    (case tXNoContent => k_is)
    (case aXStopped => k_is)
    (case xXStopped => k_exc)
    (case kXStopped => k_is)
    (case bXStopped => k_is)
    (case tXStopped => k_is)
    (case aXNothingWaits => k_is)
    (case xXNothingWaits => k_exc)
    (case kXNothingWaits => k_is)
    (case bXNothingWaits => k_is)
    (case tXNothingWaits => k_is)
    (case aXNoNumber => k_is)
    (case xXNoNumber => k_exc)
    (case kXNoNumber => k_is)
    (case bXNoNumber => k_is)
    (case tXNoNumber => k_is)
    (case aXBadDisk => k_is)
    (case xXBadDisk => k_exc)
    (case kXBadDisk => k_is)
    (case bXBadDisk => k_is)
    (case tXBadDisk => k_is)
    (case aXStoreError => k_is)
    (case xXStoreError => k_exc)
    (case kXStoreError => k_is)
    (case bXStoreError => k_is)
    (case tXStoreError => k_is)
    (case iXStopped => k_is)
    (case iXNothingWaits => k_is)
    (case iXStoreError => k_is)
    (case sXStopped_Stopped => k_is)
    (case sXNothingWaits_Stopped => k_is)
    (case sXNothingWaits_NothingWaits => k_is)
    (case eAStopped => k_is)
    (case eBStopped => k_is)
    (case eCStopped => k_is)
    (case eDStopped => k_is)
    (case eEStopped => k_is)
    (case eFStopped => k_is)
    (case eGStopped => k_is)
    (case eANothingWaits => k_is)
    (case eBNothingWaits => k_is)
    (case eCNothingWaits => k_is)
    (case eDNothingWaits => k_is)
    (case eENothingWaits => k_is)
    (case eFNothingWaits => k_is)
    (case eGNothingWaits => k_is)
    (case eKStopped_StoreError => k_is)
    (case eKStopped_ValueError => k_is)
    (case eKNothingWaits_StoreError => k_is)
    (case eKNothingWaits_ValueError => k_is)
    (case a0 => k_is)
    (case l0 => k_is)
    (case c0 => k_is)
    (case k0 => k_is)
    (case a1 => k_is)
    (case l1 => k_is)
    (case c1 => k_is)
    (case k1 => k_is)
    (case a2 => k_is)
    (case l2 => k_is)
    (case c2 => k_is)
    (case k2 => k_is)
    (case a3 => k_is)
    (case l3 => k_is)
    (case c3 => k_is)
    (case k3 => k_is)
    (case a4 => k_is)
    (case l4 => k_is)
    (case c4 => k_is)
    (case k4 => k_is)
    (case a5 => k_is)
    (case i5 => k_is)
    (case l5 => k_is)
    (case c5 => k_is)
    (case k5 => k_is)
    (case a6 => k_is)
    (case i6 => k_is)
    (case l6 => k_is)
    (case c6 => k_is)
    (case k6 => k_is)
    (case a7 => k_is)
    (case i7 => k_is)
    (case l7 => k_is)
    (case c7 => k_is)
    (case k7 => k_is)
    (case a8 => k_is)
    (case i8 => k_is)
    (case l8 => k_is)
    (case c8 => k_is)
    (case k8 => k_is)
    (case a9 => k_is)
    (case i9 => k_is)
    (case l9 => k_is)
    (case c9 => k_is)
    (case k9 => k_is)
    (case a10 => k_is)
    (case i10 => k_is)
    (case l10 => k_is)
    (case c10 => k_is)
    (case k10 => k_is)
    (case a11 => k_is)
    (case l11 => k_is)
    (case c11 => k_is)
    (case k11 => k_is)
    (case a12 => k_is)
    (case l12 => k_is)
    (case c12 => k_is)
    (case k12 => k_is)
    (case a13 => k_is)
    (case l13 => k_is)
    (case c13 => k_is)
    (case k13 => k_is)
    (case a14 => k_is)
    (case l14 => k_is)
    (case c14 => k_is)
    (case k14 => k_is)
    (case a15 => k_is)
    (case l15 => k_is)
    (case c15 => k_is)
    (case k15 => k_is)
    (case a16 => k_is)
    (case l16 => k_is)
    (case c16 => k_is)
    (case k16 => k_is)
    (case a17 => k_is)
    (case l17 => k_is)
    (case c17 => k_is)
    (case k17 => k_is)
    (case a18 => k_is)
    (case l18 => k_is)
    (case c18 => k_is)
    (case k18 => k_is)
    (case a19 => k_is)
    (case l19 => k_is)
    (case c19 => k_is)
    (case k19 => k_is)
    (case a20 => k_is)
    (case i20 => k_is)
    (case l20 => k_is)
    (case c20 => k_is)
    (case k20 => k_is)
    (case a21 => k_is)
    (case i21 => k_is)
    (case l21 => k_is)
    (case c21 => k_is)
    (case k21 => k_is)
    (case a22 => k_is)
    (case i22 => k_is)
    (case l22 => k_is)
    (case c22 => k_is)
    (case k22 => k_is)
    (case a23 => k_is)
    (case l23 => k_is)
    (case c23 => k_is)
    (case k23 => k_is)
    (case a24 => k_is)
    (case i24 => k_is)
    (case l24 => k_is)
    (case c24 => k_is)
    (case k24 => k_is)
    (case a25 => k_is)
    (case i25 => k_is)
    (case l25 => k_is)
    (case c25 => k_is)
    (case k25 => k_is)
    (case a26 => k_is)
    (case i26 => k_is)
    (case l26 => k_is)
    (case c26 => k_is)
    (case k26 => k_is)
    (case a27 => k_is)
    (case i27 => k_is)
    (case l27 => k_is)
    (case c27 => k_is)
    (case k27 => k_is)
    (case a28 => k_is)
    (case l28 => k_is)
    (case c28 => k_is)
    (case k28 => k_is)
    (case a29 => k_is)
    (case l29 => k_is)
    (case c29 => k_is)
    (case k29 => k_is)
    (case a30 => k_is)
    (case i30 => k_is)
    (case l30 => k_is)
    (case c30 => k_is)
    (case k30 => k_is)
    (case a31 => k_is)
    (case i31 => k_is)
    (case l31 => k_is)
    (case c31 => k_is)
    (case k31 => k_is)
    (case a32 => k_is)
    (case l32 => k_is)
    (case c32 => k_is)
    (case k32 => k_is)
    (case a33 => k_is)
    (case l33 => k_is)
    (case c33 => k_is)
    (case k33 => k_is)
    (case lc29 => k_is)
    (case tv29 => rfl)
    (case nt29 => kernel_rfl)
    (case rd29 => rfl)
    (case z0 => k_is)
    (case z1 => k_is)
    (case z2 => k_is)
    (case z3 => k_is)
    (case z4 => k_is)
    (case z5 => k_is)
    (case z6 => k_is)
    (case z7 => k_is)
    (case z8 => k_is)
    (case z9 => k_is)
    (case z10 => k_is)
    (case z11 => k_is)
    (case z12 => k_is)
    (case z13 => k_is)
    (case m0 => exact PySem.W.mg_of KX G (by k_is))
    (case m1 => exact PySem.W.mg_of KX G (by k_is))
    (case m2 => exact PySem.W.mg_of KX G (by k_is))
    (case m3 => exact PySem.W.mg_of KX G (by k_is))
    (case m4 => exact PySem.W.mg_of KX G (by k_is))
    (case m5 => exact PySem.W.mg_of KX G (by k_is))
    (case m6 => exact PySem.W.mg_of KX G (by k_is))
