import PyProof.Rows.All
import Wide.All
import OpenK.AllK
import Wide.FinOn
import HandS.ForMost
import HandS.Flow
import HandS.Wide
import HandS.TupAny
import HandS.TupMul
import HandS.SortInts
import HandS.Small
import HandS.Zip
import HandS.More
import PyProof.DictUpdate
import HandS.Text
import KE.GoesEnum
import HandS.ListItems
import HandS.SortRule
import HandS.DictTup
import KE.KDictPairs
import PyProof.TupleOfSeq
import HandS.DictComp
import HandS.Style
import PySem.Challenge.RW_nocyclemore_k03_whole_caches
set_option Elab.async false
set_option maxRecDepth 100000
namespace Mini
open PySem L2

/-- plain data: tuples, and lists and dicts that nobody changes, as they are; an object that is changed by its number -/
inductive D where
  | non | bl (b : Bool) | int (i : Int) | str (x : Str) | tup (xs : List D) | ptp (xs : List D) | lst (xs : List D) | rol (xs : List D) | dct (kvs : List (Key × D)) | ref (i : Nat)

/-- an object that is changed -/
inductive O where
  | lst (xs : List D) | dct (kvs : List (Key × D)) | dctL (kvs : List (Key × D)) | ins (c : Nat) (fs : List (Str × D))

abbrev M := List O
abbrev Sg := List (Option D)

/-- where the model's objects stand; and what no value may be (a list in the making) -/
structure Wd where
  ρ : List Addr
  Z : List Addr
/-- neither -/
def Wd.Fr (w : Wd) (a : Addr) : Prop := a ∉ w.ρ ∧ a ∉ w.Z
def Wd.add (w : Wd) (p : Addr) : Wd := ⟨w.ρ ++ [p], w.Z⟩

section
variable (K : PySem.W.Frag) (ρ : Wd) (H : Hp)
def KT (a : Addr) (xs : List V) : Prop := ∃ (o : Obj) (its : Array Value) (n : Nat), K.lookup a = some o ∧ o.cls = .type "tuple" ∧ o.data = .seq its n ∧ its.size ≤ sizeLine ∧ Vals xs its.toList
def KL (a : Addr) (xs : List V) : Prop := ∃ (o : Obj) (its : Array Value) (n : Nat), K.lookup a = some o ∧ o.cls = .type "list" ∧ o.dict = none ∧ o.data = .seq its n ∧ its.size ≤ sizeLine ∧ Vals xs its.toList
def TAt (a : Addr) (xs : List V) : Prop := (ρ.Fr a ∧ Rd H a (.tup xs)) ∨ KT K a xs
def LAt (a : Addr) (xs : List V) : Prop := (ρ.Fr a ∧ Rd H a (.lst xs)) ∨ KL K a xs
mutual
inductive RD : V → D → Prop
  | non : RD .non .non
  | bl {b : Bool} : RD (.bl b) (.bl b)
  | int {i : Int} : RD (.int i) (.int i)
  | str {x : Str} : RD (.str x) (.str x)
  | ref {i : Nat} {a : Addr} : ρ.ρ[i]? = some a → RD (.ref a) (.ref i)
  | tup {a : Addr} {xs : List V} {ds : List D} : TAt K ρ H a xs → RDs xs ds → RD (.ref a) (.tup ds)
  | ptp {a : Addr} {o : Obj} {xs : List V} {ds : List D} : ρ.Fr a → H a = some (.frz o (.tup xs)) → o.dict = none → RDs xs ds → RD (.ref a) (.ptp ds)
  | lst {a : Addr} {xs : List V} {ds : List D} : ρ.Fr a → H a = some (.lst xs) → RDs xs ds → RD (.ref a) (.lst ds)
  | rol {a : Addr} {xs : List V} {ds : List D} : LAt K ρ H a xs → RDs xs ds → RD (.ref a) (.rol ds)
  | dct {a : Addr} {es : List (Key × V)} {kvs : List (Key × D)} : ρ.Fr a → Rd H a (.dK es) → RKs es kvs → RD (.ref a) (.dct kvs)
inductive RDs : List V → List D → Prop
  | nil : RDs [] []
  | cons {v : V} {vs : List V} {d : D} {ds : List D} : RD v d → RDs vs ds → RDs (v :: vs) (d :: ds)
inductive RKs : List (Key × V) → List (Key × D) → Prop
  | nil : RKs [] []
  | cons {k : Key} {v : V} {vs : List (Key × V)} {d : D} {ds : List (Key × D)} : RD v d → RKs vs ds → RKs ((k, v) :: vs) ((k, d) :: ds)
end
inductive RFs : List (Str × V) → List (Str × D) → Prop
  | nil : RFs [] []
  | cons {k : Str} {v : V} {vs : List (Str × V)} {d : D} {ds : List (Str × D)} : RD K ρ H v d → RFs vs ds → RFs ((k, v) :: vs) ((k, d) :: ds)
end

/-- what comes later: model objects may have changed, all else stands; new ones are new -/
structure Ev (ρ : Wd) (H : Hp) (ρ' : Wd) (H' : Hp) : Prop where
  more : ∃ more, ρ'.ρ = ρ.ρ ++ more
  same : ρ'.Z = ρ.Z
  rd' : ∀ a u, a ∉ ρ.ρ → Rd H a u → Rd H' a u ∧ a ∉ ρ'.ρ
  lst : ∀ a u, a ∉ ρ.ρ → H a = some u → H' a = some u
  frz : ∀ a o u, H a = some (.frz o u) → H' a = some (.frz o u)
theorem Ev.refl (ρ : Wd) (H : Hp) : Ev ρ H ρ H := ⟨⟨[], by simp⟩, rfl, fun _ _ n h => ⟨h, n⟩, fun _ _ _ h => h, fun _ _ _ h => h⟩
/-- where all else stands as it is -/
theorem Ev.of {ρ ρ' : Wd} {H H' : Hp} (m : ∃ more, ρ'.ρ = ρ.ρ ++ more) (z : ρ'.Z = ρ.Z) (h : ∀ a o, a ∉ ρ.ρ → H a = some o → H' a = some o ∧ a ∉ ρ'.ρ) (f : ∀ a o u, H a = some (.frz o u) → H' a = some (.frz o u)) : Ev ρ H ρ' H' := by
  refine ⟨m, z, fun a u n r => ?_, fun a xs n r => (h a _ n r).1, f⟩
  rcases r with r | ⟨o, r⟩
  · exact ⟨.inl (h a _ n r).1, (h a _ n r).2⟩
  · exact ⟨.inr ⟨o, (h a _ n r).1⟩, (h a _ n r).2⟩
theorem Ev.trans {ρ ρ1 ρ2 : Wd} {H H1 H2 : Hp} (a : Ev ρ H ρ1 H1) (b : Ev ρ1 H1 ρ2 H2) : Ev ρ H ρ2 H2 := by
  obtain ⟨⟨m, e⟩, z, f, fl, ff⟩ := a
  obtain ⟨⟨m', e'⟩, z', g, gl, gf⟩ := b
  exact ⟨⟨m ++ m', by rw [e', e, List.append_assoc]⟩, z'.trans z, fun c o n h => g c o (f c o n h).2 (f c o n h).1, fun c xs n h => gl c xs (f c _ n (.inl h)).2 (fl c xs n h), fun c o u h => gf c o u (ff c o u h)⟩
section
variable {K : PySem.W.Frag} {ρ ρ' : Wd} {H H' : Hp}
theorem Ev.rd (e : Ev ρ H ρ' H') {a : Addr} {u : HO} (n : ρ.Fr a) (h : Rd H a u) : ρ'.Fr a ∧ Rd H' a u := ⟨⟨(e.rd' a u n.1 h).2, by rw [e.same]; exact n.2⟩, (e.rd' a u n.1 h).1⟩
theorem Ev.at {i : Nat} {a : Addr} (e : Ev ρ H ρ' H') (h : ρ.ρ[i]? = some a) : ρ'.ρ[i]? = some a := by
  obtain ⟨⟨m, e⟩, _, _, _, _⟩ := e
  rw [e, List.getElem?_append_left (List.getElem?_eq_some_iff.mp h).1]
  exact h
theorem Ev.tat (e : Ev ρ H ρ' H') {a : Addr} {xs : List V} (h : TAt K ρ H a xs) : TAt K ρ' H' a xs := by
  rcases h with ⟨n, h⟩ | h
  · exact .inl (e.rd n h)
  · exact .inr h
theorem Ev.lat (e : Ev ρ H ρ' H') {a : Addr} {xs : List V} (h : LAt K ρ H a xs) : LAt K ρ' H' a xs := by
  rcases h with ⟨n, h⟩ | h
  · exact .inl (e.rd n h)
  · exact .inr h
mutual
theorem RD.mono (e : Ev ρ H ρ' H') : ∀ {v : V} {d : D}, RD K ρ H v d → RD K ρ' H' v d
  | _, _, .non => .non
  | _, _, .bl => .bl
  | _, _, .int => .int
  | _, _, .str => .str
  | _, _, .ref h => .ref (e.at h)
  | _, _, .tup h r => .tup (e.tat h) (RDs.mono e r)
  | _, _, .ptp n h d r => .ptp (e.rd n (.inl h)).1 (e.frz _ _ _ h) d (RDs.mono e r)
  | _, _, .lst n h r => .lst (e.rd n (.inl h)).1 (e.lst _ _ n.1 h) (RDs.mono e r)
  | _, _, .rol h r => .rol (e.lat h) (RDs.mono e r)
  | _, _, .dct n h r => .dct (e.rd n h).1 (e.rd n h).2 (RKs.mono e r)
theorem RDs.mono (e : Ev ρ H ρ' H') : ∀ {v : List V} {d : List D}, RDs K ρ H v d → RDs K ρ' H' v d
  | _, _, .nil => .nil
  | _, _, .cons h r => .cons (RD.mono e h) (RDs.mono e r)
theorem RKs.mono (e : Ev ρ H ρ' H') : ∀ {v : List (Key × V)} {d : List (Key × D)}, RKs K ρ H v d → RKs K ρ' H' v d
  | _, _, .nil => .nil
  | _, _, .cons h r => .cons (RD.mono e h) (RKs.mono e r)
end
theorem RFs.mono (e : Ev ρ H ρ' H') : ∀ {v : List (Str × V)} {d : List (Str × D)}, RFs K ρ H v d → RFs K ρ' H' v d
  | _, _, .nil => .nil
  | _, _, .cons h r => .cons (RD.mono e h) (RFs.mono e r)
theorem TAt.sq {a : Addr} {xs : List V} (h : TAt K ρ H a xs) : SqT K H a xs := by
  rcases h with ⟨_, h⟩ | h
  · exact .inl h
  · exact .inr h
theorem LAt.sq {a : Addr} {xs : List V} (h : LAt K ρ H a xs) : SqL K H a xs := by
  rcases h with ⟨_, h⟩ | h
  · exact .inl h
  · exact .inr h
end

/-- slots -/
def RS (K : PySem.W.Frag) (ρ : Wd) (H : Hp) (σ : St) (sg : Sg) : Prop := σ.length = sg.length ∧ ∀ (i : Nat) (d : D), sg[i]? = some (some d) → ∃ v, σ[i]? = some (some v) ∧ RD K ρ H v d
theorem RS.mono {K : PySem.W.Frag} {ρ ρ' : Wd} {H H' : Hp} {σ : St} {sg : Sg} (e : Ev ρ H ρ' H') (h : RS K ρ H σ sg) : RS K ρ' H' σ sg :=
  ⟨h.1, fun i d q => let ⟨v, a, b⟩ := h.2 i d q; ⟨v, a, b.mono e⟩⟩
theorem RS.set {K : PySem.W.Frag} {ρ : Wd} {H : Hp} {σ : St} {sg : Sg} {v : V} {d : D} (h : RS K ρ H σ sg) (r : RD K ρ H v d) (i : Nat) : RS K ρ H (σ.set i (some v)) (sg.set i (some d)) := by
  refine ⟨by simpa using h.1, fun j e q => ?_⟩
  by_cases hj : i = j
  · subst hj
    by_cases hi : i < sg.length
    · rw [List.getElem?_set_self hi] at q
      cases q
      exact ⟨v, by rw [List.getElem?_set_self (by rw [h.1]; exact hi)], r⟩
    · rw [List.set_eq_of_length_le (by omega)] at q
      rw [List.set_eq_of_length_le (by rw [h.1]; omega)]
      exact h.2 i e q
  · rw [List.getElem?_set_ne hj] at q ⊢
    exact h.2 j e q

/-- one object -/
def RO (K : PySem.W.Frag) (cm : Nat → Addr) (ρ : Wd) (H : Hp) (a : Addr) : O → Prop
  | .lst ds => ∃ xs, H a = some (.lst xs) ∧ RDs K ρ H xs ds
  | .dct kvs => ∃ es, H a = some (.dK es) ∧ RKs K ρ H es kvs
  | .dctL kvs => ∃ o es, H a = some (.frz o (.dK es)) ∧ RKs K ρ H es kvs
  | .ins c fs => ∃ dx es, H a = some (.ins (cm c) dx es) ∧ RFs K ρ H es fs
structure Rep (K : PySem.W.Frag) (cm : Nat → Addr) (ρ : Wd) (m : M) (H : Hp) : Prop where
  len : ρ.ρ.length = m.length
  nd : ρ.ρ.Nodup
  zt : ∀ z ∈ ρ.Z, ∃ u, H z = some u
  zd : ∀ z ∈ ρ.Z, z ∉ ρ.ρ
  at_ : ∀ (i : Nat) (o : O), m[i]? = some o → ∃ a, ρ.ρ[i]? = some a ∧ RO K cm ρ H a o
section
variable {K : PySem.W.Frag} {cm : Nat → Addr} {ρ ρ' : Wd} {m : M} {H H' : Hp} {a : Addr} {o : O}
theorem RO.some (h : RO K cm ρ H a o) : ∃ u, H a = some u := by
  cases o with
  | lst ds => obtain ⟨xs, e, _⟩ := h; exact ⟨_, e⟩
  | dct kvs => obtain ⟨xs, e, _⟩ := h; exact ⟨_, e⟩
  | dctL kvs => obtain ⟨q, xs, e, _⟩ := h; exact ⟨_, e⟩
  | ins c fs => obtain ⟨dx, xs, e, _⟩ := h; exact ⟨_, e⟩
theorem RO.mono (e : Ev ρ H ρ' H') (q : H' a = H a) (h : RO K cm ρ H a o) : RO K cm ρ' H' a o := by
  cases o with
  | lst ds => obtain ⟨xs, x, r⟩ := h; exact ⟨xs, q.trans x, r.mono e⟩
  | dct kvs => obtain ⟨xs, x, r⟩ := h; exact ⟨xs, q.trans x, r.mono e⟩
  | dctL kvs => obtain ⟨ob, xs, x, r⟩ := h; exact ⟨ob, xs, q.trans x, r.mono e⟩
  | ins c fs => obtain ⟨dx, xs, x, r⟩ := h; exact ⟨dx, xs, q.trans x, r.mono e⟩
theorem Rep.tracked (h : Rep K cm ρ m H) (ha : a ∈ ρ.ρ) : ∃ u, H a = some u := by
  obtain ⟨i, hi, e⟩ := List.getElem_of_mem ha
  have hm : i < m.length := by rw [← h.len]; exact hi
  obtain ⟨b, e1, r⟩ := h.at_ i m[i] (by simp [hm])
  rw [List.getElem?_eq_getElem hi] at e1
  have q : ρ.ρ[i] = b := Option.some.inj e1
  rw [← q, e] at r
  exact r.some
theorem Rep.notIn (h : Rep K cm ρ m H) (hp : H a = none) : ρ.Fr a := by
  refine ⟨fun q => ?_, fun q => ?_⟩
  · obtain ⟨u, e⟩ := h.tracked q
    rw [hp] at e
    cases e
  · obtain ⟨u, e⟩ := h.zt a q
    rw [hp] at e
    cases e
/-- a new thing that is no model object -/
theorem Ev.new {p : Addr} {u : HO} (hp : H p = none) : Ev ρ H ρ (upd H p u) :=
  .of ⟨[], by simp⟩ rfl (fun b o n e => ⟨by rw [upd_ne (ne_of_none e hp)]; exact e, n⟩) fun b o v e => by rw [upd_ne (ne_of_none e hp)]; exact e
theorem zt_upd (h : ∀ z ∈ ρ.Z, ∃ u, H z = some u) {p : Addr} {u : HO} : ∀ z ∈ ρ.Z, ∃ v, upd H p u z = some v := fun z hz => by
  by_cases e : z = p
  · subst e; exact ⟨u, upd_same⟩
  · obtain ⟨v, q⟩ := h z hz
    exact ⟨v, by rw [upd_ne e]; exact q⟩
theorem Rep.new (h : Rep K cm ρ m H) {p : Addr} {u : HO} (hp : H p = none) : Rep K cm ρ m (upd H p u) := by
  refine ⟨h.len, h.nd, zt_upd h.zt, h.zd, fun i o e => ?_⟩
  obtain ⟨a, e1, r⟩ := h.at_ i o e
  refine ⟨a, e1, r.mono (Ev.new hp) ?_⟩
  obtain ⟨u', e2⟩ := r.some
  exact upd_ne (ne_of_none e2 hp)
/-- a new model object -/
theorem Ev.alloc {p : Addr} {u : HO} (hp : H p = none) : Ev ρ H (ρ.add p) (upd H p u) :=
  .of ⟨[p], rfl⟩ rfl (fun b o n e => ⟨by rw [upd_ne (ne_of_none e hp)]; exact e, by
    have := ne_of_none e hp
    simp [Wd.add, n, this]⟩) fun b o v e => by rw [upd_ne (ne_of_none e hp)]; exact e
theorem Rep.alloc (h : Rep K cm ρ m H) {p : Addr} {u : HO} {o : O} (hp : H p = none) (new : RO K cm (ρ.add p) (upd H p u) p o) : Rep K cm (ρ.add p) (m ++ [o]) (upd H p u) := by
  refine ⟨by simp [Wd.add, h.len], ?_, zt_upd h.zt, fun z hz q => ?_, fun i x e => ?_⟩
  · show (ρ.ρ ++ [p]).Nodup
    rw [List.nodup_append]
    refine ⟨h.nd, by simp, fun a ha b hb => ?_⟩
    have : b = p := by simpa using hb
    subst this
    intro q
    subst q
    exact (h.notIn hp).1 ha
  · rcases List.mem_append.mp q with q | q
    · exact h.zd z hz q
    · have e : z = p := by simpa using q
      subst e
      exact (h.notIn hp).2 hz
  · show ∃ a, (ρ.ρ ++ [p])[i]? = _ ∧ _
    by_cases hi : i < m.length
    · rw [List.getElem?_append_left hi] at e
      obtain ⟨a, e1, r⟩ := h.at_ i x e
      refine ⟨a, by rw [List.getElem?_append_left (by rw [h.len]; exact hi)]; exact e1, r.mono (Ev.alloc hp) ?_⟩
      obtain ⟨u', e2⟩ := r.some
      exact upd_ne (ne_of_none e2 hp)
    · have e3 : i = m.length := by
        have := (List.getElem?_eq_some_iff.mp e).1
        simp at this
        omega
      subst e3
      rw [List.getElem?_concat_length] at e
      cases e
      exact ⟨p, by rw [← h.len, List.getElem?_concat_length], new⟩
theorem Rep.last (h : Rep K cm ρ m H) {p : Addr} : (ρ.add p).ρ[m.length]? = Option.some p := by
  show (ρ.ρ ++ [p])[m.length]? = _
  rw [← h.len, List.getElem?_concat_length]
/-- a model object is written -/
theorem nf_lst {xs : List V} (h : H a = Option.some (.lst xs)) : ∀ o u, H a ≠ Option.some (.frz o u) := fun o u e => by rw [h] at e; cases e
theorem nf_dk {xs : List (Key × V)} (h : H a = Option.some (.dK xs)) : ∀ o u, H a ≠ Option.some (.frz o u) := fun o u e => by rw [h] at e; cases e
theorem nf_ins {C dx : Addr} {xs : List (Str × V)} (h : H a = Option.some (.ins C dx xs)) : ∀ o u, H a ≠ Option.some (.frz o u) := fun o u e => by rw [h] at e; cases e
theorem Ev.write {i : Nat} {u : HO} (hi : ρ.ρ[i]? = Option.some a) (hn : ∀ o u, H a ≠ Option.some (.frz o u) := by first | (apply nf_lst; assumption) | (apply nf_dk; assumption) | (apply nf_ins; assumption)) : Ev ρ H ρ (upd H a u) :=
  .of ⟨[], by simp⟩ rfl (fun b o n e => ⟨by
    rw [upd_ne]
    · exact e
    · rintro rfl
      exact n (List.mem_of_getElem? hi), n⟩) fun b o v e => by
    rw [upd_ne]
    · exact e
    · rintro rfl
      exact hn o v e
theorem Rep.write (h : Rep K cm ρ m H) {i : Nat} {u : HO} (hi : ρ.ρ[i]? = Option.some a) (new : RO K cm ρ (upd H a u) a o) (hn : ∀ o u, H a ≠ Option.some (.frz o u) := by first | (apply nf_lst; assumption) | (apply nf_dk; assumption) | (apply nf_ins; assumption)) : Rep K cm ρ (m.set i o) (upd H a u) := by
  refine ⟨by simp [h.len], h.nd, zt_upd h.zt, h.zd, fun j x e => ?_⟩
  by_cases hj : i = j
  · subst hj
    have hl : i < m.length := by rw [← h.len]; exact (List.getElem?_eq_some_iff.mp hi).1
    rw [List.getElem?_set_self hl] at e
    cases e
    exact ⟨a, hi, new⟩
  · rw [List.getElem?_set_ne hj] at e
    obtain ⟨b, e1, r⟩ := h.at_ j x e
    refine ⟨b, e1, r.mono (Ev.write hi hn) (upd_ne ?_)⟩
    rintro rfl
    obtain ⟨l1, q1⟩ := List.getElem?_eq_some_iff.mp hi
    obtain ⟨l2, q2⟩ := List.getElem?_eq_some_iff.mp e1
    exact hj ((List.getElem_inj h.nd).mp (q1.trans q2.symm))

/-! ### a list in the making -/
def Wd.hold (w : Wd) (p : Addr) : Wd := ⟨w.ρ, p :: w.Z⟩
/-- what is known of an old value when a new place is set apart -/
theorem hold_fr {p b : Addr} {u : HO} (hp : H p = none) (n : ρ.Fr b) (h : Rd H b u) : (ρ.hold p).Fr b := ⟨n.1, fun q => by
  rcases List.mem_cons.mp q with q | q
  · subst q
    rcases h with h | ⟨o, h⟩ <;> (rw [hp] at h; cases h)
  · exact n.2 q⟩
mutual
theorem RD.hold {p : Addr} (hp : H p = none) : ∀ {v : V} {d : D}, RD K ρ H v d → RD K (ρ.hold p) H v d
  | _, _, .non => .non
  | _, _, .bl => .bl
  | _, _, .int => .int
  | _, _, .str => .str
  | _, _, .ref h => .ref h
  | _, _, .tup (.inl h) r => .tup (.inl ⟨hold_fr hp h.1 h.2, h.2⟩) (RDs.hold hp r)
  | _, _, .tup (.inr h) r => .tup (.inr h) (RDs.hold hp r)
  | _, _, .ptp n h d r => .ptp (hold_fr hp n (.inl h)) h d (RDs.hold hp r)
  | _, _, .lst n h r => .lst (hold_fr hp n (.inl h)) h (RDs.hold hp r)
  | _, _, .rol (.inl h) r => .rol (.inl ⟨hold_fr hp h.1 h.2, h.2⟩) (RDs.hold hp r)
  | _, _, .rol (.inr h) r => .rol (.inr h) (RDs.hold hp r)
  | _, _, .dct n h r => .dct (hold_fr hp n h) h (RKs.hold hp r)
theorem RDs.hold {p : Addr} (hp : H p = none) : ∀ {v : List V} {d : List D}, RDs K ρ H v d → RDs K (ρ.hold p) H v d
  | _, _, .nil => .nil
  | _, _, .cons h r => .cons (RD.hold hp h) (RDs.hold hp r)
theorem RKs.hold {p : Addr} (hp : H p = none) : ∀ {v : List (Key × V)} {d : List (Key × D)}, RKs K ρ H v d → RKs K (ρ.hold p) H v d
  | _, _, .nil => .nil
  | _, _, .cons h r => .cons (RD.hold hp h) (RKs.hold hp r)
end
theorem RFs.hold {p : Addr} (hp : H p = none) : ∀ {v : List (Str × V)} {d : List (Str × D)}, RFs K ρ H v d → RFs K (ρ.hold p) H v d
  | _, _, .nil => .nil
  | _, _, .cons h r => .cons (RD.hold hp h) (RFs.hold hp r)
/-- and back: fewer places are set apart -/
def Wd.drop (w : Wd) (z : List Addr) : Wd := ⟨w.ρ, z⟩
theorem drop_fr {z : List Addr} {b : Addr} (hz : ∀ x ∈ z, x ∈ ρ.Z) (n : ρ.Fr b) : (ρ.drop z).Fr b := ⟨n.1, fun q => n.2 (hz b q)⟩
mutual
theorem RD.dropZ {z : List Addr} (hz : ∀ x ∈ z, x ∈ ρ.Z) : ∀ {v : V} {d : D}, RD K ρ H v d → RD K (ρ.drop z) H v d
  | _, _, .non => .non
  | _, _, .bl => .bl
  | _, _, .int => .int
  | _, _, .str => .str
  | _, _, .ref h => .ref h
  | _, _, .tup (.inl h) r => .tup (.inl ⟨drop_fr hz h.1, h.2⟩) (RDs.dropZ hz r)
  | _, _, .tup (.inr h) r => .tup (.inr h) (RDs.dropZ hz r)
  | _, _, .ptp n h d r => .ptp (drop_fr hz n) h d (RDs.dropZ hz r)
  | _, _, .lst n h r => .lst (drop_fr hz n) h (RDs.dropZ hz r)
  | _, _, .rol (.inl h) r => .rol (.inl ⟨drop_fr hz h.1, h.2⟩) (RDs.dropZ hz r)
  | _, _, .rol (.inr h) r => .rol (.inr h) (RDs.dropZ hz r)
  | _, _, .dct n h r => .dct (drop_fr hz n) h (RKs.dropZ hz r)
theorem RDs.dropZ {z : List Addr} (hz : ∀ x ∈ z, x ∈ ρ.Z) : ∀ {v : List V} {d : List D}, RDs K ρ H v d → RDs K (ρ.drop z) H v d
  | _, _, .nil => .nil
  | _, _, .cons h r => .cons (RD.dropZ hz h) (RDs.dropZ hz r)
theorem RKs.dropZ {z : List Addr} (hz : ∀ x ∈ z, x ∈ ρ.Z) : ∀ {v : List (Key × V)} {d : List (Key × D)}, RKs K ρ H v d → RKs K (ρ.drop z) H v d
  | _, _, .nil => .nil
  | _, _, .cons h r => .cons (RD.dropZ hz h) (RKs.dropZ hz r)
end
theorem RFs.dropZ {z : List Addr} (hz : ∀ x ∈ z, x ∈ ρ.Z) : ∀ {v : List (Str × V)} {d : List (Str × D)}, RFs K ρ H v d → RFs K (ρ.drop z) H v d
  | _, _, .nil => .nil
  | _, _, .cons h r => .cons (RD.dropZ hz h) (RFs.dropZ hz r)
theorem RO.hold {p : Addr} (hp : H p = none) (h : RO K cm ρ H a o) : RO K cm (ρ.hold p) H a o := by
  cases o with
  | lst ds => obtain ⟨xs, x, r⟩ := h; exact ⟨xs, x, r.hold hp⟩
  | dct kvs => obtain ⟨xs, x, r⟩ := h; exact ⟨xs, x, r.hold hp⟩
  | dctL kvs => obtain ⟨ob, xs, x, r⟩ := h; exact ⟨ob, xs, x, r.hold hp⟩
  | ins c fs => obtain ⟨dx, xs, x, r⟩ := h; exact ⟨dx, xs, x, r.hold hp⟩
theorem RO.dropZ {z : List Addr} (hz : ∀ x ∈ z, x ∈ ρ.Z) (h : RO K cm ρ H a o) : RO K cm (ρ.drop z) H a o := by
  cases o with
  | lst ds => obtain ⟨xs, x, r⟩ := h; exact ⟨xs, x, r.dropZ hz⟩
  | dct kvs => obtain ⟨xs, x, r⟩ := h; exact ⟨xs, x, r.dropZ hz⟩
  | dctL kvs => obtain ⟨ob, xs, x, r⟩ := h; exact ⟨ob, xs, x, r.dropZ hz⟩
  | ins c fs => obtain ⟨dx, xs, x, r⟩ := h; exact ⟨dx, xs, x, r.dropZ hz⟩
theorem Rep.dropZ {z : List Addr} (hz : ∀ x ∈ z, x ∈ ρ.Z) (h : Rep K cm ρ m H) : Rep K cm (ρ.drop z) m H :=
  ⟨h.len, h.nd, fun x hx => h.zt x (hz x hx), fun x hx => h.zd x (hz x hx), fun i o e => let ⟨a, e1, r⟩ := h.at_ i o e; ⟨a, e1, r.dropZ hz⟩⟩
/-- a new list is set apart -/
theorem Rep.held (h : Rep K cm ρ m H) {p : Addr} {u : HO} (hp : H p = none) : Rep K cm (ρ.hold p) m (upd H p u) := by
  refine ⟨h.len, h.nd, fun z hz => ?_, fun z hz => ?_, fun i o e => ?_⟩
  · rcases List.mem_cons.mp hz with rfl | hz
    · exact ⟨u, upd_same⟩
    · exact zt_upd h.zt z hz
  · rcases List.mem_cons.mp hz with rfl | hz
    · exact (h.notIn hp).1
    · exact h.zd z hz
  · obtain ⟨a, e1, r⟩ := h.at_ i o e
    refine ⟨a, e1, (r.hold hp).mono (Ev.new hp) ?_⟩
    obtain ⟨u', e2⟩ := r.some
    exact upd_ne (ne_of_none e2 hp)
end
end Mini

set_option Elab.async false
set_option maxRecDepth 100000
namespace Mini
open PySem L2

abbrev XE := Sg → M → Option (D × M)
abbrev XT := Sg → M → Option (Bool × M)
abbrev XA := Sg → M → Option (List D × M)
inductive Fl where | nx | bk | ct | rt (d : D)
abbrev XS := Sg → M → Option (Fl × Sg × M)

theorem sz {n : Nat} (h : n ≤ 100000) : n ≤ sizeLine := Nat.le_trans h (by rw [sizeLine_eq]; decide)
theorem szl {n : Nat} (h : n < 100000) : n < sizeLine := Nat.lt_of_lt_of_le h (by rw [sizeLine_eq]; decide)

section
variable (K : PySem.W.Frag) (cm : Nat → Addr)
def tE (x : XE) : TE := fun σ H Q => ∃ ρ sg m d m', RS K ρ H σ sg ∧ Rep K cm ρ m H ∧ x sg m = some (d, m') ∧ ∀ ρ' v H', Ev ρ H ρ' H' → Rep K cm ρ' m' H' → RD K ρ' H' v d → Q v H'
def tT (x : XT) : TT := fun σ H Q => ∃ ρ sg m d m', RS K ρ H σ sg ∧ Rep K cm ρ m H ∧ x sg m = some (d, m') ∧ ∀ ρ' H', Ev ρ H ρ' H' → Rep K cm ρ' m' H' → Q d H'
def tA (x : XA) : TA := fun σ H Q => ∃ ρ sg m d m', RS K ρ H σ sg ∧ Rep K cm ρ m H ∧ x sg m = some (d, m') ∧ ∀ ρ' vs H', Ev ρ H ρ' H' → Rep K cm ρ' m' H' → RDs K ρ' H' vs d → Q vs H'
/-- what a value's end asks -/
abbrev KE_ (ρ : Wd) (H : Hp) (m' : M) (d : D) (Q : VK) : Prop := ∀ ρ' v H', Ev ρ H ρ' H' → Rep K cm ρ' m' H' → RD K ρ' H' v d → Q v H'
/-- an operation of two values and its reading -/
def SR2 (f : D → D → M → Option (D × M)) (r : R2) : Prop := ∀ ρ m H x y d1 d2 d3 m' (Q : VK), Rep K cm ρ m H → RD K ρ H x d1 → RD K ρ H y d2 → f d1 d2 m = some (d3, m') → KE_ K cm ρ H m' d3 Q → r x y H Q
def SR1 (f : D → M → Option (D × M)) (r : V → Hp → VK → Prop) : Prop := ∀ ρ m H x d1 d3 m' (Q : VK), Rep K cm ρ m H → RD K ρ H x d1 → f d1 m = some (d3, m') → KE_ K cm ρ H m' d3 Q → r x H Q
def SRC (f : List D → M → Option (D × M)) (r : List V → Hp → VK → Prop) : Prop := ∀ ρ m H xs ds d3 m' (Q : VK), Rep K cm ρ m H → RDs K ρ H xs ds → f ds m = some (d3, m') → KE_ K cm ρ H m' d3 Q → r xs H Q
end
abbrev SE (cm : Nat → Addr) (X : Cx) (e : Expr) (x : XE) : Prop := PE X e (tE X.K cm x)
abbrev ST (cm : Nat → Addr) (X : Cx) (e : Expr) (x : XT) : Prop := PT X e (tT X.K cm x)
abbrev SW (cm : Nat → Addr) (X : Cx) (e : Expr) (x : XT) : Prop := PW X e (tT X.K cm x)
abbrev SA (cm : Nat → Addr) (X : Cx) (es : List Expr) (x : XA) : Prop := PA X es (tA X.K cm x)

theorem PE_imp {X : Cx} {e : Expr} {t t' : TE} (h : PE X e t) (w : ∀ σ H Q, t' σ H Q → t σ H Q) : PE X e t' := ⟨fun pins s σ H Q I q => h.run pins s σ H Q I (w σ H Q q)⟩
theorem PT_imp {X : Cx} {e : Expr} {t t' : TT} (h : PT X e t) (w : ∀ σ H Q, t' σ H Q → t σ H Q) : PT X e t' := ⟨fun pins s σ H Q I q => h.run pins s σ H Q I (w σ H Q q)⟩
theorem PW_imp {X : Cx} {e : Expr} {t t' : TT} (h : PW X e t) (w : ∀ σ H Q, t' σ H Q → t σ H Q) : PW X e t' := ⟨fun wh pins s σ H Q I q => h.run wh pins s σ H Q I (w σ H Q q)⟩
theorem PA_imp {X : Cx} {e : List Expr} {t t' : TA} (h : PA X e t) (w : ∀ σ H Q, t' σ H Q → t σ H Q) : PA X e t' := ⟨fun pos pins s σ H Q I q => h.run pos pins s σ H Q I (w σ H Q q)⟩

/-! ### the combinators -/
def getS : Sg → Nat → Option D
  | [], _ => none
  | x :: _, 0 => x
  | _ :: r, n + 1 => getS r n
theorem getS_eq : ∀ {sg : Sg} {i : Nat} {d : D}, getS sg i = some d → sg[i]? = some (some d)
  | [], _, _, h => nomatch h
  | x :: _, 0, d, h => by
    have : x = some d := h
    simp [this]
  | _ :: r, n + 1, d, h => by
    have := getS_eq (sg := r) (i := n) h
    simpa using this
def xVar (i : Nat) : XE := fun sg m => match getS sg i with | some d => some (d, m) | none => none
def xC (d : D) : XE := fun _ m => some (d, m)
def xOp (f : D → D → M → Option (D × M)) (a b : XE) : XE := fun sg m => match a sg m with
  | none => none
  | some (x, m1) => match b sg m1 with
    | none => none
    | some (y, m2) => f x y m2
def xUn (f : D → M → Option (D × M)) (a : XE) : XE := fun sg m => match a sg m with
  | none => none
  | some (x, m1) => f x m1
def aNil : XA := fun _ m => some ([], m)
def aCons (a : XE) (r : XA) : XA := fun sg m => match a sg m with
  | none => none
  | some (x, m1) => match r sg m1 with
    | none => none
    | some (xs, m2) => some (x :: xs, m2)
def xFn (f : List D → M → Option (D × M)) (a : XA) : XE := fun sg m => match a sg m with
  | none => none
  | some (xs, m1) => f xs m1
def xTup (a : XA) : XE := fun sg m => match a sg m with
  | none => none
  | some (xs, m1) => if xs.length ≤ 100000 then some (.tup xs, m1) else none
/-- a list that nobody changes -/
def xLst (a : XA) : XE := fun sg m => match a sg m with
  | none => none
  | some (xs, m1) => if xs.length ≤ 100000 then some (.lst xs, m1) else none
/-- a list that is changed -/
def xLstM (a : XA) : XE := fun sg m => match a sg m with
  | none => none
  | some (xs, m1) => if xs.length ≤ 100000 then some (.ref m1.length, m1 ++ [.lst xs]) else none
/-- tests -/
def cTest (a : XE) : XT := fun sg m => match a sg m with
  | some (.bl b, m1) => some (b, m1)
  | _ => none
def cAnd (a b : XT) : XT := fun sg m => match a sg m with
  | none => none
  | some (true, m1) => b sg m1
  | some (false, m1) => some (false, m1)
def cOr (a b : XT) : XT := fun sg m => match a sg m with
  | none => none
  | some (true, m1) => some (true, m1)
  | some (false, m1) => b sg m1
def cNot (a : XT) : XT := fun sg m => match a sg m with
  | none => none
  | some (b, m1) => some (!b, m1)
def xIf (c : XT) (a b : XE) : XE := fun sg m => match c sg m with
  | none => none
  | some (true, m1) => a sg m1
  | some (false, m1) => b sg m1
def truD : D → M → Option Bool
  | .non, _ => some false
  | .bl b, _ => some b
  | .int i, _ => some (i != 0)
  | .str x, _ => if x.length ≤ 100000 then some ((x.length : Int) != 0) else none
  | .tup xs, _ => some (!xs.isEmpty)
  | .ptp xs, _ => some (!xs.isEmpty)
  | .lst xs, _ => some (!xs.isEmpty)
  | .rol xs, _ => some (!xs.isEmpty)
  | .dct _, _ => none
  | .ref i, m => match m[i]? with
    | some (.lst xs) => some (!xs.isEmpty)
    | some (.dct kvs) => some (!kvs.isEmpty)
    | _ => none
def cTru (a : XE) : XT := fun sg m => match a sg m with
  | none => none
  | some (d, m1) => match truD d m1 with
    | none => none
    | some b => some (b, m1)
def xAnd (a b : XE) : XE := fun sg m => match a sg m with
  | none => none
  | some (d, m1) => match truD d m1 with
    | none => none
    | some true => b sg m1
    | some false => some (d, m1)
def xOr (a b : XE) : XE := fun sg m => match a sg m with
  | none => none
  | some (d, m1) => match truD d m1 with
    | none => none
    | some true => some (d, m1)
    | some false => b sg m1
def xNot (a : XE) : XE := fun sg m => match a sg m with
  | none => none
  | some (d, m1) => match truD d m1 with
    | none => none
    | some b => some (.bl (!b), m1)
def xChain (f g : D → D → M → Option (D × M)) (a b c : XE) : XE := fun sg m => match a sg m with
  | none => none
  | some (x, m1) => match b sg m1 with
    | none => none
    | some (y, m2) => match f x y m2 with
      | some (.bl true, m3) => (match c sg m3 with
        | none => none
        | some (z, m4) => g y z m4)
      | some (.bl false, m3) => some (.bl false, m3)
      | _ => none

/-! ### reading them -/
section
variable {K : PySem.W.Frag} {cm : Nat → Addr} {σ : St} {H : Hp} {Q : VK}
theorem RDs.length {ρ : Wd} : ∀ {vs : List V} {ds : List D}, RDs K ρ H vs ds → vs.length = ds.length
  | _, _, .nil => rfl
  | _, _, .cons _ r => by simp [RDs.length r]
theorem RKs.length {ρ : Wd} : ∀ {vs : List (Key × V)} {ds : List (Key × D)}, RKs K ρ H vs ds → vs.length = ds.length
  | _, _, .nil => rfl
  | _, _, .cons _ r => by simp [RKs.length r]
theorem t_op {f : D → D → M → Option (D × M)} {r : R2} {a b : XE} (hf : SR2 K cm f r) (h : tE K cm (xOp f a b) σ H Q) : tOp r (tE K cm a) (tE K cm b) σ H Q := by
  obtain ⟨ρ, sg, m, d, m', hs, hr, e, q⟩ := h
  unfold xOp at e
  split at e
  · cases e
  · rename_i d1 m1 ea
    split at e
    · cases e
    · rename_i d2 m2 eb
      exact ⟨ρ, sg, m, d1, m1, hs, hr, ea, fun ρ1 v1 H1 E1 R1 r1 => ⟨ρ1, sg, m1, d2, m2, hs.mono E1, R1, eb, fun ρ2 v2 H2 E2 R2 r2 =>
        hf ρ2 m2 H2 v1 v2 d1 d2 d m' Q R2 (r1.mono E2) r2 e fun ρ3 v3 H3 E3 R3 r3 => q ρ3 v3 H3 ((E1.trans E2).trans E3) R3 r3⟩⟩
theorem t_un {f : D → M → Option (D × M)} {r : V → Hp → VK → Prop} {a : XE} (hf : SR1 K cm f r) (h : tE K cm (xUn f a) σ H Q) : tUn r (tE K cm a) σ H Q := by
  obtain ⟨ρ, sg, m, d, m', hs, hr, e, q⟩ := h
  unfold xUn at e
  split at e
  · cases e
  · rename_i d1 m1 ea
    exact ⟨ρ, sg, m, d1, m1, hs, hr, ea, fun ρ1 v1 H1 E1 R1 r1 => hf ρ1 m1 H1 v1 d1 d m' Q R1 r1 e fun ρ3 v3 H3 E3 R3 r3 => q ρ3 v3 H3 (E1.trans E3) R3 r3⟩
theorem t_fn {f : List D → M → Option (D × M)} {r : List V → Hp → VK → Prop} {a : XA} (hf : SRC K cm f r) (h : tE K cm (xFn f a) σ H Q) : tCB r (tA K cm a) σ H Q := by
  obtain ⟨ρ, sg, m, d, m', hs, hr, e, q⟩ := h
  unfold xFn at e
  split at e
  · cases e
  · rename_i d1 m1 ea
    exact ⟨ρ, sg, m, d1, m1, hs, hr, ea, fun ρ1 v1 H1 E1 R1 r1 => hf ρ1 m1 H1 v1 d1 d m' Q R1 r1 e fun ρ3 v3 H3 E3 R3 r3 => q ρ3 v3 H3 (E1.trans E3) R3 r3⟩
theorem SR2.or1 {f : D → D → M → Option (D × M)} {r r' : R2} (h : SR2 K cm f r) : SR2 K cm f (fun x y H Q => r x y H Q ∨ r' x y H Q) := fun ρ m H x y d1 d2 d3 m' Q R r1 r2 e q => .inl (h ρ m H x y d1 d2 d3 m' Q R r1 r2 e q)
theorem tru_of {ρ : Wd} {m : M} {v : V} {d : D} {b : Bool} (R : Rep K cm ρ m H) (r : RD K ρ H v d) (e : truD d m = some b) : TruV K v H b := by
  cases r with
  | non => exact (Option.some.inj e).symm
  | bl => exact (Option.some.inj e).symm
  | int => exact (Option.some.inj e).symm
  | str =>
    simp only [truD] at e
    split at e
    · rename_i hl
      exact ⟨sz hl, (Option.some.inj e).symm⟩
    · cases e
  | ref h =>
    simp only [truD] at e
    split at e
    · rename_i xs hm
      obtain ⟨a, e1, xs', hx, rx⟩ := R.at_ _ _ hm
      rw [h] at e1
      cases e1
      refine .inl ⟨xs', SqL.of hx, ?_⟩
      have := rx.length
      rw [← Option.some.inj e]
      cases xs' <;> cases xs <;> simp_all
    · rename_i xs hm
      obtain ⟨a, e1, xs', hx, rx⟩ := R.at_ _ _ hm
      rw [h] at e1
      cases e1
      refine .inr (.inr ⟨xs', hx, ?_⟩)
      have := rx.length
      rw [← Option.some.inj e]
      cases xs' <;> cases xs <;> simp_all
    · cases e
  | tup h rx =>
    refine .inr (.inl ⟨_, h.sq, ?_⟩)
    have := rx.length
    rw [← Option.some.inj e]
    rename_i xs ds
    cases xs <;> cases ds <;> simp_all
  | ptp n h hd rx =>
    refine .inr (.inl ⟨_, .inl (.inr ⟨_, h⟩), ?_⟩)
    have := rx.length
    rw [← Option.some.inj e]
    rename_i xs ds
    cases xs <;> cases ds <;> simp_all
  | lst n h rx =>
    refine .inl ⟨_, SqL.of h, ?_⟩
    have := rx.length
    rw [← Option.some.inj e]
    rename_i xs ds
    cases xs <;> cases ds <;> simp_all
  | rol h rx =>
    refine .inl ⟨_, h.sq, ?_⟩
    have := rx.length
    rw [← Option.some.inj e]
    rename_i xs ds
    cases xs <;> cases ds <;> simp_all
  | dct _ _ _ => cases e
end

/-! ### the rules -/
section
variable {cm : Nat → Addr} {X : Cx} {a b c e : Expr} {es rest : List Expr} {xa xb xc : XE} {ta tb tc : XT} {xs : XA} {pos : Pos}
theorem se_var (i : Nat) {x : Str} {pos : Pos} (hN : X.N[i]? = some x := by rfl) (hv : Vis X.env.scope x := by first | exact Or.inl rfl | exact Or.inr (Or.inl rfl) | exact Or.inr (Or.inr rfl)) (hd : (x == ("__debug__" : Str)) = false := by decide)
    (hcd : (x == ("__classdict__" : Str)) = false := by decide) : SE cm X (.Name x pos) (xVar i) := PE_imp (pe_var hN hv hd hcd) fun σ H Q h => by
  obtain ⟨ρ, sg, m, d, m', hs, hr, e, q⟩ := h
  unfold xVar at e
  split at e
  · rename_i d' e'
    cases e
    obtain ⟨v, e1, r⟩ := hs.2 i d (getS_eq e')
    exact ⟨v, e1, q ρ v H (Ev.refl ρ H) hr r⟩
  · cases e
theorem t_c {K : PySem.W.Frag} {σ : St} {H : Hp} {Q : VK} {v : V} {d : D} (hr : ∀ ρ H, RD K ρ H v d) (h : tE K cm (xC d) σ H Q) : tC v σ H Q := by
  obtain ⟨ρ, sg, m, d', m', hs, hR, e, q⟩ := h
  cases e
  exact q ρ v H (Ev.refl ρ H) hR (hr ρ H)
theorem se_int {i j pos} : SE cm X (.Constant (.int i) j pos) (xC (.int i)) := PE_imp pe_int fun _ _ _ h => t_c (fun _ _ => .int) h
theorem se_bl {b j pos} : SE cm X (.Constant (.bool b) j pos) (xC (.bl b)) := PE_imp pe_bl fun _ _ _ h => t_c (fun _ _ => .bl) h
theorem se_non {j pos} : SE cm X (.Constant .none j pos) (xC .non) := PE_imp pe_non fun _ _ _ h => t_c (fun _ _ => .non) h
theorem se_str {x j pos} : SE cm X (.Constant (.str x) j pos) (xC (.str x)) := PE_imp pe_str fun _ _ _ h => t_c (fun _ _ => .str) h
theorem se_op {op : Operator} {r : R2} {f : D → D → M → Option (D × M)} (ho : OpR X (binaryOp op) r) (hf : SR2 X.K cm f r) (ha : SE cm X a xa) (hb : SE cm X b xb) : SE cm X (.BinOp a op b pos) (xOp f xa xb) :=
  PE_imp (pe_op ho ha hb) fun _ _ _ h => t_op hf h
theorem se_un {op : UnaryOp} {r : V → Hp → VK → Prop} {f : D → M → Option (D × M)} (ho : UnR X (unaryOp op) r) (hf : SR1 X.K cm f r) (ha : SE cm X a xa) : SE cm X (.UnaryOp op a pos) (xUn f xa) :=
  PE_imp (pe_un ho ha) fun _ _ _ h => t_un hf h
theorem se_cmp {op : CmpOp} {r : R2} {f : D → D → M → Option (D × M)} (ho : OpR X (compareOp op) r) (hf : SR2 X.K cm f r) (ha : SE cm X a xa) (hb : SE cm X b xb) (hm : behindInMarks op b = false) : SE cm X (.Compare a [op] [b] pos) (xOp f xa xb) :=
  PE_imp (pe_cmpR ho ha hb hm) fun _ _ _ h => t_op hf h
theorem t_test {K : PySem.W.Frag} {σ : St} {H : Hp} {Q : Bool → Hp → Prop} {t : TE} {x : XE} (ht : ∀ Q : VK, tE K cm x σ H Q → t σ H Q) (h : tT K cm (cTest x) σ H Q) : tTest t σ H Q := by
  obtain ⟨ρ, sg, m, d', m', hs, hR, e, q⟩ := h
  unfold cTest at e
  split at e
  · rename_i b m1 e1
    cases e
    refine ht _ ⟨ρ, sg, m, _, _, hs, hR, e1, fun ρ' v H' E' R' r' => ?_⟩
    cases r'
    exact ⟨_, rfl, q ρ' H' E' R'⟩
  · cases e
theorem st_cmp {op : CmpOp} {r : R2} {f : D → D → M → Option (D × M)} (ho : OpR X (compareOp op) r) (hf : SR2 X.K cm f r) (ha : SE cm X a xa) (hb : SE cm X b xb) (hm : behindInMarks op b = false) : ST cm X (.Compare a [op] [b] pos) (cTest (xOp f xa xb)) :=
  PT_imp (pt_cmpR ho ha hb hm) fun _ _ _ h => t_test (fun _ h => t_op hf h) h
theorem t_chain {K : PySem.W.Frag} {σ : St} {H : Hp} {Q : VK} {r r' : R2} {f g : D → D → M → Option (D × M)} (hf : SR2 K cm f r) (hg : SR2 K cm g r') (h : tE K cm (xChain f g xa xb xc) σ H Q) : tChain r r' (tE K cm xa) (tE K cm xb) (tE K cm xc) σ H Q := by
  obtain ⟨ρ, sg, m, d, m', hs, hr, e, q⟩ := h
  unfold xChain at e
  split at e
  · cases e
  · rename_i d1 m1 ea
    split at e
    · cases e
    · rename_i d2 m2 eb
      refine ⟨ρ, sg, m, d1, m1, hs, hr, ea, fun ρ1 v1 H1 E1 R1 r1 => ⟨ρ1, sg, m1, d2, m2, hs.mono E1, R1, eb, fun ρ2 v2 H2 E2 R2 r2 => ?_⟩⟩
      split at e
      · rename_i m3 ef
        refine hf ρ2 m2 H2 v1 v2 d1 d2 _ _ _ R2 (r1.mono E2) r2 ef fun ρ3 v3 H3 E3 R3 r3 => ?_
        cases r3
        refine ⟨true, rfl, ?_⟩
        refine iteT ?_
        split at e
        · cases e
        · rename_i d4 m4 ec
          refine ⟨ρ3, sg, m3, d4, m4, hs.mono ((E1.trans E2).trans E3), R3, ec, fun ρ4 v4 H4 E4 R4 r4 => ?_⟩
          exact hg ρ4 m4 H4 v2 v4 d2 d4 _ _ _ R4 (r2.mono (E3.trans E4)) r4 e fun ρ5 v5 H5 E5 R5 r5 => q ρ5 v5 H5 (((E1.trans E2).trans E3).trans (E4.trans E5)) R5 r5
      · rename_i m3 ef
        refine hf ρ2 m2 H2 v1 v2 d1 d2 _ _ _ R2 (r1.mono E2) r2 ef fun ρ3 v3 H3 E3 R3 r3 => ?_
        cases r3
        refine ⟨false, rfl, ?_⟩
        refine iteF ?_
        cases e
        exact q ρ3 _ H3 ((E1.trans E2).trans E3) R3 .bl
      · cases e
theorem se_chain {op op' : CmpOp} {r r' : R2} {f g : D → D → M → Option (D × M)} (ho : OpR X (compareOp op) r) (hf : SR2 X.K cm f r) (ho' : OpR X (compareOp op') r') (hg : SR2 X.K cm g r') (ha : SE cm X a xa) (hb : SE cm X b xb) (hc : SE cm X c xc)
    (hm : lastMarks [op, op'] [b, c] = false := by with_unfolding_all rfl) : SE cm X (.Compare a [op, op'] [b, c] pos) (xChain f g xa xb xc) := PE_imp (pe_chain ho ho' ha hb hc hm) fun _ _ _ h => t_chain hf hg h
theorem st_chain {op op' : CmpOp} {r r' : R2} {f g : D → D → M → Option (D × M)} (ho : OpR X (compareOp op) r) (hf : SR2 X.K cm f r) (ho' : OpR X (compareOp op') r') (hg : SR2 X.K cm g r') (ha : SE cm X a xa) (hb : SE cm X b xb) (hc : SE cm X c xc)
    (hm : lastMarks [op, op'] [b, c] = false := by with_unfolding_all rfl) : ST cm X (.Compare a [op, op'] [b, c] pos) (cTest (xChain f g xa xb xc)) := PT_imp (pt_chain ho ho' ha hb hc hm) fun _ _ _ h => t_test (fun _ h => t_chain hf hg h) h
theorem SW.pt {x : XT} (h : SW cm X e x) : ST cm X e x := ⟨h.run _⟩
theorem sw_and1 (ha : ST cm X a ta) : SW cm X (.BoolOp .And [a] pos) ta := pw_and1 ha
theorem sw_or1 (ha : ST cm X a ta) : SW cm X (.BoolOp .Or [a] pos) ta := pw_or1 ha
theorem sw_and (ha : ST cm X a ta) (hb : SW cm X (.BoolOp .And (b :: rest) pos) tb) : SW cm X (.BoolOp .And (a :: b :: rest) pos) (cAnd ta tb) := PW_imp (pw_and ha hb) fun σ H Q h => by
  obtain ⟨ρ, sg, m, d, m', hs, hr, e, q⟩ := h
  unfold cAnd at e
  split at e
  · cases e
  · rename_i m1 ea
    refine ⟨ρ, sg, m, true, m1, hs, hr, ea, fun ρ1 H1 E1 R1 => ?_⟩
    refine iteT ?_
    exact ⟨ρ1, sg, m1, d, m', hs.mono E1, R1, e, fun ρ2 H2 E2 R2 => q ρ2 H2 (E1.trans E2) R2⟩
  · rename_i m1 ea
    cases e
    refine ⟨ρ, sg, m, false, _, hs, hr, ea, fun ρ1 H1 E1 R1 => ?_⟩
    refine iteF ?_
    exact q ρ1 H1 E1 R1
theorem sw_or (ha : ST cm X a ta) (hb : SW cm X (.BoolOp .Or (b :: rest) pos) tb) : SW cm X (.BoolOp .Or (a :: b :: rest) pos) (cOr ta tb) := PW_imp (pw_or ha hb) fun σ H Q h => by
  obtain ⟨ρ, sg, m, d, m', hs, hr, e, q⟩ := h
  unfold cOr at e
  split at e
  · cases e
  · rename_i m1 ea
    cases e
    refine ⟨ρ, sg, m, true, _, hs, hr, ea, fun ρ1 H1 E1 R1 => ?_⟩
    refine iteT ?_
    exact q ρ1 H1 E1 R1
  · rename_i m1 ea
    refine ⟨ρ, sg, m, false, m1, hs, hr, ea, fun ρ1 H1 E1 R1 => ?_⟩
    refine iteF ?_
    exact ⟨ρ1, sg, m1, d, m', hs.mono E1, R1, e, fun ρ2 H2 E2 R2 => q ρ2 H2 (E1.trans E2) R2⟩
theorem st_not (ha : ST cm X a ta) : ST cm X (.UnaryOp .Not a pos) (cNot ta) := PT_imp (pt_not ha) fun σ H Q h => by
  obtain ⟨ρ, sg, m, d, m', hs, hr, e, q⟩ := h
  unfold cNot at e
  split at e
  · cases e
  · rename_i b m1 ea
    cases e
    exact ⟨ρ, sg, m, b, _, hs, hr, ea, fun ρ1 H1 E1 R1 => q ρ1 H1 E1 R1⟩
theorem st_tru (ha : SE cm X a xa) (he : ∀ whole, isTrue a X.env whole = (do let v ← whole; standAt a.pos; holding [v] (truthy v)) := by intro _; rfl) : ST cm X a (cTru xa) := PT_imp (pt_truth ha he) fun σ H Q h => by
  obtain ⟨ρ, sg, m, d, m', hs, hr, e, q⟩ := h
  unfold cTru at e
  split at e
  · cases e
  · rename_i d1 m1 ea
    split at e
    · cases e
    · rename_i b eb
      cases e
      exact ⟨ρ, sg, m, d1, _, hs, hr, ea, fun ρ1 v1 H1 E1 R1 r1 => ⟨_, tru_of R1 r1 eb, q ρ1 H1 E1 R1⟩⟩
theorem se_and (ha : SE cm X a xa) (hb : SE cm X (.BoolOp .And (b :: rest) pos) xb) : SE cm X (.BoolOp .And (a :: b :: rest) pos) (xAnd xa xb) := PE_imp (pe_andT ha hb) fun σ H Q h => by
  obtain ⟨ρ, sg, m, d, m', hs, hr, e, q⟩ := h
  unfold xAnd at e
  split at e
  · cases e
  · rename_i d1 m1 ea
    refine ⟨ρ, sg, m, d1, m1, hs, hr, ea, fun ρ1 v1 H1 E1 R1 r1 => ?_⟩
    split at e
    · cases e
    · rename_i eb
      refine ⟨true, tru_of R1 r1 eb, ?_⟩
      refine iteT ?_
      exact ⟨ρ1, sg, m1, d, m', hs.mono E1, R1, e, fun ρ2 v2 H2 E2 R2 r2 => q ρ2 v2 H2 (E1.trans E2) R2 r2⟩
    · rename_i eb
      cases e
      refine ⟨false, tru_of R1 r1 eb, ?_⟩
      refine iteF ?_
      exact q ρ1 v1 H1 E1 R1 r1
theorem se_or (ha : SE cm X a xa) (hb : SE cm X (.BoolOp .Or (b :: rest) pos) xb) : SE cm X (.BoolOp .Or (a :: b :: rest) pos) (xOr xa xb) := PE_imp (pe_orT ha hb) fun σ H Q h => by
  obtain ⟨ρ, sg, m, d, m', hs, hr, e, q⟩ := h
  unfold xOr at e
  split at e
  · cases e
  · rename_i d1 m1 ea
    refine ⟨ρ, sg, m, d1, m1, hs, hr, ea, fun ρ1 v1 H1 E1 R1 r1 => ?_⟩
    split at e
    · cases e
    · rename_i eb
      cases e
      refine ⟨true, tru_of R1 r1 eb, ?_⟩
      refine iteT ?_
      exact q ρ1 v1 H1 E1 R1 r1
    · rename_i eb
      refine ⟨false, tru_of R1 r1 eb, ?_⟩
      refine iteF ?_
      exact ⟨ρ1, sg, m1, d, m', hs.mono E1, R1, e, fun ρ2 v2 H2 E2 R2 r2 => q ρ2 v2 H2 (E1.trans E2) R2 r2⟩
theorem se_one {op : BoolOp} (ha : SE cm X a xa) : SE cm X (.BoolOp op [a] pos) xa := pe_one ha
theorem se_not (ha : SE cm X a xa) : SE cm X (.UnaryOp .Not a pos) (xNot xa) := PE_imp (pe_notT ha) fun σ H Q h => by
  obtain ⟨ρ, sg, m, d, m', hs, hr, e, q⟩ := h
  unfold xNot at e
  split at e
  · cases e
  · rename_i d1 m1 ea
    split at e
    · cases e
    · rename_i b eb
      cases e
      exact ⟨ρ, sg, m, d1, _, hs, hr, ea, fun ρ1 v1 H1 E1 R1 r1 => ⟨_, tru_of R1 r1 eb, q ρ1 _ H1 E1 R1 .bl⟩⟩
theorem se_if (hc : ST cm X c tc) (ha : SE cm X a xa) (hb : SE cm X b xb) : SE cm X (.IfExp c a b pos) (xIf tc xa xb) := PE_imp (pe_ifExp hc ha hb) fun σ H Q h => by
  obtain ⟨ρ, sg, m, d, m', hs, hr, e, q⟩ := h
  unfold xIf at e
  split at e
  · cases e
  · rename_i m1 ea
    refine ⟨ρ, sg, m, true, m1, hs, hr, ea, fun ρ1 H1 E1 R1 => ?_⟩
    refine iteT ?_
    exact ⟨ρ1, sg, m1, d, m', hs.mono E1, R1, e, fun ρ2 v2 H2 E2 R2 r2 => q ρ2 v2 H2 (E1.trans E2) R2 r2⟩
  · rename_i m1 ea
    refine ⟨ρ, sg, m, false, m1, hs, hr, ea, fun ρ1 H1 E1 R1 => ?_⟩
    refine iteF ?_
    exact ⟨ρ1, sg, m1, d, m', hs.mono E1, R1, e, fun ρ2 v2 H2 E2 R2 r2 => q ρ2 v2 H2 (E1.trans E2) R2 r2⟩
theorem sa_nil : SA cm X [] aNil := PA_imp pa_nil fun σ H Q h => by
  obtain ⟨ρ, sg, m, d, m', hs, hr, e, q⟩ := h
  cases e
  exact q ρ [] H (Ev.refl ρ H) hr .nil
theorem sa_cons (ha : SE cm X e xa) (hr : SA cm X es xs) (hst : starEach (e :: es) X.env = (false, eval e X.env) :: starEach es X.env := by rfl) : SA cm X (e :: es) (aCons xa xs) := PA_imp (pa_cons ha hr hst) fun σ H Q h => by
  obtain ⟨ρ, sg, m, d, m', hs, hr, e, q⟩ := h
  unfold aCons at e
  split at e
  · cases e
  · rename_i d1 m1 ea
    split at e
    · cases e
    · rename_i d2 m2 eb
      cases e
      exact ⟨ρ, sg, m, d1, m1, hs, hr, ea, fun ρ1 v1 H1 E1 R1 r1 => ⟨ρ1, sg, m1, d2, _, hs.mono E1, R1, eb, fun ρ2 v2 H2 E2 R2 r2 => q ρ2 _ H2 (E1.trans E2) R2 (.cons (r1.mono E2) r2)⟩⟩
theorem se_tup {k : Nat} (h : SA cm X es xs) : SE cm X (.Tuple es k pos) (xTup xs) := PE_imp (pe_tup h) fun σ H Q h => by
  obtain ⟨ρ, sg, m, d, m', hs, hr, e, q⟩ := h
  unfold xTup at e
  split at e
  · cases e
  · rename_i d1 m1 ea
    split at e
    · rename_i hl
      cases e
      exact ⟨ρ, sg, m, d1, _, hs, hr, ea, fun ρ1 v1 H1 E1 R1 r1 => ⟨sz (by rw [r1.length]; exact hl), fun p hp => q ρ1 _ _ (E1.trans (Ev.new hp)) (R1.new hp) (.tup (.inl ⟨R1.notIn hp, .inl upd_same⟩) (r1.mono (Ev.new hp)))⟩⟩
    · cases e
theorem se_lst (h : SA cm X es xs) : SE cm X (.List es pos) (xLst xs) := PE_imp (pe_lst h) fun σ H Q h => by
  obtain ⟨ρ, sg, m, d, m', hs, hr, e, q⟩ := h
  unfold xLst at e
  split at e
  · cases e
  · rename_i d1 m1 ea
    split at e
    · rename_i hl
      cases e
      exact ⟨ρ, sg, m, d1, _, hs, hr, ea, fun ρ1 v1 H1 E1 R1 r1 => ⟨sz (by rw [r1.length]; exact hl), fun p hp => q ρ1 _ _ (E1.trans (Ev.new hp)) (R1.new hp) (.lst (R1.notIn hp) upd_same (r1.mono (Ev.new hp)))⟩⟩
    · cases e
theorem se_lstM (h : SA cm X es xs) : SE cm X (.List es pos) (xLstM xs) := PE_imp (pe_lst h) fun σ H Q h => by
  obtain ⟨ρ, sg, m, d, m', hs, hr, e, q⟩ := h
  unfold xLstM at e
  split at e
  · cases e
  · rename_i d1 m1 ea
    split at e
    · rename_i hl
      cases e
      exact ⟨ρ, sg, m, d1, _, hs, hr, ea, fun ρ1 v1 H1 E1 R1 r1 => ⟨sz (by rw [r1.length]; exact hl), fun p hp => q (ρ1.add p) _ _ (E1.trans (Ev.alloc hp)) (R1.alloc hp ⟨_, upd_same, r1.mono (Ev.alloc hp)⟩) (.ref R1.last)⟩⟩
    · cases e
end
end Mini

set_option Elab.async false
set_option maxRecDepth 100000
namespace Mini
open PySem L2

/-! ### operations on values -/
abbrev F2 := D → D → M → Option (D × M)
abbrev F1 := D → M → Option (D × M)
abbrev FN := List D → M → Option (D × M)
def fAdd : F2
  | .int i, .int j, m => some (.int (i + j), m)
  | .str a, .str b, m => if a.length + b.length ≤ 100000 then some (.str (a ++ b), m) else none
  | .tup a, .tup b, m => if a.length + b.length ≤ 100000 then some (.tup (a ++ b), m) else none
  | .lst a, .lst b, m => if a.length + b.length ≤ 100000 then some (.lst (a ++ b), m) else none
  | _, _, _ => none
def fSub : F2
  | .int i, .int j, m => some (.int (i - j), m)
  | _, _, _ => none
def smallI (i : Int) : Bool := decide (-18446744073709551616 < i) && decide (i < 18446744073709551616)
def fMul : F2
  | .int i, .int j, m => if (smallI i || smallI j) = true then some (.int (i * j), m) else none
  | _, _, _ => none
def fDiv : F2
  | .int i, .int j, m => if (decide (0 < j) && decide (j < 18446744073709551616)) = true then some (.int (i / j), m) else none
  | _, _, _ => none
def fMod : F2
  | .int i, .int j, m => if decide (0 < j) = true then some (.int (i % j), m) else none
  | _, _, _ => none
def fNeg : F1
  | .int i, m => some (.int (-i), m)
  | _, _ => none
def fCmp (p : Int → Int → Bool) : F2
  | .int i, .int j, m => some (.bl (p i j), m)
  | _, _, _ => none
abbrev fLt : F2 := fCmp fun i j => decide (i < j)
abbrev fLe : F2 := fCmp fun i j => decide (i ≤ j)
abbrev fGt : F2 := fCmp fun i j => decide (j < i)
abbrev fGe : F2 := fCmp fun i j => decide (j ≤ i)
mutual
def plainD : D → Bool
  | .non => true | .bl _ => true | .int _ => true | .str _ => true
  | .tup xs => plainDs xs
  | .ptp xs => plainDs xs
  | .lst xs => plainDs xs
  | .rol _ => false | .dct _ => false | .ref _ => false
def plainDs : List D → Bool
  | [] => true
  | x :: r => plainD x && plainDs r
end
mutual
def toPy : D → PyData
  | .non => .none | .bl b => .bool b | .int i => .int i | .str x => .str x
  | .tup xs => .tuple (toPys xs)
  | .ptp xs => .tuple (toPys xs)
  | .lst xs => .list (toPys xs)
  | .rol _ => .none | .dct _ => .none | .ref _ => .none
def toPys : List D → List PyData
  | [] => []
  | x :: r => toPy x :: toPys r
end
/-- == of data -/
def eqD (a b : D) : Option Bool := match a, b with
  | .int i, .int j => some (decide (i = j))
  | .str x, .str y => some (decide (x = y))
  | .bl x, .bl y => some (decide (x = y))
  | a, b => if (plainD a && plainD b && SeqAt.shaped (toPy a) && SeqAt.shaped (toPy b)) = true then some (PyData.eqv (toPy a) (toPy b)) else none
def fEq : F2 := fun a b m => match eqD a b with
  | some k => some (.bl k, m)
  | none => none
def fNe : F2 := fun a b m => match eqD a b with
  | some k => some (.bl (!k), m)
  | none => none
def fIsN : F2
  | .non, .non, m => some (.bl true, m)
  | .bl _, .non, m => some (.bl false, m)
  | .int _, .non, m => some (.bl false, m)
  | .str _, .non, m => some (.bl false, m)
  | .tup _, .non, m => some (.bl false, m)
  | .ptp _, .non, m => some (.bl false, m)
  | .lst _, .non, m => some (.bl false, m)
  | .rol _, .non, m => some (.bl false, m)
  | .dct _, .non, m => some (.bl false, m)
  | .ref _, .non, m => some (.bl false, m)
  | _, _, _ => none
def fNotN : F2
  | .non, .non, m => some (.bl false, m)
  | .bl _, .non, m => some (.bl true, m)
  | .int _, .non, m => some (.bl true, m)
  | .str _, .non, m => some (.bl true, m)
  | .tup _, .non, m => some (.bl true, m)
  | .ptp _, .non, m => some (.bl true, m)
  | .lst _, .non, m => some (.bl true, m)
  | .rol _, .non, m => some (.bl true, m)
  | .dct _, .non, m => some (.bl true, m)
  | .ref _, .non, m => some (.bl true, m)
  | _, _, _ => none
/-- the items of a list or a tuple -/
def seqD : D → M → Option (List D)
  | .tup xs, _ => some xs
  | .ptp xs, _ => some xs
  | .lst xs, _ => some xs
  | .rol xs, _ => some xs
  | .ref i, m => match m[i]? with
    | some (.lst xs) => some xs
    | _ => none
  | _, _ => none
/-- the pairs of a dict -/
def dctD : D → M → Option (List (Key × D))
  | .dct kvs, _ => some kvs
  | .ref i, m => match m[i]? with
    | some (.dct kvs) => some kvs
    | some (.dctL kvs) => some kvs
    | _ => none
  | _, _ => none
def flatD : D → Bool
  | .non => true | .bl _ => true | .int _ => true | .str _ => true | _ => false
def eqF : D → D → Bool
  | .non, .non => true
  | .bl a, .bl b => a == b
  | .bl a, .int b => (if a then 1 else 0) == b
  | .int a, .bl b => a == (if b then 1 else 0)
  | .int a, .int b => a == b
  | .str a, .str b => a == b
  | _, _ => false
def inD (x : D) (xs : List D) : Bool := xs.any fun y => eqF y x
def keyD : D → Option Key
  | .int i => some (.inl i)
  | .str x => some (.inr x)
  | _ => none
def lookD (kvs : List (Key × D)) (k : Key) : Option D := (kvs.find? fun kv => decide (kv.1 = k)).map (·.2)
def putD (kvs : List (Key × D)) (k : Key) (v : D) : List (Key × D) :=
  if (kvs.any fun kv => decide (kv.1 = k)) = true then kvs.map (fun kv => if kv.1 = k then (kv.1, v) else kv) else kvs ++ [(k, v)]
def dropD (kvs : List (Key × D)) (k : Key) : List (Key × D) := kvs.filter fun kv => decide (kv.1 ≠ k)
/-- x in a list, a tuple, a dict -/
def memD (x y : D) (m : M) : Option Bool := match seqD y m with
  | some xs => if (flatD x && xs.all flatD) = true then some (inD x xs) else none
  | none => match dctD y m with
    | some kvs => (match keyD x with
      | some k => some (lookD kvs k).isSome
      | none => none)
    | none => none
def fIn : F2 := fun x y m => match memD x y m with
  | some k => some (.bl k, m)
  | none => none
def fNotIn : F2 := fun x y m => match memD x y m with
  | some k => some (.bl (!k), m)
  | none => none
/-- s[i] -/
def fIx : F2 := fun o i m => match i with
  | .int n => (match seqD o m with
    | some xs => (match atI xs n with
      | some d => some (d, m)
      | none => none)
    | none => match o with
      | .str z => if z.length ≤ 100000 then (match atI z.cps.toList n with
        | some c => some (.str ⟨#[c]⟩, m)
        | none => none) else none
      | _ => none)
  | _ => none
/-- d[k] -/
def fDGet : F2 := fun o k m => match dctD o m, keyD k with
  | some kvs, some k => (match lookD kvs k with
    | some d => some (d, m)
    | none => none)
  | _, _ => none
def fLen : FN
  | [.str z], m => if z.length ≤ 100000 then some (.int z.length, m) else none
  | [d], m => (match seqD d m with
    | some xs => some (.int xs.length, m)
    | none => none)
  | _, _ => none
def fAbs : FN
  | [.int i], m => some (.int (if i < 0 then -i else i), m)
  | _, _ => none
def fMax2 : FN
  | [.int i, .int j], m => some (.int (if j > i then j else i), m)
  | _, _ => none
def fMin2 : FN
  | [.int i, .int j], m => some (.int (if j < i then j else i), m)
  | _, _ => none
def fInt : FN
  | [.int i], m => some (.int i, m)
  | [.bl k], m => some (.int (if k then 1 else 0), m)
  | _, _ => none
def fBool : FN
  | [.int i], m => some (.bl (i != 0), m)
  | [.bl k], m => some (.bl k, m)
  | _, _ => none
def intsD : List D → Option (List Int)
  | [] => some []
  | .int i :: r => (match intsD r with
    | some ns => some (i :: ns)
    | none => none)
  | _ :: _ => none
def blsD : List D → Option (List Bool)
  | [] => some []
  | .bl i :: r => (match blsD r with
    | some ns => some (i :: ns)
    | none => none)
  | _ :: _ => none
def maxL : List Int → Int
  | [] => 0
  | [i] => i
  | i :: r => max i (maxL r)
def minL : List Int → Int
  | [] => 0
  | [i] => i
  | i :: r => min i (minL r)
/-- a list (no tuple) -/
def listD : D → M → Option (List D)
  | .tup _, _ => none
  | .ptp _, _ => none
  | d, m => seqD d m
def fMax1 : FN
  | [d], m => (match listD d m with
    | some xs => (match intsD xs with
      | some (i :: r) => some (.int (maxL (i :: r)), m)
      | _ => none)
    | none => none)
  | _, _ => none
def fMin1 : FN
  | [d], m => (match listD d m with
    | some xs => (match intsD xs with
      | some (i :: r) => some (.int (minL (i :: r)), m)
      | _ => none)
    | none => none)
  | _, _ => none
def fAny : FN
  | [d], m => (match listD d m with
    | some xs => (match blsD xs with
      | some bs => some (.bl (bs.any id), m)
      | none => none)
    | none => none)
  | _, _ => none
def fAll : FN
  | [d], m => (match listD d m with
    | some xs => (match blsD xs with
      | some bs => some (.bl (bs.all id), m)
      | none => none)
    | none => none)
  | _, _ => none
/-- tuple(xs) -/
def fTuple : FN
  | [.ptp xs], m => some (.ptp xs, m)
  | [d], m => (match seqD d m with
    | some xs => some (.tup xs, m)
    | none => none)
  | _, _ => none
/-- list(xs), not to be changed; to be changed -/
def fList : FN
  | [d], m => (match seqD d m with
    | some xs => some (.lst xs, m)
    | none => none)
  | _, _ => none
def fListM : FN
  | [d], m => (match seqD d m with
    | some xs => some (.ref m.length, m ++ [.lst xs])
    | none => none)
  | _, _ => none
end Mini

set_option Elab.async false
set_option maxRecDepth 100000
namespace Mini
open PySem L2

section
variable {K : PySem.W.Frag} {cm : Nat → Addr} {ρ : Wd} {H : Hp} {m : M}
theorem RDs.append : ∀ {vs : List V} {ds : List D} {ws : List V} {es : List D}, RDs K ρ H vs ds → RDs K ρ H ws es → RDs K ρ H (vs ++ ws) (ds ++ es)
  | _, _, _, _, .nil, s => s
  | _, _, _, _, .cons r t, s => .cons r (RDs.append t s)
theorem RDs.get : ∀ {vs : List V} {ds : List D} {i : Nat} {d : D}, RDs K ρ H vs ds → ds[i]? = some d → ∃ v, vs[i]? = some v ∧ RD K ρ H v d
  | _, _, _, _, .nil, e => by simp at e
  | _, _, 0, _, .cons r _, e => by
    simp at e
    subst e
    exact ⟨_, rfl, r⟩
  | _, _, i + 1, d, .cons _ t, e => by
    obtain ⟨v, h1, h2⟩ := RDs.get (i := i) (d := d) t (by simpa using e)
    exact ⟨v, by simpa using h1, h2⟩
theorem RDs.get' : ∀ {vs : List V} {ds : List D} {i : Nat} {v : V}, RDs K ρ H vs ds → vs[i]? = some v → ∃ d, ds[i]? = some d ∧ RD K ρ H v d
  | _, _, _, _, .nil, e => by simp at e
  | _, _, 0, _, .cons r _, e => by
    simp at e
    subst e
    exact ⟨_, rfl, r⟩
  | _, _, i + 1, d, .cons _ t, e => by
    obtain ⟨v, h1, h2⟩ := RDs.get' (i := i) (v := d) t (by simpa using e)
    exact ⟨v, by simpa using h1, h2⟩
theorem RDs.take : ∀ {vs : List V} {ds : List D} (n : Nat), RDs K ρ H vs ds → RDs K ρ H (vs.take n) (ds.take n)
  | _, _, 0, _ => by simpa using RDs.nil
  | _, _, _ + 1, .nil => .nil
  | _, _, n + 1, .cons r t => .cons r (RDs.take n t)
theorem RDs.drop : ∀ {vs : List V} {ds : List D} (n : Nat), RDs K ρ H vs ds → RDs K ρ H (vs.drop n) (ds.drop n)
  | _, _, 0, r => r
  | _, _, _ + 1, .nil => .nil
  | _, _, n + 1, .cons _ t => RDs.drop n t
theorem RDs.set {v : V} {d : D} (r : RD K ρ H v d) : ∀ {vs : List V} {ds : List D} (i : Nat), RDs K ρ H vs ds → RDs K ρ H (vs.set i v) (ds.set i d)
  | _, _, _, .nil => .nil
  | _, _, 0, .cons _ t => .cons r t
  | _, _, i + 1, .cons q t => .cons q (RDs.set r i t)
theorem seq_of {v : V} {d : D} {ds : List D} (R : Rep K cm ρ m H) (r : RD K ρ H v d) (e : seqD d m = some ds) : ∃ a xs, v = .ref a ∧ (SqL K H a xs ∨ SqT K H a xs) ∧ RDs K ρ H xs ds := by
  cases r with
  | non => cases e
  | bl => cases e
  | int => cases e
  | str => cases e
  | ref h =>
    simp only [seqD] at e
    split at e
    · rename_i xs hm
      obtain ⟨a, e1, xs', hx, rx⟩ := R.at_ _ _ hm
      rw [h] at e1
      cases e1
      cases e
      exact ⟨_, xs', rfl, .inl (SqL.of hx), rx⟩
    · cases e
  | tup h rx => cases e; exact ⟨_, _, rfl, .inr h.sq, rx⟩
  | ptp n h hd rx => cases e; exact ⟨_, _, rfl, .inr (TAt.sq (.inl ⟨n, .inr ⟨_, h⟩⟩)), rx⟩
  | lst n h rx => cases e; exact ⟨_, _, rfl, .inl (SqL.of h), rx⟩
  | rol h rx => cases e; exact ⟨_, _, rfl, .inl h.sq, rx⟩
  | dct _ _ _ => cases e
theorem list_of {v : V} {d : D} {ds : List D} (R : Rep K cm ρ m H) (r : RD K ρ H v d) (e : listD d m = some ds) : ∃ a xs, v = .ref a ∧ SqL K H a xs ∧ RDs K ρ H xs ds := by
  cases r with
  | non => cases e
  | bl => cases e
  | int => cases e
  | str => cases e
  | ref h =>
    simp only [listD, seqD] at e
    split at e
    · rename_i xs hm
      obtain ⟨a, e1, xs', hx, rx⟩ := R.at_ _ _ hm
      rw [h] at e1
      cases e1
      cases e
      exact ⟨_, xs', rfl, SqL.of hx, rx⟩
    · cases e
  | tup h rx => cases e
  | ptp n h hd rx => cases e
  | lst n h rx => cases e; exact ⟨_, _, rfl, SqL.of h, rx⟩
  | rol h rx => cases e; exact ⟨_, _, rfl, h.sq, rx⟩
  | dct _ _ _ => cases e
theorem dct_of {v : V} {d : D} {kvs : List (Key × D)} (R : Rep K cm ρ m H) (r : RD K ρ H v d) (e : dctD d m = some kvs) : ∃ a es, v = .ref a ∧ Rd H a (.dK es) ∧ RKs K ρ H es kvs := by
  cases r with
  | non => cases e
  | bl => cases e
  | int => cases e
  | str => cases e
  | ref h =>
    simp only [dctD] at e
    split at e
    · rename_i xs hm
      obtain ⟨a, e1, xs', hx, rx⟩ := R.at_ _ _ hm
      rw [h] at e1
      cases e1
      cases e
      exact ⟨_, xs', rfl, .inl hx, rx⟩
    · rename_i xs hm
      obtain ⟨a, e1, ob, xs', hx, rx⟩ := R.at_ _ _ hm
      rw [h] at e1
      cases e1
      cases e
      exact ⟨_, xs', rfl, .inr ⟨ob, hx⟩, rx⟩
    · cases e
  | tup h rx => cases e
  | ptp n h hd rx => cases e
  | lst n h rx => cases e
  | rol h rx => cases e
  | dct n h rx => cases e; exact ⟨_, _, rfl, h, rx⟩
theorem key_rel {v : V} {d : D} {k : Key} (r : RD K ρ H v d) (e : keyD d = some k) : v = kV k := by
  cases r <;> cases e <;> rfl
theorem look_rel {k : Key} : ∀ {es : List (Key × V)} {kvs : List (Key × D)}, RKs K ρ H es kvs → (lookD kvs k = none ∧ valV es k = none) ∨ ∃ d v, lookD kvs k = some d ∧ valV es k = some v ∧ RD K ρ H v d
  | _, _, .nil => .inl ⟨rfl, rfl⟩
  | _, _, .cons (k := k') (v := v) (vs := vs) (d := d) (ds := ds) r t => by
    by_cases h : k' = k
    · refine .inr ⟨d, v, ?_, ?_, r⟩
      · simp [lookD, h]
      · simp [valV, h]
    · have e1 : lookD ((k', d) :: ds) k = lookD ds k := by simp [lookD, h]
      have e2 : valV ((k', v) :: vs) k = valV vs k := by simp [valV, h]
      rw [e1, e2]
      exact look_rel t
theorem look_some {k : Key} {es : List (Key × V)} {kvs : List (Key × D)} {d : D} (r : RKs K ρ H es kvs) (e : lookD kvs k = some d) : ∃ v, valV es k = some v ∧ RD K ρ H v d := by
  rcases look_rel (k := k) r with ⟨h, _⟩ | ⟨d', v, h1, h2, h3⟩
  · rw [h] at e; cases e
  · rw [h1] at e; cases e; exact ⟨v, h2, h3⟩
theorem look_isSome {k : Key} {es : List (Key × V)} {kvs : List (Key × D)} (r : RKs K ρ H es kvs) : (valV es k).isSome = (lookD kvs k).isSome := by
  rcases look_rel (k := k) r with ⟨h, h'⟩ | ⟨d', v, h1, h2, h3⟩
  · rw [h, h']; rfl
  · rw [h1, h2]; rfl
theorem flat_rel {v : V} {d : D} (r : RD K ρ H v d) (e : flatD d = true) : flatV v = true := by
  cases r <;> first | rfl | (simp [flatD] at e; done)
theorem flats_rel : ∀ {vs : List V} {ds : List D}, RDs K ρ H vs ds → ds.all flatD = true → vs.all flatV = true
  | _, _, .nil, _ => rfl
  | _, _, .cons r t, e => by
    simp only [List.all_cons, Bool.and_eq_true] at e ⊢
    exact ⟨flat_rel r e.1, flats_rel t e.2⟩
theorem eq_rel {v w : V} {d e : D} (r : RD K ρ H v d) (q : RD K ρ H w e) (f : flatD d = true) (g : flatD e = true) : eqV v w = eqF d e := by
  cases r <;> first | (simp [flatD] at f; done) | (cases q <;> first | (simp [flatD] at g; done) | rfl)
theorem in_rel {x : V} {d : D} (r : RD K ρ H x d) (f : flatD d = true) : ∀ {vs : List V} {ds : List D}, RDs K ρ H vs ds → ds.all flatD = true → inV x vs = inD d ds
  | _, _, .nil, _ => rfl
  | _, _, .cons q t, e => by
    simp only [List.all_cons, Bool.and_eq_true] at e
    simp only [inV, inD, List.any_cons, eq_rel q r e.1 f]
    congr 1
    exact in_rel r f t e.2
theorem ints_rel : ∀ {vs : List V} {ds : List D} {ns : List Int}, RDs K ρ H vs ds → intsD ds = some ns → vs = ns.map V.int
  | _, _, _, .nil, e => by cases e; rfl
  | _, _, _, .cons r t, e => by
    cases r with
    | int =>
      simp only [intsD] at e
      split at e
      · rename_i ns' e'
        cases e
        rw [ints_rel t e']
        rfl
      · cases e
    | _ => cases e
theorem bls_rel : ∀ {vs : List V} {ds : List D} {ns : List Bool}, RDs K ρ H vs ds → blsD ds = some ns → vs = ns.map V.bl
  | _, _, _, .nil, e => by cases e; rfl
  | _, _, _, .cons r t, e => by
    cases r with
    | bl =>
      simp only [blsD] at e
      split at e
      · rename_i ns' e'
        cases e
        rw [bls_rel t e']
        rfl
      · cases e
    | _ => cases e
theorem rds_ints : ∀ (ns : List Int), RDs K ρ H (ns.map V.int) (ns.map D.int)
  | [] => .nil
  | _ :: r => .cons .int (rds_ints r)
theorem atI_rel {vs : List V} {ds : List D} {i : Int} {d : D} (r : RDs K ρ H vs ds) (e : atI ds i = some d) : ∃ v, atI vs i = some v ∧ RD K ρ H v d := by
  unfold atI at e ⊢
  rw [r.length]
  cases hj : ixN ds.length i with
  | none => rw [hj] at e; cases e
  | some j =>
    rw [hj] at e
    exact r.get e
/-! ### data -/
mutual
theorem dp_rel : ∀ (d : D) (v : V), RD K ρ H v d → plainD d = true → Dp K H v (toPy d)
  | .non, _, r, _ => by cases r; exact .non
  | .bl _, _, r, _ => by cases r; exact .bl _
  | .int _, _, r, _ => by cases r; exact .int _
  | .str _, _, r, _ => by cases r; exact .str _
  | .tup xs, _, r, p => by
    cases r with
    | tup h rx => exact .tup h.sq (dps_rel xs _ rx p)
  | .ptp xs, _, r, p => by
    cases r with
    | ptp n h hd rx => exact .tup (TAt.sq (.inl ⟨n, .inr ⟨_, h⟩⟩)) (dps_rel xs _ rx p)
  | .lst xs, _, r, p => by
    cases r with
    | lst n h rx => exact .lst (SqL.of h) (dps_rel xs _ rx p)
  | .rol _, _, _, p => nomatch p
  | .dct _, _, _, p => nomatch p
  | .ref _, _, _, p => nomatch p
theorem dps_rel : ∀ (ds : List D) (vs : List V), RDs K ρ H vs ds → plainDs ds = true → DpAll K H vs (toPys ds)
  | [], _, r, _ => by cases r; exact .nil
  | d :: ds, _, r, p => by
    simp only [plainDs, Bool.and_eq_true] at p
    cases r with
    | cons r t => exact .cons (dp_rel d _ r p.1) (dps_rel ds _ t p.2)
end
end

section
variable {K : PySem.W.Frag} {cm : Nat → Addr} {X : Cx}
def rAddA (K : PySem.W.Frag) : R2 := fun x y H Q => rI0 (fun i j => .int (i + j)) x y H Q ∨ (∃ i j, x = .str i ∧ y = .str j ∧ i.length + j.length ≤ sizeLine ∧ Q (.str (i ++ j)) H) ∨ rCatA K x y H Q ∨ rCat x y H Q
theorem op_addA : OpR X (binaryOp .Add) (rAddA X.K) := OpR.or op_add (OpR.or op_add_str (OpR.or op_catA op_cat))
theorem sr_add : SR2 K cm fAdd (rAddA K) := by
  intro ρ m H x y d1 d2 d3 m' Q R r1 r2 e q
  unfold fAdd at e
  split at e
  · cases r1; cases r2; cases e
    exact .inl ⟨_, _, rfl, rfl, q ρ _ H (Ev.refl ρ H) R .int⟩
  · split at e
    · cases r1; cases r2; cases e; rename_i hl
      exact .inr (.inl ⟨_, _, rfl, rfl, sz hl, q ρ _ H (Ev.refl ρ H) R .str⟩)
    · cases e
  · split at e
    · rename_i a b _ hl
      cases e
      cases r1 with
      | tup h1 rx1 => cases r2 with
        | tup h2 rx2 =>
          refine .inr (.inr (.inl ⟨_, _, _, _, rfl, rfl, h1.sq, h2.sq, sz (by rw [rx1.length, rx2.length]; exact hl), fun e0 => ?_, fun n0 e0 => ?_, fun n0 n1 p hp => ?_⟩))
          · have h0 := List.eq_nil_of_length_eq_zero (rx1.length.symm.trans (by rw [e0]; rfl))
            subst h0
            exact q ρ _ H (Ev.refl ρ H) R (.tup h2 rx2)
          · have h0 := List.eq_nil_of_length_eq_zero (rx2.length.symm.trans (by rw [e0]; rfl))
            subst h0
            exact q ρ _ H (Ev.refl ρ H) R (.tup h1 (by simpa using rx1))
          · exact q ρ _ _ (Ev.new hp) (R.new hp) (.tup (.inl ⟨R.notIn hp, .inl upd_same⟩) ((rx1.append rx2).mono (Ev.new hp)))
    · cases e
  · split at e
    · rename_i a b _ hl
      cases e
      cases r1 with
      | lst n1 h1 rx1 => cases r2 with
        | lst n2 h2 rx2 =>
          refine .inr (.inr (.inr ⟨_, _, _, _, rfl, rfl, h1, h2, sz (by rw [rx1.length, rx2.length]; exact hl), fun p hp => ?_⟩))
          exact q ρ _ _ (Ev.new hp) (R.new hp) (.lst (R.notIn hp) upd_same ((rx1.append rx2).mono (Ev.new hp)))
    · cases e
  · cases e
theorem sr_sub : SR2 K cm fSub (rI0 fun i j => .int (i - j)) := by
  intro ρ m H x y d1 d2 d3 m' Q R r1 r2 e q
  unfold fSub at e
  split at e
  · cases r1; cases r2; cases e
    exact ⟨_, _, rfl, rfl, q ρ _ H (Ev.refl ρ H) R .int⟩
  · cases e
theorem smallI_of {i : Int} (h : smallI i = true) : -(2 ^ 64) < i ∧ i < 2 ^ 64 := by
  simp only [smallI, Bool.and_eq_true, decide_eq_true_eq] at h
  omega
theorem sr_mul : SR2 K cm fMul (rI CMul fun i j => .int (i * j)) := by
  intro ρ m H x y d1 d2 d3 m' Q R r1 r2 e q
  unfold fMul at e
  split at e
  · split at e
    · rename_i hl
      cases r1; cases r2; cases e
      refine ⟨_, _, rfl, rfl, ?_, q ρ _ H (Ev.refl ρ H) R .int⟩
      simp only [Bool.or_eq_true] at hl
      rcases hl with h | h
      · exact .inl (smallI_of h)
      · exact .inr (smallI_of h)
    · cases e
  · cases e
theorem sr_div : SR2 K cm fDiv (rI CDivW fun i j => .int (i / j)) := by
  intro ρ m H x y d1 d2 d3 m' Q R r1 r2 e q
  unfold fDiv at e
  split at e
  · split at e
    · rename_i hl
      cases r1; cases r2; cases e
      simp only [Bool.and_eq_true, decide_eq_true_eq] at hl
      exact ⟨_, _, rfl, rfl, wide_div (b := 64) hl.1 (by omega) (by decide) (by decide), q ρ _ H (Ev.refl ρ H) R .int⟩
    · cases e
  · cases e
theorem sr_mod : SR2 K cm fMod (rI (fun _ j => 0 < j) fun i j => .int (i % j)) := by
  intro ρ m H x y d1 d2 d3 m' Q R r1 r2 e q
  unfold fMod at e
  split at e
  · split at e
    · rename_i hl
      cases r1; cases r2; cases e
      exact ⟨_, _, rfl, rfl, of_decide_eq_true hl, q ρ _ H (Ev.refl ρ H) R .int⟩
    · cases e
  · cases e
theorem sr_neg : SR1 K cm fNeg (rU fun i => .int (-i)) := by
  intro ρ m H x d1 d3 m' Q R r1 e q
  unfold fNeg at e
  split at e
  · cases r1; cases e
    exact ⟨_, rfl, q ρ _ H (Ev.refl ρ H) R .int⟩
  · cases e
theorem sr_cmp {p : Int → Int → Bool} : SR2 K cm (fCmp p) (rI0 fun i j => .bl (p i j)) := by
  intro ρ m H x y d1 d2 d3 m' Q R r1 r2 e q
  unfold fCmp at e
  split at e
  · cases r1; cases r2; cases e
    exact ⟨_, _, rfl, rfl, q ρ _ H (Ev.refl ρ H) R .bl⟩
  · cases e
def rEqA (K : PySem.W.Frag) : R2 := fun x y H Q => rEq x y H Q ∨ rEqD K x y H Q
def rNeA (K : PySem.W.Frag) : R2 := fun x y H Q => rNe x y H Q ∨ rNeD K x y H Q
theorem op_eqA (hu : X.A.units + 64 < cLine) : OpR X (compareOp .Eq) (rEqA X.K) := OpR.or op_eq (op_eqD hu)
theorem op_neA (hu : X.A.units + 64 < cLine) : OpR X (compareOp .NotEq) (rNeA X.K) := OpR.or op_ne (op_neD hu)
theorem sr_eq : SR2 K cm fEq (rEqA K) := by
  intro ρ m H x y d1 d2 d3 m' Q R r1 r2 e q
  unfold fEq at e
  split at e
  · rename_i k ek
    cases e
    unfold eqD at ek
    split at ek
    · cases r1; cases r2; cases ek
      exact .inl ⟨rfl, by rw [dec_int, Bool.beq_eq_decide_eq]; exact q ρ _ H (Ev.refl ρ H) R .bl⟩
    · cases r1; cases r2; cases ek
      exact .inl ⟨rfl, by rw [dec_str, Bool.beq_eq_decide_eq]; exact q ρ _ H (Ev.refl ρ H) R .bl⟩
    · cases r1; cases r2; cases ek
      exact .inl ⟨rfl, by rw [dec_bl, Bool.beq_eq_decide_eq]; exact q ρ _ H (Ev.refl ρ H) R .bl⟩
    · split at ek
      · rename_i hp
        simp only [Bool.and_eq_true] at hp
        cases ek
        exact .inr ⟨_, _, dp_rel _ _ r1 hp.1.1.1, dp_rel _ _ r2 hp.1.1.2, hp.1.2, hp.2, q ρ _ H (Ev.refl ρ H) R .bl⟩
      · cases ek
  · cases e
theorem sr_ne : SR2 K cm fNe (rNeA K) := by
  intro ρ m H x y d1 d2 d3 m' Q R r1 r2 e q
  unfold fNe at e
  split at e
  · rename_i k ek
    cases e
    unfold eqD at ek
    split at ek
    · cases r1; cases r2; cases ek
      exact .inl ⟨rfl, by rw [dec_int, Bool.beq_eq_decide_eq]; exact q ρ _ H (Ev.refl ρ H) R .bl⟩
    · cases r1; cases r2; cases ek
      exact .inl ⟨rfl, by rw [dec_str, Bool.beq_eq_decide_eq]; exact q ρ _ H (Ev.refl ρ H) R .bl⟩
    · cases r1; cases r2; cases ek
      exact .inl ⟨rfl, by rw [dec_bl, Bool.beq_eq_decide_eq]; exact q ρ _ H (Ev.refl ρ H) R .bl⟩
    · split at ek
      · rename_i hp
        simp only [Bool.and_eq_true] at hp
        cases ek
        exact .inr ⟨_, _, dp_rel _ _ r1 hp.1.1.1, dp_rel _ _ r2 hp.1.1.2, hp.1.2, hp.2, q ρ _ H (Ev.refl ρ H) R .bl⟩
      · cases ek
  · cases e
theorem sr_isN : SR2 K cm fIsN (fun x y H Q => y = .non ∧ Q (.bl (decide (x = .non))) H) := by
  intro ρ m H x y d1 d2 d3 m' Q R r1 r2 e q
  cases r2 <;> first | (cases r1 <;> first | (cases e; exact ⟨rfl, q ρ _ H (Ev.refl ρ H) R .bl⟩) | cases e) | (cases r1 <;> cases e)
theorem sr_notN : SR2 K cm fNotN (fun x y H Q => y = .non ∧ Q (.bl (!decide (x = .non))) H) := by
  intro ρ m H x y d1 d2 d3 m' Q R r1 r2 e q
  cases r2 <;> first | (cases r1 <;> first | (cases e; exact ⟨rfl, q ρ _ H (Ev.refl ρ H) R .bl⟩) | cases e) | (cases r1 <;> cases e)
def rDIn : R2 := fun y x H Q => ∃ a o, x = .ref a ∧ DGet H a y o ∧ Q (.bl o.isSome) H
def rDNotIn : R2 := fun y x H Q => ∃ a o, x = .ref a ∧ DGet H a y o ∧ Q (.bl (!o.isSome)) H
theorem op_din (hu : X.A.units + 1 < cLine) : OpR X (compareOp .In) rDIn := by
  intro pins s σ H x y v u Q I rx ry h
  obtain ⟨a, o, rfl, g, q⟩ := h
  cases ry
  exact d_in hu I g rx fun s' I' => ⟨.bl o.isSome, H, I', rfl, q⟩
theorem op_dnotIn (hu : X.A.units + 1 < cLine) : OpR X (compareOp .NotIn) rDNotIn := by
  intro pins s σ H x y v u Q I rx ry h
  obtain ⟨a, o, rfl, g, q⟩ := h
  cases ry
  exact d_notIn hu I g rx fun s' I' => ⟨.bl (!o.isSome), H, I', rfl, q⟩
def rInA (K : PySem.W.Frag) : R2 := fun x y H Q => rIn K false x y H Q ∨ rDIn x y H Q
def rNotInA (K : PySem.W.Frag) : R2 := fun x y H Q => rIn K true x y H Q ∨ rDNotIn x y H Q
theorem op_inA (hu : X.A.units + 1 < cLine) : OpR X (compareOp .In) (rInA X.K) := OpR.or op_in_seq (op_din hu)
theorem op_notInA (hu : X.A.units + 1 < cLine) : OpR X (compareOp .NotIn) (rNotInA X.K) := OpR.or op_notIn_seq (op_dnotIn hu)
theorem sr_in : SR2 K cm fIn (rInA K) := by
  intro ρ m H x y d1 d2 d3 m' Q R r1 r2 e q
  unfold fIn at e
  split at e
  · rename_i k ek
    cases e
    unfold memD at ek
    split at ek
    · rename_i xs hs
      split at ek
      · rename_i hf
        simp only [Bool.and_eq_true] at hf
        cases ek
        obtain ⟨a, xs', rfl, hq, rx⟩ := seq_of R r2 hs
        refine .inl ⟨a, xs', rfl, hq, flat_rel r1 hf.1, flats_rel rx hf.2, ?_⟩
        rw [in_rel r1 hf.1 rx hf.2]
        exact q ρ _ H (Ev.refl ρ H) R .bl
      · cases ek
    · split at ek
      · rename_i kvs hd
        split at ek
        · rename_i k' hk
          cases ek
          obtain ⟨a, es, rfl, hq, rx⟩ := dct_of R r2 hd
          refine .inr ⟨a, valV es k', rfl, .inl ⟨es, k', hq, key_rel r1 hk, rfl⟩, ?_⟩
          rw [look_isSome rx]
          exact q ρ _ H (Ev.refl ρ H) R .bl
        · cases ek
      · cases ek
  · cases e
theorem sr_notIn : SR2 K cm fNotIn (rNotInA K) := by
  intro ρ m H x y d1 d2 d3 m' Q R r1 r2 e q
  unfold fNotIn at e
  split at e
  · rename_i k ek
    cases e
    unfold memD at ek
    split at ek
    · rename_i xs hs
      split at ek
      · rename_i hf
        simp only [Bool.and_eq_true] at hf
        cases ek
        obtain ⟨a, xs', rfl, hq, rx⟩ := seq_of R r2 hs
        refine .inl ⟨a, xs', rfl, hq, flat_rel r1 hf.1, flats_rel rx hf.2, ?_⟩
        rw [in_rel r1 hf.1 rx hf.2]
        exact q ρ _ H (Ev.refl ρ H) R .bl
      · cases ek
    · split at ek
      · rename_i kvs hd
        split at ek
        · rename_i k' hk
          cases ek
          obtain ⟨a, es, rfl, hq, rx⟩ := dct_of R r2 hd
          refine .inr ⟨a, valV es k', rfl, .inl ⟨es, k', hq, key_rel r1 hk, rfl⟩, ?_⟩
          rw [look_isSome rx]
          exact q ρ _ H (Ev.refl ρ H) R .bl
        · cases ek
      · cases ek
  · cases e
theorem sr_ix : SR2 K cm fIx (rIx K) := by
  intro ρ m H x y d1 d2 d3 m' Q R r1 r2 e q
  unfold fIx at e
  split at e
  · rename_i n
    cases r2
    split at e
    · rename_i xs hs
      split at e
      · rename_i d ha
        cases e
        obtain ⟨a, xs', rfl, hq, rx⟩ := seq_of R r1 hs
        obtain ⟨v, hv, rv⟩ := atI_rel rx ha
        rcases hq with hq | hq
        · exact .inl ⟨a, xs', n, v, rfl, rfl, hq, hv, q ρ _ H (Ev.refl ρ H) R rv⟩
        · exact .inr (.inl ⟨a, xs', n, v, rfl, rfl, hq, hv, q ρ _ H (Ev.refl ρ H) R rv⟩)
      · cases e
    · split at e
      · split at e
        · rename_i hl
          split at e
          · rename_i c hc
            cases e
            cases r1
            exact .inr (.inr ⟨_, n, c, rfl, rfl, sz hl, hc, q ρ _ H (Ev.refl ρ H) R .str⟩)
          · cases e
        · cases e
      · cases e
  · cases e
theorem sr_dget {σ : St} {H : Hp} {Q : VK} {a b : XE} (h : tE K cm (xOp fDGet a b) σ H Q) : tDGet (tE K cm a) (tE K cm b) σ H Q := by
  have hf : SR2 K cm fDGet (fun x y H Q => ∃ a v, x = .ref a ∧ DGet H a y (some v) ∧ Q v H) := by
    intro ρ m H x y d1 d2 d3 m' Q R r1 r2 e q
    unfold fDGet at e
    split at e
    · rename_i kvs k hd hk
      split at e
      · rename_i d hl
        cases e
        obtain ⟨a, es, rfl, hq, rx⟩ := dct_of R r1 hd
        obtain ⟨v, hv, rv⟩ := look_some rx hl
        exact ⟨a, v, rfl, .inl ⟨es, k, hq, key_rel r2 hk, hv.symm⟩, q ρ _ H (Ev.refl ρ H) R rv⟩
      · cases e
    · cases e
  exact t_op hf h
end
end Mini

set_option Elab.async false
set_option maxRecDepth 100000
namespace Mini
open PySem L2

/-! ### statements -/
section
variable (K : PySem.W.Frag) (cm : Nat → Addr)
def EndS (ρ : Wd) (H : Hp) (fl : Fl) (sg' : Sg) (m' : M) (D : Ends) : Prop := match fl with
  | .nx => ∀ ρ' σ' H', Ev ρ H ρ' H' → RS K ρ' H' σ' sg' → Rep K cm ρ' m' H' → D.nx σ' H'
  | .bk => ∀ ρ' σ' H', Ev ρ H ρ' H' → RS K ρ' H' σ' sg' → Rep K cm ρ' m' H' → D.bk σ' H'
  | .ct => ∀ ρ' σ' H', Ev ρ H ρ' H' → RS K ρ' H' σ' sg' → Rep K cm ρ' m' H' → D.ct σ' H'
  | .rt d => ∀ ρ' v H', Ev ρ H ρ' H' → Rep K cm ρ' m' H' → RD K ρ' H' v d → D.rt v H'
def tS (x : XS) : TS := fun D σ H => ∃ ρ sg m fl sg' m', RS K ρ H σ sg ∧ Rep K cm ρ m H ∧ x sg m = some (fl, sg', m') ∧ EndS K cm ρ H fl sg' m' D
theorem EndS.mono {K : PySem.W.Frag} {cm : Nat → Addr} {ρ ρ1 : Wd} {H H1 : Hp} {fl : Fl} {sg' : Sg} {m' : M} {D : Ends} (e : Ev ρ H ρ1 H1) (h : EndS K cm ρ H fl sg' m' D) : EndS K cm ρ1 H1 fl sg' m' D := by
  cases fl with
  | nx => exact fun ρ' σ' H' E => h ρ' σ' H' (e.trans E)
  | bk => exact fun ρ' σ' H' E => h ρ' σ' H' (e.trans E)
  | ct => exact fun ρ' σ' H' E => h ρ' σ' H' (e.trans E)
  | rt d => exact fun ρ' σ' H' E => h ρ' σ' H' (e.trans E)
end
abbrev SS (cm : Nat → Addr) (X : Cx) (st : Stmt) (x : XS) : Prop := PS X st (tS X.K cm x)
abbrev SSs (cm : Nat → Addr) (X : Cx) (st : List Stmt) (x : XS) : Prop := PSs X st (tS X.K cm x)
theorem PS_imp {X : Cx} {e : Stmt} {t t' : TS} (h : PS X e t) (w : ∀ D σ H, t' D σ H → t D σ H) : PS X e t' := ⟨fun pins s σ H D I q => h.run pins s σ H D I (w D σ H q)⟩
theorem PSs_imp {X : Cx} {e : List Stmt} {t t' : TS} (h : PSs X e t) (w : ∀ D σ H, t' D σ H → t D σ H) : PSs X e t' := ⟨fun pins s σ H D I q => h.run pins s σ H D I (w D σ H q)⟩

def setS (sg : Sg) (i : Nat) (d : D) : Sg := sg.set i (some d)
def sNil : XS := fun sg m => some (.nx, sg, m)
def sSeq (a b : XS) : XS := fun sg m => match a sg m with
  | some (.nx, sg1, m1) => b sg1 m1
  | r => r
def sSet (i : Nat) (a : XE) : XS := fun sg m => match a sg m with
  | some (d, m1) => some (.nx, setS sg i d, m1)
  | none => none
def sDrop (a : XE) : XS := fun sg m => match a sg m with
  | some (_, m1) => some (.nx, sg, m1)
  | none => none
def sRet (a : XE) : XS := fun sg m => match a sg m with
  | some (d, m1) => some (.rt d, sg, m1)
  | none => none
def sRetN : XS := fun sg m => some (.rt .non, sg, m)
def sBreak : XS := fun sg m => some (.bk, sg, m)
def sCont : XS := fun sg m => some (.ct, sg, m)
def sNever : XS := fun _ _ => none
def sIf (c : XT) (a b : XS) : XS := fun sg m => match c sg m with
  | some (true, m1) => a sg m1
  | some (false, m1) => b sg m1
  | none => none
/-- targets -/
abbrev XG := D → Sg → M → Option (Sg × M)
def gN (i : Nat) : XG := fun d sg m => some (setS sg i d, m)
def gsNil : List D → Sg → M → Option (Sg × M)
  | [], sg, m => some (sg, m)
  | _ :: _, _, _ => none
def gsCons (g : XG) (r : List D → Sg → M → Option (Sg × M)) : List D → Sg → M → Option (Sg × M)
  | d :: ds, sg, m => (match g d sg m with
    | some (sg1, m1) => r ds sg1 m1
    | none => none)
  | [], _, _ => none
def gT (n : Nat) (r : List D → Sg → M → Option (Sg × M)) : XG := fun d sg m => match d with
  | .tup ds => if ds.length = n then r ds sg m else none
  | _ => none
def sAsg (a : XE) (g : XG) : XS := fun sg m => match a sg m with
  | some (d, m1) => (match g d sg m1 with
    | some (sg2, m2) => some (.nx, sg2, m2)
    | none => none)
  | none => none
/-- a, b = x, y: two names -/
def sPar (i j : Nat) (a : XA) : XS := fun sg m => match a sg m with
  | some ([d, e], m1) => some (.nx, setS (setS sg i d) j e, m1)
  | _ => none
def sAug (i : Nat) (f : F2) (a : XE) : XS := fun sg m => match getS sg i with
  | some x => (match a sg m with
    | some (y, m1) => (match f x y m1 with
      | some (z, m2) => some (.nx, setS sg i z, m2)
      | none => none)
    | none => none)
  | none => none

section
variable {K : PySem.W.Frag} {cm : Nat → Addr}
def tG (K : PySem.W.Frag) (cm : Nat → Addr) (g : XG) : TG := fun v σ H Q => ∃ ρ sg m d sg' m', RS K ρ H σ sg ∧ Rep K cm ρ m H ∧ RD K ρ H v d ∧ g d sg m = some (sg', m') ∧ ∀ ρ' σ' H', Ev ρ H ρ' H' → RS K ρ' H' σ' sg' → Rep K cm ρ' m' H' → Q σ' H'
def tGs (K : PySem.W.Frag) (cm : Nat → Addr) (g : List D → Sg → M → Option (Sg × M)) : TGs := fun v σ H Q => ∃ ρ sg m d sg' m', RS K ρ H σ sg ∧ Rep K cm ρ m H ∧ RDs K ρ H v d ∧ g d sg m = some (sg', m') ∧ ∀ ρ' σ' H', Ev ρ H ρ' H' → RS K ρ' H' σ' sg' → Rep K cm ρ' m' H' → Q σ' H'
end
abbrev SG (cm : Nat → Addr) (X : Cx) (e : Expr) (g : XG) : Prop := PG X e (tG X.K cm g)
abbrev SGs (cm : Nat → Addr) (X : Cx) (es : List Expr) (g : List D → Sg → M → Option (Sg × M)) : Prop := PGs X es (tGs X.K cm g)
theorem PG_imp {X : Cx} {e : Expr} {t t' : TG} (h : PG X e t) (w : ∀ v σ H Q, t' v σ H Q → t v σ H Q) : PG X e t' := ⟨fun pins s σ H v u Q I r q => h.run pins s σ H v u Q I r (w v σ H Q q)⟩
theorem PGs_imp {X : Cx} {e : List Expr} {t t' : TGs} (h : PGs X e t) (w : ∀ v σ H Q, t' v σ H Q → t v σ H Q) : PGs X e t' := ⟨fun pins s σ H v u Q I r q => h.run pins s σ H v u Q I r (w v σ H Q q)⟩

section
variable {cm : Nat → Addr} {X : Cx} {st : Stmt} {rest sts : List Stmt} {x y z : XS} {e c : Expr} {es : List Expr} {xa xb : XE} {ta : XT} {g : XG} {gs : List D → Sg → M → Option (Sg × M)} {pos : Pos}
theorem ss_nil : SSs cm X [] sNil := PSs_imp pss_nil fun D σ H h => by
  obtain ⟨ρ, sg, m, fl, sg', m', hs, hr, e, q⟩ := h
  cases e
  exact q ρ σ H (Ev.refl ρ H) hs hr
theorem ss_cons (h1 : SS cm X st x) (h2 : SSs cm X rest y) : SSs cm X (st :: rest) (sSeq x y) := PSs_imp (pss_cons h1 h2) fun D σ H h => by
  obtain ⟨ρ, sg, m, fl, sg', m', hs, hr, e, q⟩ := h
  unfold sSeq at e
  split at e
  · rename_i sg1 m1 e1
    exact ⟨ρ, sg, m, .nx, sg1, m1, hs, hr, e1, fun ρ1 σ1 H1 E1 S1 R1 => ⟨ρ1, sg1, m1, fl, sg', m', S1, R1, e, q.mono E1⟩⟩
  · rename_i hn
    refine ⟨ρ, sg, m, fl, sg', m', hs, hr, e, ?_⟩
    cases fl with
    | nx => exact (hn _ _ e).elim
    | bk => exact q
    | ct => exact q
    | rt d => exact q
theorem ss_one (h1 : SS cm X st x) : SSs cm X [st] x := pss_one h1
theorem s_pass : SS cm X (.Pass pos) sNil := PS_imp ps_pass fun D σ H h => by
  obtain ⟨ρ, sg, m, fl, sg', m', hs, hr, e, q⟩ := h
  cases e
  exact q ρ σ H (Ev.refl ρ H) hs hr
theorem s_doc {x j pos pos'} : SS cm X (.Expr (.Constant (.str x) j pos) pos') sNil := PS_imp ps_doc fun D σ H h => by
  obtain ⟨ρ, sg, m, fl, sg', m', hs, hr, e, q⟩ := h
  cases e
  exact q ρ σ H (Ev.refl ρ H) hs hr
theorem s_break : SS cm X (.Break pos) sBreak := PS_imp ps_break fun D σ H h => by
  obtain ⟨ρ, sg, m, fl, sg', m', hs, hr, e, q⟩ := h
  cases e
  exact q ρ σ H (Ev.refl ρ H) hs hr
theorem s_cont : SS cm X (.Continue pos) sCont := PS_imp ps_continue fun D σ H h => by
  obtain ⟨ρ, sg, m, fl, sg', m', hs, hr, e, q⟩ := h
  cases e
  exact q ρ σ H (Ev.refl ρ H) hs hr
theorem s_never : SS cm X st sNever := PS_imp ps_never fun D σ H h => by
  obtain ⟨ρ, sg, m, fl, sg', m', hs, hr, e, q⟩ := h
  cases e
theorem ss_never : SSs cm X sts sNever := PSs_imp pss_never fun D σ H h => by
  obtain ⟨ρ, sg, m, fl, sg', m', hs, hr, e, q⟩ := h
  cases e
theorem s_expr (he : SE cm X e xa) (hs : swapsWith e none pos.line X.env = pure false := by rfl) : SS cm X (.Expr e pos) (sDrop xa) := PS_imp (ps_expr he hs) fun D σ H h => by
  obtain ⟨ρ, sg, m, fl, sg', m', hs, hr, e, q⟩ := h
  unfold sDrop at e
  split at e
  · rename_i d m1 e1
    cases e
    exact ⟨ρ, sg, m, d, m', hs, hr, e1, fun ρ' v H' E R r => q ρ' σ H' E (hs.mono E) R⟩
  · cases e
theorem s_ret (he : SE cm X e xa) : SS cm X (.Return (some e) pos) (sRet xa) := PS_imp (ps_ret he) fun D σ H h => by
  obtain ⟨ρ, sg, m, fl, sg', m', hs, hr, e, q⟩ := h
  unfold sRet at e
  split at e
  · rename_i d m1 e1
    cases e
    exact ⟨ρ, sg, m, d, m', hs, hr, e1, fun ρ' v H' E R r => q ρ' v H' E R r⟩
  · cases e
theorem s_retN : SS cm X (.Return none pos) sRetN := PS_imp ps_retN fun D σ H h => by
  obtain ⟨ρ, sg, m, fl, sg', m', hs, hr, e, q⟩ := h
  cases e
  exact q ρ .non H (Ev.refl ρ H) hr .non
theorem s_if {a b : List Stmt} (hc : ST cm X c ta) (ha : SSs cm X a x) (hb : SSs cm X b y) : SS cm X (.If c a b pos) (sIf ta x y) := PS_imp (ps_if hc ha hb) fun D σ H h => by
  obtain ⟨ρ, sg, m, fl, sg', m', hs, hr, e, q⟩ := h
  unfold sIf at e
  split at e
  · rename_i m1 e1
    refine ⟨ρ, sg, m, true, m1, hs, hr, e1, fun ρ1 H1 E1 R1 => iteT ?_⟩
    exact ⟨ρ1, sg, m1, fl, sg', m', hs.mono E1, R1, e, q.mono E1⟩
  · rename_i m1 e1
    refine ⟨ρ, sg, m, false, m1, hs, hr, e1, fun ρ1 H1 E1 R1 => iteF ?_⟩
    exact ⟨ρ1, sg, m1, fl, sg', m', hs.mono E1, R1, e, q.mono E1⟩
  · cases e
theorem s_set (i : Nat) {x : Str} {pos' : Pos} (hN : X.N.Nodup) (he : SE cm X e xa) (hi : X.N[i]? = some x := by rfl) (hx : Loc X.env.scope x := by first | exact Or.inl rfl | exact Or.inr rfl) (hs : swapsWith e (some (.Name x pos')) pos.line X.env = pure false := by rfl)
    (hf : X.fn x = true ∨ X.env.scope.names.lookup x = some .local := by first | exact .inl rfl | exact .inr rfl | assumption) : SS cm X (.Assign [.Name x pos'] e pos) (sSet i xa) := PS_imp (ps_set (i := i) hN hi hx he hs hf) fun D σ H h => by
  obtain ⟨ρ, sg, m, fl, sg', m', hs, hr, e, q⟩ := h
  unfold sSet at e
  split at e
  · rename_i d m1 e1
    cases e
    exact ⟨ρ, sg, m, d, m', hs, hr, e1, fun ρ' v H' E R r => q ρ' _ H' E ((hs.mono E).set r i) R⟩
  · cases e
theorem t_gN {K : PySem.W.Frag} {v : V} {σ : St} {H : Hp} {Q : St → Hp → Prop} {i : Nat} (h : tG K cm (gN i) v σ H Q) : gName i v σ H Q := by
  obtain ⟨ρ, sg, m, d, sg', m', hs, hr, r, e, q⟩ := h
  cases e
  exact q ρ _ H (Ev.refl ρ H) (hs.set r i) hr
theorem sg_name (i : Nat) {x : Str} (hN : X.N.Nodup) (hi : X.N[i]? = some x := by rfl) (hx : Loc X.env.scope x := by first | exact Or.inl rfl | exact Or.inr rfl) (hf : X.fn x = true ∨ X.env.scope.names.lookup x = some .local := by first | exact .inl rfl | exact .inr rfl | assumption) :
    SG cm X (.Name x pos) (gN i) := PG_imp (pg_name (i := i) hN hi hx hf) fun _ _ _ _ h => t_gN h
theorem sgs_nil : SGs cm X [] gsNil := PGs_imp pgs_nil fun v σ H Q h => by
  obtain ⟨ρ, sg, m, d, sg', m', hs, hr, r, e, q⟩ := h
  unfold gsNil at e
  split at e
  · cases e
    cases r
    exact ⟨rfl, q ρ σ H (Ev.refl ρ H) hs hr⟩
  · cases e
theorem sgs_cons (h1 : SG cm X e g) (h2 : SGs cm X es gs) (hs : (assignEach (e :: es) X.env).map (·.2) = assign e X.env :: (assignEach es X.env).map (·.2) := by rfl) : SGs cm X (e :: es) (gsCons g gs) := PGs_imp (pgs_cons h1 h2 hs) fun v σ H Q h => by
  obtain ⟨ρ, sg, m, d, sg', m', hs, hr, r, e, q⟩ := h
  unfold gsCons at e
  split at e
  · split at e
    · rename_i sg1 m1 e1
      cases r with
      | cons r rr =>
        exact ⟨_, _, rfl, ρ, sg, m, _, sg1, m1, hs, hr, r, e1, fun ρ1 σ1 H1 E1 S1 R1 => ⟨ρ1, sg1, m1, _, sg', m', S1, R1, rr.mono E1, e, fun ρ2 σ2 H2 E2 => q ρ2 σ2 H2 (E1.trans E2)⟩⟩
    · cases e
  · cases e
theorem sg_tup {k n : Nat} (hc : X.calm = true) (h : SGs cm X es gs) (hn : (assignEach es X.env).length = n := by rfl) (hst : (assignEach es X.env).findIdx? (·.1) = none := by rfl) : SG cm X (.Tuple es k pos) (gT n gs) := PG_imp (pg_tup hc h hn hst) fun v σ H Q h => by
  obtain ⟨ρ, sg, m, d, sg', m', hs, hr, r, e, q⟩ := h
  unfold gT at e
  split at e
  · split at e
    · rename_i hl
      cases r with
      | tup ht rx => exact ⟨_, _, rfl, ht.sq, by rw [rx.length]; exact hl, ρ, sg, m, _, sg', m', hs, hr, rx, e, q⟩
    · cases e
  · cases e
theorem s_asg {tg : Expr} (he : SE cm X e xa) (hg : SG cm X tg g) (hs : swapsWithSole [tg] e pos.line X.env = pure false := by rfl) (hw : swappedStores [tg] e X.env = pure none := by rfl)
    (h1 : (assignEach [tg] X.env).map (·.2) = [assign tg X.env] := by rfl) : SS cm X (.Assign [tg] e pos) (sAsg xa g) := PS_imp (ps_asg he hg hs hw h1) fun D σ H h => by
  obtain ⟨ρ, sg, m, fl, sg', m', hs, hr, e, q⟩ := h
  unfold sAsg at e
  split at e
  · rename_i d m1 e1
    split at e
    · rename_i sg2 m2 e2
      cases e
      exact ⟨ρ, sg, m, d, m1, hs, hr, e1, fun ρ1 v H1 E1 R1 r1 => ⟨ρ1, sg, m1, d, _, _, hs.mono E1, R1, r1, e2, fun ρ2 σ2 H2 E2 => q ρ2 σ2 H2 (E1.trans E2)⟩⟩
    · cases e
  · cases e
theorem s_par (i j : Nat) {x y : Str} {a b : Expr} {xs : XA} {px py pt : Pos} {kt k2 pt2} (hc : X.calm = true) (hN : X.N.Nodup) (ha : SA cm X [a, b] xs) (hi : X.N[i]? = some x := by rfl) (hj : X.N[j]? = some y := by rfl) (hij : i ≠ j := by decide)
    (hx : X.env.scope.names.lookup x = some .local := by rfl) (hy : X.env.scope.names.lookup y = some .local := by rfl)
    (hw : swappedStores [.Tuple [.Name x px, .Name y py] kt pt] (.Tuple [a, b] k2 pt2) X.env = pure (some [x, y]) := by rfl)
    (hs : swapsWithSole [.Tuple [.Name x px, .Name y py] kt pt] (.Tuple [a, b] k2 pt2) pos.line X.env = pure false := by rfl) :
    SS cm X (.Assign [.Tuple [.Name x px, .Name y py] kt pt] (.Tuple [a, b] k2 pt2) pos) (sPar i j xs) := PS_imp (ps_par (i := i) (j := j) hc hN hi hj hij hx hy ha hw hs) fun D σ H h => by
  obtain ⟨ρ, sg, m, fl, sg', m', hs, hr, e, q⟩ := h
  unfold sPar at e
  split at e
  · rename_i d1 d2 m1 e1
    cases e
    refine ⟨ρ, sg, m, _, _, hs, hr, e1, fun ρ1 vs H1 E1 R1 r1 => ?_⟩
    cases r1 with
    | cons ra rr => cases rr with
      | cons rb rn => cases rn with
        | nil => exact ⟨_, _, rfl, q ρ1 _ H1 E1 (((hs.mono E1).set ra i).set rb j) R1⟩
  · cases e
theorem s_aug (i : Nat) {x : Str} {op : Operator} {f : F2} {ti : TIp} {pos' : Pos} (hN : X.N.Nodup) (he : SE cm X e xa) (ho : PIp X op ti) (hf2 : SR2 X.K cm f ti) (hi : X.N[i]? = some x := by rfl) (hx : Loc X.env.scope x := by first | exact Or.inl rfl | exact Or.inr rfl)
    (hf : X.fn x = true ∨ X.env.scope.names.lookup x = some .local := by first | exact .inl rfl | exact .inr rfl | assumption) : SS cm X (.AugAssign (.Name x pos') op e pos) (sAug i f xa) := PS_imp (ps_aug (i := i) hN hi hx he ho hf) fun D σ H h => by
  obtain ⟨ρ, sg, m, fl, sg', m', hs, hr, e, q⟩ := h
  unfold sAug at e
  split at e
  · rename_i d0 e0
    split at e
    · rename_i d1 m1 e1
      split at e
      · rename_i d2 m2 e2
        cases e
        obtain ⟨v0, h0, r0⟩ := hs.2 i d0 (getS_eq e0)
        exact ⟨v0, h0, ρ, sg, m, d1, m1, hs, hr, e1, fun ρ1 v1 H1 E1 R1 r1 => hf2 ρ1 m1 H1 v0 v1 d0 d1 d2 _ _ R1 (r0.mono E1) r1 e2 fun ρ2 v2 H2 E2 R2 r2 => q ρ2 _ H2 (E1.trans E2) ((hs.mono (E1.trans E2)).set r2 i) R2⟩
      · cases e
    · cases e
  · cases e
end

/-! ### loops -/
/-- what comes later, of what is neither a model object nor set apart -/
structure EvZ (ρ : Wd) (H : Hp) (ρ' : Wd) (H' : Hp) : Prop where
  more : ∃ more, ρ'.ρ = ρ.ρ ++ more
  same : ρ'.Z = ρ.Z
  rd' : ∀ a u, ρ.Fr a → Rd H a u → Rd H' a u ∧ a ∉ ρ'.ρ
  lst : ∀ a u, ρ.Fr a → H a = some u → H' a = some u
  frz : ∀ a o u, a ∉ ρ.Z → H a = some (.frz o u) → H' a = some (.frz o u)
theorem Ev.z {ρ ρ' : Wd} {H H' : Hp} (e : Ev ρ H ρ' H') : EvZ ρ H ρ' H' := ⟨e.more, e.same, fun a u n h => e.rd' a u n.1 h, fun a xs n h => e.lst a xs n.1 h, fun a o u _ h => e.frz a o u h⟩
theorem EvZ.trans {ρ ρ1 ρ2 : Wd} {H H1 H2 : Hp} (a : EvZ ρ H ρ1 H1) (b : EvZ ρ1 H1 ρ2 H2) : EvZ ρ H ρ2 H2 := by
  obtain ⟨⟨m, e⟩, z, f, fl, ff⟩ := a
  obtain ⟨⟨m', e'⟩, z', g, gl, gf⟩ := b
  have fr : ∀ c u, ρ.Fr c → Rd H c u → ρ1.Fr c := fun c u n h => ⟨(f c u n h).2, by rw [z]; exact n.2⟩
  exact ⟨⟨m ++ m', by rw [e', e, List.append_assoc]⟩, z'.trans z, fun c o n h => g c o (fr c o n h) (f c o n h).1, fun c xs n h => gl c xs (fr c _ n (.inl h)) (fl c xs n h), fun c o u n h => gf c o u (by rw [z]; exact n) (ff c o u n h)⟩
section
variable {K : PySem.W.Frag} {ρ ρ' : Wd} {H H' : Hp}
theorem EvZ.put {p : Addr} {u : HO} (e : EvZ ρ H ρ' H') (hp : p ∈ ρ.Z) : EvZ ρ H ρ' (upd H' p u) := by
  refine ⟨e.more, e.same, fun a o n r => ?_, fun a xs n r => ?_, fun a o v n r => ?_⟩
  · have ne : a ≠ p := fun q => n.2 (q ▸ hp)
    refine ⟨?_, (e.rd' a o n r).2⟩
    rcases (e.rd' a o n r).1 with h | ⟨o', h⟩
    · exact .inl (by rw [upd_ne ne]; exact h)
    · exact .inr ⟨o', by rw [upd_ne ne]; exact h⟩
  · have ne : a ≠ p := fun q => n.2 (q ▸ hp)
    rw [upd_ne ne]
    exact e.lst a xs n r
  · have ne : a ≠ p := fun q => n (q ▸ hp)
    rw [upd_ne ne]
    exact e.frz a o v n r
theorem EvZ.rd (e : EvZ ρ H ρ' H') {a : Addr} {u : HO} (n : ρ.Fr a) (h : Rd H a u) : ρ'.Fr a ∧ Rd H' a u := ⟨⟨(e.rd' a u n h).2, by rw [e.same]; exact n.2⟩, (e.rd' a u n h).1⟩
theorem EvZ.at {i : Nat} {a : Addr} (e : EvZ ρ H ρ' H') (h : ρ.ρ[i]? = some a) : ρ'.ρ[i]? = some a := by
  obtain ⟨⟨m, e⟩, _, _, _, _⟩ := e
  rw [e, List.getElem?_append_left (List.getElem?_eq_some_iff.mp h).1]
  exact h
theorem EvZ.tat (e : EvZ ρ H ρ' H') {a : Addr} {xs : List V} (h : TAt K ρ H a xs) : TAt K ρ' H' a xs := by
  rcases h with ⟨n, h⟩ | h
  · exact .inl (e.rd n h)
  · exact .inr h
theorem EvZ.lat (e : EvZ ρ H ρ' H') {a : Addr} {xs : List V} (h : LAt K ρ H a xs) : LAt K ρ' H' a xs := by
  rcases h with ⟨n, h⟩ | h
  · exact .inl (e.rd n h)
  · exact .inr h
mutual
theorem RD.monoZ (e : EvZ ρ H ρ' H') : ∀ {v : V} {d : D}, RD K ρ H v d → RD K ρ' H' v d
  | _, _, .non => .non
  | _, _, .bl => .bl
  | _, _, .int => .int
  | _, _, .str => .str
  | _, _, .ref h => .ref (e.at h)
  | _, _, .tup h r => .tup (e.tat h) (RDs.monoZ e r)
  | _, _, .ptp n h d r => .ptp (e.rd n (.inl h)).1 (e.frz _ _ _ n.2 h) d (RDs.monoZ e r)
  | _, _, .lst n h r => .lst (e.rd n (.inl h)).1 (e.lst _ _ n h) (RDs.monoZ e r)
  | _, _, .rol h r => .rol (e.lat h) (RDs.monoZ e r)
  | _, _, .dct n h r => .dct (e.rd n h).1 (e.rd n h).2 (RKs.monoZ e r)
theorem RDs.monoZ (e : EvZ ρ H ρ' H') : ∀ {v : List V} {d : List D}, RDs K ρ H v d → RDs K ρ' H' v d
  | _, _, .nil => .nil
  | _, _, .cons h r => .cons (RD.monoZ e h) (RDs.monoZ e r)
theorem RKs.monoZ (e : EvZ ρ H ρ' H') : ∀ {v : List (Key × V)} {d : List (Key × D)}, RKs K ρ H v d → RKs K ρ' H' v d
  | _, _, .nil => .nil
  | _, _, .cons h r => .cons (RD.monoZ e h) (RKs.monoZ e r)
end
end
abbrev XI := Sg → M → Option (List D × M)
def Walks (K : PySem.W.Frag) (cm : Nat → Addr) (ρ : Wd) (H : Hp) (J : It) (ds : List D) : Prop :=
  ∀ ρ0, (ρ0 = ρ ∨ ∃ p, H p = none ∧ ρ0 = ρ.hold p) → ∀ ρ' m' H', EvZ ρ0 H ρ' H' → Rep K cm ρ' m' H' → (∀ (i : Nat) (d : D), ds[i]? = some d → J.go i H' ∧ ∀ x H2, J.yld i H' x H2 → Ev ρ' H' ρ' H2 ∧ Rep K cm ρ' m' H2 ∧ RD K ρ' H2 x d) ∧ J.stop ds.length H'
def tI (K : PySem.W.Frag) (cm : Nat → Addr) (x : XI) : TI := fun σ H R => ∃ ρ sg m ds m', RS K ρ H σ sg ∧ Rep K cm ρ m H ∧ x sg m = some (ds, m') ∧ ∀ ρ' J H', Ev ρ H ρ' H' → Rep K cm ρ' m' H' → Walks K cm ρ' H' J ds → R J H'
abbrev SI (cm : Nat → Addr) (X : Cx) (tg iter : Expr) (x : XI) : Prop := PI X tg iter (tI X.K cm x)
theorem PI_imp {X : Cx} {tg e : Expr} {t t' : TI} (h : PI X tg e t) (w : ∀ σ H Q, t' σ H Q → t σ H Q) : PI X tg e t' := ⟨fun pins s σ H Q I q => h.run pins s σ H Q I (w σ H Q q)⟩
def loopS (g : XG) (b : XS) : List D → Sg → M → Option (Fl × Sg × M)
  | [], sg, m => some (.nx, sg, m)
  | d :: r, sg, m => match g d sg m with
    | none => none
    | some (sg1, m1) => match b sg1 m1 with
      | some (.nx, sg2, m2) => loopS g b r sg2 m2
      | some (.ct, sg2, m2) => loopS g b r sg2 m2
      | some (.bk, sg2, m2) => some (.nx, sg2, m2)
      | some (.rt x, sg2, m2) => some (.rt x, sg2, m2)
      | none => none
def sFor (i : XI) (g : XG) (b : XS) : XS := fun sg m => match i sg m with
  | none => none
  | some (ds, m1) => loopS g b ds sg m1
section
variable {cm : Nat → Addr} {X : Cx}
theorem t_for {K : PySem.W.Frag} {i : XI} {g : XG} {b : XS} {D : Ends} {σ : St} {H : Hp} (h : tS K cm (sFor i g b) D σ H) : tFor (tI K cm i) (tG K cm g) (tS K cm b) D σ H := by
  obtain ⟨ρ, sg, m, fl, sg', m', hs, hr, e, q⟩ := h
  unfold sFor at e
  split at e
  · cases e
  · rename_i ds m1 e1
    refine ⟨ρ, sg, m, ds, m1, hs, hr, e1, fun ρ1 J H1 E1 R1 w => ?_⟩
    refine ⟨fun i μ σ' H' => ∃ ρ' sg2 m2, Ev ρ1 H1 ρ' H' ∧ RS K ρ' H' σ' sg2 ∧ Rep K cm ρ' m2 H' ∧ i + μ = ds.length ∧ loopS g b (ds.drop i) sg2 m2 = some (fl, sg', m'), ⟨ds.length, ρ1, sg, m1, Ev.refl _ _, hs.mono E1, R1, by omega, e⟩, ?_⟩
    rintro i μ σ' H' ⟨ρ', sg2, m2, E', S', R', hm, e'⟩
    obtain ⟨w1, w2⟩ := w ρ1 (.inl rfl) ρ' m2 H' E'.z R'
    by_cases hi : i < ds.length
    · obtain ⟨d, hd⟩ : ∃ d, ds[i]? = some d := ⟨ds[i], by simp [hi]⟩
      obtain ⟨g1, g2⟩ := w1 i d hd
      have hdrop : ds.drop i = d :: ds.drop (i + 1) := by
        rw [List.drop_eq_getElem_cons hi]
        congr 1
        rw [List.getElem?_eq_getElem hi] at hd
        exact Option.some.inj hd
      rw [hdrop] at e'
      simp only [loopS] at e'
      refine .inr ⟨g1, fun σ'' H'' => ∃ ρ'' sg3 m3, Ev ρ1 H1 ρ'' H'' ∧ RS K ρ'' H'' σ'' sg3 ∧ Rep K cm ρ'' m3 H'' ∧ loopS g b (ds.drop (i + 1)) sg3 m3 = some (fl, sg', m'), ?_, fun x H2 hy => ?_⟩
      · rintro σ'' H'' ⟨ρ'', sg3, m3, a1, a2, a3, a4⟩
        exact ⟨μ - 1, by omega, ρ'', sg3, m3, a1, a2, a3, by omega, a4⟩
      · obtain ⟨E2, R2, r2⟩ := g2 x H2 hy
        split at e'
        · cases e'
        · rename_i sg3 m3 eg
          refine ⟨ρ', sg2, m2, d, sg3, m3, S'.mono E2, R2, r2, eg, fun ρ3 σ3 H3 E3 S3 R3 => ?_⟩
          have EE : Ev ρ1 H1 ρ3 H3 := (E'.trans E2).trans E3
          split at e'
          · rename_i sg4 m4 eb
            exact ⟨ρ3, sg3, m3, .nx, sg4, m4, S3, R3, eb, fun ρ4 σ4 H4 E4 S4 R4 => ⟨ρ4, sg4, m4, EE.trans E4, S4, R4, e'⟩⟩
          · rename_i sg4 m4 eb
            exact ⟨ρ3, sg3, m3, .ct, sg4, m4, S3, R3, eb, fun ρ4 σ4 H4 E4 S4 R4 => ⟨ρ4, sg4, m4, EE.trans E4, S4, R4, e'⟩⟩
          · rename_i sg4 m4 eb
            cases e'
            exact ⟨ρ3, sg3, m3, .bk, _, _, S3, R3, eb, fun ρ4 σ4 H4 E4 S4 R4 => q ρ4 σ4 H4 ((E1.trans EE).trans E4) S4 R4⟩
          · rename_i x' sg4 m4 eb
            cases e'
            exact ⟨ρ3, sg3, m3, .rt _, _, _, S3, R3, eb, fun ρ4 v4 H4 E4 R4 r4 => q ρ4 v4 H4 ((E1.trans EE).trans E4) R4 r4⟩
          · cases e'
    · have hi' : i = ds.length := by omega
      subst hi'
      rw [List.drop_length] at e'
      cases e'
      exact .inl ⟨w2, q ρ' σ' H' (E1.trans E') S' R'⟩
theorem s_for {tg iter : Expr} {body : List Stmt} {i : XI} {g : XG} {b : XS} {pos : Pos} (hp : PassesOwn (model X.prog X.w) X.A X.env X.xe) (hc : X.calm = true) (hi : SI cm X tg iter i) (hg : SG cm X tg g) (hb : SSs cm X body b)
    (hs : ∀ x, foldedSetIterable iter X.env x = pure x := by intro _; rfl) : SS cm X (.For tg iter body [] pos) (sFor i g b) := PS_imp (ps_for hp hc hi hg hb hs) fun _ _ _ h => t_for h
end
end Mini

set_option Elab.async false
set_option maxRecDepth 100000
namespace Mini
open PySem L2

section
variable {K : PySem.W.Frag} {cm : Nat → Addr} {ρ : Wd} {H : Hp} {m : M} {p : Addr} {u : HO}
/-! ### the held place changes -/
theorem fr_ne (hz : p ∈ ρ.Z) {a : Addr} (n : ρ.Fr a) : a ≠ p := fun e => n.2 (e ▸ hz)
theorem rd_upd {a : Addr} {o : HO} (e : a ≠ p) (h : Rd H a o) : Rd (upd H p u) a o := by
  unfold Rd
  rw [upd_ne e]
  exact h
mutual
theorem RD.updZ (hz : p ∈ ρ.Z) : ∀ {v : V} {d : D}, RD K ρ H v d → RD K ρ (upd H p u) v d
  | _, _, .non => .non
  | _, _, .bl => .bl
  | _, _, .int => .int
  | _, _, .str => .str
  | _, _, .ref h => .ref h
  | _, _, .tup (.inl h) r => .tup (.inl ⟨h.1, rd_upd (fr_ne hz h.1) h.2⟩) (RDs.updZ hz r)
  | _, _, .tup (.inr h) r => .tup (.inr h) (RDs.updZ hz r)
  | _, _, .ptp n h d r => .ptp n (by rw [upd_ne (fr_ne hz n)]; exact h) d (RDs.updZ hz r)
  | _, _, .lst n h r => .lst n (by rw [upd_ne (fr_ne hz n)]; exact h) (RDs.updZ hz r)
  | _, _, .rol (.inl h) r => .rol (.inl ⟨h.1, rd_upd (fr_ne hz h.1) h.2⟩) (RDs.updZ hz r)
  | _, _, .rol (.inr h) r => .rol (.inr h) (RDs.updZ hz r)
  | _, _, .dct n h r => .dct n (rd_upd (fr_ne hz n) h) (RKs.updZ hz r)
theorem RDs.updZ (hz : p ∈ ρ.Z) : ∀ {v : List V} {d : List D}, RDs K ρ H v d → RDs K ρ (upd H p u) v d
  | _, _, .nil => .nil
  | _, _, .cons h r => .cons (RD.updZ hz h) (RDs.updZ hz r)
theorem RKs.updZ (hz : p ∈ ρ.Z) : ∀ {v : List (Key × V)} {d : List (Key × D)}, RKs K ρ H v d → RKs K ρ (upd H p u) v d
  | _, _, .nil => .nil
  | _, _, .cons h r => .cons (RD.updZ hz h) (RKs.updZ hz r)
end
theorem RFs.updZ (hz : p ∈ ρ.Z) : ∀ {v : List (Str × V)} {d : List (Str × D)}, RFs K ρ H v d → RFs K ρ (upd H p u) v d
  | _, _, .nil => .nil
  | _, _, .cons h r => .cons (RD.updZ hz h) (RFs.updZ hz r)
theorem Rep.updZ (h : Rep K cm ρ m H) (hz : p ∈ ρ.Z) : Rep K cm ρ m (upd H p u) := by
  refine ⟨h.len, h.nd, zt_upd h.zt, h.zd, fun i o e => ?_⟩
  obtain ⟨a, e1, r⟩ := h.at_ i o e
  have ne : a ≠ p := fun q => h.zd p hz (q ▸ List.mem_of_getElem? e1)
  refine ⟨a, e1, ?_⟩
  cases o with
  | lst ds => obtain ⟨xs, x, r⟩ := r; exact ⟨xs, (upd_ne ne).trans x, r.updZ hz⟩
  | dct kvs => obtain ⟨xs, x, r⟩ := r; exact ⟨xs, (upd_ne ne).trans x, r.updZ hz⟩
  | dctL kvs => obtain ⟨ob, xs, x, r⟩ := r; exact ⟨ob, xs, (upd_ne ne).trans x, r.updZ hz⟩
  | ins c fs => obtain ⟨dx, xs, x, r⟩ := r; exact ⟨dx, xs, (upd_ne ne).trans x, r.updZ hz⟩
/-- what is told of an earlier heap does not feel a store at a place that was free -/
theorem Ev.put {ρ1 ρ' : Wd} {H1 H' : Hp} (e : Ev ρ1 H1 ρ' H') (hp : H1 p = none) : Ev ρ1 H1 ρ' (upd H' p u) := by
  refine ⟨e.more, e.same, fun a o n r => ?_, fun a xs n r => ?_, fun a o v r => ?_⟩
  · have ne : a ≠ p := fun q => by subst q; rcases r with r | ⟨_, r⟩ <;> (rw [hp] at r; cases r)
    exact ⟨rd_upd ne (e.rd' a o n r).1, (e.rd' a o n r).2⟩
  · have ne : a ≠ p := fun q => by subst q; rw [hp] at r; cases r
    rw [upd_ne ne]
    exact e.lst a xs n r
  · have ne : a ≠ p := fun q => by subst q; rw [hp] at r; cases r
    rw [upd_ne ne]
    exact e.frz a o v r
end

/-! ### slots wiped -/
def wipeS (sg : Sg) : List Nat → Sg
  | [] => sg
  | v :: vs => (wipeS sg vs).set v none
theorem RS.wipe {K : PySem.W.Frag} {ρ : Wd} {H : Hp} {σ : St} {sg : Sg} (h : RS K ρ H σ sg) : ∀ vs : List Nat, RS K ρ H (L2.wipe σ vs) (wipeS sg vs)
  | [] => h
  | v :: vs => by
    obtain ⟨h1, h2⟩ := RS.wipe h vs
    refine ⟨by simpa [L2.wipe, wipeS] using h1, fun i d q => ?_⟩
    unfold wipeS at q
    unfold L2.wipe
    by_cases hi : v = i
    · subst hi
      rw [List.getElem?_set] at q
      simp at q
    · rw [List.getElem?_set_ne hi] at q ⊢
      exact h2 i d q
theorem RS.holdS {K : PySem.W.Frag} {ρ : Wd} {H : Hp} {σ : St} {sg : Sg} {p : Addr} (h : RS K ρ H σ sg) (hp : H p = none) : RS K (ρ.hold p) H σ sg :=
  ⟨h.1, fun i d q => let ⟨v, a, b⟩ := h.2 i d q; ⟨v, a, b.hold hp⟩⟩
theorem wipe_get (σ : St) (i : Nat) : ∀ vs : List Nat, (L2.wipe σ vs)[i]? = if i ∈ vs then (σ[i]?).map (fun _ => none) else σ[i]?
  | [] => by simp [L2.wipe]
  | v :: vs => by
    unfold L2.wipe
    rw [List.getElem?_set, wipe_get σ i vs, L2.wipe_length]
    by_cases hv : v = i
    · subst hv
      by_cases hl : v < σ.length
      · simp [hl]
      · simp [hl, List.getElem?_eq_none (Nat.le_of_not_lt hl)]
    · have : ¬ i = v := fun e => hv e.symm
      simp [hv, this]
theorem wipe_set (σ : St) (i : Nat) (x : Option V) (vs : List Nat) (h : i ∈ vs) : L2.wipe (σ.set i x) vs = L2.wipe σ vs := by
  apply List.ext_getElem?
  intro j
  rw [wipe_get, wipe_get, List.getElem?_set]
  by_cases hj : i = j
  · subst hj
    by_cases hl : i < σ.length
    · simp [h, hl]
    · simp [h, hl, List.getElem?_eq_none (Nat.le_of_not_lt hl)]
  · simp [hj]
theorem wipe_wipe (σ : St) (vs : List Nat) : L2.wipe (L2.wipe σ vs) vs = L2.wipe σ vs := by
  apply List.ext_getElem?
  intro j
  rw [wipe_get, wipe_get]
  by_cases h : j ∈ vs
  · simp only [h, if_true]
    cases σ[j]? <;> rfl
  · simp [h]

/-! ### targets of comprehensions: a name, a row of names -/
structure TGt (K : PySem.W.Frag) (cm : Nat → Addr) (vs : List Nat) (g : TG) (xg : XG) : Prop where
  to : ∀ v σ H Q ρ sg m d sg' m', RS K ρ H σ sg → Rep K cm ρ m H → RD K ρ H v d → xg d sg m = some (sg', m') →
    (∀ σ2, RS K ρ H σ2 sg' → L2.wipe σ2 vs = L2.wipe σ vs → Rep K cm ρ m' H → Q σ2 H) → g v σ H Q
theorem tgt_name {K : PySem.W.Frag} {cm : Nat → Addr} {vs : List Nat} (i : Nat) (hi : i ∈ vs := by decide) : TGt K cm vs (gName i) (gN i) := ⟨fun v σ H Q ρ sg m d sg' m' hs hr r e q => by
  cases e
  exact q _ (hs.set r i) (wipe_set σ i _ vs hi) hr⟩
def gsN : List Nat → List D → Sg → M → Option (Sg × M)
  | [], [], sg, m => some (sg, m)
  | i :: r, d :: ds, sg, m => gsN r ds (setS sg i d) m
  | _, _, _, _ => none
def gTn (is : List Nat) : XG := fun d sg m => match d with
  | .tup ds => gsN is ds sg m
  | _ => none
def gNs : List Nat → TGs
  | [] => gNil
  | i :: r => gCons (gName i) (gNs r)
theorem gsN_to {K : PySem.W.Frag} {cm : Nat → Addr} {vs : List Nat} : ∀ (is : List Nat), (∀ i ∈ is, i ∈ vs) → ∀ xs σ H Q (ρ : Wd) sg m ds sg' m', RS K ρ H σ sg → Rep K cm ρ m H → RDs K ρ H xs ds → gsN is ds sg m = some (sg', m') →
    (∀ σ2, RS K ρ H σ2 sg' → L2.wipe σ2 vs = L2.wipe σ vs → Rep K cm ρ m' H → Q σ2 H) → xs.length = is.length ∧ gNs is xs σ H Q
  | [], _, xs, σ, H, Q, ρ, sg, m, ds, sg', m', hs, hr, r, e, q => by
    cases r with
    | nil =>
      cases e
      exact ⟨rfl, rfl, q σ hs rfl hr⟩
    | cons _ _ => cases e
  | i :: is, hv, xs, σ, H, Q, ρ, sg, m, ds, sg', m', hs, hr, r, e, q => by
    cases r with
    | nil => cases e
    | cons r rr =>
      have e' : gsN is _ (setS sg i _) m = some (sg', m') := e
      have := gsN_to is (fun j hj => hv j (List.mem_cons_of_mem _ hj)) _ (σ.set i _) H Q ρ _ m _ sg' m' (hs.set r i) hr rr e' (fun σ2 s2 w2 r2 => q σ2 s2 (w2.trans (wipe_set σ i _ vs (hv i (List.mem_cons_self)))) r2)
      exact ⟨by simp [this.1], _, _, rfl, this.2⟩
theorem tgt_tup {K : PySem.W.Frag} {cm : Nat → Addr} {vs : List Nat} (is : List Nat) (hi : ∀ i ∈ is, i ∈ vs := by decide) : TGt K cm vs (gTup K is.length (gNs is)) (gTn is) := ⟨fun v σ H Q ρ sg m d sg' m' hs hr r e q => by
  unfold gTn at e
  split at e
  · cases r with
    | tup ht rx =>
      obtain ⟨h1, h2⟩ := gsN_to is hi _ σ H Q ρ sg m _ sg' m' hs hr rx e q
      exact ⟨_, _, rfl, ht.sq, h1, h2⟩
  · cases e⟩
/-- the target of a for, by names -/
theorem sg_tupN {cm : Nat → Addr} {X : Cx} {es : List Expr} {k : Nat} {pos : Pos} (is : List Nat) (hc : X.calm = true) (h : PGs X es (gNs is)) (hn : (assignEach es X.env).length = is.length := by rfl) (hst : (assignEach es X.env).findIdx? (·.1) = none := by rfl) :
    SG cm X (.Tuple es k pos) (gTn is) := PG_imp (pg_tup hc h hn hst) fun v σ H Q h => by
  obtain ⟨ρ, sg, m, d, sg', m', hs, hr, r, e, q⟩ := h
  exact (tgt_tup (cm := cm) (vs := is) is (fun _ h => h)).to v σ H Q ρ sg m d sg' m' hs hr r e fun σ2 s2 _ r2 => q ρ σ2 H (Ev.refl ρ H) s2 r2

/-! ### comprehensions -/
def loopC (g : XG) (t : XT) (e : XE) (sg : Sg) : List D → M → Option (List D × M)
  | [], m => some ([], m)
  | d :: r, m => match g d sg m with
    | none => none
    | some (sg2, m1) => match t sg2 m1 with
      | none => none
      | some (true, m2) => (match e sg2 m2 with
        | none => none
        | some (y, m3) => match loopC g t e sg r m3 with
          | some (ys, m4) => some (y :: ys, m4)
          | none => none)
      | some (false, m2) => loopC g t e sg r m2
def cYes : XT := fun _ m => some (true, m)
def xLc (vs : List Nat) (i : XI) (g : XG) (t : XT) (e : XE) : XE := fun sg m => match i sg m with
  | none => none
  | some (ds, m1) => if ds.length ≤ 100000 then (match loopC g t e (wipeS sg vs) ds m1 with
    | some (ys, m2) => some (.lst ys, m2)
    | none => none) else none
theorem t_lc {K : PySem.W.Frag} {cm : Nat → Addr} {vs : List Nat} {i : XI} {g : TG} {xg : XG} {t : XT} {e : XE} {σ : St} {H : Hp} {Q : VK} (hg : TGt K cm vs g xg) (h : tE K cm (xLc vs i xg t e) σ H Q) : tLc (tI K cm i) g (tT K cm t) (tE K cm e) vs σ H Q := by
  obtain ⟨ρ, sg, m, d, m', hs, hr, e0, q⟩ := h
  unfold xLc at e0
  split at e0
  · cases e0
  · rename_i ds m1 e1
    split at e0
    · rename_i hlen
      split at e0
      · rename_i ys m2 e2
        cases e0
        refine ⟨ρ, sg, m, ds, m1, hs, hr, e1, fun ρ1 J H1 E1 R1 w A hA => ?_⟩
        refine ⟨fun i μ H' => ∃ ρ' m3 acc dacc zs, Ev (ρ1.hold A) H1 ρ' H' ∧ Rep K cm ρ' m3 H' ∧ H' A = some (.lst acc) ∧ RDs K ρ' H' acc dacc ∧ i + μ = ds.length ∧ acc.length ≤ i ∧ loopC xg t e (wipeS sg vs) (ds.drop i) m3 = some (zs, m') ∧ dacc ++ zs = ys,
          ⟨ds.length, ρ1.hold A, m1, [], [], ys, (Ev.refl _ _).put hA, R1.held hA, upd_same, .nil, by omega, by simp, e2, rfl⟩, ?_⟩
        rintro i μ H' ⟨ρ', m3, acc, dacc, zs, E', R', hacc, racc, hm, hl, el, etot⟩
        have hz : A ∈ ρ'.Z := by rw [E'.same]; exact List.mem_cons_self
        -- the iterator walks on
        have Edrop : Ev ρ1 H1 (ρ'.drop ρ1.Z) H' := ⟨E'.more, rfl, E'.rd', E'.lst, E'.frz⟩
        have Rdrop : Rep K cm (ρ'.drop ρ1.Z) m3 H' := R'.dropZ fun x hx => by rw [E'.same]; exact List.mem_cons_of_mem _ hx
        obtain ⟨w1, w2⟩ := w (ρ1.hold A) (.inr ⟨A, hA, rfl⟩) ρ' m3 H' E'.z R'
        by_cases hi : i < ds.length
        · obtain ⟨d, hd⟩ : ∃ d, ds[i]? = some d := ⟨ds[i], by simp [hi]⟩
          obtain ⟨g1, g2⟩ := w1 i d hd
          have hdrop : ds.drop i = d :: ds.drop (i + 1) := by
            rw [List.drop_eq_getElem_cons hi]
            congr 1
            rw [List.getElem?_eq_getElem hi] at hd
            exact Option.some.inj hd
          rw [hdrop] at el
          simp only [loopC] at el
          refine .inr ⟨g1, fun H'' => ∃ ρ' m3 acc dacc zs, Ev (ρ1.hold A) H1 ρ' H'' ∧ Rep K cm ρ' m3 H'' ∧ H'' A = some (.lst acc) ∧ RDs K ρ' H'' acc dacc ∧ acc.length ≤ i + 1 ∧ loopC xg t e (wipeS sg vs) (ds.drop (i + 1)) m3 = some (zs, m') ∧ dacc ++ zs = ys, ?_, fun x H2 hy => ?_⟩
          · rintro H'' ⟨ρ'', m4, acc', dacc', zs', a1, a2, a3, a4, a5, a6, a7⟩
            exact ⟨μ - 1, by omega, ρ'', m4, acc', dacc', zs', a1, a2, a3, a4, by omega, a5, a6, a7⟩
          · obtain ⟨E2, R2, r2⟩ := g2 x H2 hy
            split at el
            · cases el
            · rename_i sg2 m4 eg
              have S2 : RS K ρ' H2 (L2.wipe σ vs) (wipeS sg vs) := ((hs.mono E1).wipe vs).holdS hA |>.mono (E'.trans E2)
              refine hg.to x _ H2 _ ρ' _ m3 d sg2 m4 S2 R2 r2 eg fun σ2 s2 we R4 => ⟨we.trans (wipe_wipe σ vs), ?_⟩
              split at el
              · cases el
              · rename_i m5 et
                refine ⟨ρ', sg2, m4, true, m5, s2, R4, et, fun ρ5 H5 E5 R5 => iteT ?_⟩
                split at el
                · cases el
                · rename_i y m6 ey
                  split at el
                  · rename_i ys6 m7 er
                    cases el
                    refine ⟨ρ5, sg2, m5, y, m6, s2.mono E5, R5, ey, fun ρ6 v H6 E6 R6 r6 => ?_⟩
                    have E26 := (E2.trans E5).trans E6
                    have h6 : H6 A = some (.lst acc) := E26.lst A _ (R'.zd A hz) hacc
                    have hz6 : A ∈ ρ6.Z := by rw [E26.same]; exact hz
                    have rr := (racc.mono E26).append (.cons r6 .nil)
                    refine ⟨acc, h6, szl (by omega), ρ6, m6, acc ++ [v], dacc ++ [y], ys6, (E'.trans E26).put hA, R6.updZ hz6, upd_same, rr.updZ hz6, by simp; omega, er, by rw [List.append_assoc]; exact etot⟩
                  · cases el
              · rename_i m5 et
                refine ⟨ρ', sg2, m4, false, m5, s2, R4, et, fun ρ5 H5 E5 R5 => iteF ?_⟩
                have E25 := E2.trans E5
                exact ⟨ρ5, m5, acc, dacc, zs, E'.trans E25, R5, E25.lst A _ (R'.zd A hz) hacc, racc.mono E25, by omega, el, etot⟩
        · have hi' : i = ds.length := by omega
          subst hi'
          rw [List.drop_length] at el
          cases el
          rw [List.append_nil] at etot
          subst etot
          refine .inl ⟨w2, q (ρ'.drop ρ1.Z) (.ref A) H' (E1.trans Edrop) Rdrop (.lst ?_ hacc ?_)⟩
          · exact ⟨R'.zd A hz, fun q => by
              obtain ⟨u, e⟩ := R1.zt A q
              rw [hA] at e
              cases e⟩
          · exact racc.dropZ fun x hx => by rw [E'.same]; exact List.mem_cons_of_mem _ hx
      · cases e0
    · cases e0
end Mini

set_option Elab.async false
set_option maxRecDepth 100000
namespace Mini
open PySem L2

/-! ### what is walked -/
section
variable {K : PySem.W.Frag} {cm : Nat → Addr} {ρ ρ0 : Wd} {H : Hp} {m : M}
theorem PI_or {X : Cx} {tg e : Expr} {t t' : TI} (h : PI X tg e t) (h' : PI X tg e t') : PI X tg e (fun σ H R => t σ H R ∨ t' σ H R) := ⟨fun pins s σ H Q I q => q.elim (h.run pins s σ H Q I) (h'.run pins s σ H Q I)⟩
theorem LAt.hold {p : Addr} (hp : H p = none) {a : Addr} {xs : List V} (h : LAt K ρ H a xs) : LAt K (ρ.hold p) H a xs := by
  rcases h with ⟨n, h⟩ | h
  · exact .inl ⟨hold_fr hp n h, h⟩
  · exact .inr h
theorem TAt.hold {p : Addr} (hp : H p = none) {a : Addr} {xs : List V} (h : TAt K ρ H a xs) : TAt K (ρ.hold p) H a xs := by
  rcases h with ⟨n, h⟩ | h
  · exact .inl ⟨hold_fr hp n h, h⟩
  · exact .inr h
theorem lat_to (h0 : ρ0 = ρ ∨ ∃ p, H p = none ∧ ρ0 = ρ.hold p) {a : Addr} {xs : List V} (h : LAt K ρ H a xs) : LAt K ρ0 H a xs := by
  rcases h0 with rfl | ⟨p, hp, rfl⟩
  · exact h
  · exact h.hold hp
theorem tat_to (h0 : ρ0 = ρ ∨ ∃ p, H p = none ∧ ρ0 = ρ.hold p) {a : Addr} {xs : List V} (h : TAt K ρ H a xs) : TAt K ρ0 H a xs := by
  rcases h0 with rfl | ⟨p, hp, rfl⟩
  · exact h
  · exact h.hold hp
theorem rds_to (h0 : ρ0 = ρ ∨ ∃ p, H p = none ∧ ρ0 = ρ.hold p) {xs : List V} {ds : List D} (h : RDs K ρ H xs ds) : RDs K ρ0 H xs ds := by
  rcases h0 with rfl | ⟨p, hp, rfl⟩
  · exact h
  · exact h.hold hp
theorem walks_list {a : Addr} {xs : List V} {ds : List D} (h : LAt K ρ H a xs) (r : RDs K ρ H xs ds) : Walks K cm ρ H (Itl K a) ds := by
  intro ρ0 h0 ρ' m' H' E R
  have h' := (E.lat (lat_to h0 h)).sq
  have r' := (rds_to h0 r).monoZ E
  refine ⟨fun i d hd => ?_, ⟨xs, h', Nat.le_of_eq r'.length⟩⟩
  obtain ⟨x, hx, rx⟩ := r'.get hd
  refine ⟨⟨xs, x, h', hx⟩, ?_⟩
  rintro y H2 ⟨rfl, hy⟩
  have e := hy xs h'
  rw [hx] at e
  cases e
  exact ⟨Ev.refl _ _, R, rx⟩
theorem walks_tup {a : Addr} {xs : List V} {ds : List D} (h : TAt K ρ H a xs) (r : RDs K ρ H xs ds) : Walks K cm ρ H (Itt K a) ds := by
  intro ρ0 h0 ρ' m' H' E R
  have h' := (E.tat (tat_to h0 h)).sq
  have r' := (rds_to h0 r).monoZ E
  refine ⟨fun i d hd => ?_, ⟨xs, h', Nat.le_of_eq r'.length⟩⟩
  obtain ⟨x, hx, rx⟩ := r'.get hd
  refine ⟨⟨xs, x, h', hx⟩, ?_⟩
  rintro y H2 ⟨rfl, hy⟩
  have e := hy xs h'
  rw [hx] at e
  cases e
  exact ⟨Ev.refl _ _, R, rx⟩
def rangeD (lo : Int) (n : Nat) : List D := (List.range n).map fun (i : Nat) => .int (lo + (i : Int))
theorem walks_range {lo : Int} {n : Nat} : Walks K cm ρ H (Itr lo n) (rangeD lo n) := by
  intro ρ0 h0 ρ' m' H' E R
  refine ⟨fun i d hd => ?_, by show n ≤ _; simp [rangeD]⟩
  have hi : i < n := by
    have := (List.getElem?_eq_some_iff.mp hd).1
    simpa [rangeD] using this
  refine ⟨hi, ?_⟩
  rintro y H2 ⟨rfl, rfl⟩
  have : d = .int (lo + (i : Int)) := by
    simp [rangeD, hi] at hd
    exact hd.symm
  subst this
  exact ⟨Ev.refl _ _, R, .int⟩
end

/-- a list that nobody changes, a tuple -/
def iSeq (a : XE) : XI := fun sg m => match a sg m with
  | some (.lst xs, m1) => some (xs, m1)
  | some (.rol xs, m1) => some (xs, m1)
  | some (.tup xs, m1) => some (xs, m1)
  | some (.ptp xs, m1) => some (xs, m1)
  | _ => none
def iRange1 (a : XA) : XI := fun sg m => match a sg m with
  | some ([.int j], m1) => if (decide (-1000000 ≤ j) && decide (j ≤ 1000000)) = true then some (rangeD 0 j.toNat, m1) else none
  | _ => none
def iRange2 (a : XA) : XI := fun sg m => match a sg m with
  | some ([.int i, .int j], m1) => if (decide (-1000000 ≤ i) && decide (i ≤ 1000000) && decide (-1000000 ≤ j) && decide (j ≤ 1000000)) = true then some (rangeD i (j - i).toNat, m1) else none
  | _ => none
section
variable {cm : Nat → Addr} {X : Cx} {tg l a b : Expr} {xa xb : XE}
theorem si_seq (ha : SE cm X l xa) : SI cm X tg l (iSeq xa) := PI_imp (PI_or (pi_list ha) (pi_tup ha)) fun σ H R h => by
  obtain ⟨ρ, sg, m, ds, m', hs, hr, e, q⟩ := h
  unfold iSeq at e
  split at e
  · rename_i xs m1 e1
    cases e
    refine .inl ⟨ρ, sg, m, _, _, hs, hr, e1, fun ρ1 v H1 E1 R1 r1 => ?_⟩
    cases r1 with
    | lst n h rx => exact ⟨_, rfl, ⟨_, SqL.of h⟩, q ρ1 _ H1 E1 R1 (walks_list (.inl ⟨n, .inl h⟩) rx)⟩
  · rename_i xs m1 e1
    cases e
    refine .inl ⟨ρ, sg, m, _, _, hs, hr, e1, fun ρ1 v H1 E1 R1 r1 => ?_⟩
    cases r1 with
    | rol h rx => exact ⟨_, rfl, ⟨_, h.sq⟩, q ρ1 _ H1 E1 R1 (walks_list h rx)⟩
  · rename_i xs m1 e1
    cases e
    refine .inr ⟨ρ, sg, m, _, _, hs, hr, e1, fun ρ1 v H1 E1 R1 r1 => ?_⟩
    cases r1 with
    | tup h rx => exact ⟨_, rfl, ⟨_, h.sq⟩, q ρ1 _ H1 E1 R1 (walks_tup h rx)⟩
  · rename_i xs m1 e1
    cases e
    refine .inr ⟨ρ, sg, m, _, _, hs, hr, e1, fun ρ1 v H1 E1 R1 r1 => ?_⟩
    cases r1 with
    | ptp n h hd rx => exact ⟨_, rfl, ⟨_, TAt.sq (.inl ⟨n, .inr ⟨_, h⟩⟩)⟩, q ρ1 _ H1 E1 R1 (walks_tup (.inl ⟨n, .inr ⟨_, h⟩⟩) rx)⟩
  · cases e
theorem si_range1 {p pos : Pos} {xs : XA} (hg : Gl X "range") (hm : X.mg "range" = none) (ha : SA cm X [a] xs) (hs : starEach [a] X.env = [(false, eval a X.env)] := by rfl) : SI cm X tg (.Call (.Name "range" p) [a] [] pos) (iRange1 xs) :=
  PI_imp (pi_range1 hg hm ha hs) fun σ H R h => by
  obtain ⟨ρ, sg, m, ds, m', hs, hr, e, q⟩ := h
  unfold iRange1 at e
  split at e
  · rename_i j m1 e1
    split at e
    · rename_i hj
      cases e
      simp only [Bool.and_eq_true, decide_eq_true_eq] at hj
      refine ⟨ρ, sg, m, _, _, hs, hr, e1, fun ρ1 v H1 E1 R1 r1 => ?_⟩
      cases r1 with
      | cons ra rr => cases rr with
        | nil =>
          cases ra
          exact ⟨j, rfl, by omega, by omega, q ρ1 _ H1 E1 R1 walks_range⟩
    · cases e
  · cases e
theorem si_range2 {p pos : Pos} {xs : XA} (hg : Gl X "range") (hm : X.mg "range" = none) (ha : SA cm X [a, b] xs) (hs : starEach [a, b] X.env = [(false, eval a X.env), (false, eval b X.env)] := by rfl) (hs2 : starEach [b] X.env = [(false, eval b X.env)] := by rfl) :
    SI cm X tg (.Call (.Name "range" p) [a, b] [] pos) (iRange2 xs) :=
  PI_imp (pi_range2 hg hm ha hs hs2) fun σ H R h => by
  obtain ⟨ρ, sg, m, ds, m', hs, hr, e, q⟩ := h
  unfold iRange2 at e
  split at e
  · rename_i i j m1 e1
    split at e
    · rename_i hj
      cases e
      simp only [Bool.and_eq_true, decide_eq_true_eq] at hj
      refine ⟨ρ, sg, m, _, _, hs, hr, e1, fun ρ1 v H1 E1 R1 r1 => ?_⟩
      cases r1 with
      | cons ra rr => cases rr with
        | cons rb rn => cases rn with
          | nil =>
            cases ra
            cases rb
            exact ⟨i, j, rfl, by omega, q ρ1 _ H1 E1 R1 walks_range⟩
    · cases e
  · cases e

/-! ### comprehensions, the rules -/
abbrev Blk (X : Cx) (scope : Scope) (P : Cx → Prop) : Prop := ∀ (s : Shared) (H : Hp) (C : Addr) (cl : List (Str × Addr)) (fp : List Addr), P (X.blk s H scope (compEnvC scope cl C X.env) fp)
theorem pts_S {c : Expr} {xt : XT} (h : ST cm X c xt) : PTs X [c] (tT X.K cm xt) := pts_one h
theorem pts_Y : PTs X [] (tT X.K cm cYes) := ⟨fun pins s σ H Q I h => pts_nil.run pins s σ H Q I (by
  obtain ⟨ρ, sg, m, d, m', hs, hr, e, q⟩ := h
  cases e
  exact q ρ H (Ev.refl ρ H) hr)⟩
theorem se_lc {elt iter : Expr} {ifs : List Expr} {scope : Scope} {own : List (Str × Nat)} {pos : Pos} {xi : XI} {g : TG} {xg : XG} {xt : XT} {xe : XE} (hc : X.calm = true) (hN : X.N.Nodup) (hi : SI cm X tg iter xi) (ok : BlkOk X.N X.env.scope scope own)
    (hg : Blk X scope fun Y => PG Y tg g) (hG : TGt X.K cm (own.map (·.2)) g xg) (ht : Blk X scope fun Y => PTs Y ifs (tT X.K cm xt)) (he : Blk X scope fun Y => SE cm Y elt xe)
    (hs : ∀ x, foldedSetIterable iter X.env x = pure x := by intro _; rfl) : SE cm X (.ListComp elt [⟨tg, iter, ifs, 0⟩] scope pos) (xLc (own.map (·.2)) xi xg xt xe) :=
  PE_imp (pe_lc hc hN hi ok hg ht he hs) fun _ _ _ h => t_lc hG h
theorem s_setLc (i : Nat) {y : Str} {py : Pos} {elt iter : Expr} {ifs : List Expr} {scope : Scope} {own : List (Str × Nat)} {pos spos : Pos} {xi : XI} {g : TG} {xg : XG} {xt : XT} {xe : XE} (hc : X.calm = true) (hN : X.N.Nodup) (hi : SI cm X tg iter xi) (ok : BlkOk X.N X.env.scope scope own)
    (hg : Blk X scope fun Y => PG Y tg g) (hG : TGt X.K cm (own.map (·.2)) g xg) (ht : Blk X scope fun Y => PTs Y ifs (tT X.K cm xt)) (he : Blk X scope fun Y => SE cm Y elt xe)
    (hsw : swapsWith (.ListComp elt [⟨tg, iter, ifs, 0⟩] scope pos) (some (.Name y py)) spos.line X.env = pure true)
    (hy : X.N[i]? = some y := by rfl) (hyl : X.env.scope.names.lookup y = some .local := by rfl)
    (hs : ∀ x, foldedSetIterable iter X.env x = pure x := by intro _; rfl) : SS cm X (.Assign [.Name y py] (.ListComp elt [⟨tg, iter, ifs, 0⟩] scope pos) spos) (sSet i (xLc (own.map (·.2)) xi xg xt xe)) :=
  PS_imp (ps_setLc (i := i) hc hN hy hyl hsw hi ok hg ht he hs) fun D σ H h => by
  obtain ⟨ρ, sg, m, fl, sg', m', hs, hr, e, q⟩ := h
  unfold sSet at e
  split at e
  · rename_i d m1 e1
    cases e
    exact t_lc hG ⟨ρ, sg, m, d, m', hs, hr, e1, fun ρ' v H' E R r => q ρ' _ H' E ((hs.mono E).set r i) R⟩
  · cases e
end
end Mini

set_option Elab.async false
set_option maxRecDepth 100000
namespace Mini
open PySem L2

/-! ### built-ins by value -/
section
variable {K : PySem.W.Frag} {cm : Nat → Addr} {X : Cx}
def rLenA (K : PySem.W.Frag) : List V → Hp → VK → Prop := fun xs H Q => ∃ x n, xs = [x] ∧ LenV K x H n ∧ Q (.int n) H
theorem one_of {ρ : Wd} {H : Hp} {xs : List V} {d : D} (r : RDs K ρ H xs [d]) : ∃ x, xs = [x] ∧ RD K ρ H x d := by
  cases r with
  | cons r rr => cases rr; exact ⟨_, rfl, r⟩
theorem two_of {ρ : Wd} {H : Hp} {xs : List V} {d e : D} (r : RDs K ρ H xs [d, e]) : ∃ x y, xs = [x, y] ∧ RD K ρ H x d ∧ RD K ρ H y e := by
  cases r with
  | cons r rr =>
    obtain ⟨y, rfl, ry⟩ := one_of rr
    exact ⟨_, _, rfl, r, ry⟩
theorem src_len : SRC K cm fLen (rLenA K) := by
  intro ρ m H xs ds d3 m' Q R r e q
  unfold fLen at e
  split at e
  · split at e
    · rename_i hl
      cases e
      obtain ⟨x, rfl, rx⟩ := one_of r
      cases rx
      exact ⟨_, _, rfl, ⟨sz hl, rfl⟩, q ρ _ H (Ev.refl ρ H) R .int⟩
    · cases e
  · split at e
    · rename_i hs
      cases e
      obtain ⟨x, rfl, rx⟩ := one_of r
      obtain ⟨a, xs', rfl, hq, rr⟩ := seq_of R rx hs
      refine ⟨_, xs'.length, rfl, ?_, ?_⟩
      · rcases hq with hq | hq
        · exact .inl ⟨_, hq, rfl⟩
        · exact .inr ⟨_, hq, rfl⟩
      · rw [rr.length]
        exact q ρ _ H (Ev.refl ρ H) R .int
    · cases e
  · cases e
theorem src_abs : SRC K cm fAbs (fun xs H Q => ∃ i, xs = [.int i] ∧ Q (.int (if i < 0 then -i else i)) H) := by
  intro ρ m H xs ds d3 m' Q R r e q
  unfold fAbs at e
  split at e
  · cases e
    obtain ⟨x, rfl, rx⟩ := one_of r
    cases rx
    exact ⟨_, rfl, q ρ _ H (Ev.refl ρ H) R .int⟩
  · cases e
theorem src_max2 : SRC K cm fMax2 (fun xs H Q => ∃ i j, xs = [.int i, .int j] ∧ Q (.int (if j > i then j else i)) H) := by
  intro ρ m H xs ds d3 m' Q R r e q
  unfold fMax2 at e
  split at e
  · cases e
    obtain ⟨x, y, rfl, rx, ry⟩ := two_of r
    cases rx; cases ry
    exact ⟨_, _, rfl, q ρ _ H (Ev.refl ρ H) R .int⟩
  · cases e
theorem src_min2 : SRC K cm fMin2 (fun xs H Q => ∃ i j, xs = [.int i, .int j] ∧ Q (.int (if j < i then j else i)) H) := by
  intro ρ m H xs ds d3 m' Q R r e q
  unfold fMin2 at e
  split at e
  · cases e
    obtain ⟨x, y, rfl, rx, ry⟩ := two_of r
    cases rx; cases ry
    exact ⟨_, _, rfl, q ρ _ H (Ev.refl ρ H) R .int⟩
  · cases e
theorem src_int : SRC K cm fInt (fun xs H Q => (∃ i, xs = [.int i] ∧ Q (.int i) H) ∨ ∃ k, xs = [.bl k] ∧ Q (.int (if k then 1 else 0)) H) := by
  intro ρ m H xs ds d3 m' Q R r e q
  unfold fInt at e
  split at e
  · cases e
    obtain ⟨x, rfl, rx⟩ := one_of r
    cases rx
    exact .inl ⟨_, rfl, q ρ _ H (Ev.refl ρ H) R .int⟩
  · cases e
    obtain ⟨x, rfl, rx⟩ := one_of r
    cases rx
    exact .inr ⟨_, rfl, q ρ _ H (Ev.refl ρ H) R .int⟩
  · cases e
theorem src_bool : SRC K cm fBool (fun xs H Q => (∃ i, xs = [.int i] ∧ Q (.bl (i != 0)) H) ∨ ∃ k, xs = [.bl k] ∧ Q (.bl k) H) := by
  intro ρ m H xs ds d3 m' Q R r e q
  unfold fBool at e
  split at e
  · cases e
    obtain ⟨x, rfl, rx⟩ := one_of r
    cases rx
    exact .inl ⟨_, rfl, q ρ _ H (Ev.refl ρ H) R .bl⟩
  · cases e
    obtain ⟨x, rfl, rx⟩ := one_of r
    cases rx
    exact .inr ⟨_, rfl, q ρ _ H (Ev.refl ρ H) R .bl⟩
  · cases e
theorem maxL_mem : ∀ (i : Int) (r : List Int), maxL (i :: r) ∈ i :: r ∧ ∀ y ∈ i :: r, y ≤ maxL (i :: r)
  | i, [] => ⟨by simp [maxL], by simp [maxL]⟩
  | i, j :: r => by
    obtain ⟨h1, h2⟩ := maxL_mem j r
    have e : maxL (i :: j :: r) = max i (maxL (j :: r)) := rfl
    rw [e]
    refine ⟨?_, fun y hy => ?_⟩
    · rcases Int.le_total i (maxL (j :: r)) with h | h
      · rw [Int.max_eq_right h]; exact List.mem_cons_of_mem _ h1
      · rw [Int.max_eq_left h]; exact List.mem_cons_self
    · rcases List.mem_cons.mp hy with rfl | hy
      · omega
      · have := h2 y hy; omega
theorem minL_mem : ∀ (i : Int) (r : List Int), minL (i :: r) ∈ i :: r ∧ ∀ y ∈ i :: r, minL (i :: r) ≤ y
  | i, [] => ⟨by simp [minL], by simp [minL]⟩
  | i, j :: r => by
    obtain ⟨h1, h2⟩ := minL_mem j r
    have e : minL (i :: j :: r) = min i (minL (j :: r)) := rfl
    rw [e]
    refine ⟨?_, fun y hy => ?_⟩
    · rcases Int.le_total i (minL (j :: r)) with h | h
      · rw [Int.min_eq_left h]; exact List.mem_cons_self
      · rw [Int.min_eq_right h]; exact List.mem_cons_of_mem _ h1
    · rcases List.mem_cons.mp hy with rfl | hy
      · omega
      · have := h2 y hy; omega
theorem src_max1 : SRC K cm fMax1 (rMax K) := by
  intro ρ m H xs ds d3 m' Q R r e q
  unfold fMax1 at e
  split at e
  · split at e
    · rename_i hs
      split at e
      · rename_i i rr hi
        cases e
        obtain ⟨x, rfl, rx⟩ := one_of r
        obtain ⟨a, xs', rfl, hq, rr'⟩ := list_of R rx hs
        refine ⟨a, i :: rr, rfl, by rw [← ints_rel rr' hi]; exact hq, by simp, fun k hk hy => ?_⟩
        obtain ⟨h1, h2⟩ := maxL_mem i rr
        have : k = maxL (i :: rr) := Int.le_antisymm (h2 k hk) (hy _ h1)
        rw [this]
        exact q ρ _ H (Ev.refl ρ H) R .int
      · cases e
    · cases e
  · cases e
theorem src_min1 : SRC K cm fMin1 (rMin K) := by
  intro ρ m H xs ds d3 m' Q R r e q
  unfold fMin1 at e
  split at e
  · split at e
    · rename_i hs
      split at e
      · rename_i i rr hi
        cases e
        obtain ⟨x, rfl, rx⟩ := one_of r
        obtain ⟨a, xs', rfl, hq, rr'⟩ := list_of R rx hs
        refine ⟨a, i :: rr, rfl, by rw [← ints_rel rr' hi]; exact hq, by simp, fun k hk hy => ?_⟩
        obtain ⟨h1, h2⟩ := minL_mem i rr
        have : k = minL (i :: rr) := Int.le_antisymm (hy _ h1) (h2 k hk)
        rw [this]
        exact q ρ _ H (Ev.refl ρ H) R .int
      · cases e
    · cases e
  · cases e
theorem src_any : SRC K cm fAny (rAny K) := by
  intro ρ m H xs ds d3 m' Q R r e q
  unfold fAny at e
  split at e
  · split at e
    · rename_i hs
      split at e
      · rename_i bs hi
        cases e
        obtain ⟨x, rfl, rx⟩ := one_of r
        obtain ⟨a, xs', rfl, hq, rr'⟩ := list_of R rx hs
        exact ⟨a, bs, rfl, by rw [← bls_rel rr' hi]; exact hq, q ρ _ H (Ev.refl ρ H) R .bl⟩
      · cases e
    · cases e
  · cases e
theorem src_all : SRC K cm fAll (rAll K) := by
  intro ρ m H xs ds d3 m' Q R r e q
  unfold fAll at e
  split at e
  · split at e
    · rename_i hs
      split at e
      · rename_i bs hi
        cases e
        obtain ⟨x, rfl, rx⟩ := one_of r
        obtain ⟨a, xs', rfl, hq, rr'⟩ := list_of R rx hs
        exact ⟨a, bs, rfl, by rw [← bls_rel rr' hi]; exact hq, q ρ _ H (Ev.refl ρ H) R .bl⟩
      · cases e
    · cases e
  · cases e
theorem src_tuple : SRC K cm fTuple (fun xs H Q => ∃ p ys, xs = [.ref p] ∧ ((SqL K H p ys ∧ ∀ l, H l = none → Q (.ref l) (upd H l (.tup ys))) ∨ (SqT K H p ys ∧ Q (.ref p) H))) := by
  intro ρ m H xs ds d3 m' Q R r e q
  rcases ds with _ | ⟨d, _ | ⟨_, _⟩⟩
  · cases e
  · obtain ⟨x, rfl, rx⟩ := one_of r
    by_cases hp : ∃ ys, d = .ptp ys
    · obtain ⟨ys, rfl⟩ := hp
      cases e
      cases rx with
      | ptp n h hd rr => exact ⟨_, _, rfl, .inr ⟨TAt.sq (.inl ⟨n, .inr ⟨_, h⟩⟩), q ρ _ H (Ev.refl ρ H) R (.ptp n h hd rr)⟩⟩
    have e : (match seqD d m with
      | some xs => some (D.tup xs, m)
      | none => none) = some (d3, m') := by
      cases d with
      | ptp ys => exact (hp ⟨ys, rfl⟩).elim
      | _ => exact e
    split at e
    · rename_i zs hs
      cases e
      by_cases ht : ∃ ys, d = .tup ys
      · obtain ⟨ys, rfl⟩ := ht
        cases hs
        cases rx with
        | tup h rr => exact ⟨_, _, rfl, .inr ⟨h.sq, q ρ _ H (Ev.refl ρ H) R (.tup h rr)⟩⟩
      · have hl : listD d m = some zs := by
          cases d with
          | tup ys => exact (ht ⟨ys, rfl⟩).elim
          | ptp ys => exact (hp ⟨ys, rfl⟩).elim
          | _ => exact hs
        obtain ⟨a, xs', rfl, hq, rr'⟩ := list_of R rx hl
        exact ⟨a, xs', rfl, .inl ⟨hq, fun p hp => q ρ _ _ (Ev.new hp) (R.new hp) (.tup (.inl ⟨R.notIn hp, .inl upd_same⟩) (rr'.mono (Ev.new hp)))⟩⟩
    · cases e
  · cases d <;> cases e
theorem src_list : SRC K cm fList (fun xs H Q => ∃ p ys, xs = [.ref p] ∧ (SqL K H p ys ∨ SqT K H p ys) ∧ ∀ l, H l = none → Q (.ref l) (upd H l (.lst ys))) := by
  intro ρ m H xs ds d3 m' Q R r e q
  unfold fList at e
  split at e
  · split at e
    · rename_i zs hs
      cases e
      obtain ⟨x, rfl, rx⟩ := one_of r
      obtain ⟨a, xs', rfl, hq, rr'⟩ := seq_of R rx hs
      exact ⟨a, xs', rfl, hq, fun p hp => q ρ _ _ (Ev.new hp) (R.new hp) (.lst (R.notIn hp) upd_same (rr'.mono (Ev.new hp)))⟩
    · cases e
  · cases e
theorem src_listM : SRC K cm fListM (fun xs H Q => ∃ p ys, xs = [.ref p] ∧ (SqL K H p ys ∨ SqT K H p ys) ∧ ∀ l, H l = none → Q (.ref l) (upd H l (.lst ys))) := by
  intro ρ m H xs ds d3 m' Q R r e q
  unfold fListM at e
  split at e
  · split at e
    · rename_i zs hs
      cases e
      obtain ⟨x, rfl, rx⟩ := one_of r
      obtain ⟨a, xs', rfl, hq, rr'⟩ := seq_of R rx hs
      exact ⟨a, xs', rfl, hq, fun p hp => q _ _ _ (Ev.alloc hp) (R.alloc hp ⟨_, upd_same, rr'.mono (Ev.alloc hp)⟩) (.ref R.last)⟩
    · cases e
  · cases e
/-! sorted(xs) of ints -/
def insI (i : Int) : List Int → List Int
  | [] => [i]
  | j :: r => if i ≤ j then i :: j :: r else j :: insI i r
def sortI : List Int → List Int
  | [] => []
  | i :: r => insI i (sortI r)
theorem insI_perm (i : Int) : ∀ r, (insI i r).Perm (i :: r)
  | [] => .refl _
  | j :: r => by
    unfold insI
    split
    · exact .refl _
    · exact ((insI_perm i r).cons j).trans (.swap i j r)
theorem sortI_perm : ∀ r, (sortI r).Perm r
  | [] => .refl _
  | i :: r => (insI_perm i _).trans ((sortI_perm r).cons i)
theorem insI_sorted (i : Int) : ∀ r : List Int, r.Pairwise (· ≤ ·) → (insI i r).Pairwise (· ≤ ·)
  | [], _ => by simp [insI]
  | j :: r, h => by
    unfold insI
    have hj := List.pairwise_cons.mp h
    split
    · rename_i hij
      refine List.pairwise_cons.mpr ⟨fun k hk => ?_, h⟩
      rcases List.mem_cons.mp hk with rfl | hk
      · exact hij
      · exact Int.le_trans hij (hj.1 k hk)
    · rename_i hij
      refine List.pairwise_cons.mpr ⟨fun k hk => ?_, insI_sorted i r hj.2⟩
      rcases List.mem_cons.mp ((insI_perm i r).subset hk) with rfl | hk
      · omega
      · exact hj.1 k hk
theorem sortI_sorted : ∀ r : List Int, (sortI r).Pairwise (· ≤ ·)
  | [] => List.Pairwise.nil
  | i :: r => insI_sorted i _ (sortI_sorted r)
theorem sorted_one : ∀ {a b : List Int}, a.Perm b → a.Pairwise (· ≤ ·) → b.Pairwise (· ≤ ·) → a = b
  | [], b, p, _, _ => by
    have := p.length_eq
    cases b with
    | nil => rfl
    | cons _ _ => simp at this
  | x :: a, b, p, ha, hb => by
    cases b with
    | nil => have := p.length_eq; simp at this
    | cons y b =>
      have h1 := List.pairwise_cons.mp ha
      have h2 := List.pairwise_cons.mp hb
      have hx : x ∈ y :: b := p.subset List.mem_cons_self
      have hy : y ∈ x :: a := p.symm.subset List.mem_cons_self
      have e : x = y := by
        rcases List.mem_cons.mp hx with e | hx
        · exact e
        · rcases List.mem_cons.mp hy with e | hy
          · exact e.symm
          · exact Int.le_antisymm (h1.1 y hy) (h2.1 x hx)
      subst e
      rw [sorted_one (List.perm_cons x |>.mp p) h1.2 h2.2]
def fSorted : FN
  | [d], m => (match listD d m with
    | some xs => (match intsD xs with
      | some ns => some (.lst ((sortI ns).map D.int), m)
      | none => none)
    | none => none)
  | _, _ => none
theorem src_sorted : SRC K cm fSorted (rSortedI K) := by
  intro ρ m H xs ds d3 m' Q R r e q
  unfold fSorted at e
  split at e
  · split at e
    · rename_i hs
      split at e
      · rename_i ns hi
        cases e
        obtain ⟨x, rfl, rx⟩ := one_of r
        obtain ⟨a, xs', rfl, hq, rr'⟩ := list_of R rx hs
        refine ⟨a, ns, rfl, by rw [← ints_rel rr' hi]; exact hq, fun ns' p hp hs hn => ?_⟩
        have : ns' = sortI ns := sorted_one (hp.trans (sortI_perm ns).symm) hs (sortI_sorted ns)
        subst this
        exact q ρ _ _ (Ev.new hn) (R.new hn) (.lst (R.notIn hn) upd_same (rds_ints _))
      · cases e
    · cases e
  · cases e
end

/-! ### calls -/
section
variable {cm : Nat → Addr} {X : Cx} {x : Str} {p pos : Pos} {e o : Expr} {es : List Expr} {xs : XA} {xo : XE} {id T : String} {r : List V → Hp → VK → Prop} {f : FN}
theorem se_callB (hc : CallR X (.builtin id) r) (hf : SRC X.K cm f r) (hg : Gl X x) (hm : X.mg x = none) (hv : bootBuiltins x = some (.builtin id)) (ha : SA cm X (e :: es) xs) (hn : x ≠ "__name__" := by decide) (hdb : (x == ("__debug__" : Str)) = false := by decide)
    (he : starEach (e :: es) X.env = (false, eval e X.env) :: starEach es X.env := by rfl) (hpl : (backTo pos (starEach es X.env)).any (·.1) = false := by rfl) : SE cm X (.Call (.Name x p) (e :: es) [] pos) (xFn f xs) :=
  PE_imp (pe_callB hc hg hm hv ha hn hdb he hpl) fun _ _ _ h => t_fn hf h
theorem se_callTy (hc : CallR X (.type T) r) (hf : SRC X.K cm f r) (hg : Gl X x) (hm : X.mg x = none) (hv : bootBuiltins x = some (.type T)) (ha : SA cm X (e :: es) xs) (hn : x ≠ "__name__" := by decide) (hdb : (x == ("__debug__" : Str)) = false := by decide)
    (he : starEach (e :: es) X.env = (false, eval e X.env) :: starEach es X.env := by rfl) (hpl : (backTo pos (starEach es X.env)).any (·.1) = false := by rfl) : SE cm X (.Call (.Name x p) (e :: es) [] pos) (xFn f xs) :=
  PE_imp (pe_callTy hc hg hm hv ha hn hdb he hpl) fun _ _ _ h => t_fn hf h
/-- what a def of the program promises -/
def spM (K : PySem.W.Frag) (cm : Nat → Addr) (n : Nat) (f : FN) : Sp := fun vs H Q _ => ∃ ρ m ds d m', vs.length = n ∧ RDs K ρ H vs ds ∧ Rep K cm ρ m H ∧ f ds m = some (d, m') ∧ KE_ K cm ρ H m' d Q
abbrev FM (P : Program) (w : World) (K : PySem.W.Frag) (mg : Str → Option Value) (base : Heap) (cm : Nat → Addr) (k : Nat) (a : Addr) (fd : FuncData) (ps : List Str) (f : FN) : Prop := FnOk P w K mg base CX0 k a fd ps (spM K cm ps.length f)
variable {k : Nat} {a C : Addr} {fd : FuncData} {ps : List Str} {E : XK} {c : Nat}
theorem t_call {K : PySem.W.Frag} {σ : St} {H : Hp} {Q : VK} {n : Nat} (hl : ∀ sg m ds m', xs sg m = some (ds, m') → f ds m' ≠ none → ds.length = n) (h : tE K cm (xFn f xs) σ H Q) : tCall (spM K cm n f) [] E (tA K cm xs) σ H Q := by
  obtain ⟨ρ, sg, m, d, m', hs, hr, e, q⟩ := h
  unfold xFn at e
  split at e
  · cases e
  · rename_i ds m1 e1
    refine ⟨ρ, sg, m, ds, m1, hs, hr, e1, fun ρ1 vs H1 E1 R1 r1 => ?_⟩
    show spM K cm n f (vs ++ []) H1 Q E
    rw [List.append_nil]
    exact ⟨ρ1, m1, ds, d, m', by rw [r1.length]; exact hl _ _ _ _ e1 (by rw [e]; simp), r1, R1, e, fun ρ2 v2 H2 E2 R2 r2 => q ρ2 v2 H2 (E1.trans E2) R2 r2⟩
theorem se_call (F : FM X.prog X.w X.K X.mg X.base cm k a fd ps f) (hr : Room k X.A) (hg : Gl X x) (hm : X.mg x = some (.ref a)) (hk : PySem.W.keepIn X.K (.ref a) = true) (hb : Binds X.K fd ps []) (ha : SA cm X (e :: es) xs)
    (hl : ∀ ds m, f ds m ≠ none → ds.length = ps.length) (hdb : (x == ("__debug__" : Str)) = false := by decide) (he : starEach (e :: es) X.env = (false, eval e X.env) :: starEach es X.env := by rfl) (hpl : (backTo pos (starEach es X.env)).any (·.1) = false := by rfl) :
    SE cm X (.Call (.Name x p) (e :: es) [] pos) (xFn f xs) := PE_imp (pe_call F hr hg hm hk hb .nil pass0 ha hdb he hpl) fun _ _ _ h => t_call (fun _ _ _ _ _ h => hl _ _ h) h
theorem se_call0 (F : FM X.prog X.w X.K X.mg X.base cm k a fd ps f) (hr : Room k X.A) (hg : Gl X x) (hm : X.mg x = some (.ref a)) (hk : PySem.W.keepIn X.K (.ref a) = true) (hb : Binds X.K fd ps [])
    (hl : ∀ ds m, f ds m ≠ none → ds.length = ps.length) (hdb : (x == ("__debug__" : Str)) = false := by decide) : SE cm X (.Call (.Name x p) [] [] pos) (xFn f aNil) :=
  PE_imp (pe_call0 F hr hg hm hk hb .nil pass0 hdb) fun σ H Q h => by
    obtain ⟨ρ, sg, m, d, m', hs, hR, e, q⟩ := h
    exact ⟨ρ, m, [], d, m', hl [] m (by show f [] m ≠ none; have : f [] m = some (d, m') := e; rw [this]; simp), .nil, hR, e, q⟩
/-- a method of a class of the program: the first argument is the instance -/
def xMeth (c : Nat) (mn : Str) (f : FN) (o : XE) (a : XA) : XE := fun sg m => match o sg m with
  | some (.ref i, m1) => (match m1[i]? with
    | some (.ins c' fs) => if c' = c then (if (fs.lookup mn).isNone = true then (match a sg m1 with
      | some (xs, m2) => f (.ref i :: xs) m2
      | none => none) else none) else none
    | _ => none)
  | _ => none
theorem RFs.lookup_none {K : PySem.W.Frag} {ρ : Wd} {H : Hp} {nm : Str} : ∀ {es : List (Str × V)} {fs : List (Str × D)}, RFs K ρ H es fs → fs.lookup nm = none → es.lookup nm = none
  | _, _, .nil, _ => rfl
  | _, _, .cons (k := k) r t, h => by
    rw [List.lookup_cons] at h ⊢
    split at h
    · cases h
    · exact RFs.lookup_none t h
theorem RFs.lookup_some {K : PySem.W.Frag} {ρ : Wd} {H : Hp} {nm : Str} {d : D} : ∀ {es : List (Str × V)} {fs : List (Str × D)}, RFs K ρ H es fs → fs.lookup nm = some d → ∃ v, es.lookup nm = some v ∧ RD K ρ H v d
  | _, _, .nil, h => nomatch h
  | _, _, .cons (k := k) r t, h => by
    rw [List.lookup_cons] at h ⊢
    split at h
    · cases h
      exact ⟨_, rfl, r⟩
    · exact RFs.lookup_some t h
end
end Mini

set_option Elab.async false
set_option maxRecDepth 100000
namespace Mini
open PySem L2

/-! ### objects -/
def xFld (c : Nat) (f : Str) (o : XE) : XE := fun sg m => match o sg m with
  | some (.ref i, m1) => (match m1[i]? with
    | some (.ins c' fs) => if c' = c then (match fs.lookup f with
      | some d => some (d, m1)
      | none => none) else none
    | _ => none)
  | _ => none
def putFD (f : Str) (v : D) : List (Str × D) → List (Str × D)
  | [] => [(f, v)]
  | (g, x) :: r => if g = f then (g, v) :: r else (g, x) :: putFD f v r
def sFldS (c : Nat) (f : Str) (v o : XE) : XS := fun sg m => match v sg m with
  | none => none
  | some (y, m1) => match o sg m1 with
    | some (.ref i, m2) => (match m2[i]? with
      | some (.ins c' fs) => if c' = c then (if fs.length < 1000 then some (.nx, sg, m2.set i (.ins c (putFD f y fs))) else none) else none
      | _ => none)
    | _ => none
/-- o.f op= e -/
def sFldA (c : Nat) (f : Str) (g : F2) (o v : XE) : XS := fun sg m => match o sg m with
  | some (.ref i, m1) => (match m1[i]? with
    | some (.ins c' fs) => if c' = c then (match fs.lookup f with
      | some d => (match v sg m1 with
        | some (y, m2) => (match g d y m2 with
          | some (z, m3) => (match m3[i]? with
            | some (.ins c'' fs') => if c'' = c then (if fs'.length < 1000 then some (.nx, sg, m3.set i (.ins c (putFD f z fs'))) else none) else none
            | _ => none)
          | none => none)
        | none => none)
      | none => none) else none
    | _ => none)
  | _ => none
def xMake (c : Nat) (f : FN) (a : XA) : XE := fun sg m => match a sg m with
  | none => none
  | some (xs, m1) => match f (.ref m1.length :: xs) (m1 ++ [.ins c []]) with
    | some (.non, m2) => some (.ref m1.length, m2)
    | _ => none
/-! ### dicts -/
def xDNew : XE := fun _ m => some (.ref m.length, m ++ [.dct []])
/-- d[k] = v -/
def sDPut (v d k : XE) : XS := fun sg m => match v sg m with
  | none => none
  | some (y, m1) => match d sg m1 with
    | some (.ref i, m2) => (match k sg m2 with
      | some (kd, m3) => (match keyD kd, m3[i]? with
        | some kk, some (.dct kvs) => if kvs.length < 100000 then some (.nx, sg, m3.set i (.dct (putD kvs kk y))) else none
        | _, _ => none)
      | none => none)
    | _ => none
/-- l[i] = v -/
def sLPut (v l k : XE) : XS := fun sg m => match v sg m with
  | none => none
  | some (y, m1) => match l sg m1 with
    | some (.ref i, m2) => (match k sg m2 with
      | some (.int n, m3) => (match m3[i]? with
        | some (.lst xs) => (match ixN xs.length n with
          | some j => some (.nx, sg, m3.set i (.lst (xs.set j y)))
          | none => none)
        | _ => none)
      | _ => none)
    | _ => none
/-- targets d[k], l[i] in a row of targets -/
def gDPut (d k : XE) : XG := fun y sg m => match d sg m with
  | some (.ref i, m2) => (match k sg m2 with
    | some (kd, m3) => (match keyD kd, m3[i]? with
      | some kk, some (.dct kvs) => if kvs.length < 100000 then some (sg, m3.set i (.dct (putD kvs kk y))) else none
      | _, _ => none)
    | none => none)
  | _ => none
/-! ### methods of lists -/
abbrev FMt := D → List D → M → Option (D × M)
def isLst (d : D) (m : M) : Bool := match d with
  | .lst _ => true
  | .rol _ => true
  | .ref i => (match m[i]? with
    | some (.lst _) => true
    | _ => false)
  | _ => false
def xLm (f : FMt) (o : XE) (a : XA) : XE := fun sg m => match o sg m with
  | none => none
  | some (d, m1) => if isLst d m1 = true then (match a sg m1 with
    | some (xs, m2) => f d xs m2
    | none => none) else none
def mAppend : FMt := fun d xs m => match d, xs with
  | .ref i, [y] => (match m[i]? with
    | some (.lst ds) => if ds.length < 100000 then some (.non, m.set i (.lst (ds ++ [y]))) else none
    | _ => none)
  | _, _ => none
/-- xs.extend(ys), ys a list that nobody changes, or one that is changed -/
def mExtend : FMt := fun d xs m => match d, xs with
  | .ref i, [.lst es] => (match m[i]? with
    | some (.lst ds) => if ds.length + es.length ≤ 100000 then some (.non, m.set i (.lst (ds ++ es))) else none
    | _ => none)
  | _, _ => none
def mPop : FMt := fun d xs m => match d, xs with
  | .ref i, [] => (match m[i]? with
    | some (.lst ds) => (match ds[ds.length - 1]? with
      | some y => some (y, m.set i (.lst ds.dropLast))
      | none => none)
    | _ => none)
  | _, _ => none
/-! ### while -/
def sWhile (c : XT) (b : XS) : Nat → XS
  | 0, _, _ => none
  | n + 1, sg, m => match c sg m with
    | none => none
    | some (false, m1) => some (.nx, sg, m1)
    | some (true, m1) => match b sg m1 with
      | some (.nx, sg2, m2) => sWhile c b n sg2 m2
      | some (.ct, sg2, m2) => sWhile c b n sg2 m2
      | some (.bk, sg2, m2) => some (.nx, sg2, m2)
      | some (.rt d, sg2, m2) => some (.rt d, sg2, m2)
      | none => none
/-! ### a def -/
def fnB (N n : Nat) (b : XS) : FN := fun ds m => if ds.length = n then (match b (ds.map some ++ List.replicate (N - ds.length) none) m with
  | some (.rt d, _, m') => some (d, m')
  | some (.nx, _, m') => some (.non, m')
  | _ => none) else none

section
variable {K : PySem.W.Frag} {cm : Nat → Addr} {ρ : Wd} {H : Hp} {m : M}
theorem ref_at {i : Nat} {v : V} {o : O} (R : Rep K cm ρ m H) (r : RD K ρ H v (.ref i)) (e : m[i]? = some o) : ∃ a, v = .ref a ∧ ρ.ρ[i]? = some a ∧ RO K cm ρ H a o := by
  cases r with
  | ref h =>
    obtain ⟨a, e1, r⟩ := R.at_ i o e
    rw [h] at e1
    cases e1
    exact ⟨_, rfl, h, r⟩
theorem RFs.length : ∀ {es : List (Str × V)} {fs : List (Str × D)}, RFs K ρ H es fs → es.length = fs.length
  | _, _, .nil => rfl
  | _, _, .cons _ t => by simp [RFs.length t]
theorem RFs.put {f : Str} {v : V} {d : D} (r : RD K ρ H v d) : ∀ {es : List (Str × V)} {fs : List (Str × D)}, RFs K ρ H es fs → RFs K ρ H (putF f v es) (putFD f d fs)
  | _, _, .nil => .cons r .nil
  | _, _, .cons (k := k) q t => by
    unfold putF putFD
    split
    · exact .cons r t
    · exact .cons q (RFs.put r t)
theorem rks_any {k : Key} : ∀ {es : List (Key × V)} {kvs : List (Key × D)}, RKs K ρ H es kvs → (es.any fun kv => decide (kv.1 = k)) = kvs.any fun kv => decide (kv.1 = k)
  | _, _, .nil => rfl
  | _, _, .cons _ t => by simp only [List.any_cons, rks_any t]
theorem rks_repl {k : Key} {v : V} {d : D} (r : RD K ρ H v d) : ∀ {es : List (Key × V)} {kvs : List (Key × D)}, RKs K ρ H es kvs → RKs K ρ H (es.map fun kv => if kv.1 = k then (kv.1, v) else kv) (kvs.map fun kv => if kv.1 = k then (kv.1, d) else kv)
  | _, _, .nil => .nil
  | _, _, .cons (k := k') q t => by
    simp only [List.map_cons]
    split
    · exact .cons r (rks_repl r t)
    · exact .cons q (rks_repl r t)
theorem rks_snoc {k : Key} {v : V} {d : D} (r : RD K ρ H v d) : ∀ {es : List (Key × V)} {kvs : List (Key × D)}, RKs K ρ H es kvs → RKs K ρ H (es ++ [(k, v)]) (kvs ++ [(k, d)])
  | _, _, .nil => .cons r .nil
  | _, _, .cons q t => .cons q (rks_snoc r t)
theorem RKs.put {k : Key} {v : V} {d : D} {es : List (Key × V)} {kvs : List (Key × D)} (r : RD K ρ H v d) (t : RKs K ρ H es kvs) : RKs K ρ H (putK es k v) (putD kvs k d) := by
  unfold putK putD
  rw [rks_any t]
  split
  · exact rks_repl r t
  · exact rks_snoc r t
end

section
variable {cm : Nat → Addr} {X : Cx} {x : Str} {p pos : Pos} {e o i value : Expr} {es : List Expr} {xs : XA} {xo xv xk : XE} {f : FN} {k : Nat} {a : Addr} {fd : FuncData} {ps : List Str} {c : Nat}
theorem se_fld (c : Nat) {nm : Str} (he : SE cm X o xo) (hcl : Cls X.K (cm c)) (hna : NoAttr X.K (cm c) nm) (hb : attributeBase o nm X.env (eval o X.env) = eval o X.env := by rfl) : SE cm X (.Attribute o nm pos) (xFld c nm xo) := PE_imp (pe_fld he hb) fun σ H Q h => by
  obtain ⟨ρ, sg, m, d, m', hs, hr, e, q⟩ := h
  unfold xFld at e
  split at e
  · rename_i i m1 e1
    split at e
    · rename_i c' fs hm
      split at e
      · rename_i hc
        subst hc
        split at e
        · rename_i d' hd
          cases e
          refine ⟨ρ, sg, m, _, _, hs, hr, e1, fun ρ1 v H1 E1 R1 r1 => ?_⟩
          obtain ⟨a, rfl, _, dx, es, ha, rf⟩ := ref_at R1 r1 hm
          obtain ⟨v, hv, rv⟩ := rf.lookup_some hd
          exact ⟨a, _, dx, es, v, rfl, ha, hcl, hna, hv, q ρ1 v H1 E1 R1 rv⟩
        · cases e
      · cases e
    · cases e
  · cases e
theorem s_fld (c : Nat) {nm : Str} {pos' : Pos} (hv : SE cm X value xv) (ha : SE cm X o xo) (hcl : Cls X.K (cm c)) (hna : NoAttr X.K (cm c) nm) (hs : swapsWith value (some (.Attribute o nm pos')) pos.line X.env = pure false := by rfl) :
    SS cm X (.Assign [.Attribute o nm pos'] value pos) (sFldS c nm xv xo) := PS_imp (ps_fld ha hv hs) fun D σ H h => by
  obtain ⟨ρ, sg, m, fl, sg', m', hs, hr, e, q⟩ := h
  unfold sFldS at e
  split at e
  · cases e
  · rename_i y m1 e1
    split at e
    · rename_i i m2 e2
      split at e
      · rename_i c' fs hm
        split at e
        · rename_i hc
          subst hc
          split at e
          · rename_i hl
            cases e
            refine ⟨ρ, sg, m, y, m1, hs, hr, e1, fun ρ1 v H1 E1 R1 r1 => ⟨ρ1, sg, m1, _, _, hs.mono E1, R1, e2, fun ρ2 v2 H2 E2 R2 r2 => ?_⟩⟩
            obtain ⟨a, rfl, hi, dx, es, hA, rf⟩ := ref_at R2 r2 hm
            refine ⟨a, _, dx, es, rfl, hA, hcl, hna, by rw [rf.length]; exact hl, ?_⟩
            have EW : Ev ρ2 H2 ρ2 (upd H2 a (.ins (cm c') dx (putF nm v es))) := Ev.write hi
            exact q ρ2 σ _ ((E1.trans E2).trans EW) ((hs.mono (E1.trans E2)).mono EW) (R2.write hi ⟨dx, _, upd_same, RFs.put ((r1.mono E2).mono EW) (rf.mono EW)⟩)
          · cases e
        · cases e
      · cases e
    · cases e
theorem s_flda (c : Nat) {nm : Str} {tpos : Pos} {op : Operator} {g : F2} {rd : V → V → Hp → VK → Prop} (ha : SE cm X o xo) (hv : SE cm X value xv) (hop : InOp X op rd) (hg : SR2 X.K cm g rd) (hcl : Cls X.K (cm c)) (hna : NoAttr X.K (cm c) nm) :
    SS cm X (.AugAssign (.Attribute o nm tpos) op value pos) (sFldA c nm g xo xv) := PS_imp (ps_fldaug ha hv hop) fun D σ H h => by
  obtain ⟨ρ, sg, m, fl, sg', m', hs, hr, e, q⟩ := h
  unfold sFldA at e
  split at e
  · rename_i i m1 e1
    split at e
    · rename_i c' fs hm
      split at e
      · rename_i hc
        subst hc
        split at e
        · rename_i d hd
          split at e
          · rename_i y m2 e2
            split at e
            · rename_i z m3 e3
              split at e
              · rename_i c'' fs' hm3
                split at e
                · rename_i hc3
                  subst hc3
                  split at e
                  · rename_i hl
                    cases e
                    refine ⟨ρ, sg, m, _, _, hs, hr, e1, fun ρ1 v H1 E1 R1 r1 => ?_⟩
                    obtain ⟨a, rfl, hi, dx, es, hA, rf⟩ := ref_at R1 r1 hm
                    obtain ⟨v0, hv0, rv0⟩ := rf.lookup_some hd
                    refine ⟨a, _, dx, es, v0, rfl, hA, hcl, hna, hv0, ρ1, sg, m1, y, m2, hs.mono E1, R1, e2, fun ρ2 v2 H2 E2 R2 r2 => ?_⟩
                    refine hg ρ2 m2 H2 v0 v2 d y z m3 _ R2 (rv0.mono E2) r2 e3 fun ρ3 v3 H3 E3 R3 r3 => ?_
                    obtain ⟨a', ea, hi', dx', es', hA', rf'⟩ := ref_at R3 (r1.mono (E2.trans E3)) hm3
                    cases ea
                    refine ⟨dx', es', hA', by rw [rf'.length]; exact hl, ?_⟩
                    have EW : Ev ρ3 H3 ρ3 (upd H3 a (.ins (cm c'') dx' (putF nm v3 es'))) := Ev.write hi'
                    have EE := ((E1.trans E2).trans E3).trans EW
                    exact q ρ3 σ _ EE (hs.mono EE) (R3.write hi' ⟨dx', _, upd_same, RFs.put (r3.mono EW) (rf'.mono EW)⟩)
                  · cases e
                · cases e
              · cases e
            · cases e
          · cases e
        · cases e
      · cases e
    · cases e
  · cases e
theorem t_meth {K : PySem.W.Frag} {σ : St} {H : Hp} {Q : VK} {n : Nat} {mn : Str} {c : Nat} {E : XK} (hl : ∀ ds m, f ds m ≠ none → ds.length = n) (h : tE K cm (xMeth c mn f xo xs) σ H Q) : tMeth (cm c) mn (spM K cm n f) [] E (tE K cm xo) (tA K cm xs) σ H Q := by
  obtain ⟨ρ, sg, m, d, m', hs, hr, e, q⟩ := h
  unfold xMeth at e
  split at e
  · rename_i i m1 e1
    split at e
    · rename_i c' fs hm
      split at e
      · rename_i hc
        subst hc
        split at e
        · rename_i hno
          split at e
          · rename_i ds m2 e2
            refine ⟨ρ, sg, m, _, _, hs, hr, e1, fun ρ1 v H1 E1 R1 r1 => ?_⟩
            obtain ⟨a, rfl, hi, dx, es, hA, rf⟩ := ref_at R1 r1 hm
            refine ⟨a, dx, es, rfl, hA, rf.lookup_none (by simpa using hno), ρ1, sg, m1, ds, m2, hs.mono E1, R1, e2, fun ρ2 vs H2 E2 R2 r2 => ?_⟩
            show spM K cm n f (V.ref a :: (vs ++ [])) H2 Q E
            rw [List.append_nil]
            refine ⟨ρ2, m2, _, d, m', ?_, .cons (r1.mono E2) r2, R2, e, fun ρ3 v3 H3 E3 R3 r3 => q ρ3 v3 H3 ((E1.trans E2).trans E3) R3 r3⟩
            rw [← hl _ _ (by rw [e]; simp)]
            simp [r2.length]
          · cases e
        · cases e
      · cases e
    · cases e
  · cases e
theorem se_meth (c : Nat) {pl : Sem Bool} {mn : Str} {apos : Pos} (he : SE cm X o xo) (hcl : Cls X.K (cm c)) (hm : Meth X.K (cm c) mn a) (F : FM X.prog X.w X.K X.mg X.base cm k a fd ps f) (hr : Room k X.A) (hb : Binds X.K fd ps []) (ha : SA cm X (e :: es) xs)
    (hl : ∀ ds m, f ds m ≠ none → ds.length = ps.length)
    (hst : starEach (e :: es) X.env = (false, eval e X.env) :: starEach es X.env := by rfl) (hpl : (backTo pos (starEach es X.env)).any (·.1) = false := by rfl)
    (ht : eval (.Call (.Attribute o mn apos) (e :: es) [] pos) X.env = (do
      let ov ← eval o X.env
      standAt apos.atName
      let (f, first) ← holding [ov] (getMethod ov mn pl)
      callWith pos f first (backTo pos (starEach (e :: es) X.env)) (backToKw pos (keywordEach [] X.env))) := by rfl) :
    SE cm X (.Call (.Attribute o mn apos) (e :: es) [] pos) (xMeth c mn f xo xs) := PE_imp (pe_meth he hcl hm F hr hb .nil pass0 ha hst hpl ht) fun _ _ _ h => t_meth hl h
theorem ta_nil {K : PySem.W.Frag} {σ : St} {H : Hp} {Q : List V → Hp → Prop} (h : tA K cm aNil σ H Q) : tNil σ H Q := by
  obtain ⟨ρ, sg, m, d, m', hs, hr, e, q⟩ := h
  cases e
  exact q ρ [] H (Ev.refl ρ H) hr .nil
theorem se_meth0 (c : Nat) {pl : Sem Bool} {mn : Str} {apos : Pos} (he : SE cm X o xo) (hcl : Cls X.K (cm c)) (hm : Meth X.K (cm c) mn a) (F : FM X.prog X.w X.K X.mg X.base cm k a fd ps f) (hr : Room k X.A) (hb : Binds X.K fd ps [])
    (hl : ∀ ds m, f ds m ≠ none → ds.length = ps.length)
    (ht : eval (.Call (.Attribute o mn apos) [] [] pos) X.env = (do
      let ov ← eval o X.env
      standAt apos.atName
      let (f, first) ← holding [ov] (getMethod ov mn pl)
      callWith pos f first (backTo pos (starEach [] X.env)) (backToKw pos (keywordEach [] X.env))) := by rfl) :
    SE cm X (.Call (.Attribute o mn apos) [] [] pos) (xMeth c mn f xo aNil) := PE_imp (pe_meth0 he hcl hm F hr hb .nil pass0 ht) fun σ H Q h => by
  have h1 := t_meth (E := E0) hl h
  obtain ⟨ρ, sg, m, d, m', hs, hr, e, q⟩ := h1
  refine ⟨ρ, sg, m, d, m', hs, hr, e, fun ρ' v H' E R r => ?_⟩
  obtain ⟨a, dx, fs, e1, e2, e3, e4⟩ := q ρ' v H' E R r
  exact ⟨a, dx, fs, e1, e2, e3, ta_nil e4⟩
theorem t_make {K : PySem.W.Frag} {σ : St} {H : Hp} {Q : VK} {n c : Nat} {E : XK} (hl : ∀ ds m, f ds m ≠ none → ds.length = n) (h : tE K cm (xMake c f xs) σ H Q) : tMake (cm c) (spM K cm n f) [] E (tA K cm xs) σ H Q := by
  obtain ⟨ρ, sg, m, d, m', hs, hr, e, q⟩ := h
  unfold xMake at e
  split at e
  · cases e
  · rename_i ds m1 e1
    split at e
    · rename_i m2 e2
      cases e
      refine ⟨ρ, sg, m, ds, m1, hs, hr, e1, fun ρ1 vs H1 E1 R1 r1 x dx hx hdx hne => ?_⟩
      rw [List.append_nil]
      have hx2 : upd H1 dx (.own x) x = none := by rw [upd_ne (Ne.symm hne)]; exact hx
      have ED : Ev ρ1 H1 ρ1 (upd H1 dx (.own x)) := Ev.new hdx
      have EA : Ev ρ1 (upd H1 dx (.own x)) (ρ1.add x) (upd (upd H1 dx (.own x)) x (.ins (cm c) dx [])) := Ev.alloc hx2
      have RA := (R1.new (u := .own x) hdx).alloc (u := .ins (cm c) dx []) (o := .ins c []) hx2 ⟨dx, [], upd_same, .nil⟩
      have rx : RD K (ρ1.add x) (upd (upd H1 dx (.own x)) x (.ins (cm c) dx [])) (.ref x) (.ref m1.length) := .ref R1.last
      refine ⟨ρ1.add x, m1 ++ [.ins c []], _, .non, _, ?_, .cons rx (r1.mono (ED.trans EA)), RA, e2, fun ρ3 v3 H3 E3 R3 r3 => ?_⟩
      · rw [← hl _ _ (by rw [e2]; simp)]
        simp [r1.length]
      · cases r3
        exact ⟨rfl, q ρ3 _ H3 ((E1.trans (ED.trans EA)).trans E3) R3 (rx.mono E3)⟩
    · cases e
theorem se_make (c : Nat) (M : Mk X.K (cm c) a) (F : FM X.prog X.w X.K X.mg X.base cm k a fd ps f) (hr : Room (k + 1) X.A) (hg : Gl X x) (hm : X.mg x = some (.ref (cm c))) (hb : Binds X.K fd ps []) (ha : SA cm X (e :: es) xs)
    (hl : ∀ ds m, f ds m ≠ none → ds.length = ps.length)
    (hdb : (x == ("__debug__" : Str)) = false := by decide) (he : starEach (e :: es) X.env = (false, eval e X.env) :: starEach es X.env := by rfl) (hpl : (backTo pos (starEach es X.env)).any (·.1) = false := by rfl) :
    SE cm X (.Call (.Name x p) (e :: es) [] pos) (xMake c f xs) := PE_imp (pe_make M F hr hg hm hb .nil pass0 ha hdb he hpl) fun _ _ _ h => t_make hl h
/-! dicts -/
theorem se_dnew : SE cm X (.Dict [] [] pos) xDNew := PE_imp pe_dnewK fun σ H Q h => by
  obtain ⟨ρ, sg, m, d, m', hs, hr, e, q⟩ := h
  cases e
  exact fun p hp => q _ _ _ (Ev.alloc hp) (hr.alloc hp ⟨[], upd_same, .nil⟩) (.ref hr.last)
theorem se_dget (hu : X.A.units + 1 < cLine) (ho : SE cm X o xo) (hi : SE cm X i xk) (hs : NoSl i := by intro _ _; rfl) : SE cm X (.Subscript o i pos) (xOp fDGet xo xk) := PE_imp (pe_dget hu ho hi hs) fun _ _ _ h => sr_dget h
theorem se_ix (ho : SE cm X o xo) (hi : SE cm X i xk) (hs : PlainIx i := by intro _ _; rfl) : SE cm X (.Subscript o i pos) (xOp fIx xo xk) := PE_imp (pe_ix ix_seq ho hi hs) fun _ _ _ h => t_op sr_ix h
theorem s_dput {pos' : Pos} (hu : X.A.units + 1 < cLine) (hv : SE cm X value xv) (ho : SE cm X o xo) (hi : SE cm X i xk) (hs : swapsWith value (some (.Subscript o i pos')) pos.line X.env = pure false := by rfl) :
    SS cm X (.Assign [.Subscript o i pos'] value pos) (sDPut xv xo xk) := PS_imp (ps_dput hu ho hi hv hs) fun D σ H h => by
  obtain ⟨ρ, sg, m, fl, sg', m', hs, hr, e, q⟩ := h
  unfold sDPut at e
  split at e
  · cases e
  · rename_i y m1 e1
    split at e
    · rename_i i m2 e2
      split at e
      · rename_i kd m3 e3
        split at e
        · rename_i kk kvs hk hm
          split at e
          · rename_i hl
            cases e
            refine ⟨ρ, sg, m, y, m1, hs, hr, e1, fun ρ1 v H1 E1 R1 r1 => ⟨ρ1, sg, m1, _, _, hs.mono E1, R1, e2, fun ρ2 v2 H2 E2 R2 r2 => ⟨ρ2, sg, m2, _, _, hs.mono (E1.trans E2), R2, e3, fun ρ3 v3 H3 E3 R3 r3 => ?_⟩⟩⟩
            obtain ⟨a, rfl, hi, es, hA, rf⟩ := ref_at R3 (r2.mono E3) hm
            have EW : Ev ρ3 H3 ρ3 (upd H3 a (.dK (putK es kk v))) := Ev.write hi
            have EE := ((E1.trans E2).trans E3).trans EW
            refine ⟨a, _, rfl, .inl ⟨es, kk, hA, key_rel r3 hk, szl (by rw [rf.length]; exact hl), rfl⟩, q ρ3 σ _ EE (hs.mono EE) (R3.write hi ⟨_, upd_same, RKs.put (r1.mono ((E2.trans E3).trans EW)) (rf.mono EW)⟩)⟩
          · cases e
        · cases e
      · cases e
    · cases e
theorem s_lput {pos' : Pos} (hv : SE cm X value xv) (ho : SE cm X o xo) (hi : SE cm X i xk) (ha : ∀ v, assign (.Subscript o i pos') X.env v = (do
      let ov ← holding [v] (eval o X.env)
      let iv ← holding [v, ov] (eval i X.env)
      standAt pos'
      holding [v, ov, iv] (setItem ov iv v)
      release [v, ov, iv] []) := by intro _; rfl) (hs : swapsWithSole [.Subscript o i pos'] value pos.line X.env = pure false := by rfl) (hw : swappedStores [.Subscript o i pos'] value X.env = pure none := by rfl)
    (h1 : (assignEach [.Subscript o i pos'] X.env).map (·.2) = [assign (.Subscript o i pos') X.env] := by rfl) :
    SS cm X (.Assign [.Subscript o i pos'] value pos) (sLPut xv xo xk) := PS_imp (ps_asg hv (pg_sub ho hi set_list ha) hs hw h1) fun D σ H h => by
  obtain ⟨ρ, sg, m, fl, sg', m', hs, hr, e, q⟩ := h
  unfold sLPut at e
  split at e
  · cases e
  · rename_i y m1 e1
    split at e
    · rename_i i m2 e2
      split at e
      · rename_i n m3 e3
        split at e
        · rename_i ds hm
          split at e
          · rename_i j hj
            cases e
            refine ⟨ρ, sg, m, y, m1, hs, hr, e1, fun ρ1 v H1 E1 R1 r1 => ⟨ρ1, sg, m1, _, _, hs.mono E1, R1, e2, fun ρ2 v2 H2 E2 R2 r2 => ⟨ρ2, sg, m2, _, _, hs.mono (E1.trans E2), R2, e3, fun ρ3 v3 H3 E3 R3 r3 => ?_⟩⟩⟩
            obtain ⟨a, rfl, hi, es, hA, rf⟩ := ref_at R3 (r2.mono E3) hm
            cases r3
            have EW : Ev ρ3 H3 ρ3 (upd H3 a (.lst (es.set j v))) := Ev.write hi
            have EE := ((E1.trans E2).trans E3).trans EW
            exact ⟨a, es, n, j, rfl, rfl, hA, by rw [rf.length]; exact hj, q ρ3 σ _ EE (hs.mono EE) (R3.write hi ⟨_, upd_same, RDs.set (r1.mono ((E2.trans E3).trans EW)) j (rf.mono EW)⟩)⟩
          · cases e
        · cases e
      · cases e
    · cases e
theorem sg_dput {pos' : Pos} (hu : X.A.units + 1 < cLine) (ho : SE cm X o xo) (hi : SE cm X i xk) (ha : ∀ v, assign (.Subscript o i pos') X.env v = (do
      let ov ← holding [v] (eval o X.env)
      let iv ← holding [v, ov] (eval i X.env)
      standAt pos'
      holding [v, ov, iv] (setItem ov iv v)
      release [v, ov, iv] []) := by intro _; rfl) : SG cm X (.Subscript o i pos') (gDPut xo xk) := PG_imp (pg_sub ho hi (set_dict hu) ha) fun v σ H Q h => by
  obtain ⟨ρ, sg, m, d, sg', m', hs, hr, r, e, q⟩ := h
  unfold gDPut at e
  split at e
  · rename_i i m2 e2
    split at e
    · rename_i kd m3 e3
      split at e
      · rename_i kk kvs hk hm
        split at e
        · rename_i hl
          cases e
          refine ⟨ρ, sg, m, _, _, hs, hr, e2, fun ρ2 v2 H2 E2 R2 r2 => ⟨ρ2, sg, m2, _, _, hs.mono E2, R2, e3, fun ρ3 v3 H3 E3 R3 r3 => ?_⟩⟩
          obtain ⟨a, rfl, hi, es, hA, rf⟩ := ref_at R3 (r2.mono E3) hm
          have EW : Ev ρ3 H3 ρ3 (upd H3 a (.dK (putK es kk v))) := Ev.write hi
          have EE := (E2.trans E3).trans EW
          exact ⟨a, _, rfl, .inl ⟨es, kk, hA, key_rel r3 hk, szl (by rw [rf.length]; exact hl), rfl⟩, q ρ3 σ _ EE (hs.mono EE) (R3.write hi ⟨_, upd_same, RKs.put (r.mono EE) (rf.mono EW)⟩)⟩
        · cases e
      · cases e
    · cases e
  · cases e
/-! methods of lists -/
def SRM (K : PySem.W.Frag) (cm : Nat → Addr) (f : FMt) (r : V → List V → Hp → VK → Prop) : Prop := ∀ ρ m H x xs d ds d3 m' (Q : VK), Rep K cm ρ m H → RD K ρ H x d → RDs K ρ H xs ds → f d ds m = some (d3, m') → KE_ K cm ρ H m' d3 Q → r x xs H Q
theorem ty_of {K : PySem.W.Frag} {ρ : Wd} {H : Hp} {m : M} {v : V} {d : D} (R : Rep K cm ρ m H) (r : RD K ρ H v d) (h : isLst d m = true) : tyV K "list" v H := by
  cases r with
  | ref hi =>
    simp only [isLst] at h
    split at h
    · rename_i ds hm
      obtain ⟨a, e1, xs, hA, rf⟩ := R.at_ _ _ hm
      rw [hi] at e1
      cases e1
      exact .inl ⟨rfl, _, SqL.of hA⟩
    · cases h
  | lst n hl _ => exact .inl ⟨rfl, _, SqL.of hl⟩
  | rol hl _ => exact .inl ⟨rfl, _, hl.sq⟩
  | _ => cases h
theorem se_lm {id : String} {nm : Str} {apos cpos : Pos} {r : V → List V → Hp → VK → Prop} {f : FMt} (hf : SRM X.K cm f r) (pa : PlainAttrs "list") (slot : Slot "list" nm id) (hty : typeOf (.builtin id) = pure (.type "method_descriptor")) (hm : MtR X id r) (ho : SE cm X o xo) (ha : SA cm X (e :: es) xs)
    (hbase : attributeBase o nm X.env (eval o X.env) = eval o X.env := by rfl)
    (hfew : ((backTo cpos (starEach (e :: es) X.env)).all (fun x => !x.1) && (backToKw cpos (keywordEach [] X.env)).all (fun x => x.1.isSome)
      && decide ((e :: es).length + ([] : List Keyword).length + (if ([] : List Keyword).isEmpty then 0 else 1) < 30)) = true := by rfl)
    (hline : (apos.endLine == cpos.line) = true := by rfl) (hs : starEach (e :: es) X.env = (false, eval e X.env) :: starEach es X.env := by rfl) (hplain : (backTo cpos (starEach es X.env)).any (·.1) = false := by rfl) :
    SE cm X (.Call (.Attribute o nm apos) (e :: es) [] cpos) (xLm f xo xs) := PE_imp (pe_bm pa slot hty hm ho ha hbase hfew hline hs hplain) fun σ H Q h => by
  obtain ⟨ρ, sg, m, d, m', hs, hr, e, q⟩ := h
  unfold xLm at e
  split at e
  · cases e
  · rename_i d0 m1 e1
    split at e
    · rename_i hl
      split at e
      · rename_i ds m2 e2
        exact ⟨ρ, sg, m, d0, m1, hs, hr, e1, fun ρ1 v H1 E1 R1 r1 => ⟨ty_of R1 r1 hl, ρ1, sg, m1, ds, m2, hs.mono E1, R1, e2, fun ρ2 vs H2 E2 R2 r2 => hf ρ2 m2 H2 v vs d0 ds d m' Q R2 (r1.mono E2) r2 e fun ρ3 v3 H3 E3 R3 r3 => q ρ3 v3 H3 ((E1.trans E2).trans E3) R3 r3⟩⟩
      · cases e
    · cases e
theorem srm_append {K : PySem.W.Frag} : SRM K cm mAppend rAppend := by
  intro ρ m H x xs d ds d3 m' Q R rx rs e q
  unfold mAppend at e
  split at e
  · rename_i i y
    split at e
    · rename_i zs hm
      split at e
      · rename_i hl
        cases e
        obtain ⟨v, rfl, rv⟩ := one_of rs
        obtain ⟨a, rfl, hi, es, hA, rf⟩ := ref_at R rx hm
        have EW : Ev ρ H ρ (upd H a (.lst (es ++ [v]))) := Ev.write hi
        exact ⟨a, es, v, rfl, rfl, hA, szl (by rw [rf.length]; exact hl), q ρ _ _ EW (R.write hi ⟨_, upd_same, (rf.mono EW).append (.cons (rv.mono EW) .nil)⟩) .non⟩
      · cases e
    · cases e
  · cases e
theorem srm_extend {K : PySem.W.Frag} : SRM K cm mExtend rExtend := by
  intro ρ m H x xs d ds d3 m' Q R rx rs e q
  unfold mExtend at e
  split at e
  · rename_i i es'
    split at e
    · rename_i zs hm
      split at e
      · rename_i hl
        cases e
        obtain ⟨v, rfl, rv⟩ := one_of rs
        obtain ⟨a, rfl, hi, es, hA, rf⟩ := ref_at R rx hm
        cases rv with
        | lst n hb rb =>
          rename_i b ys
          have EW : Ev ρ H ρ (upd H a (.lst (es ++ ys))) := Ev.write hi
          exact ⟨a, b, es, ys, rfl, rfl, hA, hb, sz (by rw [rf.length, rb.length]; exact hl), q ρ _ _ EW (R.write hi ⟨_, upd_same, (rf.mono EW).append (rb.mono EW)⟩) .non⟩
      · cases e
    · cases e
  · cases e
end

/-! ### while -/
section
variable {cm : Nat → Addr} {X : Cx}
theorem s_while {c : Expr} {body : List Stmt} {xt : XT} {b : XS} {pos : Pos} (n : Nat) (hp : PassesOwn (model X.prog X.w) X.A X.env X.xe) (hc : ST cm X c xt) (hb : SSs cm X body b) : SS cm X (.While c body [] pos) (sWhile xt b n) := PS_imp (ps_while hp hc hb) fun D σ H h => by
  obtain ⟨ρ, sg, m, fl, sg', m', hs, hr, e, q⟩ := h
  refine ⟨fun μ σ' H' => ∃ ρ' sg2 m2, Ev ρ H ρ' H' ∧ RS X.K ρ' H' σ' sg2 ∧ Rep X.K cm ρ' m2 H' ∧ sWhile xt b μ sg2 m2 = some (fl, sg', m'), ⟨n, ρ, sg, m, Ev.refl _ _, hs, hr, e⟩, ?_⟩
  rintro μ σ' H' ⟨ρ', sg2, m2, E', S', R', e'⟩
  cases μ with
  | zero => cases e'
  | succ μ =>
    simp only [sWhile] at e'
    split at e'
    · cases e'
    · rename_i m3 ec
      cases e'
      exact ⟨ρ', _, m2, false, _, S', R', ec, fun ρ3 H3 E3 R3 => iteF (q ρ3 σ' H3 (E'.trans E3) (S'.mono E3) R3)⟩
    · rename_i m3 ec
      refine ⟨ρ', sg2, m2, true, m3, S', R', ec, fun ρ3 H3 E3 R3 => iteT ?_⟩
      refine ⟨fun σ'' H'' => ∃ ρ'' sg3 m4, Ev ρ H ρ'' H'' ∧ RS X.K ρ'' H'' σ'' sg3 ∧ Rep X.K cm ρ'' m4 H'' ∧ sWhile xt b μ sg3 m4 = some (fl, sg', m'), ?_, ?_⟩
      · rintro σ'' H'' ⟨ρ'', sg3, m4, a1, a2, a3, a4⟩
        exact ⟨μ, by omega, ρ'', sg3, m4, a1, a2, a3, a4⟩
      · have EE := E'.trans E3
        split at e'
        · rename_i sg4 m4 eb
          exact ⟨ρ3, sg2, m3, .nx, sg4, m4, S'.mono E3, R3, eb, fun ρ4 σ4 H4 E4 S4 R4 => ⟨ρ4, sg4, m4, EE.trans E4, S4, R4, e'⟩⟩
        · rename_i sg4 m4 eb
          exact ⟨ρ3, sg2, m3, .ct, sg4, m4, S'.mono E3, R3, eb, fun ρ4 σ4 H4 E4 S4 R4 => ⟨ρ4, sg4, m4, EE.trans E4, S4, R4, e'⟩⟩
        · rename_i sg4 m4 eb
          cases e'
          exact ⟨ρ3, sg2, m3, .bk, _, _, S'.mono E3, R3, eb, fun ρ4 σ4 H4 E4 S4 R4 => q ρ4 σ4 H4 (EE.trans E4) S4 R4⟩
        · rename_i x' sg4 m4 eb
          cases e'
          exact ⟨ρ3, sg2, m3, .rt _, _, _, S'.mono E3, R3, eb, fun ρ4 v4 H4 E4 R4 r4 => q ρ4 v4 H4 (EE.trans E4) R4 r4⟩
        · cases e'
end

/-! ### a def -/
section
variable {P : Program} {w : World} {K : PySem.W.Frag} {mg : Str → Option Value} {base : Heap} {cm : Nat → Addr}
theorem rs_start {ρ : Wd} {H : Hp} : ∀ {vs : List V} {ds : List D} (k : Nat), RDs K ρ H vs ds → RS K ρ H (vs.map some ++ List.replicate k none) (ds.map some ++ List.replicate k none) := by
  intro vs ds k r
  refine ⟨by simp [r.length], fun i d e => ?_⟩
  by_cases hi : i < ds.length
  · rw [List.getElem?_append_left (by simpa using hi)] at e
    rw [List.getElem?_append_left (by simpa [r.length] using hi)]
    have e' : ds[i]? = some d := by
      rw [List.getElem?_map] at e
      cases h : ds[i]? with
      | none => rw [h] at e; cases e
      | some x => rw [h] at e; cases e; rfl
    obtain ⟨v, hv, rv⟩ := r.get e'
    exact ⟨v, by rw [List.getElem?_map, hv]; rfl, rv⟩
  · rw [List.getElem?_append_right (by simpa using Nat.le_of_not_lt hi)] at e
    rw [List.getElem?_replicate] at e
    split at e <;> cases e
theorem fnB_len {N n : Nat} {b : XS} (ds : List D) (m : M) (h : fnB N n b ds m ≠ none) : ds.length = n := by
  unfold fnB at h
  split at h
  · assumption
  · exact (h rfl).elim
theorem fn_ok {x qual : Str} {st : Stmt} {f : Addr} {fd : FuncData} {N ps : List Str} {k : Nat} {b : XS} (F : Fun K x qual st f fd) (S : FnScope N ps (defScope st))
    (hb : ∀ (cdv : Value) (A : Around) (outer : List Env) (s : Shared) (H : Hp) (E : XK), Room k (A.deeper (PyProof.Rows.envOfC qual (defScope st) s.heap.objs.size f cdv)) → SSs cm (cxOf CX0 P w K mg base N qual (defScope st) f cdv A outer s H E).nox (defBody st) b) :
    FM P w K mg base cm (k + 1) f fd ps (fnB N.length ps.length b) := by
  refine F.ok S (fun vs H Q E h => ?_) (fun cdv A outer s H vs Q E hr h => ?_)
  · obtain ⟨ρ, m, ds, d, m', hl, _⟩ := h
    exact hl
  · refine ⟨_, hb cdv A outer s H E hr, ?_⟩
    obtain ⟨ρ, m, ds, d, m', hl, r, R, e, q⟩ := h
    unfold fnB at e
    have hd : ds.length = ps.length := by rw [← r.length]; exact hl
    rw [if_pos hd] at e
    split at e
    · rename_i d' sg' m2 e2
      cases e
      refine ⟨ρ, _, m, _, _, _, ?_, R, e2, q⟩
      unfold L2.start
      rw [r.length]
      exact rs_start _ r
    · rename_i sg' m2 e2
      cases e
      refine ⟨ρ, _, m, _, _, _, ?_, R, e2, fun ρ' σ' H' E S R => q ρ' _ H' E R .non⟩
      unfold L2.start
      rw [r.length]
      exact rs_start _ r
    · cases e
end
end Mini

set_option Elab.async false
set_option maxRecDepth 100000
namespace Mini
open PySem L2

section
variable {cm : Nat → Addr} {X : Cx} {x : Str} {p pos : Pos} {a b c d e o : Expr} {es : List Expr} {xa xb xc xd xo : XE} {xs : XA}
theorem se_glob {v : V} {u : Value} {dv : D} (hg : Gl X x) (hm : X.mg x = some u) (r : RelV v u) (hr : ∀ ρ H, RD X.K ρ H v dv) (hd : (x == ("__debug__" : Str)) = false := by decide) : SE cm X (.Name x pos) (xC dv) :=
  PE_imp (pe_glob hg hm r hd) fun _ _ _ h => t_c hr h
theorem se_globI {i : Int} {t : Tok} (hg : Gl X x) (hm : X.mg x = some (.int i t)) (hd : (x == ("__debug__" : Str)) = false := by decide) : SE cm X (.Name x pos) (xC (.int i)) :=
  se_glob hg hm (v := .int i) ⟨_, rfl⟩ (fun _ _ => .int) hd
theorem se_globT {ad : Addr} {vs : List V} {ds : List D} (hg : Gl X x) (hm : X.mg x = some (.ref ad)) (hk : KT X.K ad vs) (hr : ∀ ρ H, RDs X.K ρ H vs ds) (hd : (x == ("__debug__" : Str)) = false := by decide) : SE cm X (.Name x pos) (xC (.tup ds)) :=
  se_glob hg hm (v := .ref ad) rfl (fun ρ H => .tup (.inr hk) (hr ρ H)) hd

/-! ### a op b op c op d -/
def tChain3 (r r' r'' : R2) (ta tb tc td : TE) : TE := fun σ H Q => ta σ H fun x H1 => tb σ H1 fun y H2 => r x y H2 fun z H3 => ∃ k, z = .bl k ∧
  (if k = true then tc σ H3 fun w H4 => r' y w H4 fun z' H5 => ∃ k', z' = .bl k' ∧ (if k' = true then td σ H5 fun w' H6 => r'' w w' H6 Q else Q (.bl false) H5) else Q (.bl false) H3)
theorem pe_chain3 {op op' op'' : CmpOp} {r r' r'' : R2} {ta tb tc td : TE} (ho : OpR X (compareOp op) r) (ho' : OpR X (compareOp op') r') (ho'' : OpR X (compareOp op'') r'') (ha : PE X a ta) (hb : PE X b tb) (hc : PE X c tc) (hd : PE X d td)
    (hm : lastMarks [op, op', op''] [b, c, d] = false := by with_unfolding_all rfl) : PE X (.Compare a [op, op', op''] [b, c, d] pos) (tChain3 r r' r'' ta tb tc td) := by
  refine ⟨fun pins s σ H Q I h => ?_⟩
  refine PyProof.Rows.Compare_chain (thn (ha.run pins s σ H _ I h) fun v s1 ⟨x, H1, I1, r1, q1⟩ => PyProof.Rows.chain_link (thn (hb.run pins s1 σ H1 _ I1 q1) fun u s2 ⟨y, H2, I2, r2, q2⟩ =>
    thn (ho pins s2 σ H2 x y v u _ I2 r1 r2 q2) fun d s3 ⟨z, H3, I3, r3, k, e, q3⟩ => ?_)) hm
  subst e
  cases r3
  refine wpAny_truthy_bool ?_
  cases k with
  | false => exact PyProof.Rows.ite_ff ⟨.bl false, H3, I3, rfl, q3⟩
  | true =>
    refine PyProof.Rows.ite_tt (PyProof.Rows.chain_link (thn (hc.run pins s3 σ H3 _ I3 q3) fun w' s4 ⟨z', H4, I4, r4, q4⟩ => thn (ho' pins s4 σ H4 y z' u w' _ I4 r2 r4 q4) fun d s5 ⟨z, H5, I5, r5, k, e, q5⟩ => ?_))
    subst e
    cases r5
    refine wpAny_truthy_bool ?_
    cases k with
    | false => exact PyProof.Rows.ite_ff ⟨.bl false, H5, I5, rfl, q5⟩
    | true => exact PyProof.Rows.ite_tt (PyProof.Rows.chain_last (thn (hd.run pins s5 σ H5 _ I5 q5) fun w2 s6 ⟨z2, H6, I6, r6, q6⟩ => ho'' pins s6 σ H6 z' z2 w' w2 Q I6 r4 r6 q6))
theorem pt_chain3 {op op' op'' : CmpOp} {r r' r'' : R2} {ta tb tc td : TE} (ho : OpR X (compareOp op) r) (ho' : OpR X (compareOp op') r') (ho'' : OpR X (compareOp op'') r'') (ha : PE X a ta) (hb : PE X b tb) (hc : PE X c tc) (hd : PE X d td)
    (hm : lastMarks [op, op', op''] [b, c, d] = false := by with_unfolding_all rfl) : PT X (.Compare a [op, op', op''] [b, c, d] pos) (tTest (tChain3 r r' r'' ta tb tc td)) := by
  refine ⟨fun pins s σ H Q I h => ?_⟩
  refine PyProof.Rows.isTrue_chain (thn (ha.run pins s σ H _ I h) fun v s1 ⟨x, H1, I1, r1, q1⟩ => PyProof.Rows.test_link (thn (hb.run pins s1 σ H1 _ I1 q1) fun u s2 ⟨y, H2, I2, r2, q2⟩ =>
    thn (ho pins s2 σ H2 x y v u _ I2 r1 r2 q2) fun d s3 ⟨z, H3, I3, r3, k, e, q3⟩ => ?_)) hm
  subst e
  cases r3
  refine wpAny_truthy_bool ?_
  cases k with
  | false =>
    obtain ⟨k, e, q3⟩ := q3
    cases e
    exact PyProof.Rows.ite_ff ⟨H3, I3, q3⟩
  | true =>
    refine PyProof.Rows.ite_tt (PyProof.Rows.test_link (thn (hc.run pins s3 σ H3 _ I3 q3) fun w' s4 ⟨z', H4, I4, r4, q4⟩ => thn (ho' pins s4 σ H4 y z' u w' _ I4 r2 r4 q4) fun d s5 ⟨z, H5, I5, r5, k, e, q5⟩ => ?_))
    subst e
    cases r5
    refine wpAny_truthy_bool ?_
    cases k with
    | false =>
      obtain ⟨k, e, q5⟩ := q5
      cases e
      exact PyProof.Rows.ite_ff ⟨H5, I5, q5⟩
    | true =>
      refine PyProof.Rows.ite_tt (PyProof.Rows.test_last (thn (hd.run pins s5 σ H5 _ I5 q5) fun w2 s6 ⟨z2, H6, I6, r6, q6⟩ => thn (ho'' pins s6 σ H6 z' z2 w' w2 _ I6 r4 r6 q6) fun d s7 ⟨z, H7, I7, r7, k, e, q7⟩ => ?_))
      subst e
      cases r7
      exact wpAny_truthy_bool ⟨H7, I7, q7⟩
def xChain3 (f g h : F2) (a b c d : XE) : XE := fun sg m => match a sg m with
  | none => none
  | some (x, m1) => match b sg m1 with
    | none => none
    | some (y, m2) => match f x y m2 with
      | some (.bl true, m3) => (match c sg m3 with
        | none => none
        | some (z, m4) => match g y z m4 with
          | some (.bl true, m5) => (match d sg m5 with
            | none => none
            | some (u, m6) => h z u m6)
          | some (.bl false, m5) => some (.bl false, m5)
          | _ => none)
      | some (.bl false, m3) => some (.bl false, m3)
      | _ => none
theorem t_chain3 {K : PySem.W.Frag} {σ : St} {H : Hp} {Q : VK} {r r' r'' : R2} {f g h : F2} (hf : SR2 K cm f r) (hg : SR2 K cm g r') (hh : SR2 K cm h r'') (q : tE K cm (xChain3 f g h xa xb xc xd) σ H Q) : tChain3 r r' r'' (tE K cm xa) (tE K cm xb) (tE K cm xc) (tE K cm xd) σ H Q := by
  obtain ⟨ρ, sg, m, d, m', hs, hr, e, q⟩ := q
  unfold xChain3 at e
  split at e
  · cases e
  · rename_i d1 m1 ea
    split at e
    · cases e
    · rename_i d2 m2 eb
      refine ⟨ρ, sg, m, d1, m1, hs, hr, ea, fun ρ1 v1 H1 E1 R1 r1 => ⟨ρ1, sg, m1, d2, m2, hs.mono E1, R1, eb, fun ρ2 v2 H2 E2 R2 r2 => ?_⟩⟩
      split at e
      · rename_i m3 ef
        refine hf ρ2 m2 H2 v1 v2 d1 d2 _ _ _ R2 (r1.mono E2) r2 ef fun ρ3 v3 H3 E3 R3 r3 => ?_
        cases r3
        refine ⟨true, rfl, iteT ?_⟩
        split at e
        · cases e
        · rename_i d4 m4 ec
          have E123 := (E1.trans E2).trans E3
          refine ⟨ρ3, sg, m3, d4, m4, hs.mono E123, R3, ec, fun ρ4 v4 H4 E4 R4 r4 => ?_⟩
          split at e
          · rename_i m5 eg
            refine hg ρ4 m4 H4 v2 v4 d2 d4 _ _ _ R4 (r2.mono (E3.trans E4)) r4 eg fun ρ5 v5 H5 E5 R5 r5 => ?_
            cases r5
            refine ⟨true, rfl, iteT ?_⟩
            split at e
            · cases e
            · rename_i d6 m6 ed
              refine ⟨ρ5, sg, m5, d6, m6, hs.mono (E123.trans (E4.trans E5)), R5, ed, fun ρ6 v6 H6 E6 R6 r6 => ?_⟩
              exact hh ρ6 m6 H6 v4 v6 d4 d6 _ _ _ R6 (r4.mono (E5.trans E6)) r6 e fun ρ7 v7 H7 E7 R7 r7 => q ρ7 v7 H7 (E123.trans ((E4.trans E5).trans (E6.trans E7))) R7 r7
          · rename_i m5 eg
            refine hg ρ4 m4 H4 v2 v4 d2 d4 _ _ _ R4 (r2.mono (E3.trans E4)) r4 eg fun ρ5 v5 H5 E5 R5 r5 => ?_
            cases r5
            refine ⟨false, rfl, iteF ?_⟩
            cases e
            exact q ρ5 _ H5 (E123.trans (E4.trans E5)) R5 .bl
          · cases e
      · rename_i m3 ef
        refine hf ρ2 m2 H2 v1 v2 d1 d2 _ _ _ R2 (r1.mono E2) r2 ef fun ρ3 v3 H3 E3 R3 r3 => ?_
        cases r3
        refine ⟨false, rfl, iteF ?_⟩
        cases e
        exact q ρ3 _ H3 ((E1.trans E2).trans E3) R3 .bl
      · cases e
theorem se_chain3 {op op' op'' : CmpOp} {r r' r'' : R2} {f g h : F2} (ho : OpR X (compareOp op) r) (hf : SR2 X.K cm f r) (ho' : OpR X (compareOp op') r') (hg : SR2 X.K cm g r') (ho'' : OpR X (compareOp op'') r'') (hh : SR2 X.K cm h r'')
    (ha : SE cm X a xa) (hb : SE cm X b xb) (hc : SE cm X c xc) (hd : SE cm X d xd)
    (hm : lastMarks [op, op', op''] [b, c, d] = false := by with_unfolding_all rfl) : SE cm X (.Compare a [op, op', op''] [b, c, d] pos) (xChain3 f g h xa xb xc xd) := PE_imp (pe_chain3 ho ho' ho'' ha hb hc hd hm) fun _ _ _ q => t_chain3 hf hg hh q
theorem st_chain3 {op op' op'' : CmpOp} {r r' r'' : R2} {f g h : F2} (ho : OpR X (compareOp op) r) (hf : SR2 X.K cm f r) (ho' : OpR X (compareOp op') r') (hg : SR2 X.K cm g r') (ho'' : OpR X (compareOp op'') r'') (hh : SR2 X.K cm h r'')
    (ha : SE cm X a xa) (hb : SE cm X b xb) (hc : SE cm X c xc) (hd : SE cm X d xd)
    (hm : lastMarks [op, op', op''] [b, c, d] = false := by with_unfolding_all rfl) : ST cm X (.Compare a [op, op', op''] [b, c, d] pos) (cTest (xChain3 f g h xa xb xc xd)) := PT_imp (pt_chain3 ho ho' ho'' ha hb hc hd hm) fun _ _ _ q => t_test (fun _ q => t_chain3 hf hg hh q) q
end

/-! ### dict displays -/
def dPairs : List (XE × XE) → Sg → M → Option (List (Key × D) × M)
  | [], _, m => some ([], m)
  | (k, v) :: r, sg, m => match k sg m with
    | none => none
    | some (kd, m1) => match v sg m1 with
      | none => none
      | some (vd, m2) => match keyD kd with
        | none => none
        | some kk => match dPairs r sg m2 with
          | none => none
          | some (ps, m3) => some ((kk, vd) :: ps, m3)
def mergeD (kvs more : List (Key × D)) : List (Key × D) := more.foldl (fun acc kv => putD acc kv.1 kv.2) kvs
/-- a dict that is changed; one that nobody changes -/
def xDisp (trs : List (XE × XE)) : XE := fun sg m => match dPairs trs sg (m ++ [.dct []]) with
  | some (ps, m2) => (match m2[m.length]? with
    | some (.dct []) => if ps.length ≤ 15 then some (.ref m.length, m2.set m.length (.dct (mergeD [] ps))) else none
    | _ => none)
  | none => none
abbrev tPs (K : PySem.W.Frag) (cm : Nat → Addr) (trs : List (XE × XE)) : List (TE × TE) := trs.map fun p => (tE K cm p.1, tE K cm p.2)
abbrev SPs (cm : Nat → Addr) (X : Cx) (pos : Pos) (keys : List (Option Expr)) (values : List Expr) (trs : List (XE × XE)) : Prop := PPs X pos keys values (tPs X.K cm trs)
section
variable {K : PySem.W.Frag} {cm : Nat → Addr}
theorem rks_merge {ρ : Wd} {H : Hp} : ∀ {more : List (Key × V)} {md : List (Key × D)} {kvs : List (Key × V)} {kd : List (Key × D)}, RKs K ρ H more md → RKs K ρ H kvs kd → RKs K ρ H (mergeK kvs more) (mergeD kd md)
  | _, _, _, _, .nil, h => h
  | _, _, kvs, kd, .cons (k := k) r t, h => by
    show RKs K ρ H (mergeK (putK kvs k _) _) (mergeD (putD kd k _) _)
    exact rks_merge t (RKs.put r h)
theorem t_pairs : ∀ (trs : List (XE × XE)) (σ : St) (H : Hp) (Q : List (V × V) → Hp → Prop) (ρ : Wd) (sg : Sg) (m : M) (ps : List (Key × D)) (m' : M), RS K ρ H σ sg → Rep K cm ρ m H → dPairs trs sg m = some (ps, m') →
    (∀ ρ' es H', Ev ρ H ρ' H' → Rep K cm ρ' m' H' → RKs K ρ' H' es ps → Q (es.map fun kv => (kV kv.1, kv.2)) H') → tPairs (tPs K cm trs) σ H Q
  | [], σ, H, Q, ρ, sg, m, ps, m', hs, hr, e, q => by
    cases e
    exact q ρ [] H (Ev.refl _ _) hr .nil
  | (k, v) :: r, σ, H, Q, ρ, sg, m, ps, m', hs, hr, e, q => by
    unfold dPairs at e
    split at e
    · cases e
    · rename_i kd m1 e1
      split at e
      · cases e
      · rename_i vd m2 e2
        split at e
        · cases e
        · rename_i kk ek
          split at e
          · cases e
          · rename_i ps' m3 e3
            cases e
            refine ⟨ρ, sg, m, kd, m1, hs, hr, e1, fun ρ1 x H1 E1 R1 r1 => ⟨ρ1, sg, m1, vd, m2, hs.mono E1, R1, e2, fun ρ2 y H2 E2 R2 r2 => ?_⟩⟩
            refine t_pairs r σ H2 _ ρ2 sg m2 ps' _ (hs.mono (E1.trans E2)) R2 e3 fun ρ3 es H3 E3 R3 r3 => ?_
            rw [key_rel r1 ek]
            exact q ρ3 ((kk, y) :: es) H3 ((E1.trans E2).trans E3) R3 (.cons (r2.mono E3) r3)
end
section
variable {cm : Nat → Addr} {X : Cx} {x : Str} {p pos : Pos} {k v : Expr} {ks : List (Option Expr)} {vs : List Expr} {xk xv xo : XE} {trs : List (XE × XE)}
theorem sps_nil : SPs cm X pos [] [] [] := pps_nil
theorem sps_cons (hk : SE cm X k xk) (hv : SE cm X v xv) (hr : SPs cm X pos ks vs trs) : SPs cm X pos (some k :: ks) (v :: vs) ((xk, xv) :: trs) := pps_cons hk hv hr
theorem se_disp (h : SPs cm X pos ks vs trs) (hall : ks.all (·.isSome) = true := by rfl) (hl : ks.length = vs.length := by rfl) (h0 : ks ≠ [] := by simp) (h15 : ks.length ≤ 15 := by decide) : SE cm X (.Dict ks vs pos) (xDisp trs) :=
  PE_imp (pe_disp h hall hl h0 h15) fun σ H Q h => by
  obtain ⟨ρ, sg, m, d, m', hs, hr, e, q⟩ := h
  unfold xDisp at e
  split at e
  · rename_i ps m2 e1
    split at e
    · rename_i em
      split at e
      · rename_i hl
        cases e
        intro p hp
        have EA : Ev ρ H (ρ.add p) (upd H p (.dK [])) := Ev.alloc hp
        have RA := hr.alloc (u := .dK []) (o := .dct []) hp ⟨[], upd_same, .nil⟩
        refine t_pairs trs σ _ _ (ρ.add p) sg _ ps m2 (hs.mono EA) RA e1 fun ρ1 es H1 E1 R1 r1 => ?_
        obtain ⟨a, ea, hi, zs, hA, rz⟩ := ref_at R1 (v := .ref p) (.ref (E1.at hr.last)) em
        cases ea
        cases rz
        have EW : Ev ρ1 H1 ρ1 (upd H1 p (.dK (mergeK [] es))) := Ev.write hi
        refine ⟨hA, es, rfl, by rw [r1.length]; exact hl, q ρ1 _ _ ((EA.trans E1).trans EW) (R1.write hi ⟨_, upd_same, (rks_merge r1 .nil).mono EW⟩) (.ref hi)⟩
      · cases e
    · cases e
  · cases e
/-! dict(d), d.update(e) -/
def fDictM : FN
  | [d], m => (match dctD d m with
    | some kvs => some (.ref m.length, m ++ [.dct kvs])
    | none => none)
  | _, _ => none
theorem src_dictM {K : PySem.W.Frag} : SRC K cm fDictM (fun xs H Q => ∃ (a : Addr) (kvs : List (Key × V)), xs = [.ref a] ∧ Rd H a (.dK kvs) ∧ ∀ p, H p = none → Q (.ref p) (upd H p (.dK kvs))) := by
  intro ρ m H xs ds d3 m' Q R r e q
  rcases ds with _ | ⟨d, _ | ⟨_, _⟩⟩
  · cases e
  · obtain ⟨x, rfl, rx⟩ := one_of r
    simp only [fDictM] at e
    split at e
    · rename_i kvs hd
      cases e
      obtain ⟨a, es, rfl, hA, rk⟩ := dct_of R rx hd
      exact ⟨a, es, rfl, hA, fun p hp => q _ _ _ (Ev.alloc hp) (R.alloc hp ⟨es, upd_same, rk.mono (Ev.alloc hp)⟩) (.ref R.last)⟩
    · cases e
  · cases e
def rUpdate : V → List V → Hp → VK → Prop := fun x vs H Q => ∃ a b kvs more, x = .ref a ∧ vs = [.ref b] ∧ H a = some (.dK kvs) ∧ H b = some (.dK more) ∧ a ≠ b ∧ kvs.length + more.length ≤ sizeLine ∧ Q .non (upd H a (.dK (mergeK kvs more)))
theorem mt_update : MtR X "dict.update" rUpdate := by
  intro pins s σ H x xs v us Q I rx rs h
  obtain ⟨a, b, kvs, more, rfl, rfl, hA, hB, hne, hl, q⟩ := h
  obtain ⟨u, rfl, ru⟩ := Vals.one rs
  obtain rfl : v = Value.ref a := rx
  obtain rfl : u = Value.ref b := ru
  obtain ⟨z, hd, vs, rel, dd⟩ := dk_of I.hok hA
  obtain ⟨z2, hd2, vs2, rel2, dd2⟩ := dk_of I.hok hB
  refine call_meetsIn PySem.F.slot_dict_update dd.typeIs PySem.F.entry_dict_update (PySem.F.args_dict_update_2 _ _) (meets_dict_update (mixKind X.prog X.w) a b hne hd2)
    ⟨vs, vs2, dd, dd2, by rw [← rel.length, ← rel2.length]; exact hl, fun h' dd' _ hs => ?_⟩
  have he : ∃ q, h'.get? a = some q := let ⟨q, _, _, hq, _⟩ := dd'; ⟨q, hq⟩
  have hz : (mergeK kvs more).length ≤ sizeLine := Nat.le_trans (length_mergeK more kvs) hl
  exact ⟨.non, _, d_write (t' := s.toks) I (by rw [hA]; exact True.intro) hs he (dk_new hz hd (rel2.merge rel) dd'), rfl, q⟩
def isDct (d : D) (m : M) : Bool := match d with
  | .ref i => (match m[i]? with
    | some (.dct _) => true
    | _ => false)
  | _ => false
/-- a method of a dict that is changed -/
def xDm (f : FMt) (o : XE) (a : XA) : XE := fun sg m => match o sg m with
  | none => none
  | some (d, m1) => if isDct d m1 = true then (match a sg m1 with
    | some (xs, m2) => f d xs m2
    | none => none) else none
def mUpdate : FMt := fun d xs m => match d, xs with
  | .ref i, [.ref j] => if i = j then none else (match m[i]?, m[j]? with
    | some (.dct kvs), some (.dct more) => if kvs.length + more.length ≤ 100000 then some (.non, m.set i (.dct (mergeD kvs more))) else none
    | _, _ => none)
  | _, _ => none
theorem tyd_of {K : PySem.W.Frag} {ρ : Wd} {H : Hp} {m : M} {v : V} {d : D} (R : Rep K cm ρ m H) (r : RD K ρ H v d) (h : isDct d m = true) : tyV K "dict" v H := by
  cases r with
  | ref hi =>
    simp only [isDct] at h
    split at h
    · rename_i ds hm
      obtain ⟨a, e1, xs, hA, rf⟩ := R.at_ _ _ hm
      rw [hi] at e1
      cases e1
      exact .inr (.inr (.inl ⟨rfl, .inl ⟨_, hA⟩⟩))
    · cases h
  | _ => cases h
theorem srm_update {K : PySem.W.Frag} : SRM K cm mUpdate rUpdate := by
  intro ρ m H x xs d ds d3 m' Q R rx rs e q
  unfold mUpdate at e
  split at e
  · rename_i i j
    split at e
    · cases e
    · rename_i hij
      split at e
      · rename_i kvs more hm hm2
        split at e
        · rename_i hl
          cases e
          obtain ⟨v, rfl, rv⟩ := one_of rs
          obtain ⟨a, rfl, hi, es, hA, rf⟩ := ref_at R rx hm
          obtain ⟨b, rfl, hj, es2, hB, rf2⟩ := ref_at R rv hm2
          have hne : a ≠ b := by
            rintro rfl
            obtain ⟨l1, q1⟩ := List.getElem?_eq_some_iff.mp hi
            obtain ⟨l2, q2⟩ := List.getElem?_eq_some_iff.mp hj
            exact hij ((List.getElem_inj R.nd).mp (q1.trans q2.symm))
          have EW : Ev ρ H ρ (upd H a (.dK (mergeK es es2))) := Ev.write hi
          exact ⟨a, b, es, es2, rfl, rfl, hA, hB, hne, sz (by rw [rf.length, rf2.length]; exact hl), q ρ _ _ EW (R.write hi ⟨_, upd_same, (rks_merge rf2 rf).mono EW⟩) .non⟩
        · cases e
      · cases e
  · cases e
theorem se_dm {id : String} {nm : Str} {apos cpos : Pos} {e o : Expr} {es : List Expr} {xs : XA} {r : V → List V → Hp → VK → Prop} {f : FMt} (hf : SRM X.K cm f r) (pa : PlainAttrs "dict") (slot : Slot "dict" nm id) (hty : typeOf (.builtin id) = pure (.type "method_descriptor")) (hm : MtR X id r) (ho : SE cm X o xo) (ha : SA cm X (e :: es) xs)
    (hbase : attributeBase o nm X.env (eval o X.env) = eval o X.env := by rfl)
    (hfew : ((backTo cpos (starEach (e :: es) X.env)).all (fun x => !x.1) && (backToKw cpos (keywordEach [] X.env)).all (fun x => x.1.isSome)
      && decide ((e :: es).length + ([] : List Keyword).length + (if ([] : List Keyword).isEmpty then 0 else 1) < 30)) = true := by rfl)
    (hline : (apos.endLine == cpos.line) = true := by rfl) (hs : starEach (e :: es) X.env = (false, eval e X.env) :: starEach es X.env := by rfl) (hplain : (backTo cpos (starEach es X.env)).any (·.1) = false := by rfl) :
    SE cm X (.Call (.Attribute o nm apos) (e :: es) [] cpos) (xDm f xo xs) := PE_imp (pe_bm pa slot hty hm ho ha hbase hfew hline hs hplain) fun σ H Q h => by
  obtain ⟨ρ, sg, m, d, m', hs, hr, e, q⟩ := h
  unfold xDm at e
  split at e
  · cases e
  · rename_i d0 m1 e1
    split at e
    · rename_i hl
      split at e
      · rename_i ds m2 e2
        exact ⟨ρ, sg, m, d0, m1, hs, hr, e1, fun ρ1 v H1 E1 R1 r1 => ⟨tyd_of R1 r1 hl, ρ1, sg, m1, ds, m2, hs.mono E1, R1, e2, fun ρ2 vs H2 E2 R2 r2 => hf ρ2 m2 H2 v vs d0 ds d m' Q R2 (r1.mono E2) r2 e fun ρ3 v3 H3 E3 R3 r3 => q ρ3 v3 H3 ((E1.trans E2).trans E3) R3 r3⟩⟩
      · cases e
    · cases e
end
end Mini

set_option Elab.async false
set_option maxRecDepth 100000
namespace Mini
open PySem L2

/-! ### a comprehension whose list is changed later -/
section
variable {K : PySem.W.Frag} {cm : Nat → Addr} {ρ : Wd} {H : Hp} {m : M} {p : Addr} {z : List Addr}
def Wd.adopt (w : Wd) (p : Addr) (z : List Addr) : Wd := ⟨w.ρ ++ [p], z⟩
theorem adopt_fr {b : Addr} (hp : p ∈ ρ.Z) (hz : ∀ x ∈ z, x ∈ ρ.Z) (n : ρ.Fr b) : (ρ.adopt p z).Fr b := ⟨fun q => by
  rcases List.mem_append.mp q with q | q
  · exact n.1 q
  · have e : b = p := by simpa using q
    exact n.2 (e ▸ hp), fun q => n.2 (hz b q)⟩
mutual
theorem RD.adopt (hp : p ∈ ρ.Z) (hz : ∀ x ∈ z, x ∈ ρ.Z) : ∀ {v : V} {d : D}, RD K ρ H v d → RD K (ρ.adopt p z) H v d
  | _, _, .non => .non
  | _, _, .bl => .bl
  | _, _, .int => .int
  | _, _, .str => .str
  | _, _, .ref h => .ref (by
      show (ρ.ρ ++ [p])[_]? = _
      rw [List.getElem?_append_left (List.getElem?_eq_some_iff.mp h).1]
      exact h)
  | _, _, .tup (.inl h) r => .tup (.inl ⟨adopt_fr hp hz h.1, h.2⟩) (RDs.adopt hp hz r)
  | _, _, .tup (.inr h) r => .tup (.inr h) (RDs.adopt hp hz r)
  | _, _, .ptp n h d r => .ptp (adopt_fr hp hz n) h d (RDs.adopt hp hz r)
  | _, _, .lst n h r => .lst (adopt_fr hp hz n) h (RDs.adopt hp hz r)
  | _, _, .rol (.inl h) r => .rol (.inl ⟨adopt_fr hp hz h.1, h.2⟩) (RDs.adopt hp hz r)
  | _, _, .rol (.inr h) r => .rol (.inr h) (RDs.adopt hp hz r)
  | _, _, .dct n h r => .dct (adopt_fr hp hz n) h (RKs.adopt hp hz r)
theorem RDs.adopt (hp : p ∈ ρ.Z) (hz : ∀ x ∈ z, x ∈ ρ.Z) : ∀ {v : List V} {d : List D}, RDs K ρ H v d → RDs K (ρ.adopt p z) H v d
  | _, _, .nil => .nil
  | _, _, .cons h r => .cons (RD.adopt hp hz h) (RDs.adopt hp hz r)
theorem RKs.adopt (hp : p ∈ ρ.Z) (hz : ∀ x ∈ z, x ∈ ρ.Z) : ∀ {v : List (Key × V)} {d : List (Key × D)}, RKs K ρ H v d → RKs K (ρ.adopt p z) H v d
  | _, _, .nil => .nil
  | _, _, .cons h r => .cons (RD.adopt hp hz h) (RKs.adopt hp hz r)
end
theorem RFs.adopt (hp : p ∈ ρ.Z) (hz : ∀ x ∈ z, x ∈ ρ.Z) : ∀ {v : List (Str × V)} {d : List (Str × D)}, RFs K ρ H v d → RFs K (ρ.adopt p z) H v d
  | _, _, .nil => .nil
  | _, _, .cons h r => .cons (RD.adopt hp hz h) (RFs.adopt hp hz r)
theorem RO.adopt {a : Addr} {o : O} (hp : p ∈ ρ.Z) (hz : ∀ x ∈ z, x ∈ ρ.Z) (h : RO K cm ρ H a o) : RO K cm (ρ.adopt p z) H a o := by
  cases o with
  | lst ds => obtain ⟨xs, x, r⟩ := h; exact ⟨xs, x, r.adopt hp hz⟩
  | dct kvs => obtain ⟨xs, x, r⟩ := h; exact ⟨xs, x, r.adopt hp hz⟩
  | dctL kvs => obtain ⟨ob, xs, x, r⟩ := h; exact ⟨ob, xs, x, r.adopt hp hz⟩
  | ins c fs => obtain ⟨dx, xs, x, r⟩ := h; exact ⟨dx, xs, x, r.adopt hp hz⟩
theorem Rep.adopt {acc : List V} {ds : List D} (h : Rep K cm ρ m H) (hp : p ∈ ρ.Z) (hz : ∀ x ∈ z, x ∈ ρ.Z) (hpz : p ∉ z) (hA : H p = some (.lst acc)) (r : RDs K ρ H acc ds) : Rep K cm (ρ.adopt p z) (m ++ [.lst ds]) H := by
  have hn := h.zd p hp
  refine ⟨by simp [Wd.adopt, h.len], ?_, fun x hx => h.zt x (hz x hx), fun x hx q => ?_, fun i o e => ?_⟩
  · show (ρ.ρ ++ [p]).Nodup
    rw [List.nodup_append]
    refine ⟨h.nd, by simp, fun a ha b hb => ?_⟩
    have : b = p := by simpa using hb
    subst this
    rintro rfl
    exact hn ha
  · rcases List.mem_append.mp q with q | q
    · exact h.zd x (hz x hx) q
    · have e : x = p := by simpa using q
      exact hpz (e ▸ hx)
  · show ∃ a, (ρ.ρ ++ [p])[i]? = _ ∧ _
    by_cases hi : i < m.length
    · rw [List.getElem?_append_left hi] at e
      obtain ⟨a, e1, r⟩ := h.at_ i o e
      exact ⟨a, by rw [List.getElem?_append_left (by rw [h.len]; exact hi)]; exact e1, r.adopt hp hz⟩
    · have e3 : i = m.length := by
        have := (List.getElem?_eq_some_iff.mp e).1
        simp at this
        omega
      subst e3
      rw [List.getElem?_concat_length] at e
      cases e
      exact ⟨p, by rw [← h.len, List.getElem?_concat_length], acc, hA, r.adopt hp hz⟩
end
def xLcM (vs : List Nat) (i : XI) (g : XG) (t : XT) (e : XE) : XE := fun sg m => match i sg m with
  | none => none
  | some (ds, m1) => if ds.length ≤ 100000 then (match loopC g t e (wipeS sg vs) ds m1 with
    | some (ys, m2) => some (.ref m2.length, m2 ++ [.lst ys])
    | none => none) else none
theorem t_lcM {K : PySem.W.Frag} {cm : Nat → Addr} {vs : List Nat} {i : XI} {g : TG} {xg : XG} {t : XT} {e : XE} {σ : St} {H : Hp} {Q : VK} (hg : TGt K cm vs g xg) (h : tE K cm (xLcM vs i xg t e) σ H Q) : tLc (tI K cm i) g (tT K cm t) (tE K cm e) vs σ H Q := by
  obtain ⟨ρ, sg, m, d, m', hs, hr, e0, q⟩ := h
  unfold xLcM at e0
  split at e0
  · cases e0
  · rename_i ds m1 e1
    split at e0
    · rename_i hlen
      split at e0
      · rename_i ys mE e2
        cases e0
        refine ⟨ρ, sg, m, ds, m1, hs, hr, e1, fun ρ1 J H1 E1 R1 w A hA => ?_⟩
        refine ⟨fun i μ H' => ∃ ρ' m3 acc dacc zs, Ev (ρ1.hold A) H1 ρ' H' ∧ Rep K cm ρ' m3 H' ∧ H' A = some (.lst acc) ∧ RDs K ρ' H' acc dacc ∧ i + μ = ds.length ∧ acc.length ≤ i ∧ loopC xg t e (wipeS sg vs) (ds.drop i) m3 = some (zs, mE) ∧ dacc ++ zs = ys,
          ⟨ds.length, ρ1.hold A, m1, [], [], ys, (Ev.refl _ _).put hA, R1.held hA, upd_same, .nil, by omega, by simp, e2, rfl⟩, ?_⟩
        rintro i μ H' ⟨ρ', m3, acc, dacc, zs, E', R', hacc, racc, hm, hl, el, etot⟩
        have hz : A ∈ ρ'.Z := by rw [E'.same]; exact List.mem_cons_self
        obtain ⟨w1, w2⟩ := w (ρ1.hold A) (.inr ⟨A, hA, rfl⟩) ρ' m3 H' E'.z R'
        by_cases hi : i < ds.length
        · obtain ⟨d, hd⟩ : ∃ d, ds[i]? = some d := ⟨ds[i], by simp [hi]⟩
          obtain ⟨g1, g2⟩ := w1 i d hd
          have hdrop : ds.drop i = d :: ds.drop (i + 1) := by
            rw [List.drop_eq_getElem_cons hi]
            congr 1
            rw [List.getElem?_eq_getElem hi] at hd
            exact Option.some.inj hd
          rw [hdrop] at el
          simp only [loopC] at el
          refine .inr ⟨g1, fun H'' => ∃ ρ' m3 acc dacc zs, Ev (ρ1.hold A) H1 ρ' H'' ∧ Rep K cm ρ' m3 H'' ∧ H'' A = some (.lst acc) ∧ RDs K ρ' H'' acc dacc ∧ acc.length ≤ i + 1 ∧ loopC xg t e (wipeS sg vs) (ds.drop (i + 1)) m3 = some (zs, mE) ∧ dacc ++ zs = ys, ?_, fun x H2 hy => ?_⟩
          · rintro H'' ⟨ρ'', m4, acc', dacc', zs', a1, a2, a3, a4, a5, a6, a7⟩
            exact ⟨μ - 1, by omega, ρ'', m4, acc', dacc', zs', a1, a2, a3, a4, by omega, a5, a6, a7⟩
          · obtain ⟨E2, R2, r2⟩ := g2 x H2 hy
            split at el
            · cases el
            · rename_i sg2 m4 eg
              have S2 : RS K ρ' H2 (L2.wipe σ vs) (wipeS sg vs) := ((hs.mono E1).wipe vs).holdS hA |>.mono (E'.trans E2)
              refine hg.to x _ H2 _ ρ' _ m3 d sg2 m4 S2 R2 r2 eg fun σ2 s2 we R4 => ⟨we.trans (wipe_wipe σ vs), ?_⟩
              split at el
              · cases el
              · rename_i m5 et
                refine ⟨ρ', sg2, m4, true, m5, s2, R4, et, fun ρ5 H5 E5 R5 => iteT ?_⟩
                split at el
                · cases el
                · rename_i y m6 ey
                  split at el
                  · rename_i ys6 m7 er
                    cases el
                    refine ⟨ρ5, sg2, m5, y, m6, s2.mono E5, R5, ey, fun ρ6 v H6 E6 R6 r6 => ?_⟩
                    have E26 := (E2.trans E5).trans E6
                    have h6 : H6 A = some (.lst acc) := E26.lst A _ (R'.zd A hz) hacc
                    have hz6 : A ∈ ρ6.Z := by rw [E26.same]; exact hz
                    have rr := (racc.mono E26).append (.cons r6 .nil)
                    refine ⟨acc, h6, szl (by omega), ρ6, m6, acc ++ [v], dacc ++ [y], ys6, (E'.trans E26).put hA, R6.updZ hz6, upd_same, rr.updZ hz6, by simp; omega, er, by rw [List.append_assoc]; exact etot⟩
                  · cases el
              · rename_i m5 et
                refine ⟨ρ', sg2, m4, false, m5, s2, R4, et, fun ρ5 H5 E5 R5 => iteF ?_⟩
                have E25 := E2.trans E5
                exact ⟨ρ5, m5, acc, dacc, zs, E'.trans E25, R5, E25.lst A _ (R'.zd A hz) hacc, racc.mono E25, by omega, el, etot⟩
        · have hi' : i = ds.length := by omega
          subst hi'
          rw [List.drop_length] at el
          cases el
          rw [List.append_nil] at etot
          subst etot
          have hsub : ∀ x ∈ ρ1.Z, x ∈ ρ'.Z := fun x hx => by rw [E'.same]; exact List.mem_cons_of_mem _ hx
          have hnz : A ∉ ρ1.Z := fun q => by
            obtain ⟨u, e⟩ := R1.zt A q
            rw [hA] at e
            cases e
          have EE : Ev ρ1 H1 (ρ'.adopt A ρ1.Z) H' := by
            obtain ⟨more, em⟩ := E'.more
            refine ⟨⟨more ++ [A], by show ρ'.ρ ++ [A] = _; rw [em, ← List.append_assoc]; rfl⟩, rfl, fun a u n r => ?_, E'.lst, E'.frz⟩
            obtain ⟨r1, r2⟩ := E'.rd' a u n r
            refine ⟨r1, fun q => ?_⟩
            rcases List.mem_append.mp q with q | q
            · exact r2 q
            · have e : a = A := by simpa using q
              subst e
              rcases r with r | ⟨_, r⟩ <;> (rw [hA] at r; cases r)
          refine .inl ⟨w2, q (ρ'.adopt A ρ1.Z) (.ref A) H' (E1.trans EE) (R'.adopt hz hsub hnz hacc racc) (.ref ?_)⟩
          show (ρ'.ρ ++ [A])[_]? = _
          rw [← R'.len, List.getElem?_concat_length]
      · cases e0
    · cases e0
section
variable {cm : Nat → Addr} {X : Cx} {tg : Expr}
theorem se_lcM {elt iter : Expr} {ifs : List Expr} {scope : Scope} {own : List (Str × Nat)} {pos : Pos} {xi : XI} {g : TG} {xg : XG} {xt : XT} {xe : XE} (hc : X.calm = true) (hN : X.N.Nodup) (hi : SI cm X tg iter xi) (ok : BlkOk X.N X.env.scope scope own)
    (hg : Blk X scope fun Y => PG Y tg g) (hG : TGt X.K cm (own.map (·.2)) g xg) (ht : Blk X scope fun Y => PTs Y ifs (tT X.K cm xt)) (he : Blk X scope fun Y => SE cm Y elt xe)
    (hs : ∀ x, foldedSetIterable iter X.env x = pure x := by intro _; rfl) : SE cm X (.ListComp elt [⟨tg, iter, ifs, 0⟩] scope pos) (xLcM (own.map (·.2)) xi xg xt xe) :=
  PE_imp (pe_lc hc hN hi ok hg ht he hs) fun _ _ _ h => t_lcM hG h
theorem s_setLcM (i : Nat) {y : Str} {py : Pos} {elt iter : Expr} {ifs : List Expr} {scope : Scope} {own : List (Str × Nat)} {pos spos : Pos} {xi : XI} {g : TG} {xg : XG} {xt : XT} {xe : XE} (hc : X.calm = true) (hN : X.N.Nodup) (hi : SI cm X tg iter xi) (ok : BlkOk X.N X.env.scope scope own)
    (hg : Blk X scope fun Y => PG Y tg g) (hG : TGt X.K cm (own.map (·.2)) g xg) (ht : Blk X scope fun Y => PTs Y ifs (tT X.K cm xt)) (he : Blk X scope fun Y => SE cm Y elt xe)
    (hsw : swapsWith (.ListComp elt [⟨tg, iter, ifs, 0⟩] scope pos) (some (.Name y py)) spos.line X.env = pure true)
    (hy : X.N[i]? = some y := by rfl) (hyl : X.env.scope.names.lookup y = some .local := by rfl)
    (hs : ∀ x, foldedSetIterable iter X.env x = pure x := by intro _; rfl) : SS cm X (.Assign [.Name y py] (.ListComp elt [⟨tg, iter, ifs, 0⟩] scope pos) spos) (sSet i (xLcM (own.map (·.2)) xi xg xt xe)) :=
  PS_imp (ps_setLc (i := i) hc hN hy hyl hsw hi ok hg ht he hs) fun D σ H h => by
  obtain ⟨ρ, sg, m, fl, sg', m', hs, hr, e, q⟩ := h
  unfold sSet at e
  split at e
  · rename_i d m1 e1
    cases e
    exact t_lcM hG ⟨ρ, sg, m, d, m', hs, hr, e1, fun ρ' v H' E R r => q ρ' _ H' E ((hs.mono E).set r i) R⟩
  · cases e
end

/-! ### a list that is walked while it may be changed -/
def loopL (g : XG) (b : XS) (i0 : Nat) : Nat → Nat → Sg → M → Option (Fl × Sg × M)
  | 0, _, _, _ => none
  | f + 1, j, sg, m => match m[i0]? with
    | some (.lst xs) => (match xs[j]? with
      | none => some (.nx, sg, m)
      | some d => match g d sg m with
        | none => none
        | some (sg1, m1) => match b sg1 m1 with
          | some (.nx, sg2, m2) => loopL g b i0 f (j + 1) sg2 m2
          | some (.ct, sg2, m2) => loopL g b i0 f (j + 1) sg2 m2
          | some (.bk, sg2, m2) => some (.nx, sg2, m2)
          | some (.rt x, sg2, m2) => some (.rt x, sg2, m2)
          | none => none)
    | _ => none
def sForL (n : Nat) (a : XE) (g : XG) (b : XS) : XS := fun sg m => match a sg m with
  | some (.ref i, m1) => (match m1[i]? with
    | some (.lst _) => loopL g b i n 0 sg m1
    | _ => none)
  | _ => none
section
variable {cm : Nat → Addr} {X : Cx}
theorem s_forL {tg iter : Expr} {body : List Stmt} {xa : XE} {g : XG} {b : XS} {pos : Pos} (n : Nat) (hp : PassesOwn (model X.prog X.w) X.A X.env X.xe) (hc : X.calm = true) (hi : SE cm X iter xa) (hg : SG cm X tg g) (hb : SSs cm X body b)
    (hs : ∀ x, foldedSetIterable iter X.env x = pure x := by intro _; rfl) : SS cm X (.For tg iter body [] pos) (sForL n xa g b) := PS_imp (ps_for hp hc (pi_list hi) hg hb hs) fun D σ H h => by
  obtain ⟨ρ, sg, m, fl, sg', m', hs, hr, e, q⟩ := h
  unfold sForL at e
  split at e
  · rename_i i m1 e1
    split at e
    · rename_i zs hz
      refine ⟨ρ, sg, m, _, m1, hs, hr, e1, fun ρ1 v H1 E1 R1 r1 => ?_⟩
      obtain ⟨A, rfl, hi, xs0, hA0, rz⟩ := ref_at R1 r1 hz
      refine ⟨A, rfl, ⟨xs0, SqL.of hA0⟩, ?_⟩
      refine ⟨fun j μ σ' H' => ∃ ρ' sg2 m2, Ev ρ1 H1 ρ' H' ∧ RS X.K ρ' H' σ' sg2 ∧ Rep X.K cm ρ' m2 H' ∧ loopL g b i μ j sg2 m2 = some (fl, sg', m'), ⟨n, ρ1, sg, m1, Ev.refl _ _, hs.mono E1, R1, e⟩, ?_⟩
      rintro j μ σ' H' ⟨ρ', sg2, m2, E', S', R', e'⟩
      cases μ with
      | zero => cases e'
      | succ μ =>
        simp only [loopL] at e'
        split at e'
        · rename_i xs hx
          obtain ⟨A', eA, hi', ys, hA, ry⟩ := ref_at R' (r1.mono E') hx
          cases eA
          split at e'
          · rename_i hj
            cases e'
            refine .inl ⟨⟨ys, SqL.of hA, ?_⟩, q ρ' σ' H' (E1.trans E') S' R'⟩
            rw [ry.length]
            exact List.getElem?_eq_none_iff.mp hj
          · rename_i d hj
            obtain ⟨y, hy, rd⟩ := ry.get hj
            refine .inr ⟨⟨ys, y, SqL.of hA, hy⟩, fun σ'' H'' => ∃ ρ'' sg3 m3, Ev ρ1 H1 ρ'' H'' ∧ RS X.K ρ'' H'' σ'' sg3 ∧ Rep X.K cm ρ'' m3 H'' ∧ loopL g b i μ (j + 1) sg3 m3 = some (fl, sg', m'), ?_, fun x H2 hyl => ?_⟩
            · rintro σ'' H'' ⟨ρ'', sg3, m3, a1, a2, a3, a4⟩
              exact ⟨μ, by omega, ρ'', sg3, m3, a1, a2, a3, a4⟩
            · obtain ⟨rfl, hyl⟩ := hyl
              have ex := hyl ys (SqL.of hA)
              rw [hy] at ex
              cases ex
              split at e'
              · cases e'
              · rename_i sg3 m3 eg
                refine ⟨ρ', sg2, m2, d, sg3, m3, S', R', rd, eg, fun ρ3 σ3 H3 E3 S3 R3 => ?_⟩
                have EE : Ev ρ1 H1 ρ3 H3 := E'.trans E3
                split at e'
                · rename_i sg4 m4 eb
                  exact ⟨ρ3, sg3, m3, .nx, sg4, m4, S3, R3, eb, fun ρ4 σ4 H4 E4 S4 R4 => ⟨ρ4, sg4, m4, EE.trans E4, S4, R4, e'⟩⟩
                · rename_i sg4 m4 eb
                  exact ⟨ρ3, sg3, m3, .ct, sg4, m4, S3, R3, eb, fun ρ4 σ4 H4 E4 S4 R4 => ⟨ρ4, sg4, m4, EE.trans E4, S4, R4, e'⟩⟩
                · rename_i sg4 m4 eb
                  cases e'
                  exact ⟨ρ3, sg3, m3, .bk, _, _, S3, R3, eb, fun ρ4 σ4 H4 E4 S4 R4 => q ρ4 σ4 H4 ((E1.trans EE).trans E4) S4 R4⟩
                · rename_i x' sg4 m4 eb
                  cases e'
                  exact ⟨ρ3, sg3, m3, .rt _, _, _, S3, R3, eb, fun ρ4 v4 H4 E4 R4 r4 => q ρ4 v4 H4 ((E1.trans EE).trans E4) R4 r4⟩
                · cases e'
        · cases e'
    · cases e
  · cases e
end
end Mini

set_option Elab.async false
set_option maxRecDepth 100000
namespace Mini
open PySem L2
def fAddI : F2
  | .int i, .int j, m => some (.int (i + j), m)
  | _, _, _ => none
theorem sr_addI {K : PySem.W.Frag} {cm : Nat → Addr} : SR2 K cm fAddI (rI0 fun i j => .int (i + j)) := by
  intro ρ m H x y d1 d2 d3 m' Q R r1 r2 e q
  unfold fAddI at e
  split at e
  · cases r1; cases r2; cases e
    exact ⟨_, _, rfl, rfl, q ρ _ H (Ev.refl ρ H) R .int⟩
  · cases e
section
variable {cm : Nat → Addr} {X : Cx} {x : Str} {pos : Pos}
theorem se_globI' {i : Int} (hg : Gl X x) (hm : ∃ t, X.mg x = some (.int i t)) (hd : (x == ("__debug__" : Str)) = false := by decide) : SE cm X (.Name x pos) (xC (.int i)) := let ⟨_, h⟩ := hm; se_globI hg h hd
theorem se_globT' {vs : List V} {ds : List D} (hg : Gl X x) (hm : ∃ a, X.mg x = some (.ref a) ∧ KT X.K a vs) (hr : ∀ ρ H, RDs X.K ρ H vs ds) (hd : (x == ("__debug__" : Str)) = false := by decide) : SE cm X (.Name x pos) (xC (.tup ds)) :=
  let ⟨_, h, k⟩ := hm; se_globT hg h k hr hd
end
end Mini

set_option Elab.async false
set_option maxRecDepth 100000
namespace Mini
open PySem L2

/-! ### comprehensions of two clauses -/
def loopC2 (g : XG) (t : XT) (i1 : XI) (g1 : XG) (t1 : XT) (e : XE) (vs1 : List Nat) (sg : Sg) : List D → M → Option (List D × M)
  | [], m => some ([], m)
  | d :: r, m => match g d sg m with
    | none => none
    | some (sg2, m1) => match t sg2 m1 with
      | none => none
      | some (true, m2) => (match i1 sg2 m2 with
        | none => none
        | some (ds1, m3) => match loopC g1 t1 e (wipeS sg2 vs1) ds1 m3 with
          | none => none
          | some (ys, m4) => match loopC2 g t i1 g1 t1 e vs1 sg r m4 with
            | some (zs, m5) => some (ys ++ zs, m5)
            | none => none)
      | some (false, m2) => loopC2 g t i1 g1 t1 e vs1 sg r m2
def items2 (vs vs1 : List Nat) (i : XI) (g : XG) (t : XT) (i1 : XI) (g1 : XG) (t1 : XT) (e : XE) : Sg → M → Option (List D × M) := fun sg m => match i sg m with
  | none => none
  | some (ds, m1) => loopC2 g t i1 g1 t1 e vs1 (wipeS sg vs) ds m1
def xLc2 (vs vs1 : List Nat) (i : XI) (g : XG) (t : XT) (i1 : XI) (g1 : XG) (t1 : XT) (e : XE) : XE := fun sg m => match items2 vs vs1 i g t i1 g1 t1 e sg m with
  | some (ys, m2) => if ys.length ≤ 100000 then some (.lst ys, m2) else none
  | none => none
def xLcM2 (vs vs1 : List Nat) (i : XI) (g : XG) (t : XT) (i1 : XI) (g1 : XG) (t1 : XT) (e : XE) : XE := fun sg m => match items2 vs vs1 i g t i1 g1 t1 e sg m with
  | some (ys, m2) => if ys.length ≤ 100000 then some (.ref m2.length, m2 ++ [.lst ys]) else none
  | none => none
theorem RS.monoZ {K : PySem.W.Frag} {ρ ρ' : Wd} {H H' : Hp} {σ : St} {sg : Sg} (e : EvZ ρ H ρ' H') (h : RS K ρ H σ sg) : RS K ρ' H' σ sg :=
  ⟨h.1, fun i d q => let ⟨v, a, b⟩ := h.2 i d q; ⟨v, a, b.monoZ e⟩⟩
theorem RDs.len_le {K : PySem.W.Frag} {ρ : Wd} {H : Hp} {vs : List V} {ds : List D} (h : RDs K ρ H vs ds) : vs.length = ds.length := RDs.length h
theorem t_lc2g {K : PySem.W.Frag} {cm : Nat → Addr} {vs vs1 : List Nat} {i i1 : XI} {g g1 : TG} {xg xg1 : XG} {t t1 : XT} {e : XE} {σ : St} {H : Hp} {Q : VK} (hg : TGt K cm vs g xg) (hg1 : TGt K cm vs1 g1 xg1)
    {ρ : Wd} {sg : Sg} {m mE : M} {ys : List D} (hs : RS K ρ H σ sg) (hr : Rep K cm ρ m H) (e0 : items2 vs vs1 i xg t i1 xg1 t1 e sg m = some (ys, mE)) (hlen : ys.length ≤ 100000)
    (fin : ∀ ρ1 m1 H1 A ρ' H' acc, Ev ρ H ρ1 H1 → Rep K cm ρ1 m1 H1 → H1 A = none → Ev (ρ1.hold A) H1 ρ' H' → Rep K cm ρ' mE H' → H' A = some (.lst acc) → RDs K ρ' H' acc ys → Q (.ref A) H') :
    tLc2 (tI K cm i) g (tT K cm t) (tI K cm i1) g1 (tT K cm t1) (tE K cm e) vs vs1 σ H Q := by
  unfold items2 at e0
  split at e0
  · cases e0
  · rename_i ds m1 e1
    refine ⟨ρ, sg, m, ds, m1, hs, hr, e1, fun ρ1 J H1 E1 R1 w A hA => ?_⟩
    refine ⟨fun i μ H' => ∃ ρ' m3 acc dacc zs, Ev (ρ1.hold A) H1 ρ' H' ∧ Rep K cm ρ' m3 H' ∧ H' A = some (.lst acc) ∧ RDs K ρ' H' acc dacc ∧ i + μ = ds.length ∧ loopC2 xg t i1 xg1 t1 e vs1 (wipeS sg vs) (ds.drop i) m3 = some (zs, mE) ∧ dacc ++ zs = ys,
      ⟨ds.length, ρ1.hold A, m1, [], [], ys, (Ev.refl _ _).put hA, R1.held hA, upd_same, .nil, by omega, e0, rfl⟩, ?_⟩
    rintro i μ H' ⟨ρ', m3, acc, dacc, zs, E', R', hacc, racc, hm, el, etot⟩
    have hz : A ∈ ρ'.Z := by rw [E'.same]; exact List.mem_cons_self
    obtain ⟨w1, w2⟩ := w (ρ1.hold A) (.inr ⟨A, hA, rfl⟩) ρ' m3 H' E'.z R'
    by_cases hi : i < ds.length
    · obtain ⟨d, hd⟩ : ∃ d, ds[i]? = some d := ⟨ds[i], by simp [hi]⟩
      obtain ⟨g1', g2'⟩ := w1 i d hd
      have hdrop : ds.drop i = d :: ds.drop (i + 1) := by
        rw [List.drop_eq_getElem_cons hi]
        congr 1
        rw [List.getElem?_eq_getElem hi] at hd
        exact Option.some.inj hd
      rw [hdrop] at el
      simp only [loopC2] at el
      refine .inr ⟨g1', fun H'' => ∃ ρ' m3 acc dacc zs, Ev (ρ1.hold A) H1 ρ' H'' ∧ Rep K cm ρ' m3 H'' ∧ H'' A = some (.lst acc) ∧ RDs K ρ' H'' acc dacc ∧ loopC2 xg t i1 xg1 t1 e vs1 (wipeS sg vs) (ds.drop (i + 1)) m3 = some (zs, mE) ∧ dacc ++ zs = ys, ?_, fun x H2 hy => ?_⟩
      · rintro H'' ⟨ρ'', m4, acc', dacc', zs', a1, a2, a3, a4, a6, a7⟩
        exact ⟨μ - 1, by omega, ρ'', m4, acc', dacc', zs', a1, a2, a3, a4, by omega, a6, a7⟩
      · obtain ⟨E2, R2, r2⟩ := g2' x H2 hy
        split at el
        · cases el
        · rename_i sg2 m4 eg
          have S2 : RS K ρ' H2 (L2.wipe σ vs) (wipeS sg vs) := ((hs.mono E1).wipe vs).holdS hA |>.mono (E'.trans E2)
          refine hg.to x _ H2 _ ρ' _ m3 d sg2 m4 S2 R2 r2 eg fun σ2 s2 we R4 => ⟨we.trans (wipe_wipe σ vs), ?_⟩
          split at el
          · cases el
          · rename_i m5 et
            refine ⟨ρ', sg2, m4, true, m5, s2, R4, et, fun ρ5 H5 E5 R5 => iteT ?_⟩
            split at el
            · cases el
            · rename_i ds1 m6 ei
              split at el
              · cases el
              · rename_i ys1 m7 el1
                split at el
                · rename_i zs2 m8 el2
                  cases el
                  have E25 := E2.trans E5
                  refine ⟨ρ5, sg2, m5, ds1, m6, s2.mono E5, R5, ei, fun ρ6 J1 H6 E6 R6 wk => ?_⟩
                  have E26 := E25.trans E6
                  -- the inner loop
                  refine ⟨fun j k H'' => ∃ ρ' m3 acc dacc zs, EvZ ρ6 H6 ρ' H'' ∧ Ev (ρ1.hold A) H1 ρ' H'' ∧ Rep K cm ρ' m3 H'' ∧ H'' A = some (.lst acc) ∧ RDs K ρ' H'' acc dacc ∧ j + k = ds1.length ∧ loopC xg1 t1 e (wipeS sg2 vs1) (ds1.drop j) m3 = some (zs, m7) ∧ dacc ++ (zs ++ zs2) = ys,
                    ⟨ds1.length, ρ6, m6, acc, dacc, ys1, (Ev.refl _ _).z, E'.trans E26, R6, E26.lst A _ (R'.zd A hz) hacc, racc.mono E26, by omega, el1, etot⟩, ?_⟩
                  rintro j k H7 ⟨ρ7, m9, acc7, dacc7, zs7, F7, E7, R7, hacc7, racc7, hm7, el7, etot7⟩
                  have hz7 : A ∈ ρ7.Z := by rw [E7.same]; exact List.mem_cons_self
                  obtain ⟨v1, v2⟩ := wk ρ6 (.inl rfl) ρ7 m9 H7 F7 R7
                  by_cases hj : j < ds1.length
                  · obtain ⟨d1, hd1⟩ : ∃ d1, ds1[j]? = some d1 := ⟨ds1[j], by simp [hj]⟩
                    obtain ⟨g3, g4⟩ := v1 j d1 hd1
                    have hdrop1 : ds1.drop j = d1 :: ds1.drop (j + 1) := by
                      rw [List.drop_eq_getElem_cons hj]
                      congr 1
                      rw [List.getElem?_eq_getElem hj] at hd1
                      exact Option.some.inj hd1
                    rw [hdrop1] at el7
                    simp only [loopC] at el7
                    refine .inr ⟨g3, fun H'' => ∃ ρ' m3 acc dacc zs, EvZ ρ6 H6 ρ' H'' ∧ Ev (ρ1.hold A) H1 ρ' H'' ∧ Rep K cm ρ' m3 H'' ∧ H'' A = some (.lst acc) ∧ RDs K ρ' H'' acc dacc ∧ loopC xg1 t1 e (wipeS sg2 vs1) (ds1.drop (j + 1)) m3 = some (zs, m7) ∧ dacc ++ (zs ++ zs2) = ys, ?_, fun x1 H8 hy1 => ?_⟩
                    · rintro H'' ⟨ρ'', m4, acc', dacc', zs', a0, a1, a2, a3, a4, a6, a7⟩
                      exact ⟨k - 1, by omega, ρ'', m4, acc', dacc', zs', a0, a1, a2, a3, a4, by omega, a6, a7⟩
                    · obtain ⟨E8, R8, r8⟩ := g4 x1 H8 hy1
                      split at el7
                      · cases el7
                      · rename_i sg3 m10 eg1
                        have S8 : RS K ρ7 H8 (L2.wipe σ2 vs1) (wipeS sg2 vs1) := (((s2.mono E5).mono E6).wipe vs1).monoZ (F7.trans E8.z)
                        refine hg1.to x1 _ H8 _ ρ7 _ m9 d1 sg3 m10 S8 R8 r8 eg1 fun σ3 s3 we1 R10 => ⟨we1.trans (wipe_wipe σ2 vs1), ?_⟩
                        split at el7
                        · cases el7
                        · rename_i m11 et1
                          refine ⟨ρ7, sg3, m10, true, m11, s3, R10, et1, fun ρ11 H11 E11 R11 => iteT ?_⟩
                          split at el7
                          · cases el7
                          · rename_i y m12 ey
                            split at el7
                            · rename_i ys13 m13 er
                              cases el7
                              refine ⟨ρ11, sg3, m11, y, m12, s3.mono E11, R11, ey, fun ρ12 v H12 E12 R12 r12 => ?_⟩
                              have EE := (E8.trans E11).trans E12
                              have h12 : H12 A = some (.lst acc7) := EE.lst A _ (R7.zd A hz7) hacc7
                              have hz12 : A ∈ ρ12.Z := by rw [EE.same]; exact hz7
                              have rr := (racc7.mono EE).append (.cons r12 .nil)
                              have hb : acc7.length < 100000 := by
                                have e1 := RDs.len_le racc7
                                have e2 : (dacc7 ++ ((y :: ys13) ++ zs2)).length ≤ 100000 := by rw [etot7]; exact hlen
                                simp at e2
                                omega
                              have hz6 : A ∈ ρ6.Z := by rw [← F7.same]; exact hz7
                              refine ⟨acc7, h12, szl hb, ρ12, m12, acc7 ++ [v], dacc7 ++ [y], ys13, (F7.trans EE.z).put hz6, (E7.trans EE).put hA, R12.updZ hz12, upd_same, rr.updZ hz12, er, ?_⟩
                              rw [List.append_assoc]; exact etot7
                            · cases el7
                        · rename_i m11 et1
                          refine ⟨ρ7, sg3, m10, false, m11, s3, R10, et1, fun ρ11 H11 E11 R11 => iteF ?_⟩
                          have EE := E8.trans E11
                          exact ⟨ρ11, m11, acc7, dacc7, zs7, F7.trans EE.z, E7.trans EE, R11, EE.lst A _ (R7.zd A hz7) hacc7, racc7.mono EE, el7, etot7⟩
                  · have hj' : j = ds1.length := by omega
                    subst hj'
                    rw [List.drop_length] at el7
                    cases el7
                    rw [List.nil_append] at etot7
                    exact .inl ⟨v2, ρ7, _, acc7, dacc7, zs2, E7, R7, hacc7, racc7, el2, etot7⟩
                · cases el
          · rename_i m5 et
            refine ⟨ρ', sg2, m4, false, m5, s2, R4, et, fun ρ5 H5 E5 R5 => iteF ?_⟩
            have E25 := E2.trans E5
            exact ⟨ρ5, m5, acc, dacc, zs, E'.trans E25, R5, E25.lst A _ (R'.zd A hz) hacc, racc.mono E25, el, etot⟩
    · have hi' : i = ds.length := by omega
      subst hi'
      rw [List.drop_length] at el
      cases el
      rw [List.append_nil] at etot
      subst etot
      exact .inl ⟨w2, fin ρ1 m1 H1 A ρ' H' acc E1 R1 hA E' R' hacc racc⟩
theorem t_lc2 {K : PySem.W.Frag} {cm : Nat → Addr} {vs vs1 : List Nat} {i i1 : XI} {g g1 : TG} {xg xg1 : XG} {t t1 : XT} {e : XE} {σ : St} {H : Hp} {Q : VK} (hg : TGt K cm vs g xg) (hg1 : TGt K cm vs1 g1 xg1)
    (h : tE K cm (xLc2 vs vs1 i xg t i1 xg1 t1 e) σ H Q) : tLc2 (tI K cm i) g (tT K cm t) (tI K cm i1) g1 (tT K cm t1) (tE K cm e) vs vs1 σ H Q := by
  obtain ⟨ρ, sg, m, d, m', hs, hr, e0, q⟩ := h
  unfold xLc2 at e0
  split at e0
  · rename_i ys m2 ei
    split at e0
    · rename_i hl
      cases e0
      refine t_lc2g hg hg1 hs hr ei hl fun ρ1 m1 H1 A ρ' H' acc E1 R1 hA E' R' hacc racc => ?_
      have hz : A ∈ ρ'.Z := by rw [E'.same]; exact List.mem_cons_self
      have Edrop : Ev ρ1 H1 (ρ'.drop ρ1.Z) H' := ⟨E'.more, rfl, E'.rd', E'.lst, E'.frz⟩
      have Rdrop : Rep K cm (ρ'.drop ρ1.Z) _ H' := R'.dropZ fun x hx => by rw [E'.same]; exact List.mem_cons_of_mem _ hx
      refine q (ρ'.drop ρ1.Z) (.ref A) H' (E1.trans Edrop) Rdrop (.lst ?_ hacc ?_)
      · exact ⟨R'.zd A hz, fun q => by
          obtain ⟨u, e⟩ := R1.zt A q
          rw [hA] at e
          cases e⟩
      · exact racc.dropZ fun x hx => by rw [E'.same]; exact List.mem_cons_of_mem _ hx
    · cases e0
  · cases e0
theorem t_lcM2 {K : PySem.W.Frag} {cm : Nat → Addr} {vs vs1 : List Nat} {i i1 : XI} {g g1 : TG} {xg xg1 : XG} {t t1 : XT} {e : XE} {σ : St} {H : Hp} {Q : VK} (hg : TGt K cm vs g xg) (hg1 : TGt K cm vs1 g1 xg1)
    (h : tE K cm (xLcM2 vs vs1 i xg t i1 xg1 t1 e) σ H Q) : tLc2 (tI K cm i) g (tT K cm t) (tI K cm i1) g1 (tT K cm t1) (tE K cm e) vs vs1 σ H Q := by
  obtain ⟨ρ, sg, m, d, m', hs, hr, e0, q⟩ := h
  unfold xLcM2 at e0
  split at e0
  · rename_i ys m2 ei
    split at e0
    · rename_i hl
      cases e0
      refine t_lc2g hg hg1 hs hr ei hl fun ρ1 m1 H1 A ρ' H' acc E1 R1 hA E' R' hacc racc => ?_
      have hz : A ∈ ρ'.Z := by rw [E'.same]; exact List.mem_cons_self
      have hsub : ∀ x ∈ ρ1.Z, x ∈ ρ'.Z := fun x hx => by rw [E'.same]; exact List.mem_cons_of_mem _ hx
      have hnz : A ∉ ρ1.Z := fun q => by
        obtain ⟨u, e⟩ := R1.zt A q
        rw [hA] at e
        cases e
      have EE : Ev ρ1 H1 (ρ'.adopt A ρ1.Z) H' := by
        obtain ⟨more, em⟩ := E'.more
        refine ⟨⟨more ++ [A], by show ρ'.ρ ++ [A] = _; rw [em, ← List.append_assoc]; rfl⟩, rfl, fun a u n r => ?_, E'.lst, E'.frz⟩
        obtain ⟨r1, r2⟩ := E'.rd' a u n r
        refine ⟨r1, fun q => ?_⟩
        rcases List.mem_append.mp q with q | q
        · exact r2 q
        · have e : a = A := by simpa using q
          subst e
          rcases r with r | ⟨_, r⟩ <;> (rw [hA] at r; cases r)
      refine q (ρ'.adopt A ρ1.Z) (.ref A) H' (E1.trans EE) (R'.adopt hz hsub hnz hacc racc) (.ref ?_)
      show (ρ'.ρ ++ [A])[_]? = _
      rw [← R'.len, List.getElem?_concat_length]
    · cases e0
  · cases e0
section
variable {cm : Nat → Addr} {X : Cx} {tg tg1 elt iter iter1 : Expr} {ifs ifs1 : List Expr} {scope : Scope} {own : List (Str × Nat)} {pos spos : Pos} {xi xi1 : XI} {g g1 : TG} {xg xg1 : XG} {xt xt1 : XT} {xe : XE}
theorem se_lc2 {vs1 : List Nat} (hc : X.calm = true) (hN : X.N.Nodup) (hi : SI cm X tg iter xi) (ok : BlkOk X.N X.env.scope scope own) (hv : ∀ i ∈ vs1, i ∈ own.map (·.2))
    (hg : Blk X scope fun Y => PG Y tg g) (hG : TGt X.K cm (own.map (·.2)) g xg) (ht : Blk X scope fun Y => PTs Y ifs (tT X.K cm xt)) (hi1 : Blk X scope fun Y => SI cm Y tg1 iter1 xi1)
    (hg1 : Blk X scope fun Y => PG Y tg1 g1) (hG1 : TGt X.K cm vs1 g1 xg1) (ht1 : Blk X scope fun Y => PTs Y ifs1 (tT X.K cm xt1)) (he : Blk X scope fun Y => SE cm Y elt xe)
    (hs : ∀ x, foldedSetIterable iter X.env x = pure x := by intro _; rfl) (hs1 : ∀ env x, foldedSetIterable iter1 env x = pure x := by intro _ _; rfl) :
    SE cm X (.ListComp elt [⟨tg, iter, ifs, 0⟩, ⟨tg1, iter1, ifs1, 0⟩] scope pos) (xLc2 (own.map (·.2)) vs1 xi xg xt xi1 xg1 xt1 xe) :=
  PE_imp (pe_lc2 hc hN hi ok hv hg ht hi1 hg1 ht1 he hs hs1) fun _ _ _ h => t_lc2 hG hG1 h
theorem se_lcM2 {vs1 : List Nat} (hc : X.calm = true) (hN : X.N.Nodup) (hi : SI cm X tg iter xi) (ok : BlkOk X.N X.env.scope scope own) (hv : ∀ i ∈ vs1, i ∈ own.map (·.2))
    (hg : Blk X scope fun Y => PG Y tg g) (hG : TGt X.K cm (own.map (·.2)) g xg) (ht : Blk X scope fun Y => PTs Y ifs (tT X.K cm xt)) (hi1 : Blk X scope fun Y => SI cm Y tg1 iter1 xi1)
    (hg1 : Blk X scope fun Y => PG Y tg1 g1) (hG1 : TGt X.K cm vs1 g1 xg1) (ht1 : Blk X scope fun Y => PTs Y ifs1 (tT X.K cm xt1)) (he : Blk X scope fun Y => SE cm Y elt xe)
    (hs : ∀ x, foldedSetIterable iter X.env x = pure x := by intro _; rfl) (hs1 : ∀ env x, foldedSetIterable iter1 env x = pure x := by intro _ _; rfl) :
    SE cm X (.ListComp elt [⟨tg, iter, ifs, 0⟩, ⟨tg1, iter1, ifs1, 0⟩] scope pos) (xLcM2 (own.map (·.2)) vs1 xi xg xt xi1 xg1 xt1 xe) :=
  PE_imp (pe_lc2 hc hN hi ok hv hg ht hi1 hg1 ht1 he hs hs1) fun _ _ _ h => t_lcM2 hG hG1 h
theorem s_setLc2 (i : Nat) {y : Str} {py : Pos} {vs1 : List Nat} (hc : X.calm = true) (hN : X.N.Nodup) (hi : SI cm X tg iter xi) (ok : BlkOk X.N X.env.scope scope own) (hv : ∀ i ∈ vs1, i ∈ own.map (·.2))
    (hg : Blk X scope fun Y => PG Y tg g) (hG : TGt X.K cm (own.map (·.2)) g xg) (ht : Blk X scope fun Y => PTs Y ifs (tT X.K cm xt)) (hi1 : Blk X scope fun Y => SI cm Y tg1 iter1 xi1)
    (hg1 : Blk X scope fun Y => PG Y tg1 g1) (hG1 : TGt X.K cm vs1 g1 xg1) (ht1 : Blk X scope fun Y => PTs Y ifs1 (tT X.K cm xt1)) (he : Blk X scope fun Y => SE cm Y elt xe)
    (hsw : swapsWith (.ListComp elt [⟨tg, iter, ifs, 0⟩, ⟨tg1, iter1, ifs1, 0⟩] scope pos) (some (.Name y py)) spos.line X.env = pure true)
    (hy : X.N[i]? = some y := by rfl) (hyl : X.env.scope.names.lookup y = some .local := by rfl)
    (hs : ∀ x, foldedSetIterable iter X.env x = pure x := by intro _; rfl) (hs1 : ∀ env x, foldedSetIterable iter1 env x = pure x := by intro _ _; rfl) :
    SS cm X (.Assign [.Name y py] (.ListComp elt [⟨tg, iter, ifs, 0⟩, ⟨tg1, iter1, ifs1, 0⟩] scope pos) spos) (sSet i (xLc2 (own.map (·.2)) vs1 xi xg xt xi1 xg1 xt1 xe)) :=
  PS_imp (ps_setLc2 (i := i) hc hN hy hyl hsw hi ok hv hg ht hi1 hg1 ht1 he hs hs1) fun D σ H h => by
  obtain ⟨ρ, sg, m, fl, sg', m', hs, hr, e, q⟩ := h
  unfold sSet at e
  split at e
  · rename_i d m1 e1
    cases e
    exact t_lc2 hG hG1 ⟨ρ, sg, m, d, m', hs, hr, e1, fun ρ' v H' E R r => q ρ' _ H' E ((hs.mono E).set r i) R⟩
  · cases e
theorem s_setLcM2 (i : Nat) {y : Str} {py : Pos} {vs1 : List Nat} (hc : X.calm = true) (hN : X.N.Nodup) (hi : SI cm X tg iter xi) (ok : BlkOk X.N X.env.scope scope own) (hv : ∀ i ∈ vs1, i ∈ own.map (·.2))
    (hg : Blk X scope fun Y => PG Y tg g) (hG : TGt X.K cm (own.map (·.2)) g xg) (ht : Blk X scope fun Y => PTs Y ifs (tT X.K cm xt)) (hi1 : Blk X scope fun Y => SI cm Y tg1 iter1 xi1)
    (hg1 : Blk X scope fun Y => PG Y tg1 g1) (hG1 : TGt X.K cm vs1 g1 xg1) (ht1 : Blk X scope fun Y => PTs Y ifs1 (tT X.K cm xt1)) (he : Blk X scope fun Y => SE cm Y elt xe)
    (hsw : swapsWith (.ListComp elt [⟨tg, iter, ifs, 0⟩, ⟨tg1, iter1, ifs1, 0⟩] scope pos) (some (.Name y py)) spos.line X.env = pure true)
    (hy : X.N[i]? = some y := by rfl) (hyl : X.env.scope.names.lookup y = some .local := by rfl)
    (hs : ∀ x, foldedSetIterable iter X.env x = pure x := by intro _; rfl) (hs1 : ∀ env x, foldedSetIterable iter1 env x = pure x := by intro _ _; rfl) :
    SS cm X (.Assign [.Name y py] (.ListComp elt [⟨tg, iter, ifs, 0⟩, ⟨tg1, iter1, ifs1, 0⟩] scope pos) spos) (sSet i (xLcM2 (own.map (·.2)) vs1 xi xg xt xi1 xg1 xt1 xe)) :=
  PS_imp (ps_setLc2 (i := i) hc hN hy hyl hsw hi ok hv hg ht hi1 hg1 ht1 he hs hs1) fun D σ H h => by
  obtain ⟨ρ, sg, m, fl, sg', m', hs, hr, e, q⟩ := h
  unfold sSet at e
  split at e
  · rename_i d m1 e1
    cases e
    exact t_lcM2 hG hG1 ⟨ρ, sg, m, d, m', hs, hr, e1, fun ρ' v H' E R r => q ρ' _ H' E ((hs.mono E).set r i) R⟩
  · cases e
end
end Mini

set_option Elab.async false
set_option maxRecDepth 100000
namespace Mini
open PySem L2

/-! ### slices -/
abbrev XP := Sg → M → Option (Option Int × M)
def pNone : XP := fun _ m => some (none, m)
def pSome (a : XE) : XP := fun sg m => match a sg m with
  | some (.int i, m1) => some (some i, m1)
  | _ => none
def tP (K : PySem.W.Frag) (cm : Nat → Addr) (x : XP) : TO := fun σ H Q => ∃ ρ sg m o m', RS K ρ H σ sg ∧ Rep K cm ρ m H ∧ x sg m = some (o, m') ∧ ∀ ρ' H', Ev ρ H ρ' H' → Rep K cm ρ' m' H' → Q o H'
abbrev SP (cm : Nat → Addr) (X : Cx) (e : Option Expr) (x : XP) : Prop := PO X e (tP X.K cm x)
theorem PO_imp {X : Cx} {e : Option Expr} {t t' : TO} (h : PO X e t) (w : ∀ σ H Q, t' σ H Q → t σ H Q) : PO X e t' := ⟨fun pins s σ H Q I q => h.run pins s σ H Q I (w σ H Q q)⟩
def cutD (xs : List D) (lo hi : Option Int) : List D := (xs.drop (HT.sIx xs.length 0 lo)).take (HT.sIx xs.length xs.length hi - HT.sIx xs.length 0 lo)
theorem cutD_whole {xs : List D} {lo hi : Option Int} (h : HT.sIx xs.length 0 lo = 0 ∧ HT.sIx xs.length xs.length hi = xs.length) : cutD xs lo hi = xs := by
  unfold cutD
  rw [h.1, h.2]
  simp
def cutF (d : D) (lo hi : Option Int) (m : M) : Option (D × M) := match d with
  | .tup xs => some (.tup (cutD xs lo hi), m)
  | .str z => if z.length ≤ 100000 then some (.str (cutS z lo hi), m) else none
  | d => match listD d m with
    | some xs => some (.lst (cutD xs lo hi), m)
    | none => none
def xSl (o : XE) (lo hi : XP) : XE := fun sg m => match o sg m with
  | none => none
  | some (d, m1) => match lo sg m1 with
    | none => none
    | some (l, m2) => match hi sg m2 with
      | none => none
      | some (h, m3) => cutF d l h m3
def rCut (K : PySem.W.Frag) : V → Option Int → Option Int → Hp → VK → Prop := fun x lo hi H Q => (rSlA K x lo hi H Q ∨ rSlL K x lo hi H Q) ∨ rSlS x lo hi H Q
theorem sl_cut {X : Cx} : SlR X (rCut X.K) := SlR.or (SlR.or sl_tupA sl_list) sl_str
section
variable {K : PySem.W.Frag} {cm : Nat → Addr} {ρ : Wd} {H : Hp}
theorem RDs.cut {vs : List V} {ds : List D} {lo hi : Option Int} (h : RDs K ρ H vs ds) : RDs K ρ H (cutV vs lo hi) (cutD ds lo hi) := by
  unfold cutV cutD
  rw [h.length]
  exact (h.drop _).take _
theorem sr_cut {m : M} {x : V} {d d3 : D} {lo hi : Option Int} {m' : M} {Q : VK} (R : Rep K cm ρ m H) (r : RD K ρ H x d) (e : cutF d lo hi m = some (d3, m')) (q : KE_ K cm ρ H m' d3 Q) : rCut K x lo hi H Q := by
  cases r with
  | tup h rx =>
    cases e
    have hl := rx.length
    refine .inl (.inl ⟨_, _, rfl, h.sq, fun hw => ?_, fun _ p hp => ?_⟩)
    · rw [hl] at hw
      rw [cutD_whole hw] at q
      exact q ρ _ H (Ev.refl ρ H) R (.tup h rx)
    · exact q ρ _ _ (Ev.new hp) (R.new hp) (.tup (.inl ⟨R.notIn hp, .inl upd_same⟩) (rx.cut.mono (Ev.new hp)))
  | str =>
    simp only [cutF] at e
    split at e
    · cases e
      exact .inr ⟨_, rfl, sz (by assumption), q ρ _ H (Ev.refl ρ H) R .str⟩
    · cases e
  | ptp n h hd rx => cases e
  | non => cases e
  | bl => cases e
  | int => cases e
  | dct n h r => cases e
  | lst n h rx =>
    cases e
    exact .inl (.inr ⟨_, _, rfl, .inl (.inl h), fun p hp => q ρ _ _ (Ev.new hp) (R.new hp) (.lst (R.notIn hp) upd_same (rx.cut.mono (Ev.new hp)))⟩)
  | rol h rx =>
    cases e
    exact .inl (.inr ⟨_, _, rfl, h.sq, fun p hp => q ρ _ _ (Ev.new hp) (R.new hp) (.lst (R.notIn hp) upd_same (rx.cut.mono (Ev.new hp)))⟩)
  | ref hi' =>
    rename_i i a
    simp only [cutF] at e
    split at e
    · rename_i zs hz
      cases e
      obtain ⟨a', xs', ex, hq, rx⟩ := list_of R (.ref hi') hz
      cases ex
      exact .inl (.inr ⟨_, _, rfl, hq, fun p hp => q ρ _ _ (Ev.new hp) (R.new hp) (.lst (R.notIn hp) upd_same (rx.cut.mono (Ev.new hp)))⟩)
    · cases e
end
section
variable {cm : Nat → Addr} {X : Cx} {e : Expr} {lo hi : Option Expr} {xo xa : XE} {xl xh : XP} {pos p2 : Pos}
theorem sp_none : SP cm X none pNone := PO_imp po_none fun σ H Q h => by
  obtain ⟨ρ, sg, m, o, m', hs, hr, e, q⟩ := h
  cases e
  exact q ρ H (Ev.refl ρ H) hr
theorem sp_some {e : Expr} (h : SE cm X e xa) : SP cm X (some e) (pSome xa) := PO_imp (po_some h) fun σ H Q h => by
  obtain ⟨ρ, sg, m, o, m', hs, hr, e, q⟩ := h
  unfold pSome at e
  split at e
  · rename_i i m1 e1
    cases e
    refine ⟨ρ, sg, m, _, _, hs, hr, e1, fun ρ' v H' E R r => ?_⟩
    cases r
    exact ⟨_, rfl, q ρ' H' E R⟩
  · cases e
theorem se_slice (ho : SE cm X e xo) (hl : SP cm X lo xl) (hh : SP cm X hi xh) : SE cm X (.Subscript e (.Slice lo hi none p2) pos) (xSl xo xl xh) := PE_imp (pe_slice sl_cut ho hl hh) fun σ H Q h => by
  obtain ⟨ρ, sg, m, d, m', hs, hr, e, q⟩ := h
  unfold xSl at e
  split at e
  · cases e
  · rename_i d1 m1 e1
    split at e
    · cases e
    · rename_i l m2 e2
      split at e
      · cases e
      · rename_i h m3 e3
        exact ⟨ρ, sg, m, d1, m1, hs, hr, e1, fun ρ1 v1 H1 E1 R1 r1 => ⟨ρ1, sg, m1, l, m2, hs.mono E1, R1, e2, fun ρ2 H2 E2 R2 => ⟨ρ2, sg, m2, h, m3, hs.mono (E1.trans E2), R2, e3, fun ρ3 H3 E3 R3 =>
          sr_cut R3 (r1.mono (E2.trans E3)) e fun ρ4 v4 H4 E4 R4 r4 => q ρ4 v4 H4 (((E1.trans E2).trans E3).trans E4) R4 r4⟩⟩⟩
end
end Mini

set_option Elab.async false
set_option maxRecDepth 100000
set_option maxHeartbeats 4000000
namespace Mini
open PySem L2 PyProof.Rows PySem.Spec
/-- once: the same tuple -/
theorem tuple_mul1 (l : Addr) (items : Array Value) (n : Nat) (dd : Option Addr) (sl : Array (Option Value)) (x : Int) (u : Tok) (c0 : (decide (x < -(2 ^ 63)) || decide (x ≥ 2 ^ 63)) = false) (c1 : (items.isEmpty || x == 1) = true) :
    Meets (Builtin.«tuple.__mul__» ⟨[.ref l, .int x u], []⟩) (fun _ R s => s.heap.get? l = some { cls := .type "tuple", dict := dd, data := .seq items n, slots := sl } ∧ R (.ok (.ret (Value.ref l))) { s with heap := s.heap, toks := s.toks }) :=
  .of_wp fun prog w A R s h => by
    obtain ⟨hp, g, d, tk, os⟩ := s
    obtain ⟨hl, h⟩ := h
    have f1 := AutoSeq1.idx_int
    wp_walk using wpAny_loadPart' hl
    repeat (first
      | (refine wpAny_ite_false (decide_eq_false (by rw [c0]; exact Bool.false_ne_true)) ?_; wp_walk using wpAny_loadPart' hl)
      | (refine wpAny_ite_true (decide_eq_true (by rw [c1])) ?_; wp_walk using wpAny_loadPart' hl)
      | (refine wpAny_ite_true c1 ?_; wp_walk using wpAny_loadPart' hl))
    exact ⟨_, rfl, h⟩
/-- not once: a new one of nothing -/
theorem tuple_mul0 (l : Addr) (items : Array Value) (n : Nat) (dd : Option Addr) (sl : Array (Option Value)) (x : Int) (u : Tok) (c0 : (decide (x < -(2 ^ 63)) || decide (x ≥ 2 ^ 63)) = false) (c1 : (items.isEmpty || x == 1) = false) (c2 : (decide (x ≤ 0) || items.isEmpty) = true) :
    Meets (Builtin.«tuple.__mul__» ⟨[.ref l, .int x u], []⟩) (fun _ R s => s.heap.get? l = some { cls := .type "tuple", dict := dd, data := .seq items n, slots := sl } ∧
      R (.ok (.ret (Value.ref s.heap.objs.size))) { s with heap := s.heap.push { cls := Value.type "tuple", data := Data.seq #[] }, toks := s.toks }) :=
  .of_wp fun prog w A R s h => by
    obtain ⟨hp, g, d, tk, os⟩ := s
    obtain ⟨hl, h⟩ := h
    have f1 := AutoSeq1.idx_int
    wp_walk using wpAny_loadPart' hl
    repeat (first
      | (refine wpAny_ite_false (decide_eq_false (by rw [c0]; exact Bool.false_ne_true)) ?_; wp_walk using wpAny_loadPart' hl)
      | (refine wpAny_ite_false (decide_eq_false (by rw [c1]; exact Bool.false_ne_true)) ?_; wp_walk using wpAny_loadPart' hl)
      | (refine wpAny_ite_true (decide_eq_true (by rw [c2])) ?_; wp_walk using wpAny_loadPart' hl))
    exact ⟨_, rfl, h⟩

/-- t * k, any k -/
def rRepA (K : PySem.W.Frag) : R2 := fun x y H Q => ∃ l k xs, x = .ref l ∧ y = .int k ∧ SqT K H l xs ∧ -1000 ≤ k ∧ k ≤ 1000 ∧ xs.length ≤ 1000 ∧ ((xs = [] ∨ k = 1) → Q (.ref l) H) ∧ (xs ≠ [] → k ≤ 0 → ∀ p, H p = none → Q (.ref p) (upd H p (.tup []))) ∧
  (xs ≠ [] → 2 ≤ k → ∀ p, H p = none → Q (.ref p) (upd H p (.tup (List.replicate k.toNat xs).flatten)))
section
variable {X : Cx}
theorem op_repA : OpR X (binaryOp .Mult) (rRepA X.K) := by
  intro pins s σ H x y v u Q I rx ry h
  obtain ⟨l, k, xs, rfl, rfl, hT, h1, h2, hz, q1, q0, q2⟩ := h
  by_cases hk : 2 ≤ k ∧ xs ≠ []
  · exact op_repT pins s σ H _ _ v u Q I rx ry ⟨l, k, xs, rfl, rfl, hT, hk.2, hk.1, h2, hz, q2 hk.2 hk.1⟩
  cases rx
  obtain ⟨t, rfl⟩ := ry
  obtain ⟨its, r, ⟨⟨cls, dd, data, sl⟩, ho, hc, n, hd⟩, hs⟩ := I.tuple hT
  simp only at hc hd
  subst hc hd
  have hle : its.length = xs.length := r.length.symm
  have c0 : (decide (k < -(2 ^ 63)) || decide (k ≥ 2 ^ 63)) = false := by
    rw [decide_eq_false (by omega), decide_eq_false (by omega)] <;> rfl
  by_cases h0 : xs = [] ∨ k = 1
  · have c1 : (its.toArray.isEmpty || k == 1) = true := by
      rcases h0 with e | e
      · rw [e] at hle
        have : its = [] := List.eq_nil_of_length_eq_zero hle
        rw [this]
        rfl
      · rw [e]
        simp
    exact wpAny_binaryOp_repeat_ref (T := "tuple") (U := "int") (by decide) ⟨_, ho, rfl⟩ (fun s' => typeIs_int s' k t) noFill_tuple_mul F.fills_int_mul F.slot_int_rmul repeat_tuple F.slot_int_index.lookup
      (call_meets F.slot_int_rmul (typeIs_int s k t) F.entry_int_rmul (F.args_int_rmul_2 _ _) (int_rmul_tuple k t l its.toArray n dd sl)
        ⟨ho, rfl, ⟨_, ho, rfl⟩, call_meets F.slot_tuple_mul ⟨_, ho, rfl⟩ F.entry_tuple_mul (F.args_tuple_mul_2 _ _) (tuple_mul1 l its.toArray n dd sl k t c0 c1) ⟨ho, ⟨.ref l, H, I, rfl, q1 h0⟩⟩⟩)
  · have hne : xs ≠ [] := fun e => h0 (.inl e)
    have hk0 : k ≤ 0 := by
      rcases Int.lt_or_le k 1 with a | a
      · omega
      · by_cases e : k = 1
        · exact absurd (.inr e) h0
        · exact absurd ⟨by omega, hne⟩ hk
    have hn : its ≠ [] := fun e => hne (by
      rw [e] at hle
      exact List.eq_nil_of_length_eq_zero hle.symm)
    have hi : its.toArray.isEmpty = false := by
      cases its with
      | nil => exact absurd rfl hn
      | cons a b => rfl
    have c1 : (its.toArray.isEmpty || k == 1) = false := by
      rw [hi, Bool.false_or]
      exact beq_eq_false_iff_ne.mpr (by omega)
    have c2 : (decide (k ≤ 0) || its.toArray.isEmpty) = true := by
      rw [decide_eq_true hk0]
      rfl
    exact wpAny_binaryOp_repeat_ref (T := "tuple") (U := "int") (by decide) ⟨_, ho, rfl⟩ (fun s' => typeIs_int s' k t) noFill_tuple_mul F.fills_int_mul F.slot_int_rmul repeat_tuple F.slot_int_index.lookup
      (call_meets F.slot_int_rmul (typeIs_int s k t) F.entry_int_rmul (F.args_int_rmul_2 _ _) (int_rmul_tuple k t l its.toArray n dd sl)
        ⟨ho, rfl, ⟨_, ho, rfl⟩, call_meets F.slot_tuple_mul ⟨_, ho, rfl⟩ F.entry_tuple_mul (F.args_tuple_mul_2 _ _) (tuple_mul0 l its.toArray n dd sl k t c0 c1 c2)
          ⟨ho, ⟨.ref s.heap.objs.size, _, I.laid (t' := s.toks) (o := .tup []) (fun b ob q => Heap.get?_push_of_some _ q) (Nat.le_refl _) ⟨by rw [sizeLine_eq]; exact Nat.zero_le _, _, .nil, IsTup.new _ _⟩, rfl, q0 hne hk0 _ (I.hok.fresh (Nat.le_refl _))⟩⟩⟩)
end
def fRep : F2
  | .tup xs, .int k, m => if (decide (-1000 ≤ k) && decide (k ≤ 1000) && decide (xs.length ≤ 1000)) = true then some (.tup (List.replicate k.toNat xs).flatten, m) else none
  | _, _, _ => none
section
variable {K : PySem.W.Frag} {cm : Nat → Addr}
theorem RDs.rep {ρ : Wd} {H : Hp} {vs : List V} {ds : List D} (h : RDs K ρ H vs ds) : ∀ n : Nat, RDs K ρ H (List.replicate n vs).flatten (List.replicate n ds).flatten
  | 0 => .nil
  | n + 1 => by
    rw [List.replicate_succ, List.replicate_succ, List.flatten_cons, List.flatten_cons]
    exact h.append (RDs.rep h n)
theorem sr_rep : SR2 K cm fRep (rRepA K) := by
  intro ρ m H x y d1 d2 d3 m' Q R r1 r2 e q
  unfold fRep at e
  split at e
  · rename_i xs k
    split at e
    · rename_i hc
      simp only [Bool.and_eq_true, decide_eq_true_eq] at hc
      cases e
      cases r2
      cases r1 with
      | tup h rx =>
        have hl := rx.length
        refine ⟨_, _, _, rfl, rfl, h.sq, hc.1.1, hc.1.2, by omega, fun h0 => ?_, fun n0 hk p hp => ?_, fun n0 hk p hp => ?_⟩
        · have e0 : (List.replicate k.toNat xs).flatten = xs := by
            rcases h0 with h0 | h0
            · rw [h0] at hl
              have : xs = [] := List.eq_nil_of_length_eq_zero hl.symm
              rw [this]
              simp
            · rw [h0]
              simp
          rw [e0] at q
          exact q ρ _ H (Ev.refl ρ H) R (.tup h rx)
        · have e0 : (List.replicate k.toNat xs).flatten = [] := by
            have : k.toNat = 0 := by omega
            rw [this]
            rfl
          rw [e0] at q
          exact q ρ _ _ (Ev.new hp) (R.new hp) (.tup (.inl ⟨R.notIn hp, .inl upd_same⟩) .nil)
        · exact q ρ _ _ (Ev.new hp) (R.new hp) (.tup (.inl ⟨R.notIn hp, .inl upd_same⟩) ((rx.rep k.toNat).mono (Ev.new hp)))
    · cases e
  · cases e
end
end Mini

set_option Elab.async false
set_option maxRecDepth 100000
set_option maxHeartbeats 4000000
namespace Mini
open PySem L2 PyProof.Rows PySem.Spec

/-! ### enumerate of a tuple -/
theorem meets_enum1 {v : Value} {o : Obj} {H : Heap → Prop} (B : Begins v o H) :
    Meets (Builtin.«enumerate.__new__» ⟨[.type "enumerate", v], []⟩) (fun _ R s => H s.heap ∧
      R (.ok (.ret (.ref (s.heap.push o).objs.size))) { s with heap := (s.heap.push o).push { cls := .type "enumerate", data := .fields #[.none, .bool false, .ref s.heap.objs.size, rawInt 0, .none, .none] } }) :=
  .of_wp fun prog w A R s h => by
    obtain ⟨hp, g, d, tk, os⟩ := s
    obtain ⟨h1, h⟩ := h
    have hsub := sub_enumerate
    have q1 : ∀ {A' : Around} {E : Value → Shared → Prop} {Q : Value → Shared → Prop}, Q (.ref hp.objs.size) ⟨hp.push o, g, d, tk, os⟩ → wpAny (model prog w) A' (pyIter v) Q E ⟨hp, g, d, tk, os⟩ :=
      fun q => B.iter prog w _ _ ⟨hp, g, d, tk, os⟩ _ h1 q
    wp_walk using q1
    refine wpAny_stack_any fun st => wpAny_pure ?_
    split
    · rename_i c _ _ _ _ _
      cases (c == Value.type "enumerate")
      · wp_walk using q1
        exact ⟨_, rfl, h⟩
      · wp_walk using q1
        exact ⟨_, rfl, h⟩
    · wp_walk using q1
      exact ⟨_, rfl, h⟩
section
variable {prog : Program} {w : World} {A : Around} {E : Value → Shared → Prop} {s : Shared}
theorem enum_begins1 {v : Value} {o : Obj} {H : Heap → Prop} {Q : Value → Shared → Prop} (B : Begins v o H) (h1 : H s.heap)
    (h : ∀ h', IsEnum h' (s.heap.objs.size + 1) s.heap.objs.size 0 .none → h'.get? s.heap.objs.size = some o → h'.objs.size = s.heap.objs.size + 2 →
      (∀ b o, s.heap.get? b = some o → h'.get? b = some o) → Q (.ref (s.heap.objs.size + 1)) { s with heap := h' }) :
    wpAny (model prog w) A (call (.type "enumerate") [v]) Q E s := by
  refine callType_new F.called_enumerate (by decide) (F.typeCall_enumerate_1 _) (F.newCall_enumerate_1 _) (fun obj => F.args_object_init_2 obj _) F.entry_enumerate_new
    (meets_enum1 B) ⟨h1, ?_⟩
  have hz : (s.heap.push o).objs.size = s.heap.objs.size + 1 := Heap.size_push ..
  show _ ∧ _
  rw [hz]
  have he : IsEnum ((s.heap.push o).push { cls := .type "enumerate", data := .fields #[.none, .bool false, .ref s.heap.objs.size, rawInt 0, .none, .none] }) (s.heap.objs.size + 1) s.heap.objs.size 0 .none := by
    have := Heap.get?_push_size (s.heap.push o) (o := { cls := .type "enumerate", data := .fields #[.none, .bool false, .ref s.heap.objs.size, rawInt 0, .none, .none] }) rfl
    rw [hz] at this; exact this
  refine ⟨⟨_, he, rfl⟩, h _ he (Heap.get?_push_of_some _ (Heap.get?_push_size _ B.free)) (by rw [Heap.size_push, hz]) fun b o x => Heap.get?_push_of_some _ (Heap.get?_push_of_some _ x)⟩
end
/-- the items of the tuple at a, each in a new pair -/
def IteT (K : PySem.W.Frag) (a : Addr) : It :=
  ⟨fun i H => ∃ (xs : List V) (x : V), SqT K H a xs ∧ xs[i]? = some x, fun i H v H' => ∃ T x, v = .ref T ∧ H T = none ∧ H' = upd H T (.tup [.int (i : Nat), x]) ∧ ∀ xs, SqT K H a xs → xs[i]? = some x, fun i H => ∃ xs : List V, SqT K H a xs ∧ xs.length ≤ i⟩
theorem enum_ne {h : Heap} {e it a : Addr} {i : Int} {old : Value} {items : Array Value} (he : IsEnum h e it i old) (ht : h.IsTuple a items) : e ≠ a := by
  rintro rfl
  obtain ⟨o, ho, hc, _⟩ := ht
  have he' : h.get? e = some _ := he
  rw [ho] at he'
  have e1 := Option.some.inj he'
  rw [e1] at hc
  simp at hc
theorem enum_endT {prog : Program} {w : World} {A : Around} {E : Value → Shared → Prop} {s : Shared} {e it a : Addr} {i : Nat} {c : Int} {items : Array Value} {old : Value} {Q : Option Value → Shared → Prop} (hh : A.handled = none)
    (he : IsEnum s.heap e it c old) (hit : s.heap.IsTupleIter it a i) (hp : s.heap.IsTuple a items) (hx : items[i]? = none)
    (hQ : ∀ h', Heap.ExtBut it s.heap h' → Q none { s with heap := h' }) : wpAny (model prog w) A (pyNext (.ref e)) Q E s := by
  have hT : s.TypeIs (.ref e) "enumerate" := ⟨_, he, rfl⟩
  unfold pyNext
  refine wpAny_bind (wpAny_attempt (wpAny_callSpecial?_slot (name := Str.ofString "__next__") hT F.slot_enumerate_next
    (wpAny_call_entry F.slot_enumerate_next hT F.entry_enumerate_next ?_ (F.args_enumerate_next_1 _))))
  show wpAny _ _ (field (.ref e) 2 >>= _) _ _ _
  refine wpAny_bind (wpAny_field he rfl (x := .ref it) rfl ?_)
  refine wpAny_bind (wpAny_nextOf_tuple_end (show A.in1.handled = none from hh) hit hp hx fun h' x he' hx' => ?_)
  obtain ⟨o, ho, hc⟩ := hx'
  refine wpAny_bind (wpAny_isInstance (T := "StopIteration") (b := true) ⟨o, ho, hc⟩ isSubtype_stop ?_)
  exact wpAny_pure (hQ _ he')
theorem turn_enumT {P : Program} {w : World} {K : PySem.W.Frag} {elts : List Expr} {kk : Nat} {tpos : Pos} (a e it : Addr) :
    Turn P w K (.Tuple elts kk tpos) (IteT K a) [e, it] e (fun i h => (∃ old, IsEnum h e it ((i : Nat) : Int) old) ∧ h.IsTupleIter it a i ∧ e ≠ it) where
  mem := by simp
  obj := fun i h st b hb => by
    obtain ⟨⟨old, he⟩, ⟨o, ho, hc, hd⟩, _⟩ := st
    have e' : b = e ∨ b = it := by simpa using hb
    rcases e' with z | z
    · rw [z]; exact ⟨_, he, fun v q => nomatch q⟩
    · rw [z]; exact ⟨o, ho, fun v q => by rw [hd] at q; cases q⟩
  keep := fun i h h' st k => let ⟨⟨old, he⟩, hi, hne⟩ := st; ⟨⟨old, k e (by simp) _ he⟩, hi.at fun o q => k it (by simp) o q, hne⟩
  item := by
    intro X hP hw hK hc i pins s σ H E I hf st hg
    subst hP hw hK
    obtain ⟨⟨old, he⟩, hit, hne⟩ := st
    obtain ⟨xs, x, hq, hx⟩ := hg
    obtain ⟨its, rv, p, hz⟩ := I.tuple hq
    obtain ⟨u, hu, ru⟩ := rv.get hx
    have hel : e < s.heap.objs.size := Heap.lt_size he
    have hil : it < s.heap.objs.size := by obtain ⟨_, q, _⟩ := hit; exact Heap.lt_size q
    have hp : s.heap.IsTuple a its.toArray := p
    have hia : a ≠ it := by
      rintro rfl
      obtain ⟨o1, q1, c1, _⟩ := hit
      obtain ⟨o2, q2, c2, _⟩ := hp
      rw [q1] at q2
      cases q2
      rw [c1] at c2
      simp at c2
    have hea := enum_ne he hp
    refine wpAny_pyNext_enum_itemC (Draws.tuple (A := X.A.in1) (I.ok.hd hc) it a hia its.toArray) he ⟨hit, hp⟩ (by have := (List.getElem?_eq_some_iff.mp hu).1; simpa using this) hne (by simp [hne, hea]) fun x' h' tk hP ho hs' hT hsz hk => ?_
    obtain ⟨hit', hp'⟩ := hs'
    have ex : x' = u := by
      have : its[i]? = some x' := by simpa using hP
      rw [hu] at this
      exact (Option.some.inj this).symm
    subst ex
    refine ⟨_, rfl, wpAny_letOwnedTupleGo_enum (s := { s with heap := h', toks := tk + 1 }) ho fun h'' he' sb => ?_⟩
    have hT2 : h''.get? s.heap.objs.size = some { cls := .type "tuple", data := .seq #[.int i tk, x'] } := (sb.2 _ (Nat.ne_of_gt hel)).trans hT
    have new : ObjOk X.prog X.w (upd H s.heap.objs.size (.tup [.int (i : Nat), x])) h'' s.heap.objs.size (.tup [.int (i : Nat), x]) :=
      ⟨by show 2 ≤ sizeLine; decide, [.int i tk, x'], .cons ⟨_, rfl⟩ (.cons ru .nil), ⟨_, hT2, rfl, _, rfl⟩⟩
    have I1 : Inv X pins σ (upd H s.heap.objs.size (.tup [.int (i : Nat), x])) { s with heap := h'', toks := tk + 1 } :=
      I.turnedNew (ch := [e, it]) (fun b ob hb q => (sb.2 b (fun z => hb (by simp [z]))).trans (hk b ob (fun z => hb (by simp [z])) (fun z => hb (by simp [z])) q)) hf (Nat.le_refl _) new
    refine ⟨.ref s.heap.objs.size, _, I1, rfl, ⟨_, x, rfl, I.hok.fresh (Nat.le_refl _), rfl, fun ys hy => ?_⟩, ⟨⟨x', ?_⟩, hit'.at fun o q => (sb.2 it (Ne.symm hne)).trans q, hne⟩, fun b hb => ?_⟩
    · rw [I.tuple_inj hy hq]; exact hx
    · have e1 : ((i + 1 : Nat) : Int) = (i : Int) + 1 := by omega
      rw [e1]; exact he'
    · have hb' : b < s.heap.objs.size := by
        have e' : b = e ∨ b = it := by simpa using hb
        rcases e' with z | z
        · rw [z]; exact hel
        · rw [z]; exact hil
      rw [upd_ne (Nat.ne_of_lt hb')]
      exact (hf b hb).1
  done := by
    intro X hP hw hK hc i pins s σ H E I hf st hg
    subst hP hw hK
    obtain ⟨⟨old, he⟩, hit, hne⟩ := st
    obtain ⟨xs, hq, hx⟩ := hg
    obtain ⟨its, rv, p, hz⟩ := I.tuple hq
    have hp : s.heap.IsTuple a its.toArray := p
    obtain ⟨f0, f1, f2, f3, f4, f5⟩ := hf it (by simp)
    have hl := rv.length
    have hgone : its.toArray[i]? = none := by simp; omega
    exact enum_endT (I.ok.hd hc) he hit hp hgone fun h' eb => ⟨rfl, I.turned (t' := s.toks) (fun b o hb q => eb b o hb q) f0 f1 f3 f4 f5⟩
  self := fun A i s Q E st h => let ⟨⟨_, he⟩, _⟩ := st; wpAny_pyIter_enum he h
def iEnumT (K : PySem.W.Frag) (ta : TA) : TI := fun σ H R => ta σ H fun vs H1 => ∃ a xs, vs = [.ref a] ∧ SqT K H1 a xs ∧ R (IteT K a) H1
theorem pi_enumT {X : Cx} {e : Expr} {ta : TA} {p pos tpos : Pos} {elts : List Expr} {kk : Nat} (hg : Gl X "enumerate") (hm : X.mg "enumerate" = none) (ha : PA X [e] ta) (hs : starEach [e] X.env = [(false, eval e X.env)] := by rfl) :
    PI X (.Tuple elts kk tpos) (.Call (.Name "enumerate" p) [e] [] pos) (iEnumT X.K ta) := by
  refine ⟨fun pins s σ H R I h => ?_⟩
  refine Call_ (ld_blt I hg hm boot_enumerate (PyProof.Rows.callWith_type1 (thn (ha.run pos pins s σ H _ I h) fun us s1 ⟨vs, H1, I1, r1, q1⟩ => ?_) hs rfl))
  obtain ⟨a, xs, ex, hq, q⟩ := q1
  subst ex
  cases r1 with
  | cons r rr =>
    cases rr
    cases r
    obtain ⟨its, rv, p', hz⟩ := I1.tuple hq
    have hp : s1.heap.IsTuple a its.toArray := p'
    refine enum_begins1 (begins_tuple a its.toArray) hp fun h' he hit hsz hk => wpAny_pyIter_enum he ?_
    have I2 : Inv X pins σ H1 { s1 with heap := h' } := I1.kept (t' := s1.toks) hk
    refine ⟨s1.heap.objs.size + 1, [s1.heap.objs.size + 1, s1.heap.objs.size], _, _, H1, rfl, I2, turn_enumT a (s1.heap.objs.size + 1) s1.heap.objs.size, ⟨⟨.none, he⟩, ⟨_, hit, rfl, rfl⟩, Nat.succ_ne_self _⟩, fun b hb => ?_, q⟩
    have e' : b = s1.heap.objs.size + 1 ∨ b = s1.heap.objs.size := by simpa using hb
    have hle : s1.heap.objs.size ≤ b := by
      rcases e' with z | z
      · rw [z]; exact Nat.le_add_right _ _
      · rw [z]; exact Nat.le_refl _
    exact I1.fpOk hle (I1.hok.fresh hle)
/-! in the layer -/
def enumD (xs : List D) : List D := (List.range xs.length).map fun (i : Nat) => .tup [.int (i : Int), xs.getD i .non]
def iEnum (a : XA) : XI := fun sg m => match a sg m with
  | some ([.tup xs], m1) => some (enumD xs, m1)
  | _ => none
section
variable {K : PySem.W.Frag} {cm : Nat → Addr} {ρ : Wd} {H : Hp}
theorem walks_enumT {a : Addr} {xs : List V} {ds : List D} (h : TAt K ρ H a xs) (r : RDs K ρ H xs ds) : Mini.Walks K cm ρ H (IteT K a) (enumD ds) := by
  intro ρ0 h0 ρ' m' H' E R
  have h' := (E.tat (tat_to h0 h)).sq
  have r' := (rds_to h0 r).monoZ E
  refine ⟨fun i d hd => ?_, ⟨xs, h', by simp [enumD, r'.length]⟩⟩
  have hi : i < ds.length := by
    have := (List.getElem?_eq_some_iff.mp hd).1
    simpa [enumD] using this
  have hdi : ds[i]? = some ds[i] := by simp [hi]
  have ed : d = .tup [.int (i : Int), ds[i]] := by
    simp [enumD, hi] at hd
    exact hd.symm
  subst ed
  obtain ⟨x, hx, rx⟩ := r'.get hdi
  refine ⟨⟨xs, x, h', hx⟩, ?_⟩
  rintro y H2 ⟨T, z, rfl, hT, rfl, hy⟩
  have e := hy xs h'
  rw [hx] at e
  cases e
  exact ⟨Ev.new hT, R.new hT, .tup (.inl ⟨R.notIn hT, .inl upd_same⟩) (.cons .int (.cons (rx.mono (Ev.new hT)) .nil))⟩
end
theorem si_enum {cm : Nat → Addr} {X : Cx} {e : Expr} {xa : XA} {p pos tpos : Pos} {elts : List Expr} {kk : Nat} (hg : Gl X "enumerate") (hm : X.mg "enumerate" = none) (ha : SA cm X [e] xa) (hs : starEach [e] X.env = [(false, eval e X.env)] := by rfl) :
    SI cm X (.Tuple elts kk tpos) (.Call (.Name "enumerate" p) [e] [] pos) (iEnum xa) := PI_imp (pi_enumT hg hm ha hs) fun σ H R h => by
  obtain ⟨ρ, sg, m, ds, m', hs, hr, e, q⟩ := h
  unfold iEnum at e
  split at e
  · rename_i xs m1 e1
    cases e
    refine ⟨ρ, sg, m, _, _, hs, hr, e1, fun ρ1 vs H1 E1 R1 r1 => ?_⟩
    obtain ⟨x, rfl, rx⟩ := one_of r1
    cases rx with
    | tup h rx => exact ⟨_, _, rfl, h.sq, q ρ1 _ H1 E1 R1 (walks_enumT h rx)⟩
  · cases e
end Mini

set_option Elab.async false
set_option maxRecDepth 100000
namespace Mini
open PySem L2

/-! ### o.f as a target -/
def gFldT (K : PySem.W.Frag) (ta : TE) (f : Str) : TG := fun v σ H Q => ta σ H fun x H1 => ∃ a C dx fs, x = .ref a ∧ H1 a = some (.ins C dx fs) ∧ Cls K C ∧ NoAttr K C f ∧ fs.length < 1000 ∧ Q σ (upd H1 a (.ins C dx (putF f v fs)))
theorem pg_fld {X : Cx} {o : Expr} {f : Str} {pos' : Pos} {ta : TE} (ha : PE X o ta)
    (hb : ∀ v, assign (.Attribute o f pos') X.env v = (do
      let ov ← holding [v] (eval o X.env)
      standAt pos'.atName
      holding [v, ov] (setAttr ov f v)
      release [v, ov] []) := by intro _; rfl) : PG X (.Attribute o f pos') (gFldT X.K ta f) := by
  refine ⟨fun pins s σ H v u Q I r h => ?_⟩
  rw [hb]
  refine wpAny_bind (wpAny_holding (thn (ha.run pins s σ H _ I h) fun ov s1 ⟨x, H1, I1, r1, a, C, dx, fs, ex, ea, c, n, l, q⟩ => ?_))
  subst ex
  obtain rfl : ov = Value.ref a := r1
  refine wpAny_bind (wpAny_standAt (wpAny_bind (wpAny_holding (setattr_ok I1 ea c n l r fun s3 I3 => ?_))))
  exact wpAny_release ⟨σ, _, I3, q⟩
def gFld (c : Nat) (f : Str) (o : XE) : XG := fun y sg m => match o sg m with
  | some (.ref i, m2) => (match m2[i]? with
    | some (.ins c' fs) => if c' = c then (if fs.length < 1000 then some (sg, m2.set i (.ins c (putFD f y fs))) else none) else none
    | _ => none)
  | _ => none
theorem sg_fld {cm : Nat → Addr} {X : Cx} {o : Expr} {xo : XE} (c : Nat) {nm : Str} {pos' : Pos} (ha : SE cm X o xo) (hcl : Cls X.K (cm c)) (hna : NoAttr X.K (cm c) nm)
    (hb : ∀ v, assign (.Attribute o nm pos') X.env v = (do
      let ov ← holding [v] (eval o X.env)
      standAt pos'.atName
      holding [v, ov] (setAttr ov nm v)
      release [v, ov] []) := by intro _; rfl) : SG cm X (.Attribute o nm pos') (gFld c nm xo) := PG_imp (pg_fld ha hb) fun v σ H Q h => by
  obtain ⟨ρ, sg, m, d, sg', m', hs, hr, r, e, q⟩ := h
  unfold gFld at e
  split at e
  · rename_i i m2 e2
    split at e
    · rename_i c' fs hm
      split at e
      · rename_i hc
        subst hc
        split at e
        · rename_i hl
          cases e
          refine ⟨ρ, sg, m, _, _, hs, hr, e2, fun ρ2 v2 H2 E2 R2 r2 => ?_⟩
          obtain ⟨a, rfl, hi, dx, es, hA, rf⟩ := ref_at R2 r2 hm
          refine ⟨a, _, dx, es, rfl, hA, hcl, hna, by rw [rf.length]; exact hl, ?_⟩
          have EW : Ev ρ2 H2 ρ2 (upd H2 a (.ins (cm c') dx (putF nm v es))) := Ev.write hi
          exact q ρ2 σ _ (E2.trans EW) (hs.mono (E2.trans EW)) (R2.write hi ⟨dx, _, upd_same, RFs.put (r.mono (E2.trans EW)) (rf.mono EW)⟩)
        · cases e
      · cases e
    · cases e
  · cases e
end Mini

set_option Elab.async false
set_option maxRecDepth 100000
namespace Mini
open PySem L2
/-! ### d.get(k, z), d.pop(k, z), len(d) -/
def xDGet2 (o k z : XE) : XE := fun sg m => match o sg m with
  | none => none
  | some (d, m1) => match dctD d m1 with
    | none => none
    | some _ => match k sg m1 with
      | none => none
      | some (kd, m2) => match z sg m2 with
        | none => none
        | some (zd, m3) => match dctD d m3, keyD kd with
          | some kvs, some kk => some ((lookD kvs kk).getD zd, m3)
          | _, _ => none
def xDPop2 (o k z : XE) : XE := fun sg m => match o sg m with
  | some (.ref i, m1) => (match m1[i]? with
    | some (.dct _) => (match k sg m1 with
      | none => none
      | some (kd, m2) => match z sg m2 with
        | none => none
        | some (zd, m3) => match m3[i]?, keyD kd with
          | some (.dct kvs), some kk => (match lookD kvs kk with
            | some v => some (v, m3.set i (.dct (dropD kvs kk)))
            | none => some (zd, m3))
          | _, _ => none)
    | _ => none)
  | _ => none
def fLenD : FN
  | [d], m => (match dctD d m with
    | some kvs => some (.int kvs.length, m)
    | none => none)
  | _, _ => none
section
variable {K : PySem.W.Frag} {cm : Nat → Addr} {ρ : Wd} {H : Hp} {m : M}
theorem dct_rel {x : V} {d : D} {kvs : List (Key × D)} (R : Rep K cm ρ m H) (r : RD K ρ H x d) (e : dctD d m = some kvs) : ∃ a es, x = .ref a ∧ Rd H a (.dK es) ∧ RKs K ρ H es kvs := by
  cases r with
  | dct n h rk => cases e; exact ⟨_, _, rfl, h, rk⟩
  | ref hi =>
    rename_i i a
    simp only [dctD] at e
    split at e
    · rename_i kvs' hm
      cases e
      obtain ⟨a', e1, es, hA, rk⟩ := R.at_ i _ hm
      rw [hi] at e1
      cases e1
      exact ⟨_, _, rfl, .inl hA, rk⟩
    · rename_i kvs' hm
      cases e
      obtain ⟨a', e1, o, es, hA, rk⟩ := R.at_ i _ hm
      rw [hi] at e1
      cases e1
      exact ⟨_, _, rfl, .inr ⟨o, hA⟩, rk⟩
    · cases e
  | non => cases e
  | bl => cases e
  | int => cases e
  | str => cases e
  | tup h rx => cases e
  | ptp n h hd rx => cases e
  | lst n h rx => cases e
  | rol h rx => cases e
theorem src_lenD : SRC K cm fLenD (fun xs H Q => ∃ (a : Addr) (kvs : List (Key × V)), xs = [.ref a] ∧ Rd H a (.dK kvs) ∧ Q (.int kvs.length) H) := by
  intro ρ m H xs ds d3 m' Q R r e q
  unfold fLenD at e
  split at e
  · split at e
    · rename_i kvs hk
      cases e
      obtain ⟨x, rfl, rx⟩ := one_of r
      obtain ⟨a, es, rfl, h, rk⟩ := dct_rel R rx hk
      refine ⟨a, es, rfl, h, ?_⟩
      rw [rk.length]
      exact q ρ _ H (Ev.refl ρ H) R .int
    · cases e
  · cases e
end
theorem call_lenD {X : Cx} : CallR X (.builtin "len") (fun xs H Q => ∃ (a : Addr) (kvs : List (Key × V)), xs = [.ref a] ∧ Rd H a (.dK kvs) ∧ Q (.int kvs.length) H) := by
  intro pins s σ H xs us Q I r q
  obtain ⟨a, kvs, rfl, hd, q⟩ := q
  obtain ⟨u, rfl, rx⟩ := vals1 r
  cases rx
  exact d_len I hd fun t s' I' => ⟨.int kvs.length, H, I', ⟨t, rfl⟩, q⟩
section
variable {cm : Nat → Addr} {X : Cx} {o e f : Expr} {xo xk xz : XE} {apos cpos : Pos}
theorem se_dget2 (hu : X.A.units + 1 < cLine) (ho : SE cm X o xo) (he : SE cm X e xk) (hf : SE cm X f xz) (m : M2 X o "get" apos e f cpos) : SE cm X (.Call (.Attribute o "get" apos) [e, f] [] cpos) (xDGet2 xo xk xz) := PE_imp (pe_dget2 hu ho he hf m) fun σ H Q h => by
  obtain ⟨ρ, sg, m, d, m', hs, hr, e, q⟩ := h
  unfold xDGet2 at e
  split at e
  · cases e
  · rename_i d1 m1 e1
    split at e
    · cases e
    · rename_i kvs0 hk0
      split at e
      · cases e
      · rename_i kd m2 e2
        split at e
        · cases e
        · rename_i zd m3 e3
          split at e
          · rename_i kvs kk hk hkk
            cases e
            refine ⟨ρ, sg, m, d1, m1, hs, hr, e1, fun ρ1 v1 H1 E1 R1 r1 => ?_⟩
            obtain ⟨a, es, rfl, h, rk⟩ := dct_rel R1 r1 hk0
            refine ⟨a, rfl, .inl ⟨es, h⟩, ρ1, sg, m1, kd, m2, hs.mono E1, R1, e2, fun ρ2 v2 H2 E2 R2 r2 => ⟨ρ2, sg, m2, zd, _, hs.mono (E1.trans E2), R2, e3, fun ρ3 v3 H3 E3 R3 r3 => ?_⟩⟩
            obtain ⟨a', es', ea, h', rk'⟩ := dct_rel R3 (r1.mono (E2.trans E3)) hk
            cases ea
            have ek := key_rel r2 hkk
            subst ek
            refine ⟨valV es' kk, .inl ⟨es', kk, h', rfl, rfl⟩, q ρ3 _ H3 ((E1.trans E2).trans E3) R3 ?_⟩
            rcases look_rel (k := kk) rk' with ⟨h1, h2⟩ | ⟨d2, v2, h1, h2, r4⟩
            · rw [h1, h2]
              exact r3
            · rw [h1, h2]
              exact r4
          · cases e
end
end Mini

set_option Elab.async false
set_option maxRecDepth 100000
namespace Mini
open PySem L2

/-! ### tuples that are known to have no dict -/
abbrev tupOb (its : List Value) : Obj := { cls := .type "tuple", data := .seq its.toArray }
theorem call_tup_frz {X : Cx} : CallR X (.type "tuple") (fun xs H Q => ∃ p ys, xs = [.ref p] ∧ SqL X.K H p ys ∧ ∀ l o, H l = none → o.dict = none → Q (.ref l) (upd H l (.frz o (.tup ys)))) := by
  intro pins s σ H xs us Q I r ⟨p, ys, ex, hq, q⟩
  subst ex
  obtain ⟨u, rfl, rx⟩ := vals1 r
  cases rx
  obtain ⟨its, rv, pl, hz⟩ := I.list hq
  have hlen := rv.length
  refine call_tuple_list pl.isList (fun g kp => ?_) (by simp only [List.size_toArray] <;> omega)
  have J : Inv X pins σ H { s with heap := g } := I.kept (t' := s.toks) kp
  have new : (g.push (tupOb its)).get? g.objs.size = some (tupOb its) := Heap.get?_push_size _ rfl
  have ok : ObjOk X.prog X.w (upd H g.objs.size (.frz (tupOb its) (.tup ys))) (g.push (tupOb its)) g.objs.size (.frz (tupOb its) (.tup ys)) := ⟨new, hz, its, rv, _, new, rfl, _, rfl⟩
  exact ⟨.ref g.objs.size, _, J.laid (t' := s.toks) (fun b o e => Heap.get?_push_of_some _ e) (Nat.le_refl _) ok, rfl, q _ _ (J.hok.fresh (Nat.le_refl _)) rfl⟩
def fTupP : FN
  | [d], m => (match listD d m with
    | some xs => some (.ptp xs, m)
    | none => none)
  | _, _ => none
theorem src_tupP {K : PySem.W.Frag} {cm : Nat → Addr} : SRC K cm fTupP (fun xs H Q => ∃ p ys, xs = [.ref p] ∧ SqL K H p ys ∧ ∀ l o, H l = none → o.dict = none → Q (.ref l) (upd H l (.frz o (.tup ys)))) := by
  intro ρ m H xs ds d3 m' Q R r e q
  unfold fTupP at e
  split at e
  · split at e
    · rename_i zs hs
      cases e
      obtain ⟨x, rfl, rx⟩ := one_of r
      obtain ⟨a, ys, rfl, hq, rr⟩ := list_of R rx hs
      exact ⟨a, ys, rfl, hq, fun l o hl hd => q ρ _ _ (Ev.new hl) (R.new hl) (.ptp (R.notIn hl) upd_same hd (rr.mono (Ev.new hl)))⟩
    · cases e
  · cases e
/-- a tuple of written items -/
def tTupF (t : TA) : TE := fun σ H Q => t σ H fun xs H1 => xs.length ≤ sizeLine ∧ ∀ p o, H1 p = none → o.dict = none → Q (.ref p) (upd H1 p (.frz o (.tup xs)))
theorem pe_tupF {X : Cx} {es : List Expr} {t : TA} {k : Nat} {pos : Pos} (h : PA X es t) : PE X (.Tuple es k pos) (tTupF t) := ⟨fun pins s σ H Q I hq =>
  wpAny_Tuple_spliced (thn (h.run pos pins s σ H _ I hq) fun us g ⟨xs, G, J, r, z, q⟩ => ⟨by rw [← r.length]; exact z, by
    have new : (g.heap.push (tupOb us)).get? g.heap.objs.size = some (tupOb us) := Heap.get?_push_size _ rfl
    have ok : ObjOk X.prog X.w (upd G g.heap.objs.size (.frz (tupOb us) (.tup xs))) (g.heap.push (tupOb us)) g.heap.objs.size (.frz (tupOb us) (.tup xs)) := ⟨new, z, us, r, _, new, rfl, _, rfl⟩
    exact ⟨.ref g.heap.objs.size, _, J.laid (t' := g.toks) (fun b u e => Heap.get?_push_of_some _ e) (Nat.le_refl _) ok, rfl, q _ _ (J.hok.fresh (Nat.le_refl _)) rfl⟩⟩)⟩
def xTupP (a : XA) : XE := fun sg m => match a sg m with
  | none => none
  | some (xs, m1) => if xs.length ≤ 100000 then some (.ptp xs, m1) else none
theorem se_tupP {cm : Nat → Addr} {X : Cx} {es : List Expr} {xs : XA} {pos : Pos} {k : Nat} (h : SA cm X es xs) : SE cm X (.Tuple es k pos) (xTupP xs) := PE_imp (pe_tupF h) fun σ H Q h => by
  obtain ⟨ρ, sg, m, d, m', hs, hr, e, q⟩ := h
  unfold xTupP at e
  split at e
  · cases e
  · rename_i ds m1 ea
    split at e
    · rename_i hl
      cases e
      exact ⟨ρ, sg, m, _, _, hs, hr, ea, fun ρ1 vs H1 E1 R1 r1 => ⟨sz (by rw [r1.length]; exact hl), fun p o hp hd => q ρ1 _ _ (E1.trans (Ev.new hp)) (R1.new hp) (.ptp (R1.notIn hp) upd_same hd (r1.mono (Ev.new hp)))⟩⟩
    · cases e
end Mini

set_option Elab.async false
set_option maxRecDepth 100000
namespace Mini
open PySem L2

/-! ### d.items(), and sorted of them -/
theorem Rd.okk {X : Cx} {pins : List (Addr × Obj)} {σ : St} {H : Hp} {s : Shared} {a : Addr} {u : HO} (I : Inv X pins σ H s) (h : Rd H a u) : ObjOk X.prog X.w H s.heap a u := by
  rcases h with h | ⟨o, h⟩
  · exact I.hok _ _ h
  · exact (show ObjOk X.prog X.w H s.heap a (.frz o u) from I.hok _ _ h).2
theorem pairs_at {P : Program} {w : World} : ∀ {es : List DictEntry} {vs : List (Key × Value)}, Pairs (mixKind P w) es vs → ∀ {j : Nat} {e : DictEntry}, es[j]? = some e → ∃ q, vs[j]? = some q ∧ keyIs q.1 e.key = true ∧ e.val = q.2
  | _, _, .nil, j, e, h => by simp at h
  | _, _, .cons h1 h2 t, 0, e, h => by
    cases h
    exact ⟨_, rfl, h1, h2⟩
  | _, _, .cons h1 h2 t, j + 1, e, h => pairs_at t (j := j) h
def rItK : V → List V → Hp → VK → Prop := fun x xs H Q => ∃ (a : Addr) (es : List (Key × V)), x = .ref a ∧ xs = [] ∧ Rd H a (.dK es) ∧ ∀ p, H p = none → Q (.ref p) (upd H p (DX.itemsO p a))
theorem mt_itK {X : Cx} : MtR X "dict.items" rItK := by
  intro pins s σ H x xs v us Q I rx rxs ⟨a, es, ex, exs, ha, q⟩
  subst ex exs
  cases rx
  cases rxs
  obtain ⟨hz, hs, vs, kv, o, des, ep, ho, hx, hdat, _⟩ := Rd.okk I ha
  refine DT.callItems (es := des) (ep := ep) hs ⟨o, ho, hx, hdat⟩ ⟨.ref s.heap.objs.size, _, I.laid (t' := s.toks) (o := DX.itemsO s.heap.objs.size a) (fun b u e => Heap.get?_push_of_some _ e) (Nat.le_refl _) (DX.itemsO_ok (Heap.get?_push_size _ rfl)), rfl, q _ (I.hok.fresh (Nat.le_refl _))⟩
end Mini

set_option Elab.async false
set_option maxRecDepth 100000
namespace Mini
open PySem L2 PyProof.Rows

/-- the pair of ints at an address -/
def prAt (h : Heap) (v : Value) : Int × Int := match v with
  | .ref a => (match h.get? a with
    | some o => (match o.data with
      | .seq its _ => (match its.toList with
        | [.int x _, .int y _] => (x, y)
        | _ => (0, 0))
      | _ => (0, 0))
    | none => (0, 0))
  | _ => (0, 0)
def kvI (q : Key × V) : Int × Int := match q with
  | (.inl i, .int j) => (i, j)
  | _ => (0, 0)
def rSrIt : List V → Hp → VK → Prop := fun us H Q => ∃ (p a : Addr) (kvs : List (Key × V)), us = [.ref p] ∧ H p = some (DX.itemsO p a) ∧ Rd H a (.dK kvs) ∧ (∀ q ∈ kvs, ∃ i j, q = (.inl i, .int j)) ∧
  ∀ (G : Hp) (l : Addr) (ts : List Addr) (kws : List (Key × V)), (∀ b o, H b = some o → G b = some o) → H l = none → (∀ t ∈ ts, H t = none) → l ∉ ts → ts.Nodup → kws.Perm kvs → SrtO.Srtd (fun x y => SrtO.lexB (kvI x) (kvI y)) kws →
    G = LiI.putT (upd H l (.lst (ts.map V.ref))) ts kws → ts.length = kws.length → Q (.ref l) G
theorem cr_srIt {X : Cx} (hc : X.calm = true) : CallR X (.builtin "sorted") rSrIt := by
  intro pins s σ H us vs0 Q I r ⟨p, a, kvs, ex, hp, ha, hi, q⟩
  subst ex
  obtain rfl := Vals.ref1 r
  have view : s.heap.IsItemsView p a := (show ObjOk X.prog X.w H s.heap p (DX.itemsO p a) from I.hok p _ hp).1
  obtain ⟨hz, hs, vs, kv, o, es, ep, ho, hx, hdat, _, hps, _⟩ := Rd.okk I ha
  have n1 : kvs.length = vs.length := Paired.length kv
  have n2 : es.toList.length = vs.length := hps.length
  have n3 : es.size = kvs.length := by rw [← Array.length_toList]; omega
  refine DT.sortedI (es := es) (ep := ep) (I.ok.hd hc) view ⟨o, ho, hx, hdat⟩ (by omega) fun g tk as hk hlt hl hG => ?_
  have n4 : as.length = kvs.length := by omega
  have nd : as.Nodup := List.Pairwise.imp (fun h => Nat.ne_of_lt h) hG.rise
  have pr : ∀ z ∈ as.zip kvs, ∃ i j t u, z.2 = (.inl i, .int j) ∧ g.get? z.1 = some { cls := .type "tuple", data := .seq #[.int i t, .int j u] } := by
    intro z hzz
    obtain ⟨n, hn⟩ := List.mem_iff_getElem?.mp hzz
    obtain ⟨ea, eq⟩ := List.getElem?_zip_eq_some.mp hn
    obtain ⟨e, he, hg⟩ := hG.pairs n z.1 ea
    obtain ⟨w, hw, k1, k2⟩ := pairs_at hps (j := n) (e := e) (by rw [Array.getElem?_toList]; exact he)
    obtain ⟨w', hw', k3, k4⟩ := LiI.paired_get kv eq
    rw [hw] at hw'
    cases hw'
    obtain ⟨i, j, ez⟩ := hi z.2 (List.mem_of_getElem? eq)
    rw [ez] at k3 k4
    obtain ⟨u, eu⟩ := k4
    rw [← k3] at k1
    obtain ⟨t, et⟩ := Value.isInt_shape (k := i) (v := e.key) k1
    exact ⟨i, j, t, u, ez, by rw [hg, et, k2, eu]⟩
  have kz : ∀ z ∈ as.zip kvs, prAt g (.ref z.1) = kvI z.2 := by
    intro z hzz
    obtain ⟨i, j, t, u, e1, e2⟩ := pr z hzz
    rw [e1]
    simp only [prAt, e2]
    rfl
  have fst : (as.zip kvs).map (fun z => Value.ref z.1) = as.map Value.ref := by
    have e : as = (as.zip kvs).map (·.1) := (List.map_fst_zip (Nat.le_of_eq n4)).symm
    conv => rhs; rw [e, List.map_map]
    all_goals rfl
  have ip : ∀ v ∈ as.map Value.ref, Srt.IsPair g v (prAt g v).1 (prAt g v).2 := by
    intro v hv
    rw [← fst] at hv
    obtain ⟨z, hz1, rfl⟩ := List.mem_map.mp hv
    obtain ⟨i, j, t, u, e1, e2⟩ := pr z hz1
    rw [kz z hz1, e1]
    exact ⟨z.1, _, t, u, _, rfl, e2, rfl, rfl⟩
  have hob : (g.push { cls := .type "list", data := .seq (as.map Value.ref).toArray }).get? g.objs.size = some (seqObj "list" (as.map Value.ref).toArray 0) := Heap.get?_push_size _ rfl
  have low : ∀ b o, g.get? b = some o → b ≠ g.objs.size := fun b o e => Nat.ne_of_lt (Heap.lt_size e)
  have up1 : ∀ b o, g.get? b = some o → (g.push { cls := .type "list", data := .seq (as.map Value.ref).toArray }).get? b = some o := fun b o e => Heap.get?_push_of_some _ e
  generalize g.push { cls := .type "list", data := .seq (as.map Value.ref).toArray } = g2 at hob up1 ⊢
  have sl : (as.map Value.ref).length ≤ sizeLine := by rw [List.length_map]; omega
  refine wpAny_call_entry PyProof.Rows.slot_list_sort ⟨_, hob, rfl⟩ PyProof.Rows.entry_list_sort (SrtO.list_sort_ord (s := { s with heap := g2, toks := tk }) (SrtO.swo_lex (prAt g)) hob sl (fun h2 =>
    SrtO.pairs_sortableO (s := { s with heap := g2, toks := tk }) (by omega) (fun v hv => (ip v hv).keeps fun b o e _ => up1 b o e) fun o e => ?_) fun out o1 o2 => ⟨.none, rfl, ?_⟩) (PyProof.Rows.args_list_sort _)
  · have e2 : some o = some (seqObj "list" (as.map Value.ref).toArray 0) := e.symm.trans hob
    cases e2
    exact fun c => absurd (Value.type.inj c) (by decide)
  · show EP X pins σ Q (.ref g.objs.size) { s with heap := sortedHeap g2 g.objs.size (as.map Value.ref) out.toArray, toks := tk }
    obtain ⟨zs, pz, ez⟩ := perm_lift (fun z : Addr × (Key × V) => Value.ref z.1) o2.perm (as.zip kvs) fst
    have mz : ∀ z ∈ zs, z ∈ as.zip kvs := fun z h => pz.mem_iff.mp h
    have pt : (zs.map (·.1)).Perm as := by
      have e := pz.map (·.1)
      rwa [List.map_fst_zip (Nat.le_of_eq n4)] at e
    have pk : (zs.map (·.2)).Perm kvs := by
      have e := pz.map (·.2)
      rwa [List.map_snd_zip (Nat.le_of_eq n4.symm)] at e
    have so : SrtO.Srtd (fun x y => SrtO.lexB (kvI x) (kvI y)) (zs.map (·.2)) := by
      rw [← ez] at o1
      have o3 := List.pairwise_map.mp o1
      refine List.pairwise_map.mpr (List.Pairwise.imp_of_mem (fun {x y} hx hy h => ?_) o3)
      show SrtO.lexB (kvI y.2) (kvI x.2) = false
      rw [← kz x (mz x hx), ← kz y (mz y hy)]
      exact h
    have ndt : (zs.map (·.1)).Nodup := pt.nodup_iff.mpr nd
    have new : ∀ t ∈ zs.map (·.1), s.heap.objs.size < t ∧ t < g.objs.size := fun t ht => ⟨hG.above t (pt.mem_iff.mp ht), hG.there (pt.mem_iff.mp ht)⟩
    have n0 : H g.objs.size = none := I.hok.fresh (Nat.le_of_lt hlt)
    have nt : ∀ t ∈ zs.map (·.1), H t = none := fun t ht => I.hok.fresh (Nat.le_of_lt (new t ht).1)
    have nl : g.objs.size ∉ zs.map (·.1) := fun h => Nat.lt_irrefl _ (new _ h).2
    have le : (zs.map (·.1)).length = (zs.map (·.2)).length := by rw [List.length_map, List.length_map]
    have atP := LiI.putT_at (zs.map (·.1)) (zs.map (·.2)) (upd H g.objs.size (.lst ((zs.map (·.1)).map V.ref))) le ndt
    have off : ∀ b, b ∉ zs.map (·.1) → b ≠ g.objs.size → LiI.putT (upd H g.objs.size (.lst ((zs.map (·.1)).map V.ref))) (zs.map (·.1)) (zs.map (·.2)) b = H b := fun b h1 h2 => by rw [LiI.putT_off _ _ _ h1, upd_ne h2]
    have eS : LiI.putT (upd H g.objs.size (.lst ((zs.map (·.1)).map V.ref))) (zs.map (·.1)) (zs.map (·.2)) g.objs.size = some (.lst ((zs.map (·.1)).map V.ref)) := by rw [LiI.putT_off _ _ _ nl, upd_same]
    generalize hG' : LiI.putT (upd H g.objs.size (.lst ((zs.map (·.1)).map V.ref))) (zs.map (·.1)) (zs.map (·.2)) = G at atP off eS
    have kp : ∀ b u, H b = some u → G b = some u := fun b u e => by
      rw [off b (fun h => by rw [nt b h] at e; cases e) (fun h => by rw [h, n0] at e; cases e)]
      exact e
    obtain ⟨eF, hF⟩ := PyProof.Rows.sortedHeap_at (vs := as.map Value.ref) (out := out.toArray) hob
    have kF : ∀ b o, g.get? b = some o → (sortedHeap g2 g.objs.size (as.map Value.ref) out.toArray).get? b = some o := fun b o e => (PyProof.Rows.sortedHeap_old (low b o e) (Heap.lt_size (up1 b o e))).trans (up1 b o e)
    have kS : ∀ b o, s.heap.get? b = some o → (sortedHeap g2 g.objs.size (as.map Value.ref) out.toArray).get? b = some o := fun b o e => kF b o (hk b o e)
    generalize sortedHeap g2 g.objs.size (as.map Value.ref) out.toArray = gF at hF kF kS ⊢
    refine ⟨.ref g.objs.size, G, ?_, rfl, q G g.objs.size (zs.map (·.1)) (zs.map (·.2)) kp n0 nt nl ndt pk so hG'.symm le⟩
    refine I.call' (ch := []) rfl ⟨fun b o h _ _ _ => kS b o h, fun b o h _ _ _ => ⟨o.slots, kS b o h⟩, fun b o h n _ => ?_, fun b o h _ => ⟨o, kS b o h⟩, fun b xs h => kp b _ h, fun b o u h => kp b _ h, fun b ps h => ⟨#[], by rw [kp b _ h]; simp⟩⟩ (fun b u h => ?_) I.bare fun b h => by simp at h
    · have lb : b < s.heap.objs.size := Heap.lt_size h
      rw [off b (fun z => absurd lb (Nat.not_lt.mpr (Nat.le_of_lt (new b z).1))) (Nat.ne_of_lt (Nat.lt_trans lb hlt))]
      exact n
    · by_cases hb : b ∈ zs.map (·.1)
      · obtain ⟨j, w, e1, e2, e3⟩ := LiI.paired_ix atP hb
        rw [e3] at h
        cases h
        rw [List.getElem?_map] at e1 e2
        obtain ⟨z, hzj, ez1⟩ := Option.map_eq_some_iff.mp e1
        rw [hzj] at e2
        cases e2
        obtain ⟨i, k, t, u, f1, f2⟩ := pr z (mz z (List.mem_of_getElem? hzj))
        subst ez1
        show ObjOk X.prog X.w G gF z.1 (.tup [kV z.2.1, z.2.2])
        rw [f1]
        exact ⟨by show 2 ≤ sizeLine; decide, [.int i t, .int k u], .cons ⟨t, rfl⟩ (.cons ⟨u, rfl⟩ .nil), ⟨_, kF _ _ f2, rfl, _, rfl⟩⟩
      · by_cases hb2 : b = g.objs.size
        · subst hb2
          rw [eS] at h
          cases h
          refine ⟨by rw [List.length_map, pt.length_eq]; omega, out, eF, ?_, hF⟩
          rw [← ez, List.map_map]
          exact vals_maps (fun z : Addr × (Key × V) => V.ref z.1) (fun z => Value.ref z.1) zs fun _ _ => rfl
        · rw [off b hb hb2] at h
          exact (I.hok b u h).stay (fun d v _ y => kS d v y) (fun d y => kp d _ y) fun d xs y => kp d _ y
end Mini

set_option Elab.async false
set_option maxRecDepth 100000
namespace Mini
open PySem L2

/-! ### sorting pairs of ints -/
def insP (x : Int × Int) : List (Int × Int) → List (Int × Int)
  | [] => [x]
  | y :: r => if SrtO.lexB y x = true then y :: insP x r else x :: y :: r
def srtP : List (Int × Int) → List (Int × Int)
  | [] => []
  | x :: r => insP x (srtP r)
theorem insP_perm (x : Int × Int) : ∀ l, (insP x l).Perm (x :: l)
  | [] => List.Perm.refl _
  | y :: r => by
    unfold insP
    split
    · exact ((insP_perm x r).cons y).trans (List.Perm.swap x y r)
    · exact List.Perm.refl _
theorem srtP_perm : ∀ l, (srtP l).Perm l
  | [] => List.Perm.refl _
  | x :: r => (insP_perm x (srtP r)).trans ((srtP_perm r).cons x)
theorem lexB_as {x y : Int × Int} (h : SrtO.lexB y x = false) (g : SrtO.lexB x y = false) : x = y := by
  have a := SrtO.lexB_no.mp h
  have b := SrtO.lexB_no.mp g
  have e1 : x.1 = y.1 := by omega
  have e2 : x.2 = y.2 := by omega
  exact Prod.ext e1 e2
theorem insP_srtd (x : Int × Int) : ∀ l, SrtO.Srtd SrtO.lexB l → SrtO.Srtd SrtO.lexB (insP x l)
  | [], _ => List.pairwise_singleton _ _
  | y :: r, h => by
    obtain ⟨h1, h2⟩ := List.pairwise_cons.mp h
    unfold insP
    split
    · rename_i hy
      refine List.pairwise_cons.mpr ⟨fun z hz => ?_, insP_srtd x r h2⟩
      rcases List.mem_cons.mp ((insP_perm x r).mem_iff.mp hz) with e | hz
      · subst e
        have a := SrtO.lexB_iff.mp hy
        exact SrtO.lexB_no.mpr (by omega)
      · exact h1 z hz
    · rename_i hy
      have hy : SrtO.lexB y x = false := by simpa using hy
      refine List.pairwise_cons.mpr ⟨fun z hz => ?_, h⟩
      rcases List.mem_cons.mp hz with e | hz
      · subst e; exact hy
      · have a := SrtO.lexB_no.mp hy
        have b := SrtO.lexB_no.mp (h1 z hz)
        exact SrtO.lexB_no.mpr (by omega)
theorem srtP_srtd : ∀ l, SrtO.Srtd SrtO.lexB (srtP l)
  | [] => List.Pairwise.nil
  | x :: r => insP_srtd x _ (srtP_srtd r)
theorem srtd_one : ∀ {l m : List (Int × Int)}, SrtO.Srtd SrtO.lexB l → SrtO.Srtd SrtO.lexB m → l.Perm m → l = m
  | [], m, _, _, p => (p.symm.eq_nil).symm
  | x :: l, [], _, _, p => absurd p.length_eq (by simp)
  | x :: l, y :: m, h, g, p => by
    obtain ⟨h1, h2⟩ := List.pairwise_cons.mp h
    obtain ⟨g1, g2⟩ := List.pairwise_cons.mp g
    have e : x = y := by
      rcases List.mem_cons.mp (p.mem_iff.mp (List.mem_cons_self (a := x) (l := l))) with e | hx
      · exact e
      · rcases List.mem_cons.mp (p.mem_iff.mpr (List.mem_cons_self (a := y) (l := m))) with e | hy
        · exact e.symm
        · exact lexB_as (h1 y hy) (g1 x hx)
    subst e
    rw [srtd_one h2 g2 (List.Perm.cons_inv p)]
end Mini

set_option Elab.async false
set_option maxRecDepth 100000
namespace Mini
open PySem L2

/-! ### sorted(d.items()) -/
def kvP (q : Key × D) : Option (Int × Int) := match q with
  | (.inl i, .int j) => some (i, j)
  | _ => none
def kvPs : List (Key × D) → Option (List (Int × Int))
  | [] => some []
  | q :: r => match kvP q, kvPs r with
    | some p, some ps => some (p :: ps)
    | _, _ => none
def prD (p : Int × Int) : D := .tup [.int p.1, .int p.2]
def xSrIt (a : XE) : XE := fun sg m => match a sg m with
  | some (.ref i, m1) => (match m1[i]? with
    | some (.dct kvs) => (match kvPs kvs with
      | some ps => some (.lst ((srtP ps).map prD), m1)
      | none => none)
    | _ => none)
  | _ => none
section
variable {K : PySem.W.Frag} {ρ : Wd} {H : Hp}
theorem kvPs_rel : ∀ {es : List (Key × V)} {kvs : List (Key × D)} {ps : List (Int × Int)}, RKs K ρ H es kvs → kvPs kvs = some ps → (∀ q ∈ es, ∃ i j, q = (.inl i, .int j)) ∧ es.map kvI = ps
  | _, _, _, .nil, h => by
    cases h
    exact ⟨fun q hq => (nomatch hq), rfl⟩
  | _, _, ps, .cons (k := k) (v := v) (vs := vs) (d := d) (ds := ds) r t, h => by
    simp only [kvPs] at h
    split at h
    · rename_i p ps' h1 h2
      cases h
      obtain ⟨a1, a2⟩ := kvPs_rel t h2
      unfold kvP at h1
      split at h1
      · rename_i q i j e
        cases e
        cases h1
        cases r
        refine ⟨fun q hq => ?_, by rw [List.map_cons, a2]; rfl⟩
        rcases List.mem_cons.mp hq with e | hq
        · exact ⟨_, _, e⟩
        · exact a1 q hq
      · cases h1
    · cases h
theorem rds_prs {G : Hp} : ∀ {ts : List Addr} {kws : List (Key × V)}, Paired (fun (t : Addr) (q : Key × V) => G t = some (.tup [kV q.1, q.2])) ts kws → (∀ t ∈ ts, ρ.Fr t) → (∀ q ∈ kws, ∃ i j, q = (.inl i, .int j)) → RDs K ρ G (ts.map V.ref) ((kws.map kvI).map prD)
  | _, _, .nil, _, _ => .nil
  | _, _, .cons (a := t) (b := q) h r, hf, hi => by
    obtain ⟨i, j, e⟩ := hi q (List.mem_cons_self ..)
    subst e
    exact .cons (.tup (.inl ⟨hf t (List.mem_cons_self ..), .inl h⟩) (.cons .int (.cons .int .nil))) (rds_prs r (fun t ht => hf t (List.mem_cons_of_mem _ ht)) fun q hq => hi q (List.mem_cons_of_mem _ hq))
end
section
variable {K : PySem.W.Frag} {cm : Nat → Addr} {ρ : Wd}
/-- the pairs laid one by one -/
theorem putT_ev : ∀ (ts : List Addr) (kws : List (Key × V)) (m : M) (H : Hp), Rep K cm ρ m H → (∀ t ∈ ts, H t = none) → ts.Nodup → Ev ρ H ρ (LiI.putT H ts kws) ∧ Rep K cm ρ m (LiI.putT H ts kws)
  | [], _, _, H, R, _, _ => ⟨Ev.refl ρ H, R⟩
  | _ :: _, [], _, H, R, _, _ => ⟨Ev.refl ρ H, R⟩
  | t :: ts, q :: kws, m, H, R, hn, nd => by
    have h0 := hn t (List.mem_cons_self ..)
    obtain ⟨n1, n2⟩ := List.nodup_cons.mp nd
    obtain ⟨E, R2⟩ := putT_ev ts kws m (upd H t (.tup [kV q.1, q.2])) (R.new h0) (fun u hu => by rw [upd_ne (fun z => n1 (by rw [← z]; exact hu))]; exact hn u (List.mem_cons_of_mem _ hu)) n2
    exact ⟨(Ev.new h0).trans E, R2⟩
end
end Mini

set_option Elab.async false
set_option maxRecDepth 100000
namespace Mini
open PySem L2
section
variable {cm : Nat → Addr} {X : Cx} {e : Expr} {xo : XE} {p apos cpos pos : Pos}
theorem se_srIt (hc : X.calm = true) (hg : Gl X "sorted") (hm : X.mg "sorted" = none) (hv : bootBuiltins "sorted" = some (.builtin "sorted")) (ho : SE cm X e xo)
    (hbase : attributeBase e "items" X.env (eval e X.env) = eval e X.env := by rfl) (hline : (apos.endLine == cpos.line) = true := by rfl)
    (he : starEach [.Call (.Attribute e "items" apos) [] [] cpos] X.env = (false, eval (.Call (.Attribute e "items" apos) [] [] cpos) X.env) :: starEach [] X.env := by rfl) :
    SE cm X (.Call (.Name "sorted" p) [.Call (.Attribute e "items" apos) [] [] cpos] [] pos) (xSrIt xo) :=
  PE_imp (pe_callB (cr_srIt hc) hg hm hv (pa_cons (pe_bm0 F.plainAttrs_dict F.slot_dict_items F.type_dict_items mt_itK ho hbase hline) pa_nil he) (by decide) (by decide) he rfl) fun σ H Q h => by
  obtain ⟨ρ, sg, m, d, m', hs, hr, e, q⟩ := h
  unfold xSrIt at e
  split at e
  · rename_i i m1 e1
    split at e
    · rename_i kvs hk
      split at e
      · rename_i ps hp
        cases e
        refine ⟨ρ, sg, m, _, _, hs, hr, e1, fun ρ1 v H1 E1 R1 r1 => ?_⟩
        obtain ⟨a, ea, es, hA, rk⟩ := R1.at_ i _ hk
        obtain ⟨hi, hps⟩ := kvPs_rel rk hp
        cases r1 with
        | ref h1 =>
          rw [h1] at ea
          cases ea
          refine ⟨.inr (.inr (.inl ⟨rfl, .inl ⟨es, hA⟩⟩)), a, es, rfl, rfl, .inl hA, fun pp hpp => ?_⟩
          have hE := Ev.new (ρ := ρ1) (u := DX.itemsO pp a) hpp
          have hR := R1.new (u := DX.itemsO pp a) hpp
          have hAA : upd H1 pp (DX.itemsO pp a) a = some (.dK es) := by rw [upd_ne (ne_of_none hA hpp)]; exact hA
          refine ⟨pp, a, es, rfl, upd_same, .inl hAA, hi, fun G l ts kws k1 k2 k3 k4 k5 k6 k7 k8 k9 => ?_⟩
          subst k8
          have E3 := Ev.new (ρ := ρ1) (u := .lst (ts.map V.ref)) k2
          have R3 := hR.new (u := .lst (ts.map V.ref)) k2
          have k3' : ∀ t ∈ ts, upd (upd H1 pp (DX.itemsO pp a)) l (.lst (ts.map V.ref)) t = none := fun t ht => by rw [upd_ne (fun z => k4 (by rw [← z]; exact ht))]; exact k3 t ht
          obtain ⟨E4, R4⟩ := putT_ev (K := X.K) (cm := cm) ts kws _ _ R3 k3' k5
          have at4 := LiI.putT_at ts kws (upd (upd H1 pp (DX.itemsO pp a)) l (.lst (ts.map V.ref))) k9 k5
          have l4 : LiI.putT (upd (upd H1 pp (DX.itemsO pp a)) l (.lst (ts.map V.ref))) ts kws l = some (.lst (ts.map V.ref)) := by rw [LiI.putT_off _ _ _ k4, upd_same]
          have es2 : kws.map kvI = srtP ps := srtd_one (List.pairwise_map.mpr k7) (srtP_srtd ps) ((k6.map kvI).trans (by rw [hps]; exact (srtP_perm ps).symm))
          have rr := rds_prs (K := X.K) (ρ := ρ1) at4 (fun t ht => hR.notIn (k3 t ht)) fun q hq => hi q (k6.mem_iff.mp hq)
          rw [es2] at rr
          exact q ρ1 _ _ (((E1.trans hE).trans E3).trans E4) R4 (.lst (hR.notIn k2) l4 rr)
      · cases e
    · cases e
  · cases e
end
end Mini

set_option Elab.async false
set_option maxRecDepth 100000
namespace Mini
open PySem L2

/-! ### dict(t) of a tuple of pairs that is known to have no dict -/
theorem pick {α : Type} {P : Nat → α → Prop} : ∀ (n : Nat), (∀ j, j < n → ∃ x, P j x) → ∃ l : List α, l.length = n ∧ ∀ (j : Nat) (x : α), l[j]? = some x → P j x
  | 0, _ => ⟨[], rfl, fun j x h => by simp at h⟩
  | n + 1, h => by
    obtain ⟨l, e, g⟩ := pick n fun j hj => h j (Nat.lt_succ_of_lt hj)
    obtain ⟨x, hx⟩ := h n (Nat.lt_succ_self n)
    refine ⟨l ++ [x], by rw [List.length_append, e]; rfl, fun j y hy => ?_⟩
    by_cases hj : j < l.length
    · exact g j y (by rwa [List.getElem?_append_left hj] at hy)
    · rw [List.getElem?_append_right (by omega)] at hy
      have e0 : j - l.length = 0 := by
        have := (List.getElem?_eq_some_iff.mp hy).1
        simp at this
        omega
      rw [e0] at hy
      cases hy
      have : j = n := by omega
      rw [this]
      exact hx
theorem call_dictTP {X : Cx} (hc : X.calm = true) : CallR X (.type "dict") (fun us H Q => ∃ (a : Addr) (ob : Obj) (ps : List Addr) (kvs : List (Key × V)), us = [.ref a] ∧ H a = some (.frz ob (.tup (ps.map V.ref))) ∧ ob.dict = none ∧ Paired (fun p kv => SqT X.K H p [kV kv.1, kv.2]) ps kvs ∧
    ∀ p, H p = none → Q (.ref p) (upd H p (.dK (mergeK [] kvs)))) := by
  intro pins s σ H us vs Q I r ⟨a, ob, ps, kvs, ex, ha, hob, hp, q⟩
  subst ex
  obtain rfl := Vals.ref1 r
  obtain ⟨hg, hz, its, rv, o, ho, hcl, n, hdat⟩ := (show ObjOk X.prog X.w H s.heap a (.frz ob (.tup (ps.map V.ref))) from I.hok a _ ha)
  rw [hg] at ho
  cases ho
  have ei := refs_at rv
  subst ei
  rw [List.length_map] at hz
  obtain ⟨prs, rel, hl, hpr⟩ := pairs_of I hp
  obtain ⟨pv, lv, hv⟩ := pick (P := fun j (x : Value × Value) => ∃ (w : Key × Value) (b : Addr), prs[j]? = some w ∧ ps[j]? = some b ∧ PySem.PairAt s.heap b x.1 x.2 ∧ keyIs w.1 x.1 = true ∧ x.2 = w.2) prs.length fun j hj => by
    obtain ⟨w, hw⟩ : ∃ w, prs[j]? = some w := ⟨prs[j], List.getElem?_eq_getElem hj⟩
    obtain ⟨b, u, e1, e2, e3⟩ := hpr j w hw
    exact ⟨(u, w.2), w, b, hw, e1, .inl e2, e3, rfl⟩
  have P := PairArg.tuple (prog := X.prog) (w := X.w) a (ps.map Value.ref).toArray (fun j => ps.getD j 0) pv
  refine PySem.call_dict_pairs (knd := mixKind X.prog X.w) (kvs := prs) P (I.ok.hd hc) ⟨⟨ob, n, hg, hcl, hob, hdat⟩, by rw [lv, hl]; simp, fun j k v e => ?_⟩ ⟨lv.symm, fun j k v e => ?_⟩ (by rw [lv, hl]; exact hz) fun g tk hd' kk => ?_
  · obtain ⟨w, b, h1, h2, h3, h4, h5⟩ := hv j (k, v) e
    have e0 : ps.getD j 0 = b := by rw [List.getD_eq_getElem?_getD, h2]; rfl
    show (ps.map Value.ref).toArray[j]? = some (.ref (ps.getD j 0)) ∧ PySem.PairAt s.heap (ps.getD j 0) k v
    rw [e0]
    exact ⟨by simp [h2], h3⟩
  · obtain ⟨w, b, h1, h2, h3, h4, h5⟩ := hv j (k, v) e
    exact ⟨w.1, by rw [h1]; show some w = some (w.1, v); rw [show v = w.2 from h5], h4⟩
  · have hm : (s.heap.objs.size == sysModules) = false := beq_eq_false_iff_ne.mpr (Nat.ne_of_gt I.big)
    have hlen : (mergeK [] kvs).length ≤ sizeLine := by
      have z := length_mergeK kvs []
      rw [List.length_nil, Nat.zero_add, rel.length, hl] at z
      omega
    exact ⟨.ref s.heap.objs.size, _, I.laid (t' := tk) (fun b o e => kk b o (fun z => nomatch z) e) (Nat.le_refl _) (show ObjOk X.prog X.w (upd H s.heap.objs.size (.dK (mergeK [] kvs))) g s.heap.objs.size (.dK (mergeK [] kvs)) from ⟨hlen, hm, merged [] prs, KV.merge rel .nil, hd'⟩), rfl, q _ (I.hok.fresh (Nat.le_refl _))⟩
end Mini

set_option Elab.async false
set_option maxRecDepth 100000
namespace Mini
open PySem L2
/-- the pairs (key, value) of a list -/
def prK : List D → Option (List (Key × D))
  | [] => some []
  | .tup [a, b] :: r => (match keyD a, prK r with
    | some k, some ks => some ((k, b) :: ks)
    | _, _ => none)
  | _ :: _ => none
/-- dict(t): a new dict, to be changed -/
def fDictP : FN
  | [.ptp xs], m => (match prK xs with
    | some ps => some (.ref m.length, m ++ [.dct (mergeD [] ps)])
    | none => none)
  | _, _ => none
section
variable {K : PySem.W.Frag} {cm : Nat → Addr} {ρ : Wd} {H : Hp}
theorem prK_rel : ∀ {xs : List V} {ds : List D} {ps : List (Key × D)}, RDs K ρ H xs ds → prK ds = some ps → ∃ (as : List Addr) (es : List (Key × V)), xs = as.map V.ref ∧ Paired (fun p kv => SqT K H p [kV kv.1, kv.2]) as es ∧ RKs K ρ H es ps
  | _, _, _, .nil, h => by
    cases h
    exact ⟨[], [], rfl, .nil, .nil⟩
  | _, _, ps, .cons (v := v) (vs := vs) (d := d) (ds := ds) r t, h => by
    unfold prK at h
    split at h
    · rename_i e
      cases e
    · rename_i a b r' e
      cases e
      split at h
      · rename_i k ks h1 h2
        cases h
        obtain ⟨as, es, e1, e2, e3⟩ := prK_rel t h2
        cases r with
        | tup hq rx =>
          cases rx with
          | cons ra rb =>
            cases rb with
            | cons rb rn =>
              cases rn
              have ek := key_rel ra h1
              subst ek
              exact ⟨_ :: as, (k, _) :: es, by rw [e1]; rfl, .cons hq.sq e2, .cons rb e3⟩
      · cases h
    · cases h
theorem src_dictP : SRC K cm fDictP (fun us H Q => ∃ (a : Addr) (ob : Obj) (ps : List Addr) (kvs : List (Key × V)), us = [.ref a] ∧ H a = some (.frz ob (.tup (ps.map V.ref))) ∧ ob.dict = none ∧ Paired (fun p kv => SqT K H p [kV kv.1, kv.2]) ps kvs ∧
    ∀ p, H p = none → Q (.ref p) (upd H p (.dK (mergeK [] kvs)))) := by
  intro ρ m H xs ds d3 m' Q R r e q
  unfold fDictP at e
  split at e
  · split at e
    · rename_i ps hp
      cases e
      obtain ⟨x, rfl, rx⟩ := one_of r
      cases rx with
      | ptp n h hd rr =>
        obtain ⟨as, es, ex, hq, rk⟩ := prK_rel rr hp
        subst ex
        exact ⟨_, _, as, es, rfl, h, hd, hq, fun p hpp => q _ _ _ (Ev.alloc hpp) (R.alloc hpp ⟨_, upd_same, (rks_merge rk .nil).mono (Ev.alloc hpp)⟩) (.ref R.last)⟩
    · cases e
  · cases e
end
end Mini

set_option Elab.async false
set_option maxRecDepth 100000
namespace Mini
open PySem L2 PyProof.Rows

/-! ### sorted(t) of a tuple of pairs of ints -/
def rSrTup (K : PySem.W.Frag) : List V → Hp → VK → Prop := fun us H Q => ∃ (a : Addr) (ps : List Addr) (qs : List (Int × Int)), us = [.ref a] ∧ SqT K H a (ps.map V.ref) ∧ Paired (fun p q => SqT K H p [.int q.1, .int q.2]) ps qs ∧
  ∀ (zs : List (Addr × (Int × Int))) (l : Addr), zs.Perm (ps.zip qs) → SrtO.Srtd SrtO.lexB (zs.map (·.2)) → H l = none → Q (.ref l) (upd H l (.lst (zs.map fun z => V.ref z.1)))
theorem cr_srTup {X : Cx} : CallR X (.builtin "sorted") (rSrTup X.K) := by
  intro pins s σ H us vs0 Q I r ⟨a, ps, qs, ex, hp, hq, q⟩
  subst ex
  obtain rfl := Vals.ref1 r
  obtain ⟨its, rv, ⟨o, ho, hcl, n, hdat⟩, hz⟩ := I.tuple hp
  have ei := refs_at rv
  subst ei
  rw [List.length_map] at hz
  have n4 : ps.length = qs.length := Paired.length hq
  have pr : ∀ z ∈ ps.zip qs, ∃ o t u n, s.heap.get? z.1 = some o ∧ o.cls = .type "tuple" ∧ o.data = .seq #[.int z.2.1 t, .int z.2.2 u] n := by
    intro z hzz
    obtain ⟨k, hk⟩ := List.mem_iff_getElem?.mp hzz
    obtain ⟨ea, eq⟩ := List.getElem?_zip_eq_some.mp hk
    obtain ⟨w, hw, h⟩ := LiI.paired_get hq ea
    rw [eq] at hw
    cases hw
    obtain ⟨us, ru, ⟨o, ho, hcl, n, hdat⟩, _⟩ := I.tuple h
    obtain ⟨u1, u2, rfl, ⟨t1, rfl⟩, ⟨t2, rfl⟩⟩ := vals2 ru
    exact ⟨o, t1, t2, n, ho, hcl, hdat⟩
  have kz : ∀ z ∈ ps.zip qs, prAt s.heap (.ref z.1) = z.2 := by
    intro z hzz
    obtain ⟨o, t, u, n, e1, e2, e3⟩ := pr z hzz
    simp only [prAt, e1, e3]
  have fst : (ps.zip qs).map (fun z => Value.ref z.1) = ps.map Value.ref := by
    have e : ps = (ps.zip qs).map (·.1) := (List.map_fst_zip (Nat.le_of_eq n4)).symm
    conv => rhs; rw [e, List.map_map]
    all_goals rfl
  have ip : ∀ v ∈ ps.map Value.ref, Srt.IsPair s.heap v (prAt s.heap v).1 (prAt s.heap v).2 := by
    intro v hv
    rw [← fst] at hv
    obtain ⟨z, hz1, rfl⟩ := List.mem_map.mp hv
    obtain ⟨o, t, u, n, e1, e2, e3⟩ := pr z hz1
    rw [kz z hz1]
    exact ⟨z.1, _, t, u, _, rfl, e1, e2, e3⟩
  have sl : (ps.map Value.ref).length ≤ sizeLine := by rw [List.length_map]; omega
  refine Calls.call_function_entry kind_sorted plain_sorted entry_sorted (args_sorted1 _) ?_
  unfold Builtin.«sorted»
  refine wpAny_bind (m := checkCount "sorted" 1 1 _) (wpAny_pure ?_)
  refine wpAny_bind (wpAny_collect_seq a (.inr rfl) ho hcl hdat (fun g hk => ?_) (by simpa using hz))
  rw [List.toList_toArray]
  refine wpAny_bind (wpAny_newList ?_ sl)
  have hob : (g.push { cls := .type "list", data := .seq (ps.map Value.ref).toArray }).get? g.objs.size = some (seqObj "list" (ps.map Value.ref).toArray 0) := Heap.get?_push_size _ rfl
  have low : ∀ b o, s.heap.get? b = some o → b ≠ g.objs.size := fun b o e => Nat.ne_of_lt (Heap.lt_size (hk b o e))
  have up1 : ∀ b o, s.heap.get? b = some o → (g.push { cls := .type "list", data := .seq (ps.map Value.ref).toArray }).get? b = some o := fun b o e => Heap.get?_push_of_some _ (hk b o e)
  have J : Inv X pins σ H { s with heap := g } := I.kept (t' := s.toks) hk
  have ug : ∀ b o, g.get? b = some o → b ≠ g.objs.size ∧ (g.push { cls := .type "list", data := .seq (ps.map Value.ref).toArray }).get? b = some o := fun b o e => ⟨Nat.ne_of_lt (Heap.lt_size e), Heap.get?_push_of_some _ e⟩
  generalize g.push { cls := .type "list", data := .seq (ps.map Value.ref).toArray } = g2 at hob up1 ug ⊢
  refine wpAny_bind (wpAny_holding (wpAny_call_entry slot_list_sort ⟨_, hob, rfl⟩ entry_list_sort (SrtO.list_sort_ord (s := { s with heap := g2 }) (SrtO.swo_lex (prAt s.heap)) hob sl (fun h2 =>
    SrtO.pairs_sortableO (s := { s with heap := g2 }) (by omega) (fun v hv => (ip v hv).keeps fun b o e _ => up1 b o e) fun o e => ?_) fun out o1 o2 => ⟨_, rfl, ?_⟩) (args_list_sort _)))
  · have e2 : some o = some (seqObj "list" (ps.map Value.ref).toArray 0) := e.symm.trans hob
    cases e2
    exact fun c => absurd (Value.type.inj c) (by decide)
  · refine wpAny_pure ⟨_, rfl, ?_⟩
    obtain ⟨zs, pz, ez⟩ := perm_lift (fun z : Addr × (Int × Int) => Value.ref z.1) o2.perm (ps.zip qs) fst
    have mz : ∀ z ∈ zs, z ∈ ps.zip qs := fun z h => pz.mem_iff.mp h
    have so : SrtO.Srtd SrtO.lexB (zs.map (·.2)) := by
      rw [← ez] at o1
      refine List.pairwise_map.mpr (List.Pairwise.imp_of_mem (fun {x y} hx hy h => ?_) (List.pairwise_map.mp o1))
      rw [← kz x (mz x hx), ← kz y (mz y hy)]
      exact h
    obtain ⟨eF, hF⟩ := sortedHeap_at (vs := ps.map Value.ref) (out := out.toArray) hob
    have kF : ∀ b o, g.get? b = some o → (sortedHeap g2 g.objs.size (ps.map Value.ref) out.toArray).get? b = some o := fun b o e => (sortedHeap_old (ug b o e).1 (Heap.lt_size (ug b o e).2)).trans (ug b o e).2
    have nz : zs.length = ps.length := by rw [pz.length_eq, List.length_zip, n4, Nat.min_self]
    have rz : Vals (zs.map fun z => V.ref z.1) out := by
      rw [← ez]
      exact vals_maps (fun z : Addr × (Int × Int) => V.ref z.1) (fun z => Value.ref z.1) zs fun _ _ => rfl
    exact ⟨.ref g.objs.size, _, J.laid (t' := s.toks) kF (Nat.le_refl _) (show ObjOk X.prog X.w (upd H g.objs.size (.lst (zs.map fun z => V.ref z.1))) (sortedHeap g2 g.objs.size (ps.map Value.ref) out.toArray) g.objs.size (.lst (zs.map fun z => V.ref z.1)) from ⟨by rw [List.length_map]; omega, out, eF, rz, hF⟩), rfl, q zs _ pz so (J.hok.fresh (Nat.le_refl _))⟩
end Mini

set_option Elab.async false
set_option maxRecDepth 100000
namespace Mini
open PySem L2 PyProof.Rows

/-! ### the keys of a dict: from then on it is locked -/
def tKeysL (td : TE) : TI := fun σ H R => td σ H fun x H1 => ∃ d, x = .ref d ∧ ((∃ o kvs, H1 d = some (.frz o (.dK kvs)) ∧ R (Itk d o kvs) H1) ∨ ∃ kvs, H1 d = some (.dK kvs) ∧ ∀ o, R (Itk d o kvs) (upd H1 d (.frz o (.dK kvs))))
theorem pi_keysL {X : Cx} {tg e : Expr} {td : TE} (he : PE X e td) : PI X tg e (tKeysL td) := by
  refine ⟨fun pins s σ H R I h => ?_⟩
  refine thn (he.run pins s σ H _ I h) fun u s1 ⟨x, H1, I1, rx, d, ex, q⟩ => ?_
  subst ex
  obtain rfl : u = Value.ref d := rx
  rcases q with ⟨o, kvs, hd, q⟩ | ⟨kvs, hd, q⟩
  · obtain ⟨a1, a2, a3, es, ep, vs, a4, a5, _, _⟩ := I1.frzK hd
    refine iter_keys a1 a2 a3 a4 (pi_one (tk := s1.toks) I1 _ (turn_keys _ a4) ⟨_, Heap.get?_push_size _ rfl, rfl, ?_⟩ q)
    rw [a5] <;> rfl
  · obtain ⟨o, I2⟩ := I1.lock hd True.intro
    obtain ⟨a1, a2, a3, es, ep, vs, a4, a5, _, _⟩ := I2.frzK (upd_same)
    refine iter_keys a1 a2 a3 a4 (pi_one (tk := s1.toks) I2 _ (turn_keys _ a4) ⟨_, Heap.get?_push_size _ rfl, rfl, ?_⟩ (q o))
    rw [a5] <;> rfl
def keyV : Key → D
  | .inl i => .int i
  | .inr x => .str x
def keysD (kvs : List (Key × D)) : List D := kvs.map fun kv => keyV kv.1
def iKeysD (a : XE) : XI := fun sg m => match a sg m with
  | some (.ref i, m1) => (match m1[i]? with
    | some (.dct kvs) => some (keysD kvs, m1.set i (.dctL kvs))
    | some (.dctL kvs) => some (keysD kvs, m1)
    | _ => none)
  | _ => none
section
variable {K : PySem.W.Frag} {cm : Nat → Addr} {ρ ρ0 : Wd} {H : Hp} {m : M}
theorem RKs.keys : ∀ {es : List (Key × V)} {kvs : List (Key × D)}, RKs K ρ H es kvs → es.map (·.1) = kvs.map (·.1)
  | _, _, .nil => rfl
  | _, _, .cons _ r => by simp [RKs.keys r]
theorem walks_keys {i : Nat} {a : Addr} {o : Obj} {es : List (Key × V)} {ks : List Key} (R0 : Rep K cm ρ m H) (ha : ρ.ρ[i]? = some a) (h : H a = some (.frz o (.dK es))) (e : es.map (·.1) = ks) : Walks K cm ρ H (Itk a o es) (ks.map keyV) := by
  intro ρ0 h0 ρ' m' H' E R
  have hz : a ∉ ρ0.Z := by
    rcases h0 with rfl | ⟨p, hp, rfl⟩
    · exact fun q => R0.zd a q (List.mem_of_getElem? ha)
    · intro q
      rcases List.mem_cons.mp q with q | q
      · subst q
        rw [hp] at h
        cases h
      · exact R0.zd a q (List.mem_of_getElem? ha)
  have h' := E.frz a o _ hz h
  subst e
  refine ⟨fun j d hd => ?_, h', by simp⟩
  simp only [List.getElem?_map, Option.map_eq_some_iff] at hd
  obtain ⟨k, ⟨kv, hkv, rfl⟩, rfl⟩ := hd
  refine ⟨⟨h', (List.getElem?_eq_some_iff.mp hkv).1⟩, ?_⟩
  rintro y H2 ⟨rfl, k, v, hk, rfl⟩
  rw [hkv] at hk
  cases hk
  refine ⟨Ev.refl _ _, R, ?_⟩
  show RD K ρ' _ (kV k) (keyV k)
  cases k with
  | inl i => exact .int
  | inr x => exact .str
theorem si_keys {X : Cx} {cm : Nat → Addr} {tg l : Expr} {xa : XE} (ha : SE cm X l xa) : SI cm X tg l (iKeysD xa) := PI_imp (pi_keysL ha) fun σ H R h => by
  obtain ⟨ρ, sg, m, ds, m', hs, hr, e, q⟩ := h
  unfold iKeysD at e
  split at e
  · rename_i i m1 e1
    split at e
    · rename_i kvs hm
      cases e
      refine ⟨ρ, sg, m, _, _, hs, hr, e1, fun ρ1 v H1 E1 R1 r1 => ?_⟩
      obtain ⟨a, rfl, hi, es, hA, rf⟩ := ref_at R1 r1 hm
      refine ⟨a, rfl, .inr ⟨es, hA, fun o => ?_⟩⟩
      have EW : Ev ρ1 H1 ρ1 (upd H1 a (.frz o (.dK es))) := Ev.write hi
      have RW := R1.write hi (o := .dctL kvs) (u := .frz o (.dK es)) ⟨o, es, upd_same, rf.mono EW⟩
      refine q ρ1 _ _ (E1.trans EW) RW ?_
      have := walks_keys (ks := kvs.map (·.1)) RW hi upd_same rf.keys
      rw [List.map_map] at this
      exact this
    · rename_i kvs hm
      cases e
      refine ⟨ρ, sg, m, _, _, hs, hr, e1, fun ρ1 v H1 E1 R1 r1 => ?_⟩
      obtain ⟨a, rfl, hi, o, es, hA, rf⟩ := ref_at R1 r1 hm
      refine ⟨a, rfl, .inl ⟨o, es, hA, q ρ1 _ _ E1 R1 ?_⟩⟩
      have := walks_keys (ks := kvs.map (·.1)) R1 hi hA rf.keys
      rw [List.map_map] at this
      exact this
    · cases e
  · cases e
end
end Mini

set_option Elab.async false
set_option maxRecDepth 100000
namespace Mini
open PySem L2

/-! ### dict comprehensions: a dict that is changed -/
section
variable {K : PySem.W.Frag} {cm : Nat → Addr} {ρ : Wd} {H : Hp} {m : M} {p : Addr} {z : List Addr}
theorem Rep.adoptO {o : O} (h : Rep K cm ρ m H) (hp : p ∈ ρ.Z) (hz : ∀ x ∈ z, x ∈ ρ.Z) (hpz : p ∉ z) (r : RO K cm (ρ.adopt p z) H p o) : Rep K cm (ρ.adopt p z) (m ++ [o]) H := by
  have hn := h.zd p hp
  refine ⟨by simp [Wd.adopt, h.len], ?_, fun x hx => h.zt x (hz x hx), fun x hx q => ?_, fun i u e => ?_⟩
  · show (ρ.ρ ++ [p]).Nodup
    rw [List.nodup_append]
    refine ⟨h.nd, by simp, fun a ha b hb => ?_⟩
    have : b = p := by simpa using hb
    subst this
    rintro rfl
    exact hn ha
  · rcases List.mem_append.mp q with q | q
    · exact h.zd x (hz x hx) q
    · have e : x = p := by simpa using q
      exact hpz (e ▸ hx)
  · show ∃ a, (ρ.ρ ++ [p])[i]? = _ ∧ _
    by_cases hi : i < m.length
    · rw [List.getElem?_append_left hi] at e
      obtain ⟨a, e1, r⟩ := h.at_ i u e
      exact ⟨a, by rw [List.getElem?_append_left (by rw [h.len]; exact hi)]; exact e1, r.adopt hp hz⟩
    · have e3 : i = m.length := by
        have := (List.getElem?_eq_some_iff.mp e).1
        simp at this
        omega
      subst e3
      rw [List.getElem?_concat_length] at e
      cases e
      exact ⟨p, by rw [← h.len, List.getElem?_concat_length], r⟩
end
def loopDC (g : XG) (t : XT) (k e : XE) (sg : Sg) : List D → List (Key × D) → M → Option (List (Key × D) × M)
  | [], acc, m => some (acc, m)
  | d :: r, acc, m => match g d sg m with
    | none => none
    | some (sg2, m1) => match t sg2 m1 with
      | none => none
      | some (true, m2) => (match k sg2 m2 with
        | none => none
        | some (kd, m3) => match keyD kd with
          | none => none
          | some kk => match e sg2 m3 with
            | none => none
            | some (y, m4) => loopDC g t k e sg r (putD acc kk y) m4)
      | some (false, m2) => loopDC g t k e sg r acc m2
def xDc (vs : List Nat) (i : XI) (g : XG) (t : XT) (k e : XE) : XE := fun sg m => match i sg m with
  | none => none
  | some (ds, m1) => if ds.length ≤ 100000 then (match loopDC g t k e (wipeS sg vs) ds [] m1 with
    | some (ys, m2) => some (.ref m2.length, m2 ++ [.dct ys])
    | none => none) else none
theorem t_dc {K : PySem.W.Frag} {cm : Nat → Addr} {vs : List Nat} {i : XI} {g : TG} {xg : XG} {t : XT} {k e : XE} {σ : St} {H : Hp} {Q : VK} (hg : TGt K cm vs g xg) (h : tE K cm (xDc vs i xg t k e) σ H Q) : tDc (tI K cm i) g (tT K cm t) (tE K cm k) (tE K cm e) vs σ H Q := by
  obtain ⟨ρ, sg, m, d, m', hs, hr, e0, q⟩ := h
  unfold xDc at e0
  split at e0
  · cases e0
  · rename_i ds m1 e1
    split at e0
    · rename_i hlen
      split at e0
      · rename_i ys mE e2
        cases e0
        refine ⟨ρ, sg, m, ds, m1, hs, hr, e1, fun ρ1 J H1 E1 R1 w A hA => ?_⟩
        refine ⟨fun i μ H' => ∃ ρ' m3 acc dacc, Ev (ρ1.hold A) H1 ρ' H' ∧ Rep K cm ρ' m3 H' ∧ H' A = some (.dK acc) ∧ RKs K ρ' H' acc dacc ∧ i + μ = ds.length ∧ acc.length ≤ i ∧ loopDC xg t k e (wipeS sg vs) (ds.drop i) dacc m3 = some (ys, mE),
          ⟨ds.length, ρ1.hold A, m1, [], [], (Ev.refl _ _).put hA, R1.held hA, upd_same, .nil, by omega, by simp, e2⟩, ?_⟩
        rintro i μ H' ⟨ρ', m3, acc, dacc, E', R', hacc, racc, hm, hl, el⟩
        have hz : A ∈ ρ'.Z := by rw [E'.same]; exact List.mem_cons_self
        obtain ⟨w1, w2⟩ := w (ρ1.hold A) (.inr ⟨A, hA, rfl⟩) ρ' m3 H' E'.z R'
        by_cases hi : i < ds.length
        · obtain ⟨d, hd⟩ : ∃ d, ds[i]? = some d := ⟨ds[i], by simp [hi]⟩
          obtain ⟨g1, g2⟩ := w1 i d hd
          have hdrop : ds.drop i = d :: ds.drop (i + 1) := by
            rw [List.drop_eq_getElem_cons hi]
            congr 1
            rw [List.getElem?_eq_getElem hi] at hd
            exact Option.some.inj hd
          rw [hdrop] at el
          simp only [loopDC] at el
          refine .inr ⟨g1, fun H'' => ∃ ρ' m3 acc dacc, Ev (ρ1.hold A) H1 ρ' H'' ∧ Rep K cm ρ' m3 H'' ∧ H'' A = some (.dK acc) ∧ RKs K ρ' H'' acc dacc ∧ acc.length ≤ i + 1 ∧ loopDC xg t k e (wipeS sg vs) (ds.drop (i + 1)) dacc m3 = some (ys, mE), ?_, fun x H2 hy => ?_⟩
          · rintro H'' ⟨ρ'', m4, acc', dacc', a1, a2, a3, a4, a5, a6⟩
            exact ⟨μ - 1, by omega, ρ'', m4, acc', dacc', a1, a2, a3, a4, by omega, a5, a6⟩
          · obtain ⟨E2, R2, r2⟩ := g2 x H2 hy
            split at el
            · cases el
            · rename_i sg2 m4 eg
              have S2 : RS K ρ' H2 (L2.wipe σ vs) (wipeS sg vs) := ((hs.mono E1).wipe vs).holdS hA |>.mono (E'.trans E2)
              refine hg.to x _ H2 _ ρ' _ m3 d sg2 m4 S2 R2 r2 eg fun σ2 s2 we R4 => ⟨we.trans (wipe_wipe σ vs), ?_⟩
              split at el
              · cases el
              · rename_i m5 et
                refine ⟨ρ', sg2, m4, true, m5, s2, R4, et, fun ρ5 H5 E5 R5 => iteT ?_⟩
                split at el
                · cases el
                · rename_i kd m6 ek
                  split at el
                  · cases el
                  · rename_i kk hkk
                    split at el
                    · cases el
                    · rename_i y m7 ey
                      refine ⟨ρ5, sg2, m5, kd, m6, s2.mono E5, R5, ek, fun ρ6 yk H6 E6 R6 r6 => ?_⟩
                      refine ⟨ρ6, sg2, m6, y, m7, (s2.mono E5).mono E6, R6, ey, fun ρ7 v H7 E7 R7 r7 => ?_⟩
                      have E27 := ((E2.trans E5).trans E6).trans E7
                      have h7 : H7 A = some (.dK acc) := E27.lst A _ (R'.zd A hz) hacc
                      have hz7 : A ∈ ρ7.Z := by rw [E27.same]; exact hz
                      have rr := RKs.put (k := kk) r7 (racc.mono E27)
                      have hlen2 := length_putK acc kk v
                      exact ⟨acc, kk, key_rel r6 hkk, h7, szl (by omega), ρ7, m7, putK acc kk v, putD dacc kk y, (E'.trans E27).put hA, R7.updZ hz7, upd_same, rr.updZ hz7, by omega, el⟩
              · rename_i m5 et
                refine ⟨ρ', sg2, m4, false, m5, s2, R4, et, fun ρ5 H5 E5 R5 => iteF ?_⟩
                have E25 := E2.trans E5
                exact ⟨ρ5, m5, acc, dacc, E'.trans E25, R5, E25.lst A _ (R'.zd A hz) hacc, racc.mono E25, by omega, el⟩
        · have hi' : i = ds.length := by omega
          subst hi'
          rw [List.drop_length] at el
          cases el
          have hsub : ∀ x ∈ ρ1.Z, x ∈ ρ'.Z := fun x hx => by rw [E'.same]; exact List.mem_cons_of_mem _ hx
          have hnz : A ∉ ρ1.Z := fun q => by
            obtain ⟨u, e⟩ := R1.zt A q
            rw [hA] at e
            cases e
          have EE : Ev ρ1 H1 (ρ'.adopt A ρ1.Z) H' := by
            obtain ⟨more, em⟩ := E'.more
            refine ⟨⟨more ++ [A], by show ρ'.ρ ++ [A] = _; rw [em, ← List.append_assoc]; rfl⟩, rfl, fun a u n r => ?_, E'.lst, E'.frz⟩
            obtain ⟨r1, r2⟩ := E'.rd' a u n r
            refine ⟨r1, fun q => ?_⟩
            rcases List.mem_append.mp q with q | q
            · exact r2 q
            · have e : a = A := by simpa using q
              subst e
              rcases r with r | ⟨_, r⟩ <;> (rw [hA] at r; cases r)
          refine .inl ⟨w2, q (ρ'.adopt A ρ1.Z) (.ref A) H' (E1.trans EE) (R'.adoptO hz hsub hnz ⟨acc, hacc, racc.adopt hz hsub⟩) (.ref ?_)⟩
          show (ρ'.ρ ++ [A])[_]? = _
          rw [← R'.len, List.getElem?_concat_length]
      · cases e0
    · cases e0
theorem se_dc {cm : Nat → Addr} {X : Cx} {tg kx vx iter : Expr} {ifs : List Expr} {scope : Scope} {own : List (Str × Nat)} {pos : Pos} {xi : XI} {g : TG} {xg : XG} {xt : XT} {xk xe : XE} (hc : X.calm = true) (hN : X.N.Nodup) (hi : SI cm X tg iter xi) (ok : BlkOk X.N X.env.scope scope own)
    (hg : Blk X scope fun Y => PG Y tg g) (hG : TGt X.K cm (own.map (·.2)) g xg) (ht : Blk X scope fun Y => PTs Y ifs (tT X.K cm xt)) (hk : Blk X scope fun Y => SE cm Y kx xk) (he : Blk X scope fun Y => SE cm Y vx xe)
    (hs : ∀ x, foldedSetIterable iter X.env x = pure x := by intro _; rfl) : SE cm X (.DictComp kx vx [⟨tg, iter, ifs, 0⟩] scope pos) (xDc (own.map (·.2)) xi xg xt xk xe) :=
  PE_imp (pe_dc hc hN hi ok hg ht hk he hs) fun _ _ _ h => t_dc hG h
end Mini

set_option Elab.async false
set_option maxRecDepth 100000
namespace Mini
open PySem PySem.Spec PyProof.Rows L2

/-! ### name = {..} on one row, the name a local -/
theorem ps_setDc {X : Cx} {i : Nat} {y : Str} {py : Pos} {kx vx tg iter : Expr} {ifs : List Expr} {scope : Scope} {own : List (Str × Nat)} {pos spos : Pos} {wi : TI} {g : TG} {tt : TT} {tk tv : TE} (hc : X.calm = true) (hN : X.N.Nodup) (hy : X.N[i]? = some y) (hyl : X.env.scope.names.lookup y = some .local)
    (hsw : swapsWith (.DictComp kx vx [⟨tg, iter, ifs, 0⟩] scope pos) (some (.Name y py)) spos.line X.env = pure true) (hi : PI X tg iter wi) (ok : BlkOk X.N X.env.scope scope own)
    (hg : Blk X scope fun Y => PG Y tg g) (ht : Blk X scope fun Y => PTs Y ifs tt) (hk : Blk X scope fun Y => PE Y kx tk) (he : Blk X scope fun Y => PE Y vx tv) (hs : ∀ x, foldedSetIterable iter X.env x = pure x := by intro _; rfl) :
    PS X (.Assign [.Name y py] (.DictComp kx vx [⟨tg, iter, ifs, 0⟩] scope pos) spos) (tAsg (tDc wi g tt tk tv (own.map (·.2))) (gName i)) := by
  refine ⟨fun pins s σ H D I h => ?_⟩
  rw [exec_Assign_Name_used _ _ _ _ hsw]
  refine wpAny_bind (wpAny_standAt (wpAny_bind ?_))
  show wpAny _ X.A (do let _ ← comprehension (.DictComp kx vx [⟨tg, iter, ifs, 0⟩] scope pos) scope X.env (firstIterPos [⟨tg, iter, ifs, 0⟩] pos) newDict false (eval iter X.env) (some (assign (.Name y py) X.env))) _ _ s
  have h' : tDc wi g tt tk tv (own.map (·.2)) σ H (fun x H1 => gName i x σ H1 D.nx) := h
  refine wpAny_bind (thn (dc_core (Qf := fun _ s' => L2.SP X pins D .next s') hc hN I hi ok hg ht hk he hs h' fun L C s' m H' I' q hn f => ?_) fun _ s' hq => wpAny_pure (wpAny_pure hq))
  obtain ⟨f0, f1, f2, f3, f4, f5⟩ := f
  show wpAny _ _ (assign (.Name y py) X.env (.ref L)) _ _ _
  refine wpAny_assign_Name (store_ok2 (v := V.ref L) I' hN hy (.inl hyl) rfl (fun s2 I2 ⟨a, sb, ha⟩ => ?_) (.inr hyl))
  have hCa : C ≠ a := by
    rcases ha with z | z
    · rw [z]; exact f1
    · exact fun e => f4 y a z e.symm
  refine ⟨m, hn.sameBut sb hCa, fun h3 sb3 => ?_⟩
  exact ⟨_, H', I2.turned (t' := s2.toks) (fun b o hb e => (sb3.2 b hb).trans e) f0 f1 f3 f4 f5, q⟩
theorem sw_trueD {kx vx : Expr} {gs : List Comprehension} {scope : Scope} {pos py : Pos} {y : Str} {l : Nat} {env : Env} (hk : env.scope.kind = .function) (hy : env.scope.names.lookup y = some .local) (hl : (py.line == pos.line) = true)
    (ha : (scope.names.any fun (n, k) => n == y && (k == .local || k == .cell)) = false) : swapsWith (.DictComp kx vx gs scope pos) (some (.Name y py)) l env = pure true := by
  have ky : env.kindOf y = some .local := hy
  have hb : env.blockKind = .function := by unfold Env.blockKind; rw [hk]; rfl
  unfold swapsWith
  simp only [hb, ky, ha, Expr.pos, hl]
  rfl
theorem s_setDc {cm : Nat → Addr} {X : Cx} (i : Nat) {y : Str} {py : Pos} {tg kx vx iter : Expr} {ifs : List Expr} {scope : Scope} {own : List (Str × Nat)} {pos spos : Pos} {xi : XI} {g : TG} {xg : XG} {xt : XT} {xk xe : XE} (hc : X.calm = true) (hN : X.N.Nodup) (hi : SI cm X tg iter xi) (ok : BlkOk X.N X.env.scope scope own)
    (hg : Blk X scope fun Y => PG Y tg g) (hG : TGt X.K cm (own.map (·.2)) g xg) (ht : Blk X scope fun Y => PTs Y ifs (tT X.K cm xt)) (hk : Blk X scope fun Y => SE cm Y kx xk) (he : Blk X scope fun Y => SE cm Y vx xe)
    (hsw : swapsWith (.DictComp kx vx [⟨tg, iter, ifs, 0⟩] scope pos) (some (.Name y py)) spos.line X.env = pure true)
    (hy : X.N[i]? = some y := by rfl) (hyl : X.env.scope.names.lookup y = some .local := by rfl)
    (hs : ∀ x, foldedSetIterable iter X.env x = pure x := by intro _; rfl) : SS cm X (.Assign [.Name y py] (.DictComp kx vx [⟨tg, iter, ifs, 0⟩] scope pos) spos) (sSet i (xDc (own.map (·.2)) xi xg xt xk xe)) :=
  PS_imp (ps_setDc (i := i) hc hN hy hyl hsw hi ok hg ht hk he hs) fun D σ H h => by
  obtain ⟨ρ, sg, m, fl, sg', m', hs, hr, e, q⟩ := h
  unfold sSet at e
  split at e
  · rename_i d m1 e1
    cases e
    exact t_dc hG ⟨ρ, sg, m, d, m', hs, hr, e1, fun ρ' v H' E R r => q ρ' _ H' E ((hs.mono E).set r i) R⟩
  · cases e

/-! ### for over a list, a tuple, or a list that may be changed -/
theorem PS_or {X : Cx} {st : Stmt} {t t' : TS} (h : PS X st t) (h' : PS X st t') : PS X st (fun D σ H => t D σ H ∨ t' D σ H) := ⟨fun pins s σ H D I q => q.elim (h.run pins s σ H D I) (h'.run pins s σ H D I)⟩
theorem PE_or {X : Cx} {e : Expr} {t t' : TE} (h : PE X e t) (h' : PE X e t') : PE X e (fun σ H Q => t σ H Q ∨ t' σ H Q) := ⟨fun pins s σ H Q I q => q.elim (h.run pins s σ H Q I) (h'.run pins s σ H Q I)⟩
def isRefD : D → Bool
  | .ref _ => true
  | _ => false
def sForA (n : Nat) (a : XE) (g : XG) (b : XS) : XS := fun sg m => match a sg m with
  | none => none
  | some (d, _) => match isRefD d with
    | true => sForL n a g b sg m
    | false => sFor (iSeq a) g b sg m
theorem s_forA {cm : Nat → Addr} {X : Cx} {tg iter : Expr} {body : List Stmt} {xa : XE} {g : XG} {b : XS} {pos : Pos} (n : Nat) (hp : PassesOwn (model X.prog X.w) X.A X.env X.xe) (hc : X.calm = true) (hi : SE cm X iter xa) (hg : SG cm X tg g) (hb : SSs cm X body b)
    (hs : ∀ x, foldedSetIterable iter X.env x = pure x := by intro _; rfl) : SS cm X (.For tg iter body [] pos) (sForA n xa g b) := PS_imp (PS_or (s_forL n hp hc hi hg hb hs) (s_for hp hc (si_seq hi) hg hb hs)) fun D σ H h => by
  obtain ⟨ρ, sg, m, fl, sg', m', hs, hr, e, q⟩ := h
  unfold sForA at e
  split at e
  · cases e
  · split at e
    · exact .inl ⟨ρ, sg, m, fl, sg', m', hs, hr, e, q⟩
    · exact .inr ⟨ρ, sg, m, fl, sg', m', hs, hr, e, q⟩
end Mini

set_option Elab.async false
set_option maxRecDepth 100000
namespace Mini
open PySem L2

/-! ### a comprehension over a list that may be changed -/
def loopCL (g : XG) (t : XT) (e : XE) (sg : Sg) (i0 : Nat) : Nat → Nat → M → Option (List D × M)
  | 0, _, _ => none
  | f + 1, j, m => match m[i0]? with
    | some (.lst xs) => (match xs[j]? with
      | none => some ([], m)
      | some d => match g d sg m with
        | none => none
        | some (sg2, m1) => match t sg2 m1 with
          | none => none
          | some (true, m2) => (match e sg2 m2 with
            | none => none
            | some (y, m3) => match loopCL g t e sg i0 f (j + 1) m3 with
              | some (ys, m4) => some (y :: ys, m4)
              | none => none)
          | some (false, m2) => loopCL g t e sg i0 f (j + 1) m2)
    | _ => none
def xLcL (vs : List Nat) (a : XE) (g : XG) (t : XT) (e : XE) : XE := fun sg m => match a sg m with
  | some (.ref i, m1) => (match m1[i]? with
    | some (.lst _) => (match loopCL g t e (wipeS sg vs) i 100000 0 m1 with
      | some (ys, m2) => some (.lst ys, m2)
      | none => none)
    | _ => none)
  | _ => none
abbrev tLi (K : PySem.W.Frag) (t : TE) : TI := fun σ H R => t σ H fun x H1 => ∃ a, x = .ref a ∧ (∃ xs, SqL K H1 a xs) ∧ R (Itl K a) H1
theorem t_lcL {K : PySem.W.Frag} {cm : Nat → Addr} {vs : List Nat} {a : XE} {g : TG} {xg : XG} {t : XT} {e : XE} {σ : St} {H : Hp} {Q : VK} (hg : TGt K cm vs g xg) (h : tE K cm (xLcL vs a xg t e) σ H Q) : tLc (tLi K (tE K cm a)) g (tT K cm t) (tE K cm e) vs σ H Q := by
  obtain ⟨ρ, sg, m, d, m', hs, hr, e0, q⟩ := h
  unfold xLcL at e0
  split at e0
  · rename_i i0 m1 e1
    split at e0
    · rename_i zs0 hz0
      split at e0
      · rename_i ys m2 e2
        cases e0
        refine ⟨ρ, sg, m, _, m1, hs, hr, e1, fun ρ1 v H1 E1 R1 r1 => ?_⟩
        obtain ⟨L, rfl, hi0, xs0, hL0, rz⟩ := ref_at R1 r1 hz0
        refine ⟨L, rfl, ⟨xs0, SqL.of hL0⟩, fun A hA => ?_⟩
        refine ⟨fun i μ H' => ∃ ρ' m3 acc dacc zs, Ev (ρ1.hold A) H1 ρ' H' ∧ Rep K cm ρ' m3 H' ∧ H' A = some (.lst acc) ∧ RDs K ρ' H' acc dacc ∧ i + μ = 100000 ∧ acc.length ≤ i ∧ loopCL xg t e (wipeS sg vs) i0 μ i m3 = some (zs, m') ∧ dacc ++ zs = ys,
          ⟨100000, ρ1.hold A, m1, [], [], ys, (Ev.refl _ _).put hA, R1.held hA, upd_same, .nil, by omega, by simp, e2, rfl⟩, ?_⟩
        rintro i μ H' ⟨ρ', m3, acc, dacc, zs, E', R', hacc, racc, hm, hl, el, etot⟩
        have hz : A ∈ ρ'.Z := by rw [E'.same]; exact List.mem_cons_self
        have Edrop : Ev ρ1 H1 (ρ'.drop ρ1.Z) H' := ⟨E'.more, rfl, E'.rd', E'.lst, E'.frz⟩
        have Rdrop : Rep K cm (ρ'.drop ρ1.Z) m3 H' := R'.dropZ fun x hx => by rw [E'.same]; exact List.mem_cons_of_mem _ hx
        cases μ with
        | zero => cases el
        | succ μ =>
          simp only [loopCL] at el
          split at el
          · rename_i xs hx
            obtain ⟨L', eL, hi', es, hL, ry⟩ := ref_at (v := .ref L) R' (.ref (E'.at (by exact hi0))) hx
            cases eL
            split at el
            · rename_i hj
              cases el
              rw [List.append_nil] at etot
              subst etot
              refine .inl ⟨⟨es, SqL.of hL, ?_⟩, q (ρ'.drop ρ1.Z) (.ref A) H' (E1.trans Edrop) Rdrop (.lst ?_ hacc ?_)⟩
              · rw [ry.length]
                exact List.getElem?_eq_none_iff.mp hj
              · exact ⟨R'.zd A hz, fun q => by
                  obtain ⟨u, e⟩ := R1.zt A q
                  rw [hA] at e
                  cases e⟩
              · exact racc.dropZ fun x hx => by rw [E'.same]; exact List.mem_cons_of_mem _ hx
            · rename_i d hj
              obtain ⟨y, hy, rd⟩ := ry.get hj
              refine .inr ⟨⟨es, y, SqL.of hL, hy⟩, fun H'' => ∃ ρ' m3 acc dacc zs, Ev (ρ1.hold A) H1 ρ' H'' ∧ Rep K cm ρ' m3 H'' ∧ H'' A = some (.lst acc) ∧ RDs K ρ' H'' acc dacc ∧ acc.length ≤ i + 1 ∧ loopCL xg t e (wipeS sg vs) i0 μ (i + 1) m3 = some (zs, m') ∧ dacc ++ zs = ys, ?_, fun x H2 hy2 => ?_⟩
              · rintro H'' ⟨ρ'', m4, acc', dacc', zs', a1, a2, a3, a4, a5, a6, a7⟩
                exact ⟨μ, by omega, ρ'', m4, acc', dacc', zs', a1, a2, a3, a4, by omega, a5, a6, a7⟩
              · obtain ⟨rfl, hyl⟩ := hy2
                have ex := hyl es (SqL.of hL)
                rw [hy] at ex
                cases ex
                split at el
                · cases el
                · rename_i sg2 m4 eg
                  have S2 : RS K ρ' H2 (L2.wipe σ vs) (wipeS sg vs) := ((hs.mono E1).wipe vs).holdS hA |>.mono E'
                  refine hg.to _ _ _ _ ρ' _ m3 d sg2 m4 S2 R' rd eg fun σ2 s2 we R4 => ⟨we.trans (wipe_wipe σ vs), ?_⟩
                  split at el
                  · cases el
                  · rename_i m5 et
                    refine ⟨ρ', sg2, m4, true, m5, s2, R4, et, fun ρ5 H5 E5 R5 => iteT ?_⟩
                    split at el
                    · cases el
                    · rename_i y6 m6 ey
                      split at el
                      · rename_i ys6 m7 er
                        cases el
                        refine ⟨ρ5, sg2, m5, y6, m6, s2.mono E5, R5, ey, fun ρ6 v H6 E6 R6 r6 => ?_⟩
                        have E26 := E5.trans E6
                        have h6 : H6 A = some (.lst acc) := E26.lst A _ (R'.zd A hz) hacc
                        have hz6 : A ∈ ρ6.Z := by rw [E26.same]; exact hz
                        have rr := (racc.mono E26).append (.cons r6 .nil)
                        refine ⟨acc, h6, szl (by omega), ρ6, m6, acc ++ [v], dacc ++ [y6], ys6, (E'.trans E26).put hA, R6.updZ hz6, upd_same, rr.updZ hz6, by simp; omega, er, by rw [List.append_assoc]; exact etot⟩
                      · cases el
                  · rename_i m5 et
                    refine ⟨ρ', sg2, m4, false, m5, s2, R4, et, fun ρ5 H5 E5 R5 => iteF ?_⟩
                    exact ⟨ρ5, m5, acc, dacc, zs, E'.trans E5, R5, E5.lst A _ (R'.zd A hz) hacc, racc.mono E5, by omega, el, etot⟩
          · cases el
      · cases e0
    · cases e0
  · cases e0
theorem se_lcL {cm : Nat → Addr} {X : Cx} {tg elt iter : Expr} {ifs : List Expr} {scope : Scope} {own : List (Str × Nat)} {pos : Pos} {xa : XE} {g : TG} {xg : XG} {xt : XT} {xe : XE} (hc : X.calm = true) (hN : X.N.Nodup) (hi : SE cm X iter xa) (ok : BlkOk X.N X.env.scope scope own)
    (hg : Blk X scope fun Y => PG Y tg g) (hG : TGt X.K cm (own.map (·.2)) g xg) (ht : Blk X scope fun Y => PTs Y ifs (tT X.K cm xt)) (he : Blk X scope fun Y => SE cm Y elt xe)
    (hs : ∀ x, foldedSetIterable iter X.env x = pure x := by intro _; rfl) : SE cm X (.ListComp elt [⟨tg, iter, ifs, 0⟩] scope pos) (xLcL (own.map (·.2)) xa xg xt xe) :=
  PE_imp (pe_lc hc hN (pi_list hi) ok hg ht he hs) fun _ _ _ h => t_lcL hG h
end Mini

set_option Elab.async false
set_option maxRecDepth 100000
namespace Mini
open PySem L2

/-! ### + of tuples, sorted(t) -/
def unP : D → D
  | .ptp xs => .tup xs
  | d => d
def fAddP : F2 := fun a b m => fAdd (unP a) (unP b) m
def prsD : List D → Option (List (Int × Int))
  | [] => some []
  | .tup [.int i, .int j] :: r => (match prsD r with
    | some ps => some ((i, j) :: ps)
    | none => none)
  | _ :: _ => none
def fSrTup : FN
  | [d], m => (match unP d with
    | .tup xs => (match prsD xs with
      | some ps => some (.lst ((srtP ps).map prD), m)
      | none => none)
    | _ => none)
  | _, _ => none
section
variable {K : PySem.W.Frag} {cm : Nat → Addr} {ρ : Wd} {H : Hp}
theorem RD.unP {v : V} {d : D} (r : RD K ρ H v d) : RD K ρ H v (unP d) := by
  cases r with
  | ptp n h hd rx => exact .tup (.inl ⟨n, .inr ⟨_, h⟩⟩) rx
  | non => exact .non
  | bl => exact .bl
  | int => exact .int
  | str => exact .str
  | ref h => exact .ref h
  | tup h rx => exact .tup h rx
  | lst n h rx => exact .lst n h rx
  | rol h rx => exact .rol h rx
  | dct n h rx => exact .dct n h rx
theorem sr_addP : SR2 K cm fAddP (rAddA K) := fun ρ m H x y d1 d2 d3 m' Q R r1 r2 e q => sr_add ρ m H x y _ _ d3 m' Q R r1.unP r2.unP e q
theorem prsD_rel : ∀ {xs : List V} {ds : List D} {ps : List (Int × Int)}, RDs K ρ H xs ds → prsD ds = some ps → ∃ as : List Addr, xs = as.map V.ref ∧ Paired (fun p q => RD K ρ H (.ref p) (prD q)) as ps
  | _, _, _, .nil, h => by
    cases h
    exact ⟨[], rfl, .nil⟩
  | _, _, ps, .cons (v := v) (vs := vs) (d := d) (ds := ds) r t, h => by
    unfold prsD at h
    split at h
    · rename_i e
      cases e
    · rename_i a b r' e
      cases e
      split at h
      · rename_i ps' h2
        cases h
        obtain ⟨as, e1, e2⟩ := prsD_rel t h2
        cases r with
        | tup hq rx => exact ⟨_ :: as, by rw [e1]; rfl, .cons (.tup hq rx) e2⟩
      · cases h
    · cases h
theorem paired_sq : ∀ {as : List Addr} {ps : List (Int × Int)}, Paired (fun p q => RD K ρ H (.ref p) (prD q)) as ps → Paired (fun p q => SqT K H p [.int q.1, .int q.2]) as ps
  | _, _, .nil => .nil
  | _, _, .cons r t => .cons (by
      cases r with
      | tup hq rx =>
        cases rx with
        | cons ra rb => cases rb with
          | cons rb rn =>
            cases rn
            cases ra
            cases rb
            exact hq.sq) (paired_sq t)
theorem paired_zip : ∀ {as : List Addr} {ps : List (Int × Int)}, Paired (fun p q => RD K ρ H (.ref p) (prD q)) as ps → (as.zip ps).map (·.2) = ps ∧ ∀ z ∈ as.zip ps, RD K ρ H (.ref z.1) (prD z.2)
  | _, _, .nil => ⟨rfl, fun z hz => (nomatch hz)⟩
  | _, _, .cons r t => by
    obtain ⟨a, b⟩ := paired_zip t
    refine ⟨by simp [a], fun z hz => ?_⟩
    rcases List.mem_cons.mp hz with rfl | hz
    · exact r
    · exact b z hz
theorem zs_rel : ∀ {zs : List (Addr × (Int × Int))}, (∀ z ∈ zs, RD K ρ H (.ref z.1) (prD z.2)) → RDs K ρ H (zs.map fun z => V.ref z.1) ((zs.map (·.2)).map prD)
  | [], _ => .nil
  | z :: zs, h => .cons (h z List.mem_cons_self) (zs_rel fun y hy => h y (List.mem_cons_of_mem _ hy))
theorem src_srTup : SRC K cm fSrTup (rSrTup K) := by
  intro ρ m H xs ds d3 m' Q R r e q
  unfold fSrTup at e
  split at e
  · split at e
    · rename_i d _ ys hd
      split at e
      · rename_i ps hp
        cases e
        obtain ⟨x, rfl, rx⟩ := one_of r
        have rx' := rx.unP
        rw [hd] at rx'
        cases rx' with
        | tup hq rr =>
          obtain ⟨as, ex, pr⟩ := prsD_rel rr hp
          subst ex
          obtain ⟨z1, z2⟩ := paired_zip pr
          refine ⟨_, as, ps, rfl, hq.sq, paired_sq pr, fun zs l hperm hs hl => ?_⟩
          have e2 : zs.map (·.2) = srtP ps := srtd_one hs (srtP_srtd ps) ((hperm.map (·.2)).trans (by rw [z1]; exact (srtP_perm ps).symm))
          have rr2 := zs_rel (K := K) (ρ := ρ) (H := H) fun z hz => z2 z (hperm.mem_iff.mp hz)
          rw [e2] at rr2
          exact q ρ _ _ (Ev.new hl) (R.new hl) (.lst (R.notIn hl) upd_same (rr2.mono (Ev.new hl)))
      · cases e
    · cases e
  · cases e
end
end Mini

set_option Elab.async false
set_option maxRecDepth 100000
namespace Mini
open PySem L2
/-- three names at once -/
def sPar3 (i j l : Nat) (a : XA) : XS := fun sg m => match a sg m with
  | some ([d, e, f], m1) => some (.nx, setS (setS (setS sg i d) j e) l f, m1)
  | _ => none
theorem s_par3 {cm : Nat → Addr} {X : Cx} {pos : Pos} (i j l : Nat) {x y z : Str} {a b c : Expr} {xs : XA} {px py pz pt : Pos} {kt k2 pt2} (hc : X.calm = true) (hN : X.N.Nodup) (ha : SA cm X [a, b, c] xs) (hi : X.N[i]? = some x := by rfl) (hj : X.N[j]? = some y := by rfl) (hl : X.N[l]? = some z := by rfl) (hij : i ≠ j := by decide) (hil : i ≠ l := by decide) (hjl : j ≠ l := by decide)
    (hx : X.env.scope.names.lookup x = some .local := by rfl) (hy : X.env.scope.names.lookup y = some .local := by rfl) (hz : X.env.scope.names.lookup z = some .local := by rfl)
    (hw : swappedStores [.Tuple [.Name x px, .Name y py, .Name z pz] kt pt] (.Tuple [a, b, c] k2 pt2) X.env = pure (some [x, y, z]) := by rfl)
    (hs : swapsWithSole [.Tuple [.Name x px, .Name y py, .Name z pz] kt pt] (.Tuple [a, b, c] k2 pt2) pos.line X.env = pure false := by rfl) :
    SS cm X (.Assign [.Tuple [.Name x px, .Name y py, .Name z pz] kt pt] (.Tuple [a, b, c] k2 pt2) pos) (sPar3 i j l xs) := PS_imp (ps_par3 (i := i) (j := j) (l := l) hc hN hi hj hl hij hil hjl hx hy hz ha hw hs) fun D σ H h => by
  obtain ⟨ρ, sg, m, fl, sg', m', hs, hr, e, q⟩ := h
  unfold sPar3 at e
  split at e
  · rename_i d1 d2 d3 m1 e1
    cases e
    refine ⟨ρ, sg, m, _, _, hs, hr, e1, fun ρ1 vs H1 E1 R1 r1 => ?_⟩
    cases r1 with
    | cons ra rr => cases rr with
      | cons rb rn => cases rn with
        | cons rc rz => cases rz with
          | nil => exact ⟨_, _, _, rfl, q ρ1 _ H1 E1 ((((hs.mono E1).set ra i).set rb j).set rc l) R1⟩
  · cases e
end Mini

set_option Elab.async false
set_option maxRecDepth 100000
namespace K03
open PySem L2 Mini
def top (i : Nat) : Stmt := PySem.Challenge.pw_nocyclemore_k03_whole_caches.main.body.getD i (.Pass ⟨0, 0, 0, 0⟩)

abbrev st_anything : Stmt := top 5
abbrev N_anything : List Str := []
abbrev P_anything : List Str := []
def b_anything : XS := (sRet (xTup (aCons (xTupP aNil) (aCons (xC .non) aNil))))
def f_anything : FN := fnB 0 0 b_anything

abbrev st_nothing : Stmt := top 6
abbrev N_nothing : List Str := []
abbrev P_nothing : List Str := []
def b_nothing : XS := (sRet (xTup (aCons (xTupP aNil) (aCons (xTupP aNil) aNil))))
def f_nothing : FN := fnB 0 0 b_nothing

abbrev st_of_cache : Stmt := top 7
abbrev N_of_cache : List Str := ["told", "rows", "must", "may", "row", "age", "line"]
abbrev P_of_cache : List Str := ["told", "rows"]
def b_of_cache : XS := (sSeq (sSet 2 (xDNew))
  (sSeq (sSet 3 (xDNew))
  (sSeq (sFor (iSeq (xVar 1)) (gN 4) (sFor (iEnum (aCons (xVar 4) aNil)) (gT 2 (gsCons (gN 5) (gsCons (gN 6) gsNil))) (sSeq (sDPut (xVar 5) (xVar 3) (xVar 6))
  (sDPut (xIf (cTest (xOp fEq (xOp fIx (xVar 0) (xC (.int 2))) (xC (.str "lru")))) (xVar 5) (xC (.int 0))) (xVar 2) (xVar 6)))))
  (sRet (xTup (aCons (xFn fTupP (aCons (xSrIt (xVar 2)) aNil)) (aCons (xFn fTupP (aCons (xSrIt (xVar 3)) aNil)) aNil)))))))
def f_of_cache : FN := fnB 7 2 b_of_cache

abbrev st_ways_sure : Stmt := top 8
abbrev N_ways_sure : List Str := ["told"]
abbrev P_ways_sure : List Str := ["told"]
def b_ways_sure : XS := (sRet (xIf (cTest (xOp fEq (xOp fIx (xVar 0) (xC (.int 2))) (xC (.str "lru")))) (xOp fIx (xVar 0) (xC (.int 1))) (xC (.int 1))))
def f_ways_sure : FN := fnB 1 1 b_ways_sure

abbrev st_verdicts : Stmt := top 9
abbrev N_verdicts : List Str := ["known", "line", "must", "may", "one", "_"]
abbrev P_verdicts : List Str := ["known", "line"]
def b_verdicts : XS := (sSeq (sAsg (xVar 0) (gT 2 (gsCons (gN 2) (gsCons (gN 3) gsNil))))
  (sSeq (sIf (cTru (xFn fAny (aCons (xLc [4, 5] (iSeq (xVar 2)) (gTn [4, 5]) cYes (xOp fEq (xVar 4) (xVar 1))) aNil))) (sRet (xLst (aCons (xC (.bl true)) aNil))) sNil)
  (sSeq (sIf (cAnd (cTest (xOp fNotN (xVar 3) (xC .non))) ((cNot (cTru (xFn fAny (aCons (xLc [4, 5] (iSeq (xVar 3)) (gTn [4, 5]) cYes (xOp fEq (xVar 4) (xVar 1))) aNil)))))) (sRet (xLst (aCons (xC (.bl false)) aNil))) sNil)
  (sRet (xLst (aCons (xC (.bl true)) (aCons (xC (.bl false)) aNil)))))))
def f_verdicts : FN := fnB 6 2 b_verdicts

abbrev st_aged : Stmt := top 14
abbrev N_aged : List Str := ["told", "may", "line", "before", "left", "one", "age", "is_older", "older"]
abbrev P_aged : List Str := ["told", "may", "line"]
def b_aged : XS := (sSeq (sSet 3 (xDGet2 (xFn fDictP (aCons (xVar 1) aNil)) (xVar 2) (xOp fIx (xVar 0) (xC (.int 1)))))
  (sSeq (sSet 4 (xDisp (((xVar 2), (xC (.int 0))) :: [])))
  (sSeq (sFor (iSeq (xVar 1)) (gT 2 (gsCons (gN 5) (gsCons (gN 6) gsNil))) (sIf (cTest (xOp fNe (xVar 5) (xVar 2))) (sSeq (sSet 7 (xAnd (xOp fEq (xOp fIx (xVar 0) (xC (.int 2))) (xC (.str "lru"))) (xAnd (xOp fEq (xOp fMod (xVar 5) (xOp fIx (xVar 0) (xC (.int 0)))) (xOp fMod (xVar 2) (xOp fIx (xVar 0) (xC (.int 0))))) ((xOp fLe (xVar 6) (xVar 3))))))
  (sSeq (sSet 8 (xIf (cTru (xVar 7)) (xOp fAddP (xVar 6) (xC (.int 1))) (xVar 6)))
  (sIf (cTest (xOp fLt (xVar 8) (xOp fIx (xVar 0) (xC (.int 1))))) (sDPut (xVar 8) (xVar 4) (xVar 5)) sNil))) sNil))
  (sRet (xFn fTupP (aCons (xSrIt (xVar 4)) aNil))))))
def f_aged : FN := fnB 9 3 b_aged

abbrev st_used : Stmt := top 13
abbrev N_used : List Str := ["told", "known", "line", "must", "may", "sure", "before", "kept", "one", "age", "older"]
abbrev P_used : List Str := ["told", "known", "line"]
def b_used : XS := (sSeq (sAsg (xVar 1) (gT 2 (gsCons (gN 3) (gsCons (gN 4) gsNil))))
  (sSeq (sSet 5 (xFn f_ways_sure (aCons (xVar 0) aNil)))
  (sSeq (sSet 6 (xDGet2 (xFn fDictP (aCons (xVar 3) aNil)) (xVar 2) (xVar 5)))
  (sSeq (sSet 7 (xDisp (((xVar 2), (xC (.int 0))) :: [])))
  (sSeq (sFor (iSeq (xVar 3)) (gT 2 (gsCons (gN 8) (gsCons (gN 9) gsNil))) (sIf (cTest (xOp fNe (xVar 8) (xVar 2))) (sSeq (sSet 10 (xIf (cAnd (cTest (xOp fEq (xOp fMod (xVar 8) (xOp fIx (xVar 0) (xC (.int 0)))) (xOp fMod (xVar 2) (xOp fIx (xVar 0) (xC (.int 0)))))) ((cTest (xOp fLt (xVar 9) (xVar 6))))) (xOp fAddP (xVar 9) (xC (.int 1))) (xVar 9)))
  (sIf (cTest (xOp fLt (xVar 10) (xVar 5))) (sDPut (xVar 10) (xVar 7) (xVar 8)) sNil)) sNil))
  (sSeq (sIf (cTest (xOp fIsN (xVar 4) (xC .non))) (sRet (xTup (aCons (xFn fTupP (aCons (xSrIt (xVar 7)) aNil)) (aCons (xC .non) aNil)))) sNil)
  (sRet (xTup (aCons (xFn fTupP (aCons (xSrIt (xVar 7)) aNil)) (aCons (xFn f_aged (aCons (xVar 0) (aCons (xVar 4) (aCons (xVar 2) aNil)))) aNil))))))))))
def f_used : FN := fnB 11 3 b_used

abbrev st_touched : Stmt := top 10
abbrev N_touched : List Str := ["told", "known", "line", "must", "may", "one", "_"]
abbrev P_touched : List Str := ["told", "known", "line"]
def b_touched : XS := (sSeq (sIf (cTest (xOp fEq (xOp fIx (xVar 0) (xC (.int 2))) (xC (.str "lru")))) (sRet (xFn f_used (aCons (xVar 0) (aCons (xVar 1) (aCons (xVar 2) aNil))))) sNil)
  (sSeq (sAsg (xVar 1) (gT 2 (gsCons (gN 3) (gsCons (gN 4) gsNil))))
  (sSeq (sIf (cTru (xFn fAny (aCons (xLc [5, 6] (iSeq (xVar 3)) (gTn [5, 6]) cYes (xOp fEq (xVar 5) (xVar 2))) aNil))) (sRet (xVar 1)) sNil)
  (sRet (xTup (aCons (xFn fTupP (aCons (xFn fSrTup (aCons (xOp fAddP (xVar 3) (xTup (aCons (xTup (aCons (xVar 2) (aCons (xC (.int 0)) aNil))) aNil))) aNil)) aNil)) (aCons (xVar 4) aNil)))))))
def f_touched : FN := fnB 7 3 b_touched

abbrev st_missed : Stmt := top 11
abbrev N_missed : List Str := ["known", "line", "must", "may", "pair"]
abbrev P_missed : List Str := ["known", "line"]
def b_missed : XS := (sSeq (sAsg (xVar 0) (gT 2 (gsCons (gN 2) (gsCons (gN 3) gsNil))))
  (sRet (xTup (aCons (xVar 2) (aCons (xIf (cTest (xOp fIsN (xVar 3) (xC .non))) (xC .non) (xFn fTupP (aCons (xLc [4] (iSeq (xVar 3)) (gN 4) (cTest (xOp fNe (xOp fIx (xVar 4) (xC (.int 0))) (xVar 1))) (xVar 4)) aNil))) aNil)))))
def f_missed : FN := fnB 5 2 b_missed

abbrev st_filled : Stmt := top 12
abbrev N_filled : List Str := ["told", "known", "line"]
abbrev P_filled : List Str := ["told", "known", "line"]
def b_filled : XS := (sRet (xFn f_used (aCons (xVar 0) (aCons (xVar 1) (aCons (xVar 2) aNil)))))
def f_filled : FN := fnB 3 3 b_filled

abbrev st_joined_known : Stmt := top 15
abbrev N_joined_known : List Str := ["one", "two", "first", "second", "must", "line", "may", "age"]
abbrev P_joined_known : List Str := ["one", "two"]
def b_joined_known : XS := (sSeq (sAsg (xTup (aCons (xFn fDictP (aCons (xOp fIx (xVar 0) (xC (.int 0))) aNil)) (aCons (xFn fDictP (aCons (xOp fIx (xVar 1) (xC (.int 0))) aNil)) aNil))) (gT 2 (gsCons (gN 2) (gsCons (gN 3) gsNil))))
  (sSeq (sSet 4 (xDc [5] (iKeysD (xVar 2)) (gN 5) (cTest (xOp fIn (xVar 5) (xVar 3))) (xVar 5) (xFn fMax2 (aCons (xOp fDGet (xVar 2) (xVar 5)) (aCons (xOp fDGet (xVar 3) (xVar 5)) aNil)))))
  (sSeq (sIf (cOr (cTest (xOp fIsN (xOp fIx (xVar 0) (xC (.int 1))) (xC .non))) ((cTest (xOp fIsN (xOp fIx (xVar 1) (xC (.int 1))) (xC .non))))) (sRet (xTup (aCons (xFn fTupP (aCons (xSrIt (xVar 4)) aNil)) (aCons (xC .non) aNil)))) sNil)
  (sSeq (sSet 6 (xFn fDictP (aCons (xOp fIx (xVar 0) (xC (.int 1))) aNil)))
  (sSeq (sFor (iSeq (xOp fIx (xVar 1) (xC (.int 1)))) (gT 2 (gsCons (gN 5) (gsCons (gN 7) gsNil))) (sDPut (xFn fMin2 (aCons (xVar 7) (aCons (xDGet2 (xVar 6) (xVar 5) (xVar 7)) aNil))) (xVar 6) (xVar 5)))
  (sRet (xTup (aCons (xFn fTupP (aCons (xSrIt (xVar 4)) aNil)) (aCons (xFn fTupP (aCons (xSrIt (xVar 6)) aNil)) aNil)))))))))
def f_joined_known : FN := fnB 8 2 b_joined_known

abbrev st_is_known_within : Stmt := top 16
abbrev N_is_known_within : List Str := ["one", "two", "first", "line", "age", "second"]
abbrev P_is_known_within : List Str := ["one", "two"]
def b_is_known_within : XS := (sSeq (sSet 2 (xFn fDictP (aCons (xOp fIx (xVar 0) (xC (.int 0))) aNil)))
  (sSeq (sIf (cTru (xFn fAny (aCons (xLc [3, 4] (iSeq (xOp fIx (xVar 1) (xC (.int 0)))) (gTn [3, 4]) cYes (xOr (xOp fNotIn (xVar 3) (xVar 2)) ((xOp fGt (xOp fDGet (xVar 2) (xVar 3)) (xVar 4))))) aNil))) (sRet (xC (.bl false))) sNil)
  (sSeq (sIf (cTest (xOp fIsN (xOp fIx (xVar 1) (xC (.int 1))) (xC .non))) (sRet (xC (.bl true))) sNil)
  (sSeq (sIf (cTest (xOp fIsN (xOp fIx (xVar 0) (xC (.int 1))) (xC .non))) (sRet (xC (.bl false))) sNil)
  (sSeq (sSet 5 (xFn fDictP (aCons (xOp fIx (xVar 1) (xC (.int 1))) aNil)))
  (sRet (xFn fAll (aCons (xLc [3, 4] (iSeq (xOp fIx (xVar 0) (xC (.int 1)))) (gTn [3, 4]) cYes (xAnd (xOp fIn (xVar 3) (xVar 5)) ((xOp fLe (xOp fDGet (xVar 5) (xVar 3)) (xVar 4))))) aNil))))))))
def f_is_known_within : FN := fnB 6 2 b_is_known_within

abbrev st_Cache___init__ : Stmt := inClass (top 1) 0
abbrev N_Cache___init__ : List Str := ["self", "told", "lines", "row"]
abbrev P_Cache___init__ : List Str := ["self", "told", "lines"]
def b_Cache___init__ : XS := (sSeq (sAsg (xVar 1) (gT 3 (gsCons (gFld 0 "sets" (xVar 0)) (gsCons (gFld 0 "ways" (xVar 0)) (gsCons (gFld 0 "policy" (xVar 0)) gsNil)))))
  (sFldS 0 "rows" (xLcM [3] (iSeq (xVar 2)) (gN 3) cYes (xFn fTuple (aCons (xVar 3) aNil))) (xVar 0)))
def f_Cache___init__ : FN := fnB 4 3 b_Cache___init__

abbrev st_Cache_has : Stmt := inClass (top 1) 1
abbrev N_Cache_has : List Str := ["self", "line", "at", "row", "one"]
abbrev P_Cache_has : List Str := ["self", "line"]
def b_Cache_has : XS := (sSeq (sSet 2 (xOp fMod (xVar 1) (xFld 0 "sets" (xVar 0))))
  (sSeq (sSet 3 (xOp fIx (xFld 0 "rows" (xVar 0)) (xVar 2)))
  (sSeq (sIf (cTest (xOp fNotIn (xVar 1) (xVar 3))) (sRet (xC (.bl false))) sNil)
  (sSeq (sIf (cTest (xOp fEq (xFld 0 "policy" (xVar 0)) (xC (.str "lru")))) (sLPut (xOp fAdd (xTup (aCons (xVar 1) aNil)) (xFn fTuple (aCons (xLc [4] (iSeq (xVar 3)) (gN 4) (cTest (xOp fNe (xVar 4) (xVar 1))) (xVar 4)) aNil))) (xFld 0 "rows" (xVar 0)) (xVar 2)) sNil)
  (sRet (xC (.bl true)))))))
def f_Cache_has : FN := fnB 5 2 b_Cache_has

abbrev st_Cache_fill : Stmt := inClass (top 1) 2
abbrev N_Cache_fill : List Str := ["self", "line", "at", "row", "one"]
abbrev P_Cache_fill : List Str := ["self", "line"]
def b_Cache_fill : XS := (sSeq (sSet 2 (xOp fMod (xVar 1) (xFld 0 "sets" (xVar 0))))
  (sSeq (sSet 3 (xFn fTuple (aCons (xLc [4] (iSeq (xOp fIx (xFld 0 "rows" (xVar 0)) (xVar 2))) (gN 4) (cTest (xOp fNe (xVar 4) (xVar 1))) (xVar 4)) aNil)))
  (sLPut (xSl (xOp fAdd (xTup (aCons (xVar 1) aNil)) (xVar 3)) pNone (pSome (xFld 0 "ways" (xVar 0)))) (xFld 0 "rows" (xVar 0)) (xVar 2))))
def f_Cache_fill : FN := fnB 5 2 b_Cache_fill

abbrev st_Cache_lines : Stmt := inClass (top 1) 3
abbrev N_Cache_lines : List Str := ["self"]
abbrev P_Cache_lines : List Str := ["self"]
def b_Cache_lines : XS := (sRet (xFn fTuple (aCons (xFld 0 "rows" (xVar 0)) aNil)))
def f_Cache_lines : FN := fnB 1 1 b_Cache_lines

abbrev st_is_start : Stmt := top 2
abbrev N_is_start : List Str := ["told", "lines", "at", "row", "line"]
abbrev P_is_start : List Str := ["told", "lines"]
def b_is_start : XS := (sSeq (sIf (cTest (xOp fNe (xFn fLen (aCons (xVar 1) aNil)) (xOp fIx (xVar 0) (xC (.int 0))))) (sRet (xC (.bl false))) sNil)
  (sSeq (sFor (iEnum (aCons (xVar 1) aNil)) (gT 2 (gsCons (gN 2) (gsCons (gN 3) gsNil))) (sSeq (sIf (cOr (cTest (xOp fGt (xFn fLen (aCons (xVar 3) aNil)) (xOp fIx (xVar 0) (xC (.int 1))))) ((cTest (xOp fNe (xFn fLenD (aCons (xDc [4] (iSeq (xVar 3)) (gN 4) cYes (xVar 4) (xC (.bl true))) aNil)) (xFn fLen (aCons (xVar 3) aNil)))))) (sRet (xC (.bl false))) sNil)
  (sIf (cTru (xFn fAny (aCons (xLc [4] (iSeq (xVar 3)) (gN 4) cYes (xOp fNe (xOp fMod (xVar 4) (xOp fIx (xVar 0) (xC (.int 0)))) (xVar 2))) aNil))) (sRet (xC (.bl false))) sNil)))
  (sRet (xC (.bl true)))))
def f_is_start : FN := fnB 5 2 b_is_start

abbrev st_no_lines : Stmt := top 3
abbrev N_no_lines : List Str := ["told"]
abbrev P_no_lines : List Str := ["told"]
def b_no_lines : XS := (sRet (xOp fRep (xTup (aCons (xTup aNil) aNil)) (xOp fIx (xVar 0) (xC (.int 0)))))
def f_no_lines : FN := fnB 1 1 b_no_lines

abbrev st__law_tape : Stmt := top 18
abbrev N__law_tape : List Str := ["script", "cells", "cell", "seed"]
abbrev P__law_tape : List Str := ["script"]
def b__law_tape : XS := (sSeq (sSet 1 (xLc [2] (iSeq (xVar 0)) (gN 2) cYes (xFn fAbs (aCons (xFn fInt (aCons (xVar 2) aNil)) aNil))))
  (sSeq (sSet 3 (xC (.int 7)))
  (sSeq (sFor (iSeq (xVar 1)) (gN 2) (sSet 3 (xOp fMod (xFn fInt (aCons (xOp fAdd (xOp fMul (xVar 3) (xC (.int 31))) (xVar 2)) aNil)) (xC (.int 2147483647)))))
  (sRet (xDisp (((xC (.str "cells")), (xVar 1)) :: (((xC (.str "at")), (xC (.int 0))) :: (((xC (.str "left")), (xC (.int 0))) :: (((xC (.str "seed")), (xVar 3)) :: (((xC (.str "salt")), (xC (.int 0))) :: []))))))))))
def f__law_tape : FN := fnB 4 1 b__law_tape

abbrev st__law_take : Stmt := top 19
abbrev N__law_take : List Str := ["tape", "many", "drawn", "mixed"]
abbrev P__law_take : List Str := ["tape", "many"]
def b__law_take : XS := (sSeq (sIf (cAnd (cTest (xOp fEq (xOp fDGet (xVar 0) (xC (.str "left"))) (xC (.int 0)))) ((cTest (xOp fLt (xOp fDGet (xVar 0) (xC (.str "at"))) (xFn fLen (aCons (xOp fDGet (xVar 0) (xC (.str "cells"))) aNil)))))) (sSeq (sDPut (xOp fIx (xOp fDGet (xVar 0) (xC (.str "cells"))) (xOp fDGet (xVar 0) (xC (.str "at")))) (xVar 0) (xC (.str "left")))
  (sDPut (xOp fAdd (xOp fDGet (xVar 0) (xC (.str "at"))) (xC (.int 1))) (xVar 0) (xC (.str "at")))) sNil)
  (sSeq (sIf (cTest (xOp fGt (xOp fDGet (xVar 0) (xC (.str "left"))) (xC (.int 0)))) (sSeq (sSet 2 (xOp fMod (xFn fInt (aCons (xOp fDGet (xVar 0) (xC (.str "left"))) aNil)) (xVar 1)))
  (sSeq (sDPut (xOp fDiv (xOp fDGet (xVar 0) (xC (.str "left"))) (xVar 1)) (xVar 0) (xC (.str "left")))
  (sRet (xVar 2)))) sNil)
  (sSeq (sDPut (xOp fAdd (xOp fDGet (xVar 0) (xC (.str "salt"))) (xC (.int 1))) (xVar 0) (xC (.str "salt")))
  (sSeq (sSet 3 (xOp fMod (xFn fInt (aCons (xOp fAdd (xOp fMul (xOp fDGet (xVar 0) (xC (.str "seed"))) (xC (.int 48271))) (xOp fMul (xOp fDGet (xVar 0) (xC (.str "salt"))) (xC (.int 69621)))) aNil)) (xC (.int 2147483647))))
  (sSeq (sSet 3 (xOp fMod (xFn fInt (aCons (xOp fAdd (xOp fAdd (xOp fMul (xVar 3) (xVar 3)) (xOp fMul (xOp fDGet (xVar 0) (xC (.str "salt"))) (xC (.int 40692)))) (xC (.int 12345))) aNil)) (xC (.int 2147483399))))
  (sRet (xOp fMod (xFn fInt (aCons (xVar 3) aNil)) (xVar 1))))))))
def f__law_take : FN := fnB 4 2 b__law_take

abbrev st__law_rows_of : Stmt := top 25
abbrev N__law_rows_of : List Str := ["tape", "told", "most", "rows", "at", "row", "k", "line"]
abbrev P__law_rows_of : List Str := ["tape", "told", "most"]
def b__law_rows_of : XS := (sSeq (sSet 3 (xLstM aNil))
  (sSeq (sFor (iRange1 (aCons (xOp fIx (xVar 1) (xC (.int 0))) aNil)) (gN 4) (sSeq (sSet 5 (xLstM aNil))
  (sSeq (sFor (iRange1 (aCons (xOp fIx (xVar 1) (xC (.int 1))) aNil)) (gN 6) (sSeq (sSet 7 (xOp fAdd (xVar 4) (xOp fMul (xOp fIx (xVar 1) (xC (.int 0))) (xFn f__law_take (aCons (xVar 0) (aCons (xVar 2) aNil))))))
  (sIf (cAnd (cTest (xOp fNotIn (xVar 7) (xVar 5))) ((cTest (xOp fGt (xFn f__law_take (aCons (xVar 0) (aCons (xC (.int 4)) aNil))) (xC (.int 0)))))) (sDrop (xLm mAppend (xVar 5) (aCons (xVar 7) aNil))) sNil)))
  (sDrop (xLm mAppend (xVar 3) (aCons (xFn fTuple (aCons (xVar 5) aNil)) aNil))))))
  (sRet (xFn fTuple (aCons (xVar 3) aNil)))))
def f__law_rows_of : FN := fnB 8 3 b__law_rows_of

abbrev st__law_holds : Stmt := top 26
abbrev N__law_holds : List Str := ["told", "known", "rows", "must", "may", "where", "row", "age", "line"]
abbrev P__law_holds : List Str := ["told", "known", "rows"]
def b__law_holds : XS := (sSeq (sAsg (xVar 1) (gT 2 (gsCons (gN 3) (gsCons (gN 4) gsNil))))
  (sSeq (sSet 5 (xDNew))
  (sSeq (sForA 100000 (xVar 2) (gN 6) (sFor (iRange1 (aCons (xFn fLen (aCons (xVar 6) aNil)) aNil)) (gN 7) (sDPut (xVar 7) (xVar 5) (xOp fIx (xVar 6) (xVar 7)))))
  (sSeq (sIf (cTru (xFn fAny (aCons (xLc [8, 7] (iSeq (xVar 3)) (gTn [8, 7]) cYes (xOr (xOp fNotIn (xVar 8) (xVar 5)) ((xAnd (xOp fEq (xOp fIx (xVar 0) (xC (.int 2))) (xC (.str "lru"))) ((xOp fGt (xOp fDGet (xVar 5) (xVar 8)) (xVar 7))))))) aNil))) (sRet (xC (.bl false))) sNil)
  (sRet (xOr (xOp fIsN (xVar 4) (xC .non)) ((xFn fAll (aCons (xLc [8] (iKeysD (xVar 5)) (gN 8) cYes (xAnd (xOp fIn (xVar 8) (xFn fDictP (aCons (xVar 4) aNil))) ((xOr (xOp fEq (xOp fIx (xVar 0) (xC (.int 2))) (xC (.str "fifo"))) ((xOp fLe (xOp fDGet (xFn fDictP (aCons (xVar 4) aNil)) (xVar 8)) (xOp fDGet (xVar 5) (xVar 8)))))))) aNil)))))))))
def f__law_holds : FN := fnB 9 3 b__law_holds

abbrev st_law : Stmt := top 27
abbrev N_law : List Str := ["script", "tape", "told", "start", "other", "cache", "twin", "rows", "more", "known", "wide", "both", "step", "line", "at", "there", "row", "one"]
abbrev P_law : List Str := ["script"]
def b_law : XS := (sSeq (sSet 1 (xFn f__law_tape (aCons (xVar 0) aNil)))
  (sSeq (sSet 2 (xTup (aCons (xOp fAdd (xC (.int 1)) (xFn f__law_take (aCons (xVar 1) (aCons (xC (.int 2)) aNil)))) (aCons (xOp fAdd (xC (.int 1)) (xFn f__law_take (aCons (xVar 1) (aCons (xC (.int 4)) aNil)))) (aCons (xOp fIx (xLst (aCons (xC (.str "lru")) (aCons (xC (.str "fifo")) aNil))) (xFn f__law_take (aCons (xVar 1) (aCons (xC (.int 2)) aNil)))) aNil)))))
  (sSeq (sSet 3 (xFn f__law_rows_of (aCons (xVar 1) (aCons (xVar 2) (aCons (xC (.int 5)) aNil)))))
  (sSeq (sIf (cOr (cNot (cTru (xFn f_is_start (aCons (xVar 2) (aCons (xVar 3) aNil))))) (cOr (cTru (xFn f_is_start (aCons (xVar 2) (aCons (xOp fAdd (xVar 3) (xTup (aCons (xTup aNil) aNil))) aNil)))) (cOr (cTest (xOp fNe (xFn f_no_lines (aCons (xVar 2) aNil)) (xOp fRep (xTup (aCons (xTup aNil) aNil)) (xOp fIx (xVar 2) (xC (.int 0)))))) (cOr (cAnd (cTest (xOp fEq (xOp fIx (xVar 2) (xC (.int 0))) (xC (.int 2)))) ((cTru (xFn f_is_start (aCons (xVar 2) (aCons (xTup (aCons (xTup (aCons (xC (.int 1)) aNil)) (aCons (xTup aNil) aNil))) aNil)))))) ((cTru (xFn f_is_start (aCons (xVar 2) (aCons (xOp fAdd (xTup (aCons (xTup (aCons (xC (.int 0)) (aCons (xC (.int 0)) aNil))) aNil)) (xOp fRep (xTup (aCons (xTup aNil) aNil)) (xOp fSub (xOp fIx (xVar 2) (xC (.int 0))) (xC (.int 1))))) aNil))))))))) (sRet (xC (.bl false))) sNil)
  (sSeq (sSet 4 (xFn f__law_rows_of (aCons (xVar 1) (aCons (xVar 2) (aCons (xC (.int 5)) aNil)))))
  (sSeq (sAsg (xTup (aCons (xMake 0 f_Cache___init__ (aCons (xVar 2) (aCons (xVar 3) aNil))) (aCons (xMake 0 f_Cache___init__ (aCons (xVar 2) (aCons (xVar 4) aNil))) (aCons (xFn fListM (aCons (xVar 3) aNil)) (aCons (xFn fListM (aCons (xVar 4) aNil)) aNil))))) (gT 4 (gsCons (gN 5) (gsCons (gN 6) (gsCons (gN 7) (gsCons (gN 8) gsNil))))))
  (sSeq (sPar3 9 10 11 (aCons (xFn f_of_cache (aCons (xVar 2) (aCons (xVar 3) aNil))) (aCons (xFn f_anything aNil) (aCons (xFn f_joined_known (aCons (xFn f_of_cache (aCons (xVar 2) (aCons (xVar 3) aNil))) (aCons (xFn f_of_cache (aCons (xVar 2) (aCons (xVar 4) aNil))) aNil))) aNil))))
  (sSeq (sIf (cOr (cNot (cTru (xFn f__law_holds (aCons (xVar 2) (aCons (xVar 9) (aCons (xVar 3) aNil)))))) (cOr (cNot (cTru (xFn f_is_known_within (aCons (xVar 9) (aCons (xVar 10) aNil))))) (cOr (cNot (cTru (xFn f_is_known_within (aCons (xVar 9) (aCons (xVar 11) aNil))))) ((cNot (cTru (xFn f_is_known_within (aCons (xFn f_of_cache (aCons (xVar 2) (aCons (xVar 4) aNil))) (aCons (xVar 11) aNil))))))))) (sRet (xC (.bl false))) sNil)
  (sSeq (sFor (iRange1 (aCons (xC (.int 14)) aNil)) (gN 12) (sSeq (sSet 13 (xFn f__law_take (aCons (xVar 1) (aCons (xC (.int 10)) aNil))))
  (sSeq (sSet 14 (xOp fMod (xVar 13) (xOp fIx (xVar 2) (xC (.int 0)))))
  (sSeq (sSet 15 (xOp fIn (xVar 13) (xOp fIx (xVar 7) (xVar 14))))
  (sSeq (sIf (cOr (cTest (xOp fNotIn (xVar 15) (xFn f_verdicts (aCons (xVar 9) (aCons (xVar 13) aNil))))) (cOr (cTest (xOp fNotIn (xVar 15) (xFn f_verdicts (aCons (xVar 10) (aCons (xVar 13) aNil))))) (cOr (cTest (xOp fNotIn (xVar 15) (xFn f_verdicts (aCons (xVar 11) (aCons (xVar 13) aNil))))) ((cTest (xOp fNotIn (xOp fIn (xVar 13) (xOp fIx (xVar 8) (xVar 14))) (xFn f_verdicts (aCons (xVar 11) (aCons (xVar 13) aNil))))))))) (sRet (xC (.bl false))) sNil)
  (sSeq (sIf (cTest (xOp fGt (xFn f__law_take (aCons (xVar 1) (aCons (xC (.int 3)) aNil))) (xC (.int 0)))) (sSeq (sIf (cOr (cTest (xOp fNe (xMeth 0 "has" f_Cache_has (xVar 5) (aCons (xVar 13) aNil)) (xVar 15))) ((cTest (xOp fNe (xMeth 0 "has" f_Cache_has (xVar 6) (aCons (xVar 13) aNil)) (xOp fIn (xVar 13) (xOp fIx (xVar 8) (xVar 14))))))) (sRet (xC (.bl false))) sNil)
  (sSeq (sFor (iSeq (xTup (aCons (xVar 7) (aCons (xVar 8) aNil)))) (gN 16) (sIf (cAnd (cTest (xOp fIn (xVar 13) (xOp fIx (xVar 16) (xVar 14)))) ((cTest (xOp fEq (xOp fIx (xVar 2) (xC (.int 2))) (xC (.str "lru")))))) (sLPut (xOp fAdd (xTup (aCons (xVar 13) aNil)) (xFn fTuple (aCons (xLc [17] (iSeq (xOp fIx (xVar 16) (xVar 14))) (gN 17) (cTest (xOp fNe (xVar 17) (xVar 13))) (xVar 17)) aNil))) (xVar 16) (xVar 14)) sNil))
  (sSeq (sSet 9 (xIf (cTru (xVar 15)) (xFn f_touched (aCons (xVar 2) (aCons (xVar 9) (aCons (xVar 13) aNil)))) (xFn f_missed (aCons (xVar 9) (aCons (xVar 13) aNil)))))
  (sSeq (sSet 10 (xIf (cTru (xVar 15)) (xFn f_touched (aCons (xVar 2) (aCons (xVar 10) (aCons (xVar 13) aNil)))) (xFn f_missed (aCons (xVar 10) (aCons (xVar 13) aNil)))))
  (sIf (cTest (xOp fEq (xVar 15) (xOp fIn (xVar 13) (xOp fIx (xVar 8) (xVar 14))))) (sSet 11 (xIf (cTru (xVar 15)) (xFn f_touched (aCons (xVar 2) (aCons (xVar 11) (aCons (xVar 13) aNil)))) (xFn f_missed (aCons (xVar 11) (aCons (xVar 13) aNil))))) (sSet 11 (xFn f_joined_known (aCons (xVar 9) (aCons (xFn f_of_cache (aCons (xVar 2) (aCons (xFn fTuple (aCons (xVar 8) aNil)) aNil))) aNil))))))))) (sSeq (sDrop (xMeth 0 "fill" f_Cache_fill (xVar 5) (aCons (xVar 13) aNil)))
  (sSeq (sDrop (xMeth 0 "fill" f_Cache_fill (xVar 6) (aCons (xVar 13) aNil)))
  (sSeq (sFor (iSeq (xTup (aCons (xVar 7) (aCons (xVar 8) aNil)))) (gN 16) (sLPut (xSl (xOp fAdd (xTup (aCons (xVar 13) aNil)) (xFn fTuple (aCons (xLc [17] (iSeq (xOp fIx (xVar 16) (xVar 14))) (gN 17) (cTest (xOp fNe (xVar 17) (xVar 13))) (xVar 17)) aNil))) pNone (pSome (xOp fIx (xVar 2) (xC (.int 1))))) (xVar 16) (xVar 14)))
  (sPar3 9 10 11 (aCons (xFn f_filled (aCons (xVar 2) (aCons (xVar 9) (aCons (xVar 13) aNil)))) (aCons (xFn f_filled (aCons (xVar 2) (aCons (xVar 10) (aCons (xVar 13) aNil)))) (aCons (xFn f_filled (aCons (xVar 2) (aCons (xVar 11) (aCons (xVar 13) aNil)))) aNil))))))))
  (sSeq (sIf (cOr (cTest (xOp fNe (xMeth 0 "lines" f_Cache_lines (xVar 5) aNil) (xFn fTuple (aCons (xVar 7) aNil)))) (cOr (cNot (cTru (xFn f__law_holds (aCons (xVar 2) (aCons (xVar 9) (aCons (xVar 7) aNil)))))) (cOr (cNot (cTru (xFn f__law_holds (aCons (xVar 2) (aCons (xVar 10) (aCons (xVar 7) aNil)))))) (cOr (cNot (cTru (xFn f__law_holds (aCons (xVar 2) (aCons (xVar 11) (aCons (xVar 7) aNil)))))) ((cNot (cTru (xFn f__law_holds (aCons (xVar 2) (aCons (xVar 11) (aCons (xVar 8) aNil))))))))))) (sRet (xC (.bl false))) sNil)
  (sSeq (sIf (cOr (cNot (cTru (xFn f_is_known_within (aCons (xVar 9) (aCons (xVar 9) aNil))))) (cOr (cNot (cTru (xFn f_is_known_within (aCons (xVar 9) (aCons (xFn f_joined_known (aCons (xVar 9) (aCons (xVar 10) aNil))) aNil))))) ((cNot (cTru (xFn f_is_known_within (aCons (xVar 10) (aCons (xFn f_joined_known (aCons (xVar 9) (aCons (xVar 10) aNil))) aNil)))))))) (sRet (xC (.bl false))) sNil)
  (sIf (cAnd (cTru (xFn f_is_known_within (aCons (xFn f_nothing aNil) (aCons (xVar 9) aNil)))) (cAnd (cTru (xFn fAny (aCons (xLcL [16] (xVar 7) (gN 16) cYes (xOp fNe (xVar 16) (xTup aNil))) aNil))) ((cTest (xOp fNe (xOp fIx (xVar 9) (xC (.int 0))) (xTup aNil)))))) (sRet (xC (.bl false))) sNil)))))))))
  (sRet (xC (.bl true))))))))))))
def f_law : FN := fnB 18 1 b_law

end K03

set_option Elab.async false
set_option maxRecDepth 100000
set_option maxHeartbeats 4000000
namespace K03
open PySem L2 Mini
structure Txt (K : PySem.W.Frag) (mg : Str → Option Value) (cm : Nat → Addr) (A : Nat → Addr) (Fd : Nat → FuncData) : Prop where
  n_abs : mg "abs" = none
  n_all : mg "all" = none
  n_any : mg "any" = none
  n_dict : mg "dict" = none
  n_enumerate : mg "enumerate" = none
  n_int : mg "int" = none
  n_len : mg "len" = none
  n_list : mg "list" = none
  n_max : mg "max" = none
  n_min : mg "min" = none
  n_range : mg "range" = none
  n_sorted : mg "sorted" = none
  n_tuple : mg "tuple" = none
  F_anything : Fun K "anything" "anything" st_anything (A 0) (Fd 0)
  b_anything : Binds K (Fd 0) P_anything []
  m_anything : mg "anything" = some (.ref (A 0))
  k_anything : PySem.W.keepIn K (.ref (A 0)) = true
  F_nothing : Fun K "nothing" "nothing" st_nothing (A 1) (Fd 1)
  b_nothing : Binds K (Fd 1) P_nothing []
  m_nothing : mg "nothing" = some (.ref (A 1))
  k_nothing : PySem.W.keepIn K (.ref (A 1)) = true
  F_of_cache : Fun K "of_cache" "of_cache" st_of_cache (A 2) (Fd 2)
  b_of_cache : Binds K (Fd 2) P_of_cache []
  m_of_cache : mg "of_cache" = some (.ref (A 2))
  k_of_cache : PySem.W.keepIn K (.ref (A 2)) = true
  F_ways_sure : Fun K "ways_sure" "ways_sure" st_ways_sure (A 3) (Fd 3)
  b_ways_sure : Binds K (Fd 3) P_ways_sure []
  m_ways_sure : mg "ways_sure" = some (.ref (A 3))
  k_ways_sure : PySem.W.keepIn K (.ref (A 3)) = true
  F_verdicts : Fun K "verdicts" "verdicts" st_verdicts (A 4) (Fd 4)
  b_verdicts : Binds K (Fd 4) P_verdicts []
  m_verdicts : mg "verdicts" = some (.ref (A 4))
  k_verdicts : PySem.W.keepIn K (.ref (A 4)) = true
  F_aged : Fun K "aged" "aged" st_aged (A 5) (Fd 5)
  b_aged : Binds K (Fd 5) P_aged []
  m_aged : mg "aged" = some (.ref (A 5))
  k_aged : PySem.W.keepIn K (.ref (A 5)) = true
  F_used : Fun K "used" "used" st_used (A 6) (Fd 6)
  b_used : Binds K (Fd 6) P_used []
  m_used : mg "used" = some (.ref (A 6))
  k_used : PySem.W.keepIn K (.ref (A 6)) = true
  F_touched : Fun K "touched" "touched" st_touched (A 7) (Fd 7)
  b_touched : Binds K (Fd 7) P_touched []
  m_touched : mg "touched" = some (.ref (A 7))
  k_touched : PySem.W.keepIn K (.ref (A 7)) = true
  F_missed : Fun K "missed" "missed" st_missed (A 8) (Fd 8)
  b_missed : Binds K (Fd 8) P_missed []
  m_missed : mg "missed" = some (.ref (A 8))
  k_missed : PySem.W.keepIn K (.ref (A 8)) = true
  F_filled : Fun K "filled" "filled" st_filled (A 9) (Fd 9)
  b_filled : Binds K (Fd 9) P_filled []
  m_filled : mg "filled" = some (.ref (A 9))
  k_filled : PySem.W.keepIn K (.ref (A 9)) = true
  F_joined_known : Fun K "joined_known" "joined_known" st_joined_known (A 10) (Fd 10)
  b_joined_known : Binds K (Fd 10) P_joined_known []
  m_joined_known : mg "joined_known" = some (.ref (A 10))
  k_joined_known : PySem.W.keepIn K (.ref (A 10)) = true
  F_is_known_within : Fun K "is_known_within" "is_known_within" st_is_known_within (A 11) (Fd 11)
  b_is_known_within : Binds K (Fd 11) P_is_known_within []
  m_is_known_within : mg "is_known_within" = some (.ref (A 11))
  k_is_known_within : PySem.W.keepIn K (.ref (A 11)) = true
  F_Cache___init__ : Fun K "__init__" "Cache.__init__" st_Cache___init__ (A 12) (Fd 12)
  b_Cache___init__ : Binds K (Fd 12) P_Cache___init__ []
  mk_Cache : Mk K (cm 0) (A 12)
  F_Cache_has : Fun K "has" "Cache.has" st_Cache_has (A 13) (Fd 13)
  b_Cache_has : Binds K (Fd 13) P_Cache_has []
  me_Cache_has : Meth K (cm 0) "has" (A 13)
  F_Cache_fill : Fun K "fill" "Cache.fill" st_Cache_fill (A 14) (Fd 14)
  b_Cache_fill : Binds K (Fd 14) P_Cache_fill []
  me_Cache_fill : Meth K (cm 0) "fill" (A 14)
  F_Cache_lines : Fun K "lines" "Cache.lines" st_Cache_lines (A 15) (Fd 15)
  b_Cache_lines : Binds K (Fd 15) P_Cache_lines []
  me_Cache_lines : Meth K (cm 0) "lines" (A 15)
  F_is_start : Fun K "is_start" "is_start" st_is_start (A 16) (Fd 16)
  b_is_start : Binds K (Fd 16) P_is_start []
  m_is_start : mg "is_start" = some (.ref (A 16))
  k_is_start : PySem.W.keepIn K (.ref (A 16)) = true
  F_no_lines : Fun K "no_lines" "no_lines" st_no_lines (A 17) (Fd 17)
  b_no_lines : Binds K (Fd 17) P_no_lines []
  m_no_lines : mg "no_lines" = some (.ref (A 17))
  k_no_lines : PySem.W.keepIn K (.ref (A 17)) = true
  F__law_tape : Fun K "_law_tape" "_law_tape" st__law_tape (A 18) (Fd 18)
  b__law_tape : Binds K (Fd 18) P__law_tape []
  m__law_tape : mg "_law_tape" = some (.ref (A 18))
  k__law_tape : PySem.W.keepIn K (.ref (A 18)) = true
  F__law_take : Fun K "_law_take" "_law_take" st__law_take (A 19) (Fd 19)
  b__law_take : Binds K (Fd 19) P__law_take []
  m__law_take : mg "_law_take" = some (.ref (A 19))
  k__law_take : PySem.W.keepIn K (.ref (A 19)) = true
  F__law_rows_of : Fun K "_law_rows_of" "_law_rows_of" st__law_rows_of (A 20) (Fd 20)
  b__law_rows_of : Binds K (Fd 20) P__law_rows_of []
  m__law_rows_of : mg "_law_rows_of" = some (.ref (A 20))
  k__law_rows_of : PySem.W.keepIn K (.ref (A 20)) = true
  F__law_holds : Fun K "_law_holds" "_law_holds" st__law_holds (A 21) (Fd 21)
  b__law_holds : Binds K (Fd 21) P__law_holds []
  m__law_holds : mg "_law_holds" = some (.ref (A 21))
  k__law_holds : PySem.W.keepIn K (.ref (A 21)) = true
  F_law : Fun K "law" "law" st_law (A 22) (Fd 22)
  b_law : Binds K (Fd 22) P_law []
  m_law : mg "law" = some (.ref (A 22))
  k_law : PySem.W.keepIn K (.ref (A 22)) = true
  cl_Cache : Cls K (cm 0)
  c_Cache : mg "Cache" = some (.ref (cm 0))
  na_Cache_policy : NoAttr K (cm 0) "policy"
  na_Cache_rows : NoAttr K (cm 0) "rows"
  na_Cache_sets : NoAttr K (cm 0) "sets"
  na_Cache_ways : NoAttr K (cm 0) "ways"
section
variable {P : Program} {w : World} {K : PySem.W.Frag} {mg : Str → Option Value} {base : Heap} {cm : Nat → Addr} {A : Nat → Addr} {Fd : Nat → FuncData}
theorem sc_anything : FnScope N_anything P_anything (defScope st_anything) := ⟨rfl, rfl, rfl, by decide +kernel, rfl, by decide +kernel, by decide +kernel⟩
theorem ok_anything (T : Txt K mg cm A Fd) : FM P w K mg base cm 1 (A 0) (Fd 0) P_anything f_anything :=
  fn_ok T.F_anything sc_anything fun cdv A outer s H E hr => by
  have hu1 := hu_of hr
  have hu64 := hr.units
  have sc := sc_anything
  exact (ss_one (s_ret (se_tup (sa_cons (se_tupP sa_nil) (sa_cons (se_non) sa_nil)))))

theorem sc_nothing : FnScope N_nothing P_nothing (defScope st_nothing) := ⟨rfl, rfl, rfl, by decide +kernel, rfl, by decide +kernel, by decide +kernel⟩
theorem ok_nothing (T : Txt K mg cm A Fd) : FM P w K mg base cm 1 (A 1) (Fd 1) P_nothing f_nothing :=
  fn_ok T.F_nothing sc_nothing fun cdv A outer s H E hr => by
  have hu1 := hu_of hr
  have hu64 := hr.units
  have sc := sc_nothing
  exact (ss_one (s_ret (se_tup (sa_cons (se_tupP sa_nil) (sa_cons (se_tupP sa_nil) sa_nil)))))

theorem sc_of_cache : FnScope N_of_cache P_of_cache (defScope st_of_cache) := ⟨rfl, rfl, rfl, by decide +kernel, rfl, by decide +kernel, by decide +kernel⟩
theorem ok_of_cache (T : Txt K mg cm A Fd) : FM P w K mg base cm 1 (A 2) (Fd 2) P_of_cache f_of_cache :=
  fn_ok T.F_of_cache sc_of_cache fun cdv A outer s H E hr => by
  have hu1 := hu_of hr
  have hu64 := hr.units
  have sc := sc_of_cache
  exact (ss_cons (s_set 2 sc.nd (se_dnew))
    (ss_cons (s_set 3 sc.nd (se_dnew))
    (ss_cons (s_for PassesOwn.never rfl (si_seq (se_var 1)) (sg_name 4 sc.nd) (ss_one (s_for PassesOwn.never rfl (si_enum (by rfl) T.n_enumerate (sa_cons (se_var 4) sa_nil)) (sg_tup rfl (sgs_cons (sg_name 5 sc.nd) (sgs_cons (sg_name 6 sc.nd) sgs_nil))) (ss_cons (s_dput hu1 (se_var 5) (se_var 3) (se_var 6))
    (ss_one (s_dput hu1 (se_if (st_cmp (op_eqA hu64) sr_eq (se_ix (se_var 0) (se_int)) (se_str) (nomark _)) (se_var 5) (se_int)) (se_var 2) (se_var 6)))))))
    (ss_one (s_ret (se_tup (sa_cons (se_callTy call_tup_frz src_tupP (by rfl) T.n_tuple (by decide +kernel) (sa_cons (se_srIt rfl (by rfl) T.n_sorted (by decide +kernel) (se_var 2)) sa_nil)) (sa_cons (se_callTy call_tup_frz src_tupP (by rfl) T.n_tuple (by decide +kernel) (sa_cons (se_srIt rfl (by rfl) T.n_sorted (by decide +kernel) (se_var 3)) sa_nil)) sa_nil))))))))

theorem sc_ways_sure : FnScope N_ways_sure P_ways_sure (defScope st_ways_sure) := ⟨rfl, rfl, rfl, by decide +kernel, rfl, by decide +kernel, by decide +kernel⟩
theorem ok_ways_sure (T : Txt K mg cm A Fd) : FM P w K mg base cm 1 (A 3) (Fd 3) P_ways_sure f_ways_sure :=
  fn_ok T.F_ways_sure sc_ways_sure fun cdv A outer s H E hr => by
  have hu1 := hu_of hr
  have hu64 := hr.units
  have sc := sc_ways_sure
  exact (ss_one (s_ret (se_if (st_cmp (op_eqA hu64) sr_eq (se_ix (se_var 0) (se_int)) (se_str) (nomark _)) (se_ix (se_var 0) (se_int)) (se_int))))

theorem sc_verdicts : FnScope N_verdicts P_verdicts (defScope st_verdicts) := ⟨rfl, rfl, rfl, by decide +kernel, rfl, by decide +kernel, by decide +kernel⟩
theorem ok_verdicts (T : Txt K mg cm A Fd) : FM P w K mg base cm 1 (A 4) (Fd 4) P_verdicts f_verdicts :=
  fn_ok T.F_verdicts sc_verdicts fun cdv A outer s H E hr => by
  have hu1 := hu_of hr
  have hu64 := hr.units
  have sc := sc_verdicts
  exact (ss_cons (s_asg (se_var 0) (sg_tup rfl (sgs_cons (sg_name 2 sc.nd) (sgs_cons (sg_name 3 sc.nd) sgs_nil))))
    (ss_cons (s_if (st_tru (se_callB (cr_any rfl) src_any (by rfl) T.n_any (by decide +kernel) (sa_cons (se_lc (own := [("one", 4), ("_", 5)]) rfl sc.nd (si_seq (se_var 2)) (blkOk_by (N := N_verdicts) (sc := defScope st_verdicts) (by decide +kernel)) (fun _ _ _ _ _ => pg_tup rfl (pgs_cons (pg_name (i := 4) sc.nd rfl (Or.inl rfl)) (pgs_cons (pg_name (i := 5) sc.nd rfl (Or.inl rfl)) pgs_nil))) (tgt_tup [4, 5]) (fun _ _ _ _ _ => pts_Y) (fun _ _ _ _ _ => (se_cmp (op_eqA hu64) sr_eq (se_var 4) (se_var 1) (nomark _)))) sa_nil))) (ss_one (s_ret (se_lst (sa_cons (se_bl) sa_nil)))) ss_nil)
    (ss_cons (s_if (SW.pt (sw_and (st_cmp op_notN sr_notN (se_var 3) (se_non) (nomark _)) (sw_and1 (st_not (st_tru (se_callB (cr_any rfl) src_any (by rfl) T.n_any (by decide +kernel) (sa_cons (se_lc (own := [("one", 4), ("_", 5)]) rfl sc.nd (si_seq (se_var 3)) (blkOk_by (N := N_verdicts) (sc := defScope st_verdicts) (by decide +kernel)) (fun _ _ _ _ _ => pg_tup rfl (pgs_cons (pg_name (i := 4) sc.nd rfl (Or.inl rfl)) (pgs_cons (pg_name (i := 5) sc.nd rfl (Or.inl rfl)) pgs_nil))) (tgt_tup [4, 5]) (fun _ _ _ _ _ => pts_Y) (fun _ _ _ _ _ => (se_cmp (op_eqA hu64) sr_eq (se_var 4) (se_var 1) (nomark _)))) sa_nil))))))) (ss_one (s_ret (se_lst (sa_cons (se_bl) sa_nil)))) ss_nil)
    (ss_one (s_ret (se_lst (sa_cons (se_bl) (sa_cons (se_bl) sa_nil))))))))

theorem sc_aged : FnScope N_aged P_aged (defScope st_aged) := ⟨rfl, rfl, rfl, by decide +kernel, rfl, by decide +kernel, by decide +kernel⟩
theorem ok_aged (T : Txt K mg cm A Fd) : FM P w K mg base cm 1 (A 5) (Fd 5) P_aged f_aged :=
  fn_ok T.F_aged sc_aged fun cdv A outer s H E hr => by
  have hu1 := hu_of hr
  have hu64 := hr.units
  have sc := sc_aged
  exact (ss_cons (s_set 3 sc.nd (se_dget2 hu1 (se_callTy (call_dictTP rfl) src_dictP (by rfl) T.n_dict (by decide +kernel) (sa_cons (se_var 1) sa_nil)) (se_var 2) (se_ix (se_var 0) (se_int)) ⟨rfl, rfl, rfl, rfl⟩))
    (ss_cons (s_set 4 sc.nd (se_disp (sps_cons (se_var 2) (se_int) sps_nil)))
    (ss_cons (s_for PassesOwn.never rfl (si_seq (se_var 1)) (sg_tup rfl (sgs_cons (sg_name 5 sc.nd) (sgs_cons (sg_name 6 sc.nd) sgs_nil))) (ss_one (s_if (st_cmp (op_neA hu64) sr_ne (se_var 5) (se_var 2) (nomark _)) (ss_cons (s_set 7 sc.nd (se_and (se_cmp (op_eqA hu64) sr_eq (se_ix (se_var 0) (se_int)) (se_str) (nomark _)) (se_and (se_cmp (op_eqA hu64) sr_eq (se_op op_mod sr_mod (se_var 5) (se_ix (se_var 0) (se_int))) (se_op op_mod sr_mod (se_var 2) (se_ix (se_var 0) (se_int))) (nomark _)) (se_one (se_cmp op_le sr_cmp (se_var 6) (se_var 3) (nomark _))))))
    (ss_cons (s_set 8 sc.nd (se_if (st_tru (se_var 7)) (se_op op_addA sr_addP (se_var 6) (se_int)) (se_var 6)))
    (ss_one (s_if (st_cmp op_lt sr_cmp (se_var 8) (se_ix (se_var 0) (se_int)) (nomark _)) (ss_one (s_dput hu1 (se_var 8) (se_var 4) (se_var 5))) ss_nil)))) ss_nil)))
    (ss_one (s_ret (se_callTy call_tup_frz src_tupP (by rfl) T.n_tuple (by decide +kernel) (sa_cons (se_srIt rfl (by rfl) T.n_sorted (by decide +kernel) (se_var 4)) sa_nil)))))))

theorem sc_used : FnScope N_used P_used (defScope st_used) := ⟨rfl, rfl, rfl, by decide +kernel, rfl, by decide +kernel, by decide +kernel⟩
theorem ok_used (T : Txt K mg cm A Fd) (G_ways_sure : FM P w K mg base cm 1 (A 3) (Fd 3) P_ways_sure f_ways_sure) (G_aged : FM P w K mg base cm 1 (A 5) (Fd 5) P_aged f_aged) : FM P w K mg base cm 2 (A 6) (Fd 6) P_used f_used :=
  fn_ok T.F_used sc_used fun cdv A outer s H E hr => by
  have hu1 := hu_of hr
  have hu64 := hr.units
  have sc := sc_used
  exact (ss_cons (s_asg (se_var 1) (sg_tup rfl (sgs_cons (sg_name 3 sc.nd) (sgs_cons (sg_name 4 sc.nd) sgs_nil))))
    (ss_cons (s_set 5 sc.nd (se_call G_ways_sure (hr.mono (by decide)) (by rfl) T.m_ways_sure T.k_ways_sure T.b_ways_sure (sa_cons (se_var 0) sa_nil) fnB_len))
    (ss_cons (s_set 6 sc.nd (se_dget2 hu1 (se_callTy (call_dictTP rfl) src_dictP (by rfl) T.n_dict (by decide +kernel) (sa_cons (se_var 3) sa_nil)) (se_var 2) (se_var 5) ⟨rfl, rfl, rfl, rfl⟩))
    (ss_cons (s_set 7 sc.nd (se_disp (sps_cons (se_var 2) (se_int) sps_nil)))
    (ss_cons (s_for PassesOwn.never rfl (si_seq (se_var 3)) (sg_tup rfl (sgs_cons (sg_name 8 sc.nd) (sgs_cons (sg_name 9 sc.nd) sgs_nil))) (ss_one (s_if (st_cmp (op_neA hu64) sr_ne (se_var 8) (se_var 2) (nomark _)) (ss_cons (s_set 10 sc.nd (se_if (SW.pt (sw_and (st_cmp (op_eqA hu64) sr_eq (se_op op_mod sr_mod (se_var 8) (se_ix (se_var 0) (se_int))) (se_op op_mod sr_mod (se_var 2) (se_ix (se_var 0) (se_int))) (nomark _)) (sw_and1 (st_cmp op_lt sr_cmp (se_var 9) (se_var 6) (nomark _))))) (se_op op_addA sr_addP (se_var 9) (se_int)) (se_var 9)))
    (ss_one (s_if (st_cmp op_lt sr_cmp (se_var 10) (se_var 5) (nomark _)) (ss_one (s_dput hu1 (se_var 10) (se_var 7) (se_var 8))) ss_nil))) ss_nil)))
    (ss_cons (s_if (st_cmp op_isN sr_isN (se_var 4) (se_non) (nomark _)) (ss_one (s_ret (se_tup (sa_cons (se_callTy call_tup_frz src_tupP (by rfl) T.n_tuple (by decide +kernel) (sa_cons (se_srIt rfl (by rfl) T.n_sorted (by decide +kernel) (se_var 7)) sa_nil)) (sa_cons (se_non) sa_nil))))) ss_nil)
    (ss_one (s_ret (se_tup (sa_cons (se_callTy call_tup_frz src_tupP (by rfl) T.n_tuple (by decide +kernel) (sa_cons (se_srIt rfl (by rfl) T.n_sorted (by decide +kernel) (se_var 7)) sa_nil)) (sa_cons (se_call G_aged (hr.mono (by decide)) (by rfl) T.m_aged T.k_aged T.b_aged (sa_cons (se_var 0) (sa_cons (se_var 4) (sa_cons (se_var 2) sa_nil))) fnB_len) sa_nil)))))))))))

theorem sc_touched : FnScope N_touched P_touched (defScope st_touched) := ⟨rfl, rfl, rfl, by decide +kernel, rfl, by decide +kernel, by decide +kernel⟩
theorem ok_touched (T : Txt K mg cm A Fd) (G_used : FM P w K mg base cm 2 (A 6) (Fd 6) P_used f_used) : FM P w K mg base cm 3 (A 7) (Fd 7) P_touched f_touched :=
  fn_ok T.F_touched sc_touched fun cdv A outer s H E hr => by
  have hu1 := hu_of hr
  have hu64 := hr.units
  have sc := sc_touched
  exact (ss_cons (s_if (st_cmp (op_eqA hu64) sr_eq (se_ix (se_var 0) (se_int)) (se_str) (nomark _)) (ss_one (s_ret (se_call G_used (hr.mono (by decide)) (by rfl) T.m_used T.k_used T.b_used (sa_cons (se_var 0) (sa_cons (se_var 1) (sa_cons (se_var 2) sa_nil))) fnB_len))) ss_nil)
    (ss_cons (s_asg (se_var 1) (sg_tup rfl (sgs_cons (sg_name 3 sc.nd) (sgs_cons (sg_name 4 sc.nd) sgs_nil))))
    (ss_cons (s_if (st_tru (se_callB (cr_any rfl) src_any (by rfl) T.n_any (by decide +kernel) (sa_cons (se_lc (own := [("one", 5), ("_", 6)]) rfl sc.nd (si_seq (se_var 3)) (blkOk_by (N := N_touched) (sc := defScope st_touched) (by decide +kernel)) (fun _ _ _ _ _ => pg_tup rfl (pgs_cons (pg_name (i := 5) sc.nd rfl (Or.inl rfl)) (pgs_cons (pg_name (i := 6) sc.nd rfl (Or.inl rfl)) pgs_nil))) (tgt_tup [5, 6]) (fun _ _ _ _ _ => pts_Y) (fun _ _ _ _ _ => (se_cmp (op_eqA hu64) sr_eq (se_var 5) (se_var 2) (nomark _)))) sa_nil))) (ss_one (s_ret (se_var 1))) ss_nil)
    (ss_one (s_ret (se_tup (sa_cons (se_callTy call_tup_frz src_tupP (by rfl) T.n_tuple (by decide +kernel) (sa_cons (se_callB cr_srTup src_srTup (by rfl) T.n_sorted (by decide +kernel) (sa_cons (se_op op_addA sr_addP (se_var 3) (se_tup (sa_cons (se_tup (sa_cons (se_var 2) (sa_cons (se_int) sa_nil))) sa_nil))) sa_nil)) sa_nil)) (sa_cons (se_var 4) sa_nil))))))))

theorem sc_missed : FnScope N_missed P_missed (defScope st_missed) := ⟨rfl, rfl, rfl, by decide +kernel, rfl, by decide +kernel, by decide +kernel⟩
theorem ok_missed (T : Txt K mg cm A Fd) : FM P w K mg base cm 1 (A 8) (Fd 8) P_missed f_missed :=
  fn_ok T.F_missed sc_missed fun cdv A outer s H E hr => by
  have hu1 := hu_of hr
  have hu64 := hr.units
  have sc := sc_missed
  exact (ss_cons (s_asg (se_var 0) (sg_tup rfl (sgs_cons (sg_name 2 sc.nd) (sgs_cons (sg_name 3 sc.nd) sgs_nil))))
    (ss_one (s_ret (se_tup (sa_cons (se_var 2) (sa_cons (se_if (st_cmp op_isN sr_isN (se_var 3) (se_non) (nomark _)) (se_non) (se_callTy call_tup_frz src_tupP (by rfl) T.n_tuple (by decide +kernel) (sa_cons (se_lc (own := [("pair", 4)]) rfl sc.nd (si_seq (se_var 3)) (blkOk_by (N := N_missed) (sc := defScope st_missed) (by decide +kernel)) (fun _ _ _ _ _ => pg_name (i := 4) sc.nd rfl (Or.inl rfl)) (tgt_name 4) (fun _ _ _ _ _ => pts_S (st_cmp (op_neA hu64) sr_ne (se_ix (se_var 4) (se_int)) (se_var 1) (nomark _))) (fun _ _ _ _ _ => (se_var 4))) sa_nil))) sa_nil))))))

theorem sc_filled : FnScope N_filled P_filled (defScope st_filled) := ⟨rfl, rfl, rfl, by decide +kernel, rfl, by decide +kernel, by decide +kernel⟩
theorem ok_filled (T : Txt K mg cm A Fd) (G_used : FM P w K mg base cm 2 (A 6) (Fd 6) P_used f_used) : FM P w K mg base cm 3 (A 9) (Fd 9) P_filled f_filled :=
  fn_ok T.F_filled sc_filled fun cdv A outer s H E hr => by
  have hu1 := hu_of hr
  have hu64 := hr.units
  have sc := sc_filled
  exact (ss_one (s_ret (se_call G_used (hr.mono (by decide)) (by rfl) T.m_used T.k_used T.b_used (sa_cons (se_var 0) (sa_cons (se_var 1) (sa_cons (se_var 2) sa_nil))) fnB_len)))

theorem sc_joined_known : FnScope N_joined_known P_joined_known (defScope st_joined_known) := ⟨rfl, rfl, rfl, by decide +kernel, rfl, by decide +kernel, by decide +kernel⟩
theorem ok_joined_known (T : Txt K mg cm A Fd) : FM P w K mg base cm 1 (A 10) (Fd 10) P_joined_known f_joined_known :=
  fn_ok T.F_joined_known sc_joined_known fun cdv A outer s H E hr => by
  have hu1 := hu_of hr
  have hu64 := hr.units
  have sc := sc_joined_known
  exact (ss_cons (s_asg (se_tup (sa_cons (se_callTy (call_dictTP rfl) src_dictP (by rfl) T.n_dict (by decide +kernel) (sa_cons (se_ix (se_var 0) (se_int)) sa_nil)) (sa_cons (se_callTy (call_dictTP rfl) src_dictP (by rfl) T.n_dict (by decide +kernel) (sa_cons (se_ix (se_var 1) (se_int)) sa_nil)) sa_nil))) (sg_tup rfl (sgs_cons (sg_name 2 sc.nd) (sgs_cons (sg_name 3 sc.nd) sgs_nil))))
    (ss_cons (s_setDc 4 (own := [("line", 5)]) rfl sc.nd (si_keys (se_var 2)) (blkOk_by (N := N_joined_known) (sc := defScope st_joined_known) (by decide +kernel)) (fun _ _ _ _ _ => pg_name (i := 5) sc.nd rfl (Or.inl rfl)) (tgt_name 5) (fun _ _ _ _ _ => pts_S (st_cmp (op_inA hu1) sr_in (se_var 5) (se_var 3) (by rfl))) (fun _ _ _ _ _ => (se_var 5)) (fun _ _ _ _ _ => (se_callB (call_max2 rfl) src_max2 (by rfl) T.n_max (by decide +kernel) (sa_cons (se_dget hu1 (se_var 2) (se_var 5)) (sa_cons (se_dget hu1 (se_var 3) (se_var 5)) sa_nil)))) (sw_trueD rfl rfl rfl (by decide +kernel)))
    (ss_cons (s_if (SW.pt (sw_or (st_cmp op_isN sr_isN (se_ix (se_var 0) (se_int)) (se_non) (nomark _)) (sw_or1 (st_cmp op_isN sr_isN (se_ix (se_var 1) (se_int)) (se_non) (nomark _))))) (ss_one (s_ret (se_tup (sa_cons (se_callTy call_tup_frz src_tupP (by rfl) T.n_tuple (by decide +kernel) (sa_cons (se_srIt rfl (by rfl) T.n_sorted (by decide +kernel) (se_var 4)) sa_nil)) (sa_cons (se_non) sa_nil))))) ss_nil)
    (ss_cons (s_set 6 sc.nd (se_callTy (call_dictTP rfl) src_dictP (by rfl) T.n_dict (by decide +kernel) (sa_cons (se_ix (se_var 0) (se_int)) sa_nil)))
    (ss_cons (s_for PassesOwn.never rfl (si_seq (se_ix (se_var 1) (se_int))) (sg_tup rfl (sgs_cons (sg_name 5 sc.nd) (sgs_cons (sg_name 7 sc.nd) sgs_nil))) (ss_one (s_dput hu1 (se_callB (call_min2 rfl) src_min2 (by rfl) T.n_min (by decide +kernel) (sa_cons (se_var 7) (sa_cons (se_dget2 hu1 (se_var 6) (se_var 5) (se_var 7) ⟨rfl, rfl, rfl, rfl⟩) sa_nil))) (se_var 6) (se_var 5))))
    (ss_one (s_ret (se_tup (sa_cons (se_callTy call_tup_frz src_tupP (by rfl) T.n_tuple (by decide +kernel) (sa_cons (se_srIt rfl (by rfl) T.n_sorted (by decide +kernel) (se_var 4)) sa_nil)) (sa_cons (se_callTy call_tup_frz src_tupP (by rfl) T.n_tuple (by decide +kernel) (sa_cons (se_srIt rfl (by rfl) T.n_sorted (by decide +kernel) (se_var 6)) sa_nil)) sa_nil))))))))))

theorem sc_is_known_within : FnScope N_is_known_within P_is_known_within (defScope st_is_known_within) := ⟨rfl, rfl, rfl, by decide +kernel, rfl, by decide +kernel, by decide +kernel⟩
theorem ok_is_known_within (T : Txt K mg cm A Fd) : FM P w K mg base cm 1 (A 11) (Fd 11) P_is_known_within f_is_known_within :=
  fn_ok T.F_is_known_within sc_is_known_within fun cdv A outer s H E hr => by
  have hu1 := hu_of hr
  have hu64 := hr.units
  have sc := sc_is_known_within
  exact (ss_cons (s_set 2 sc.nd (se_callTy (call_dictTP rfl) src_dictP (by rfl) T.n_dict (by decide +kernel) (sa_cons (se_ix (se_var 0) (se_int)) sa_nil)))
    (ss_cons (s_if (st_tru (se_callB (cr_any rfl) src_any (by rfl) T.n_any (by decide +kernel) (sa_cons (se_lc (own := [("line", 3), ("age", 4)]) rfl sc.nd (si_seq (se_ix (se_var 1) (se_int))) (blkOk_by (N := N_is_known_within) (sc := defScope st_is_known_within) (by decide +kernel)) (fun _ _ _ _ _ => pg_tup rfl (pgs_cons (pg_name (i := 3) sc.nd rfl (Or.inl rfl)) (pgs_cons (pg_name (i := 4) sc.nd rfl (Or.inl rfl)) pgs_nil))) (tgt_tup [3, 4]) (fun _ _ _ _ _ => pts_Y) (fun _ _ _ _ _ => (se_or (se_cmp (op_notInA hu1) sr_notIn (se_var 3) (se_var 2) (by rfl)) (se_one (se_cmp op_gt sr_cmp (se_dget hu1 (se_var 2) (se_var 3)) (se_var 4) (nomark _)))))) sa_nil))) (ss_one (s_ret (se_bl))) ss_nil)
    (ss_cons (s_if (st_cmp op_isN sr_isN (se_ix (se_var 1) (se_int)) (se_non) (nomark _)) (ss_one (s_ret (se_bl))) ss_nil)
    (ss_cons (s_if (st_cmp op_isN sr_isN (se_ix (se_var 0) (se_int)) (se_non) (nomark _)) (ss_one (s_ret (se_bl))) ss_nil)
    (ss_cons (s_set 5 sc.nd (se_callTy (call_dictTP rfl) src_dictP (by rfl) T.n_dict (by decide +kernel) (sa_cons (se_ix (se_var 1) (se_int)) sa_nil)))
    (ss_one (s_ret (se_callB (cr_all rfl) src_all (by rfl) T.n_all (by decide +kernel) (sa_cons (se_lc (own := [("line", 3), ("age", 4)]) rfl sc.nd (si_seq (se_ix (se_var 0) (se_int))) (blkOk_by (N := N_is_known_within) (sc := defScope st_is_known_within) (by decide +kernel)) (fun _ _ _ _ _ => pg_tup rfl (pgs_cons (pg_name (i := 3) sc.nd rfl (Or.inl rfl)) (pgs_cons (pg_name (i := 4) sc.nd rfl (Or.inl rfl)) pgs_nil))) (tgt_tup [3, 4]) (fun _ _ _ _ _ => pts_Y) (fun _ _ _ _ _ => (se_and (se_cmp (op_inA hu1) sr_in (se_var 3) (se_var 5) (by rfl)) (se_one (se_cmp op_le sr_cmp (se_dget hu1 (se_var 5) (se_var 3)) (se_var 4) (nomark _)))))) sa_nil)))))))))

theorem sc_Cache___init__ : FnScope N_Cache___init__ P_Cache___init__ (defScope st_Cache___init__) := ⟨rfl, rfl, rfl, by decide +kernel, rfl, by decide +kernel, by decide +kernel⟩
theorem ok_Cache___init__ (T : Txt K mg cm A Fd) : FM P w K mg base cm 1 (A 12) (Fd 12) P_Cache___init__ f_Cache___init__ :=
  fn_ok T.F_Cache___init__ sc_Cache___init__ fun cdv A outer s H E hr => by
  have hu1 := hu_of hr
  have hu64 := hr.units
  have sc := sc_Cache___init__
  exact (ss_cons (s_asg (se_var 1) (sg_tup rfl (sgs_cons (sg_fld 0 (se_var 0) T.cl_Cache T.na_Cache_sets) (sgs_cons (sg_fld 0 (se_var 0) T.cl_Cache T.na_Cache_ways) (sgs_cons (sg_fld 0 (se_var 0) T.cl_Cache T.na_Cache_policy) sgs_nil)))))
    (ss_one (s_fld 0 (se_lcM (own := [("row", 3)]) rfl sc.nd (si_seq (se_var 2)) (blkOk_by (N := N_Cache___init__) (sc := defScope st_Cache___init__) (by decide +kernel)) (fun _ _ _ _ _ => pg_name (i := 3) sc.nd rfl (Or.inl rfl)) (tgt_name 3) (fun _ _ _ _ _ => pts_Y) (fun _ _ _ _ _ => (se_callTy call_tuple_of src_tuple (by rfl) T.n_tuple (by decide +kernel) (sa_cons (se_var 3) sa_nil)))) (se_var 0) T.cl_Cache T.na_Cache_rows)))

theorem sc_Cache_has : FnScope N_Cache_has P_Cache_has (defScope st_Cache_has) := ⟨rfl, rfl, rfl, by decide +kernel, rfl, by decide +kernel, by decide +kernel⟩
theorem ok_Cache_has (T : Txt K mg cm A Fd) : FM P w K mg base cm 1 (A 13) (Fd 13) P_Cache_has f_Cache_has :=
  fn_ok T.F_Cache_has sc_Cache_has fun cdv A outer s H E hr => by
  have hu1 := hu_of hr
  have hu64 := hr.units
  have sc := sc_Cache_has
  exact (ss_cons (s_set 2 sc.nd (se_op op_mod sr_mod (se_var 1) (se_fld 0 (se_var 0) T.cl_Cache T.na_Cache_sets)))
    (ss_cons (s_set 3 sc.nd (se_ix (se_fld 0 (se_var 0) T.cl_Cache T.na_Cache_rows) (se_var 2)))
    (ss_cons (s_if (st_cmp (op_notInA hu1) sr_notIn (se_var 1) (se_var 3) (by rfl)) (ss_one (s_ret (se_bl))) ss_nil)
    (ss_cons (s_if (st_cmp (op_eqA hu64) sr_eq (se_fld 0 (se_var 0) T.cl_Cache T.na_Cache_policy) (se_str) (nomark _)) (ss_one (s_lput (se_op op_addA sr_add (se_tup (sa_cons (se_var 1) sa_nil)) (se_callTy call_tuple_of src_tuple (by rfl) T.n_tuple (by decide +kernel) (sa_cons (se_lc (own := [("one", 4)]) rfl sc.nd (si_seq (se_var 3)) (blkOk_by (N := N_Cache_has) (sc := defScope st_Cache_has) (by decide +kernel)) (fun _ _ _ _ _ => pg_name (i := 4) sc.nd rfl (Or.inl rfl)) (tgt_name 4) (fun _ _ _ _ _ => pts_S (st_cmp (op_neA hu64) sr_ne (se_var 4) (se_var 1) (nomark _))) (fun _ _ _ _ _ => (se_var 4))) sa_nil))) (se_fld 0 (se_var 0) T.cl_Cache T.na_Cache_rows) (se_var 2))) ss_nil)
    (ss_one (s_ret (se_bl)))))))

theorem sc_Cache_fill : FnScope N_Cache_fill P_Cache_fill (defScope st_Cache_fill) := ⟨rfl, rfl, rfl, by decide +kernel, rfl, by decide +kernel, by decide +kernel⟩
theorem ok_Cache_fill (T : Txt K mg cm A Fd) : FM P w K mg base cm 1 (A 14) (Fd 14) P_Cache_fill f_Cache_fill :=
  fn_ok T.F_Cache_fill sc_Cache_fill fun cdv A outer s H E hr => by
  have hu1 := hu_of hr
  have hu64 := hr.units
  have sc := sc_Cache_fill
  exact (ss_cons (s_set 2 sc.nd (se_op op_mod sr_mod (se_var 1) (se_fld 0 (se_var 0) T.cl_Cache T.na_Cache_sets)))
    (ss_cons (s_set 3 sc.nd (se_callTy call_tuple_of src_tuple (by rfl) T.n_tuple (by decide +kernel) (sa_cons (se_lc (own := [("one", 4)]) rfl sc.nd (si_seq (se_ix (se_fld 0 (se_var 0) T.cl_Cache T.na_Cache_rows) (se_var 2))) (blkOk_by (N := N_Cache_fill) (sc := defScope st_Cache_fill) (by decide +kernel)) (fun _ _ _ _ _ => pg_name (i := 4) sc.nd rfl (Or.inl rfl)) (tgt_name 4) (fun _ _ _ _ _ => pts_S (st_cmp (op_neA hu64) sr_ne (se_var 4) (se_var 1) (nomark _))) (fun _ _ _ _ _ => (se_var 4))) sa_nil)))
    (ss_one (s_lput (se_slice (se_op op_addA sr_add (se_tup (sa_cons (se_var 1) sa_nil)) (se_var 3)) sp_none (sp_some (se_fld 0 (se_var 0) T.cl_Cache T.na_Cache_ways))) (se_fld 0 (se_var 0) T.cl_Cache T.na_Cache_rows) (se_var 2)))))

theorem sc_Cache_lines : FnScope N_Cache_lines P_Cache_lines (defScope st_Cache_lines) := ⟨rfl, rfl, rfl, by decide +kernel, rfl, by decide +kernel, by decide +kernel⟩
theorem ok_Cache_lines (T : Txt K mg cm A Fd) : FM P w K mg base cm 1 (A 15) (Fd 15) P_Cache_lines f_Cache_lines :=
  fn_ok T.F_Cache_lines sc_Cache_lines fun cdv A outer s H E hr => by
  have hu1 := hu_of hr
  have hu64 := hr.units
  have sc := sc_Cache_lines
  exact (ss_one (s_ret (se_callTy call_tuple_of src_tuple (by rfl) T.n_tuple (by decide +kernel) (sa_cons (se_fld 0 (se_var 0) T.cl_Cache T.na_Cache_rows) sa_nil))))

theorem sc_is_start : FnScope N_is_start P_is_start (defScope st_is_start) := ⟨rfl, rfl, rfl, by decide +kernel, rfl, by decide +kernel, by decide +kernel⟩
theorem ok_is_start (T : Txt K mg cm A Fd) : FM P w K mg base cm 1 (A 16) (Fd 16) P_is_start f_is_start :=
  fn_ok T.F_is_start sc_is_start fun cdv A outer s H E hr => by
  have hu1 := hu_of hr
  have hu64 := hr.units
  have sc := sc_is_start
  exact (ss_cons (s_if (st_cmp (op_neA hu64) sr_ne (se_callB call_len src_len (by rfl) T.n_len (by decide +kernel) (sa_cons (se_var 1) sa_nil)) (se_ix (se_var 0) (se_int)) (nomark _)) (ss_one (s_ret (se_bl))) ss_nil)
    (ss_cons (s_for PassesOwn.never rfl (si_enum (by rfl) T.n_enumerate (sa_cons (se_var 1) sa_nil)) (sg_tup rfl (sgs_cons (sg_name 2 sc.nd) (sgs_cons (sg_name 3 sc.nd) sgs_nil))) (ss_cons (s_if (SW.pt (sw_or (st_cmp op_gt sr_cmp (se_callB call_len src_len (by rfl) T.n_len (by decide +kernel) (sa_cons (se_var 3) sa_nil)) (se_ix (se_var 0) (se_int)) (nomark _)) (sw_or1 (st_cmp (op_neA hu64) sr_ne (se_callB Mini.call_lenD src_lenD (by rfl) T.n_len (by decide +kernel) (sa_cons (se_dc (own := [("line", 4)]) rfl sc.nd (si_seq (se_var 3)) (blkOk_by (N := N_is_start) (sc := defScope st_is_start) (by decide +kernel)) (fun _ _ _ _ _ => pg_name (i := 4) sc.nd rfl (Or.inl rfl)) (tgt_name 4) (fun _ _ _ _ _ => pts_Y) (fun _ _ _ _ _ => (se_var 4)) (fun _ _ _ _ _ => (se_bl))) sa_nil)) (se_callB call_len src_len (by rfl) T.n_len (by decide +kernel) (sa_cons (se_var 3) sa_nil)) (nomark _))))) (ss_one (s_ret (se_bl))) ss_nil)
    (ss_one (s_if (st_tru (se_callB (cr_any rfl) src_any (by rfl) T.n_any (by decide +kernel) (sa_cons (se_lc (own := [("line", 4)]) rfl sc.nd (si_seq (se_var 3)) (blkOk_by (N := N_is_start) (sc := defScope st_is_start) (by decide +kernel)) (fun _ _ _ _ _ => pg_name (i := 4) sc.nd rfl (Or.inl rfl)) (tgt_name 4) (fun _ _ _ _ _ => pts_Y) (fun _ _ _ _ _ => (se_cmp (op_neA hu64) sr_ne (se_op op_mod sr_mod (se_var 4) (se_ix (se_var 0) (se_int))) (se_var 2) (nomark _)))) sa_nil))) (ss_one (s_ret (se_bl))) ss_nil))))
    (ss_one (s_ret (se_bl)))))

theorem sc_no_lines : FnScope N_no_lines P_no_lines (defScope st_no_lines) := ⟨rfl, rfl, rfl, by decide +kernel, rfl, by decide +kernel, by decide +kernel⟩
theorem ok_no_lines (T : Txt K mg cm A Fd) : FM P w K mg base cm 1 (A 17) (Fd 17) P_no_lines f_no_lines :=
  fn_ok T.F_no_lines sc_no_lines fun cdv A outer s H E hr => by
  have hu1 := hu_of hr
  have hu64 := hr.units
  have sc := sc_no_lines
  exact (ss_one (s_ret (se_op op_repA sr_rep (se_tup (sa_cons (se_tup sa_nil) sa_nil)) (se_ix (se_var 0) (se_int)))))

theorem sc__law_tape : FnScope N__law_tape P__law_tape (defScope st__law_tape) := ⟨rfl, rfl, rfl, by decide +kernel, rfl, by decide +kernel, by decide +kernel⟩
theorem ok__law_tape (T : Txt K mg cm A Fd) : FM P w K mg base cm 1 (A 18) (Fd 18) P__law_tape f__law_tape :=
  fn_ok T.F__law_tape sc__law_tape fun cdv A outer s H E hr => by
  have hu1 := hu_of hr
  have hu64 := hr.units
  have sc := sc__law_tape
  exact (ss_cons (s_setLc 1 (own := [("cell", 2)]) rfl sc.nd (si_seq (se_var 0)) (blkOk_by (N := N__law_tape) (sc := defScope st__law_tape) (by decide +kernel)) (fun _ _ _ _ _ => pg_name (i := 2) sc.nd rfl (Or.inl rfl)) (tgt_name 2) (fun _ _ _ _ _ => pts_Y) (fun _ _ _ _ _ => (se_callB call_abs src_abs (by rfl) T.n_abs (by decide +kernel) (sa_cons (se_callTy call_int1 src_int (by rfl) T.n_int (by decide +kernel) (sa_cons (se_var 2) sa_nil)) sa_nil))) (sw_true rfl rfl rfl (by decide +kernel)))
    (ss_cons (s_set 3 sc.nd (se_int))
    (ss_cons (s_for PassesOwn.never rfl (si_seq (se_var 1)) (sg_name 2 sc.nd) (ss_one (s_set 3 sc.nd (se_op op_mod sr_mod (se_callTy call_int1 src_int (by rfl) T.n_int (by decide +kernel) (sa_cons (se_op op_addA sr_add (se_op op_mul sr_mul (se_var 3) (se_int)) (se_var 2)) sa_nil)) (se_int)))))
    (ss_one (s_ret (se_disp (sps_cons (se_str) (se_var 1) (sps_cons (se_str) (se_int) (sps_cons (se_str) (se_int) (sps_cons (se_str) (se_var 3) (sps_cons (se_str) (se_int) sps_nil)))))))))))

theorem sc__law_take : FnScope N__law_take P__law_take (defScope st__law_take) := ⟨rfl, rfl, rfl, by decide +kernel, rfl, by decide +kernel, by decide +kernel⟩
theorem ok__law_take (T : Txt K mg cm A Fd) : FM P w K mg base cm 1 (A 19) (Fd 19) P__law_take f__law_take :=
  fn_ok T.F__law_take sc__law_take fun cdv A outer s H E hr => by
  have hu1 := hu_of hr
  have hu64 := hr.units
  have sc := sc__law_take
  exact (ss_cons (s_if (SW.pt (sw_and (st_cmp (op_eqA hu64) sr_eq (se_dget hu1 (se_var 0) (se_str)) (se_int) (nomark _)) (sw_and1 (st_cmp op_lt sr_cmp (se_dget hu1 (se_var 0) (se_str)) (se_callB call_len src_len (by rfl) T.n_len (by decide +kernel) (sa_cons (se_dget hu1 (se_var 0) (se_str)) sa_nil)) (nomark _))))) (ss_cons (s_dput hu1 (se_ix (se_dget hu1 (se_var 0) (se_str)) (se_dget hu1 (se_var 0) (se_str))) (se_var 0) (se_str))
    (ss_one (s_dput hu1 (se_op op_addA sr_add (se_dget hu1 (se_var 0) (se_str)) (se_int)) (se_var 0) (se_str)))) ss_nil)
    (ss_cons (s_if (st_cmp op_gt sr_cmp (se_dget hu1 (se_var 0) (se_str)) (se_int) (nomark _)) (ss_cons (s_set 2 sc.nd (se_op op_mod sr_mod (se_callTy call_int1 src_int (by rfl) T.n_int (by decide +kernel) (sa_cons (se_dget hu1 (se_var 0) (se_str)) sa_nil)) (se_var 1)))
    (ss_cons (s_dput hu1 (se_op op_fdivW sr_div (se_dget hu1 (se_var 0) (se_str)) (se_var 1)) (se_var 0) (se_str))
    (ss_one (s_ret (se_var 2))))) ss_nil)
    (ss_cons (s_dput hu1 (se_op op_addA sr_add (se_dget hu1 (se_var 0) (se_str)) (se_int)) (se_var 0) (se_str))
    (ss_cons (s_set 3 sc.nd (se_op op_mod sr_mod (se_callTy call_int1 src_int (by rfl) T.n_int (by decide +kernel) (sa_cons (se_op op_addA sr_add (se_op op_mul sr_mul (se_dget hu1 (se_var 0) (se_str)) (se_int)) (se_op op_mul sr_mul (se_dget hu1 (se_var 0) (se_str)) (se_int))) sa_nil)) (se_int)))
    (ss_cons (s_set 3 sc.nd (se_op op_mod sr_mod (se_callTy call_int1 src_int (by rfl) T.n_int (by decide +kernel) (sa_cons (se_op op_addA sr_add (se_op op_addA sr_add (se_op op_mul sr_mul (se_var 3) (se_var 3)) (se_op op_mul sr_mul (se_dget hu1 (se_var 0) (se_str)) (se_int))) (se_int)) sa_nil)) (se_int)))
    (ss_one (s_ret (se_op op_mod sr_mod (se_callTy call_int1 src_int (by rfl) T.n_int (by decide +kernel) (sa_cons (se_var 3) sa_nil)) (se_var 1)))))))))

theorem sc__law_rows_of : FnScope N__law_rows_of P__law_rows_of (defScope st__law_rows_of) := ⟨rfl, rfl, rfl, by decide +kernel, rfl, by decide +kernel, by decide +kernel⟩
theorem ok__law_rows_of (T : Txt K mg cm A Fd) (G__law_take : FM P w K mg base cm 1 (A 19) (Fd 19) P__law_take f__law_take) : FM P w K mg base cm 2 (A 20) (Fd 20) P__law_rows_of f__law_rows_of :=
  fn_ok T.F__law_rows_of sc__law_rows_of fun cdv A outer s H E hr => by
  have hu1 := hu_of hr
  have hu64 := hr.units
  have sc := sc__law_rows_of
  exact (ss_cons (s_set 3 sc.nd (se_lstM sa_nil))
    (ss_cons (s_for PassesOwn.never rfl (si_range1 (by rfl) T.n_range (sa_cons (se_ix (se_var 1) (se_int)) sa_nil)) (sg_name 4 sc.nd) (ss_cons (s_set 5 sc.nd (se_lstM sa_nil))
    (ss_cons (s_for PassesOwn.never rfl (si_range1 (by rfl) T.n_range (sa_cons (se_ix (se_var 1) (se_int)) sa_nil)) (sg_name 6 sc.nd) (ss_cons (s_set 7 sc.nd (se_op op_addA sr_add (se_var 4) (se_op op_mul sr_mul (se_ix (se_var 1) (se_int)) (se_call G__law_take (hr.mono (by decide)) (by rfl) T.m__law_take T.k__law_take T.b__law_take (sa_cons (se_var 0) (sa_cons (se_var 2) sa_nil)) fnB_len))))
    (ss_one (s_if (SW.pt (sw_and (st_cmp (op_notInA hu1) sr_notIn (se_var 7) (se_var 5) (by rfl)) (sw_and1 (st_cmp op_gt sr_cmp (se_call G__law_take (hr.mono (by decide)) (by rfl) T.m__law_take T.k__law_take T.b__law_take (sa_cons (se_var 0) (sa_cons (se_int) sa_nil)) fnB_len) (se_int) (nomark _))))) (ss_one (s_expr (se_lm srm_append PySem.F.plainAttrs_list PySem.F.slot_list_append PySem.F.type_list_append mt_append (se_var 5) (sa_cons (se_var 7) sa_nil)))) ss_nil))))
    (ss_one (s_expr (se_lm srm_append PySem.F.plainAttrs_list PySem.F.slot_list_append PySem.F.type_list_append mt_append (se_var 3) (sa_cons (se_callTy call_tuple_of src_tuple (by rfl) T.n_tuple (by decide +kernel) (sa_cons (se_var 5) sa_nil)) sa_nil)))))))
    (ss_one (s_ret (se_callTy call_tuple_of src_tuple (by rfl) T.n_tuple (by decide +kernel) (sa_cons (se_var 3) sa_nil))))))

theorem sc__law_holds : FnScope N__law_holds P__law_holds (defScope st__law_holds) := ⟨rfl, rfl, rfl, by decide +kernel, rfl, by decide +kernel, by decide +kernel⟩
theorem ok__law_holds (T : Txt K mg cm A Fd) : FM P w K mg base cm 1 (A 21) (Fd 21) P__law_holds f__law_holds :=
  fn_ok T.F__law_holds sc__law_holds fun cdv A outer s H E hr => by
  have hu1 := hu_of hr
  have hu64 := hr.units
  have sc := sc__law_holds
  exact (ss_cons (s_asg (se_var 1) (sg_tup rfl (sgs_cons (sg_name 3 sc.nd) (sgs_cons (sg_name 4 sc.nd) sgs_nil))))
    (ss_cons (s_set 5 sc.nd (se_dnew))
    (ss_cons (s_forA 100000 PassesOwn.never rfl (se_var 2) (sg_name 6 sc.nd) (ss_one (s_for PassesOwn.never rfl (si_range1 (by rfl) T.n_range (sa_cons (se_callB call_len src_len (by rfl) T.n_len (by decide +kernel) (sa_cons (se_var 6) sa_nil)) sa_nil)) (sg_name 7 sc.nd) (ss_one (s_dput hu1 (se_var 7) (se_var 5) (se_ix (se_var 6) (se_var 7)))))))
    (ss_cons (s_if (st_tru (se_callB (cr_any rfl) src_any (by rfl) T.n_any (by decide +kernel) (sa_cons (se_lc (own := [("line", 8), ("age", 7)]) rfl sc.nd (si_seq (se_var 3)) (blkOk_by (N := N__law_holds) (sc := defScope st__law_holds) (by decide +kernel)) (fun _ _ _ _ _ => pg_tup rfl (pgs_cons (pg_name (i := 8) sc.nd rfl (Or.inl rfl)) (pgs_cons (pg_name (i := 7) sc.nd rfl (Or.inl rfl)) pgs_nil))) (tgt_tup [8, 7]) (fun _ _ _ _ _ => pts_Y) (fun _ _ _ _ _ => (se_or (se_cmp (op_notInA hu1) sr_notIn (se_var 8) (se_var 5) (by rfl)) (se_one (se_and (se_cmp (op_eqA hu64) sr_eq (se_ix (se_var 0) (se_int)) (se_str) (nomark _)) (se_one (se_cmp op_gt sr_cmp (se_dget hu1 (se_var 5) (se_var 8)) (se_var 7) (nomark _)))))))) sa_nil))) (ss_one (s_ret (se_bl))) ss_nil)
    (ss_one (s_ret (se_or (se_cmp op_isN sr_isN (se_var 4) (se_non) (nomark _)) (se_one (se_callB (cr_all rfl) src_all (by rfl) T.n_all (by decide +kernel) (sa_cons (se_lc (own := [("line", 8)]) rfl sc.nd (si_keys (se_var 5)) (blkOk_by (N := N__law_holds) (sc := defScope st__law_holds) (by decide +kernel)) (fun _ _ _ _ _ => pg_name (i := 8) sc.nd rfl (Or.inl rfl)) (tgt_name 8) (fun _ _ _ _ _ => pts_Y) (fun _ _ _ _ _ => (se_and (se_cmp (op_inA hu1) sr_in (se_var 8) (se_callTy (call_dictTP rfl) src_dictP (by rfl) T.n_dict (by decide +kernel) (sa_cons (se_var 4) sa_nil)) (by rfl)) (se_one (se_or (se_cmp (op_eqA hu64) sr_eq (se_ix (se_var 0) (se_int)) (se_str) (nomark _)) (se_one (se_cmp op_le sr_cmp (se_dget hu1 (se_callTy (call_dictTP rfl) src_dictP (by rfl) T.n_dict (by decide +kernel) (sa_cons (se_var 4) sa_nil)) (se_var 8)) (se_dget hu1 (se_var 5) (se_var 8)) (nomark _)))))))) sa_nil))))))))))

theorem sc_law : FnScope N_law P_law (defScope st_law) := ⟨rfl, rfl, rfl, by decide +kernel, rfl, by decide +kernel, by decide +kernel⟩
theorem ok_law (T : Txt K mg cm A Fd) (G_anything : FM P w K mg base cm 1 (A 0) (Fd 0) P_anything f_anything) (G_nothing : FM P w K mg base cm 1 (A 1) (Fd 1) P_nothing f_nothing) (G_of_cache : FM P w K mg base cm 1 (A 2) (Fd 2) P_of_cache f_of_cache) (G_verdicts : FM P w K mg base cm 1 (A 4) (Fd 4) P_verdicts f_verdicts) (G_touched : FM P w K mg base cm 3 (A 7) (Fd 7) P_touched f_touched) (G_missed : FM P w K mg base cm 1 (A 8) (Fd 8) P_missed f_missed) (G_filled : FM P w K mg base cm 3 (A 9) (Fd 9) P_filled f_filled) (G_joined_known : FM P w K mg base cm 1 (A 10) (Fd 10) P_joined_known f_joined_known) (G_is_known_within : FM P w K mg base cm 1 (A 11) (Fd 11) P_is_known_within f_is_known_within) (G_Cache___init__ : FM P w K mg base cm 1 (A 12) (Fd 12) P_Cache___init__ f_Cache___init__) (G_Cache_has : FM P w K mg base cm 1 (A 13) (Fd 13) P_Cache_has f_Cache_has) (G_Cache_fill : FM P w K mg base cm 1 (A 14) (Fd 14) P_Cache_fill f_Cache_fill) (G_Cache_lines : FM P w K mg base cm 1 (A 15) (Fd 15) P_Cache_lines f_Cache_lines) (G_is_start : FM P w K mg base cm 1 (A 16) (Fd 16) P_is_start f_is_start) (G_no_lines : FM P w K mg base cm 1 (A 17) (Fd 17) P_no_lines f_no_lines) (G__law_tape : FM P w K mg base cm 1 (A 18) (Fd 18) P__law_tape f__law_tape) (G__law_take : FM P w K mg base cm 1 (A 19) (Fd 19) P__law_take f__law_take) (G__law_rows_of : FM P w K mg base cm 2 (A 20) (Fd 20) P__law_rows_of f__law_rows_of) (G__law_holds : FM P w K mg base cm 1 (A 21) (Fd 21) P__law_holds f__law_holds) : FM P w K mg base cm 4 (A 22) (Fd 22) P_law f_law :=
  fn_ok T.F_law sc_law fun cdv A outer s H E hr => by
  have hu1 := hu_of hr
  have hu64 := hr.units
  have sc := sc_law
  exact (ss_cons (s_set 1 sc.nd (se_call G__law_tape (hr.mono (by decide)) (by rfl) T.m__law_tape T.k__law_tape T.b__law_tape (sa_cons (se_var 0) sa_nil) fnB_len))
    (ss_cons (s_set 2 sc.nd (se_tup (sa_cons (se_op op_addA sr_add (se_int) (se_call G__law_take (hr.mono (by decide)) (by rfl) T.m__law_take T.k__law_take T.b__law_take (sa_cons (se_var 1) (sa_cons (se_int) sa_nil)) fnB_len)) (sa_cons (se_op op_addA sr_add (se_int) (se_call G__law_take (hr.mono (by decide)) (by rfl) T.m__law_take T.k__law_take T.b__law_take (sa_cons (se_var 1) (sa_cons (se_int) sa_nil)) fnB_len)) (sa_cons (se_ix (se_lst (sa_cons (se_str) (sa_cons (se_str) sa_nil))) (se_call G__law_take (hr.mono (by decide)) (by rfl) T.m__law_take T.k__law_take T.b__law_take (sa_cons (se_var 1) (sa_cons (se_int) sa_nil)) fnB_len)) sa_nil)))))
    (ss_cons (s_set 3 sc.nd (se_call G__law_rows_of (hr.mono (by decide)) (by rfl) T.m__law_rows_of T.k__law_rows_of T.b__law_rows_of (sa_cons (se_var 1) (sa_cons (se_var 2) (sa_cons (se_int) sa_nil))) fnB_len))
    (ss_cons (s_if (SW.pt (sw_or (st_not (st_tru (se_call G_is_start (hr.mono (by decide)) (by rfl) T.m_is_start T.k_is_start T.b_is_start (sa_cons (se_var 2) (sa_cons (se_var 3) sa_nil)) fnB_len))) (sw_or (st_tru (se_call G_is_start (hr.mono (by decide)) (by rfl) T.m_is_start T.k_is_start T.b_is_start (sa_cons (se_var 2) (sa_cons (se_op op_addA sr_add (se_var 3) (se_tup (sa_cons (se_tup sa_nil) sa_nil))) sa_nil)) fnB_len)) (sw_or (st_cmp (op_neA hu64) sr_ne (se_call G_no_lines (hr.mono (by decide)) (by rfl) T.m_no_lines T.k_no_lines T.b_no_lines (sa_cons (se_var 2) sa_nil) fnB_len) (se_op op_repA sr_rep (se_tup (sa_cons (se_tup sa_nil) sa_nil)) (se_ix (se_var 2) (se_int))) (nomark _)) (sw_or (SW.pt (sw_and (st_cmp (op_eqA hu64) sr_eq (se_ix (se_var 2) (se_int)) (se_int) (nomark _)) (sw_and1 (st_tru (se_call G_is_start (hr.mono (by decide)) (by rfl) T.m_is_start T.k_is_start T.b_is_start (sa_cons (se_var 2) (sa_cons (se_tup (sa_cons (se_tup (sa_cons (se_int) sa_nil)) (sa_cons (se_tup sa_nil) sa_nil))) sa_nil)) fnB_len))))) (sw_or1 (st_tru (se_call G_is_start (hr.mono (by decide)) (by rfl) T.m_is_start T.k_is_start T.b_is_start (sa_cons (se_var 2) (sa_cons (se_op op_addA sr_add (se_tup (sa_cons (se_tup (sa_cons (se_int) (sa_cons (se_int) sa_nil))) sa_nil)) (se_op op_repA sr_rep (se_tup (sa_cons (se_tup sa_nil) sa_nil)) (se_op op_sub sr_sub (se_ix (se_var 2) (se_int)) (se_int)))) sa_nil)) fnB_len)))))))) (ss_one (s_ret (se_bl))) ss_nil)
    (ss_cons (s_set 4 sc.nd (se_call G__law_rows_of (hr.mono (by decide)) (by rfl) T.m__law_rows_of T.k__law_rows_of T.b__law_rows_of (sa_cons (se_var 1) (sa_cons (se_var 2) (sa_cons (se_int) sa_nil))) fnB_len))
    (ss_cons (s_asg (se_tup (sa_cons (se_make 0 T.mk_Cache G_Cache___init__ (hr.mono (by decide)) (by rfl) T.c_Cache T.b_Cache___init__ (sa_cons (se_var 2) (sa_cons (se_var 3) sa_nil)) fnB_len) (sa_cons (se_make 0 T.mk_Cache G_Cache___init__ (hr.mono (by decide)) (by rfl) T.c_Cache T.b_Cache___init__ (sa_cons (se_var 2) (sa_cons (se_var 4) sa_nil)) fnB_len) (sa_cons (se_callTy call_list_of src_listM (by rfl) T.n_list (by decide +kernel) (sa_cons (se_var 3) sa_nil)) (sa_cons (se_callTy call_list_of src_listM (by rfl) T.n_list (by decide +kernel) (sa_cons (se_var 4) sa_nil)) sa_nil))))) (sg_tup rfl (sgs_cons (sg_name 5 sc.nd) (sgs_cons (sg_name 6 sc.nd) (sgs_cons (sg_name 7 sc.nd) (sgs_cons (sg_name 8 sc.nd) sgs_nil))))))
    (ss_cons (s_par3 9 10 11 rfl sc.nd (sa_cons (se_call G_of_cache (hr.mono (by decide)) (by rfl) T.m_of_cache T.k_of_cache T.b_of_cache (sa_cons (se_var 2) (sa_cons (se_var 3) sa_nil)) fnB_len) (sa_cons (se_call0 G_anything (hr.mono (by decide)) (by rfl) T.m_anything T.k_anything T.b_anything fnB_len) (sa_cons (se_call G_joined_known (hr.mono (by decide)) (by rfl) T.m_joined_known T.k_joined_known T.b_joined_known (sa_cons (se_call G_of_cache (hr.mono (by decide)) (by rfl) T.m_of_cache T.k_of_cache T.b_of_cache (sa_cons (se_var 2) (sa_cons (se_var 3) sa_nil)) fnB_len) (sa_cons (se_call G_of_cache (hr.mono (by decide)) (by rfl) T.m_of_cache T.k_of_cache T.b_of_cache (sa_cons (se_var 2) (sa_cons (se_var 4) sa_nil)) fnB_len) sa_nil)) fnB_len) sa_nil))))
    (ss_cons (s_if (SW.pt (sw_or (st_not (st_tru (se_call G__law_holds (hr.mono (by decide)) (by rfl) T.m__law_holds T.k__law_holds T.b__law_holds (sa_cons (se_var 2) (sa_cons (se_var 9) (sa_cons (se_var 3) sa_nil))) fnB_len))) (sw_or (st_not (st_tru (se_call G_is_known_within (hr.mono (by decide)) (by rfl) T.m_is_known_within T.k_is_known_within T.b_is_known_within (sa_cons (se_var 9) (sa_cons (se_var 10) sa_nil)) fnB_len))) (sw_or (st_not (st_tru (se_call G_is_known_within (hr.mono (by decide)) (by rfl) T.m_is_known_within T.k_is_known_within T.b_is_known_within (sa_cons (se_var 9) (sa_cons (se_var 11) sa_nil)) fnB_len))) (sw_or1 (st_not (st_tru (se_call G_is_known_within (hr.mono (by decide)) (by rfl) T.m_is_known_within T.k_is_known_within T.b_is_known_within (sa_cons (se_call G_of_cache (hr.mono (by decide)) (by rfl) T.m_of_cache T.k_of_cache T.b_of_cache (sa_cons (se_var 2) (sa_cons (se_var 4) sa_nil)) fnB_len) (sa_cons (se_var 11) sa_nil)) fnB_len)))))))) (ss_one (s_ret (se_bl))) ss_nil)
    (ss_cons (s_for PassesOwn.never rfl (si_range1 (by rfl) T.n_range (sa_cons (se_int) sa_nil)) (sg_name 12 sc.nd) (ss_cons (s_set 13 sc.nd (se_call G__law_take (hr.mono (by decide)) (by rfl) T.m__law_take T.k__law_take T.b__law_take (sa_cons (se_var 1) (sa_cons (se_int) sa_nil)) fnB_len))
    (ss_cons (s_set 14 sc.nd (se_op op_mod sr_mod (se_var 13) (se_ix (se_var 2) (se_int))))
    (ss_cons (s_set 15 sc.nd (se_cmp (op_inA hu1) sr_in (se_var 13) (se_ix (se_var 7) (se_var 14)) (by rfl)))
    (ss_cons (s_if (SW.pt (sw_or (st_cmp (op_notInA hu1) sr_notIn (se_var 15) (se_call G_verdicts (hr.mono (by decide)) (by rfl) T.m_verdicts T.k_verdicts T.b_verdicts (sa_cons (se_var 9) (sa_cons (se_var 13) sa_nil)) fnB_len) (by rfl)) (sw_or (st_cmp (op_notInA hu1) sr_notIn (se_var 15) (se_call G_verdicts (hr.mono (by decide)) (by rfl) T.m_verdicts T.k_verdicts T.b_verdicts (sa_cons (se_var 10) (sa_cons (se_var 13) sa_nil)) fnB_len) (by rfl)) (sw_or (st_cmp (op_notInA hu1) sr_notIn (se_var 15) (se_call G_verdicts (hr.mono (by decide)) (by rfl) T.m_verdicts T.k_verdicts T.b_verdicts (sa_cons (se_var 11) (sa_cons (se_var 13) sa_nil)) fnB_len) (by rfl)) (sw_or1 (st_cmp (op_notInA hu1) sr_notIn (se_cmp (op_inA hu1) sr_in (se_var 13) (se_ix (se_var 8) (se_var 14)) (by rfl)) (se_call G_verdicts (hr.mono (by decide)) (by rfl) T.m_verdicts T.k_verdicts T.b_verdicts (sa_cons (se_var 11) (sa_cons (se_var 13) sa_nil)) fnB_len) (by rfl))))))) (ss_one (s_ret (se_bl))) ss_nil)
    (ss_cons (s_if (st_cmp op_gt sr_cmp (se_call G__law_take (hr.mono (by decide)) (by rfl) T.m__law_take T.k__law_take T.b__law_take (sa_cons (se_var 1) (sa_cons (se_int) sa_nil)) fnB_len) (se_int) (nomark _)) (ss_cons (s_if (SW.pt (sw_or (st_cmp (op_neA hu64) sr_ne (se_meth 0 (se_var 5) T.cl_Cache T.me_Cache_has G_Cache_has (hr.mono (by decide)) T.b_Cache_has (sa_cons (se_var 13) sa_nil) fnB_len) (se_var 15) (nomark _)) (sw_or1 (st_cmp (op_neA hu64) sr_ne (se_meth 0 (se_var 6) T.cl_Cache T.me_Cache_has G_Cache_has (hr.mono (by decide)) T.b_Cache_has (sa_cons (se_var 13) sa_nil) fnB_len) (se_cmp (op_inA hu1) sr_in (se_var 13) (se_ix (se_var 8) (se_var 14)) (by rfl)) (nomark _))))) (ss_one (s_ret (se_bl))) ss_nil)
    (ss_cons (s_for PassesOwn.never rfl (si_seq (se_tup (sa_cons (se_var 7) (sa_cons (se_var 8) sa_nil)))) (sg_name 16 sc.nd) (ss_one (s_if (SW.pt (sw_and (st_cmp (op_inA hu1) sr_in (se_var 13) (se_ix (se_var 16) (se_var 14)) (by rfl)) (sw_and1 (st_cmp (op_eqA hu64) sr_eq (se_ix (se_var 2) (se_int)) (se_str) (nomark _))))) (ss_one (s_lput (se_op op_addA sr_add (se_tup (sa_cons (se_var 13) sa_nil)) (se_callTy call_tuple_of src_tuple (by rfl) T.n_tuple (by decide +kernel) (sa_cons (se_lc (own := [("one", 17)]) rfl sc.nd (si_seq (se_ix (se_var 16) (se_var 14))) (blkOk_by (N := N_law) (sc := defScope st_law) (by decide +kernel)) (fun _ _ _ _ _ => pg_name (i := 17) sc.nd rfl (Or.inl rfl)) (tgt_name 17) (fun _ _ _ _ _ => pts_S (st_cmp (op_neA hu64) sr_ne (se_var 17) (se_var 13) (nomark _))) (fun _ _ _ _ _ => (se_var 17))) sa_nil))) (se_var 16) (se_var 14))) ss_nil)))
    (ss_cons (s_set 9 sc.nd (se_if (st_tru (se_var 15)) (se_call G_touched (hr.mono (by decide)) (by rfl) T.m_touched T.k_touched T.b_touched (sa_cons (se_var 2) (sa_cons (se_var 9) (sa_cons (se_var 13) sa_nil))) fnB_len) (se_call G_missed (hr.mono (by decide)) (by rfl) T.m_missed T.k_missed T.b_missed (sa_cons (se_var 9) (sa_cons (se_var 13) sa_nil)) fnB_len)))
    (ss_cons (s_set 10 sc.nd (se_if (st_tru (se_var 15)) (se_call G_touched (hr.mono (by decide)) (by rfl) T.m_touched T.k_touched T.b_touched (sa_cons (se_var 2) (sa_cons (se_var 10) (sa_cons (se_var 13) sa_nil))) fnB_len) (se_call G_missed (hr.mono (by decide)) (by rfl) T.m_missed T.k_missed T.b_missed (sa_cons (se_var 10) (sa_cons (se_var 13) sa_nil)) fnB_len)))
    (ss_one (s_if (st_cmp (op_eqA hu64) sr_eq (se_var 15) (se_cmp (op_inA hu1) sr_in (se_var 13) (se_ix (se_var 8) (se_var 14)) (by rfl)) (nomark _)) (ss_one (s_set 11 sc.nd (se_if (st_tru (se_var 15)) (se_call G_touched (hr.mono (by decide)) (by rfl) T.m_touched T.k_touched T.b_touched (sa_cons (se_var 2) (sa_cons (se_var 11) (sa_cons (se_var 13) sa_nil))) fnB_len) (se_call G_missed (hr.mono (by decide)) (by rfl) T.m_missed T.k_missed T.b_missed (sa_cons (se_var 11) (sa_cons (se_var 13) sa_nil)) fnB_len)))) (ss_one (s_set 11 sc.nd (se_call G_joined_known (hr.mono (by decide)) (by rfl) T.m_joined_known T.k_joined_known T.b_joined_known (sa_cons (se_var 9) (sa_cons (se_call G_of_cache (hr.mono (by decide)) (by rfl) T.m_of_cache T.k_of_cache T.b_of_cache (sa_cons (se_var 2) (sa_cons (se_callTy call_tuple_of src_tuple (by rfl) T.n_tuple (by decide +kernel) (sa_cons (se_var 8) sa_nil)) sa_nil)) fnB_len) sa_nil)) fnB_len))))))))) (ss_cons (s_expr (se_meth 0 (se_var 5) T.cl_Cache T.me_Cache_fill G_Cache_fill (hr.mono (by decide)) T.b_Cache_fill (sa_cons (se_var 13) sa_nil) fnB_len))
    (ss_cons (s_expr (se_meth 0 (se_var 6) T.cl_Cache T.me_Cache_fill G_Cache_fill (hr.mono (by decide)) T.b_Cache_fill (sa_cons (se_var 13) sa_nil) fnB_len))
    (ss_cons (s_for PassesOwn.never rfl (si_seq (se_tup (sa_cons (se_var 7) (sa_cons (se_var 8) sa_nil)))) (sg_name 16 sc.nd) (ss_one (s_lput (se_slice (se_op op_addA sr_add (se_tup (sa_cons (se_var 13) sa_nil)) (se_callTy call_tuple_of src_tuple (by rfl) T.n_tuple (by decide +kernel) (sa_cons (se_lc (own := [("one", 17)]) rfl sc.nd (si_seq (se_ix (se_var 16) (se_var 14))) (blkOk_by (N := N_law) (sc := defScope st_law) (by decide +kernel)) (fun _ _ _ _ _ => pg_name (i := 17) sc.nd rfl (Or.inl rfl)) (tgt_name 17) (fun _ _ _ _ _ => pts_S (st_cmp (op_neA hu64) sr_ne (se_var 17) (se_var 13) (nomark _))) (fun _ _ _ _ _ => (se_var 17))) sa_nil))) sp_none (sp_some (se_ix (se_var 2) (se_int)))) (se_var 16) (se_var 14))))
    (ss_one (s_par3 9 10 11 rfl sc.nd (sa_cons (se_call G_filled (hr.mono (by decide)) (by rfl) T.m_filled T.k_filled T.b_filled (sa_cons (se_var 2) (sa_cons (se_var 9) (sa_cons (se_var 13) sa_nil))) fnB_len) (sa_cons (se_call G_filled (hr.mono (by decide)) (by rfl) T.m_filled T.k_filled T.b_filled (sa_cons (se_var 2) (sa_cons (se_var 10) (sa_cons (se_var 13) sa_nil))) fnB_len) (sa_cons (se_call G_filled (hr.mono (by decide)) (by rfl) T.m_filled T.k_filled T.b_filled (sa_cons (se_var 2) (sa_cons (se_var 11) (sa_cons (se_var 13) sa_nil))) fnB_len) sa_nil)))))))))
    (ss_cons (s_if (SW.pt (sw_or (st_cmp (op_neA hu64) sr_ne (se_meth0 0 (se_var 5) T.cl_Cache T.me_Cache_lines G_Cache_lines (hr.mono (by decide)) T.b_Cache_lines fnB_len) (se_callTy call_tuple_of src_tuple (by rfl) T.n_tuple (by decide +kernel) (sa_cons (se_var 7) sa_nil)) (nomark _)) (sw_or (st_not (st_tru (se_call G__law_holds (hr.mono (by decide)) (by rfl) T.m__law_holds T.k__law_holds T.b__law_holds (sa_cons (se_var 2) (sa_cons (se_var 9) (sa_cons (se_var 7) sa_nil))) fnB_len))) (sw_or (st_not (st_tru (se_call G__law_holds (hr.mono (by decide)) (by rfl) T.m__law_holds T.k__law_holds T.b__law_holds (sa_cons (se_var 2) (sa_cons (se_var 10) (sa_cons (se_var 7) sa_nil))) fnB_len))) (sw_or (st_not (st_tru (se_call G__law_holds (hr.mono (by decide)) (by rfl) T.m__law_holds T.k__law_holds T.b__law_holds (sa_cons (se_var 2) (sa_cons (se_var 11) (sa_cons (se_var 7) sa_nil))) fnB_len))) (sw_or1 (st_not (st_tru (se_call G__law_holds (hr.mono (by decide)) (by rfl) T.m__law_holds T.k__law_holds T.b__law_holds (sa_cons (se_var 2) (sa_cons (se_var 11) (sa_cons (se_var 8) sa_nil))) fnB_len))))))))) (ss_one (s_ret (se_bl))) ss_nil)
    (ss_cons (s_if (SW.pt (sw_or (st_not (st_tru (se_call G_is_known_within (hr.mono (by decide)) (by rfl) T.m_is_known_within T.k_is_known_within T.b_is_known_within (sa_cons (se_var 9) (sa_cons (se_var 9) sa_nil)) fnB_len))) (sw_or (st_not (st_tru (se_call G_is_known_within (hr.mono (by decide)) (by rfl) T.m_is_known_within T.k_is_known_within T.b_is_known_within (sa_cons (se_var 9) (sa_cons (se_call G_joined_known (hr.mono (by decide)) (by rfl) T.m_joined_known T.k_joined_known T.b_joined_known (sa_cons (se_var 9) (sa_cons (se_var 10) sa_nil)) fnB_len) sa_nil)) fnB_len))) (sw_or1 (st_not (st_tru (se_call G_is_known_within (hr.mono (by decide)) (by rfl) T.m_is_known_within T.k_is_known_within T.b_is_known_within (sa_cons (se_var 10) (sa_cons (se_call G_joined_known (hr.mono (by decide)) (by rfl) T.m_joined_known T.k_joined_known T.b_joined_known (sa_cons (se_var 9) (sa_cons (se_var 10) sa_nil)) fnB_len) sa_nil)) fnB_len))))))) (ss_one (s_ret (se_bl))) ss_nil)
    (ss_one (s_if (SW.pt (sw_and (st_tru (se_call G_is_known_within (hr.mono (by decide)) (by rfl) T.m_is_known_within T.k_is_known_within T.b_is_known_within (sa_cons (se_call0 G_nothing (hr.mono (by decide)) (by rfl) T.m_nothing T.k_nothing T.b_nothing fnB_len) (sa_cons (se_var 9) sa_nil)) fnB_len)) (sw_and (st_tru (se_callB (cr_any rfl) src_any (by rfl) T.n_any (by decide +kernel) (sa_cons (se_lcL (own := [("row", 16)]) rfl sc.nd (se_var 7) (blkOk_by (N := N_law) (sc := defScope st_law) (by decide +kernel)) (fun _ _ _ _ _ => pg_name (i := 16) sc.nd rfl (Or.inl rfl)) (tgt_name 16) (fun _ _ _ _ _ => pts_Y) (fun _ _ _ _ _ => (se_cmp (op_neA hu64) sr_ne (se_var 16) (se_tup sa_nil) (nomark _)))) sa_nil))) (sw_and1 (st_cmp (op_neA hu64) sr_ne (se_ix (se_var 9) (se_int)) (se_tup sa_nil) (nomark _)))))) (ss_one (s_ret (se_bl))) ss_nil))))))))))
    (ss_one (s_ret (se_bl))))))))))))
end
end K03

set_option Elab.async false
set_option maxRecDepth 100000
namespace Mini
open PySem L2

/-- it ends well, and so -/
def wp {α : Type} (o : Option α) (Q : α → Prop) : Prop := ∃ a, o = some a ∧ Q a
section
variable {α : Type} {a : α} {Q Q' : α → Prop} {o : Option α}
theorem w_some : wp (some a) Q ↔ Q a := ⟨fun ⟨_, e, q⟩ => Option.some.inj e ▸ q, fun q => ⟨a, rfl, q⟩⟩
theorem w_none : wp (none : Option α) Q ↔ False := ⟨fun ⟨_, e, _⟩ => (nomatch e), False.elim⟩
theorem wp.mono (h : wp o Q) (w : ∀ a, Q a → Q' a) : wp o Q' := let ⟨a, e, q⟩ := h; ⟨a, e, w a q⟩
theorem wp.eq (h : o = some a) (q : Q a) : wp o Q := ⟨a, h, q⟩
theorem w_ite {c : Prop} [Decidable c] {x y : Option α} : wp (if c then x else y) Q ↔ (c → wp x Q) ∧ (¬ c → wp y Q) := by
  by_cases h : c <;> simp [h]
end
section
variable {sg : Sg} {m : M} {a b c d : XE} {t u : XT} {r : XA} {Q : D × M → Prop} {QT : Bool × M → Prop} {QA : List D × M → Prop}
theorem w_var {i : Nat} : wp (xVar i sg m) Q ↔ wp (getS sg i) fun d => Q (d, m) := by
  unfold xVar
  cases getS sg i <;> simp [w_some, w_none]
theorem w_c {x : D} : wp (xC x sg m) Q ↔ Q (x, m) := w_some
theorem w_op {f : F2} : wp (xOp f a b sg m) Q ↔ wp (a sg m) fun p => wp (b sg p.2) fun q => wp (f p.1 q.1 q.2) Q := by
  unfold xOp
  rcases a sg m with _ | ⟨x, m1⟩
  · simp [w_none]
  · simp only [w_some]
    rcases b sg m1 with _ | ⟨y, m2⟩ <;> simp [w_none, w_some]
theorem w_un {f : F1} : wp (xUn f a sg m) Q ↔ wp (a sg m) fun p => wp (f p.1 p.2) Q := by
  unfold xUn
  rcases a sg m with _ | ⟨x, m1⟩ <;> simp [w_none, w_some]
theorem w_anil : wp (aNil sg m) QA ↔ QA ([], m) := w_some
theorem w_acons : wp (aCons a r sg m) QA ↔ wp (a sg m) fun p => wp (r sg p.2) fun q => QA (p.1 :: q.1, q.2) := by
  unfold aCons
  rcases a sg m with _ | ⟨x, m1⟩
  · simp [w_none]
  · simp only [w_some]
    rcases r sg m1 with _ | ⟨y, m2⟩ <;> simp [w_none, w_some]
theorem w_fn {f : FN} : wp (xFn f r sg m) Q ↔ wp (r sg m) fun p => wp (f p.1 p.2) Q := by
  unfold xFn
  rcases r sg m with _ | ⟨x, m1⟩ <;> simp [w_none, w_some]
theorem w_tup : wp (xTup r sg m) Q ↔ wp (r sg m) fun p => p.1.length ≤ 100000 ∧ Q (.tup p.1, p.2) := by
  unfold xTup
  rcases r sg m with _ | ⟨x, m1⟩ <;> simp [w_none, w_some]
  split <;> simp [w_none, w_some, *]
theorem w_lst : wp (xLst r sg m) Q ↔ wp (r sg m) fun p => p.1.length ≤ 100000 ∧ Q (.lst p.1, p.2) := by
  unfold xLst
  rcases r sg m with _ | ⟨x, m1⟩ <;> simp [w_none, w_some]
  split <;> simp [w_none, w_some, *]
theorem w_lstM : wp (xLstM r sg m) Q ↔ wp (r sg m) fun p => p.1.length ≤ 100000 ∧ Q (.ref p.2.length, p.2 ++ [.lst p.1]) := by
  unfold xLstM
  rcases r sg m with _ | ⟨x, m1⟩ <;> simp [w_none, w_some]
  split <;> simp [w_none, w_some, *]
/-- a truth value -/
def isB (d : D) (P : Bool → Prop) : Prop := match d with | .bl b => P b | _ => False
theorem isB_bl {b : Bool} {P : Bool → Prop} : isB (.bl b) P ↔ P b := Iff.rfl
theorem w_test : wp (cTest a sg m) QT ↔ wp (a sg m) fun p => isB p.1 fun b => QT (b, p.2) := by
  unfold cTest
  rcases a sg m with _ | ⟨x, m1⟩
  · simp [w_none]
  · cases x <;> simp [w_none, w_some, isB]
theorem w_cand : wp (cAnd t u sg m) QT ↔ wp (t sg m) fun p => (p.1 = true → wp (u sg p.2) QT) ∧ (p.1 = false → QT (false, p.2)) := by
  unfold cAnd
  rcases t sg m with _ | ⟨x, m1⟩
  · simp [w_none]
  · cases x <;> simp [w_none, w_some]
theorem w_cor : wp (cOr t u sg m) QT ↔ wp (t sg m) fun p => (p.1 = false → wp (u sg p.2) QT) ∧ (p.1 = true → QT (true, p.2)) := by
  unfold cOr
  rcases t sg m with _ | ⟨x, m1⟩
  · simp [w_none]
  · cases x <;> simp [w_none, w_some]
theorem w_cnot : wp (cNot t sg m) QT ↔ wp (t sg m) fun p => QT (!p.1, p.2) := by
  unfold cNot
  rcases t sg m with _ | ⟨x, m1⟩ <;> simp [w_none, w_some]
theorem w_if : wp (xIf t a b sg m) Q ↔ wp (t sg m) fun p => (p.1 = true → wp (a sg p.2) Q) ∧ (p.1 = false → wp (b sg p.2) Q) := by
  unfold xIf
  rcases t sg m with _ | ⟨x, m1⟩
  · simp [w_none]
  · cases x <;> simp [w_none, w_some]
theorem w_tru : wp (cTru a sg m) QT ↔ wp (a sg m) fun p => wp (truD p.1 p.2) fun b => QT (b, p.2) := by
  unfold cTru
  rcases a sg m with _ | ⟨x, m1⟩
  · simp [w_none]
  · simp only [w_some]
    cases truD x m1 <;> simp [w_none, w_some]
theorem w_and : wp (xAnd a b sg m) Q ↔ wp (a sg m) fun p => wp (truD p.1 p.2) fun k => (k = true → wp (b sg p.2) Q) ∧ (k = false → Q p) := by
  unfold xAnd
  rcases a sg m with _ | ⟨x, m1⟩
  · simp [w_none]
  · simp only [w_some]
    rcases truD x m1 with _ | k
    · simp [w_none]
    · cases k <;> simp [w_some]
theorem w_or : wp (xOr a b sg m) Q ↔ wp (a sg m) fun p => wp (truD p.1 p.2) fun k => (k = false → wp (b sg p.2) Q) ∧ (k = true → Q p) := by
  unfold xOr
  rcases a sg m with _ | ⟨x, m1⟩
  · simp [w_none]
  · simp only [w_some]
    rcases truD x m1 with _ | k
    · simp [w_none]
    · cases k <;> simp [w_some]
theorem w_not : wp (xNot a sg m) Q ↔ wp (a sg m) fun p => wp (truD p.1 p.2) fun k => Q (.bl (!k), p.2) := by
  unfold xNot
  rcases a sg m with _ | ⟨x, m1⟩
  · simp [w_none]
  · simp only [w_some]
    rcases truD x m1 with _ | k <;> simp [w_none, w_some]
theorem w_chain {f g : F2} : wp (xChain f g a b c sg m) Q ↔ wp (a sg m) fun p => wp (b sg p.2) fun q => wp (f p.1 q.1 q.2) fun s => isB s.1 fun k => (k = true → wp (c sg s.2) fun z => wp (g q.1 z.1 z.2) Q) ∧ (k = false → Q (.bl false, s.2)) := by
  unfold xChain
  rcases a sg m with _ | ⟨x, m1⟩
  · simp [w_none]
  simp only [w_some]
  rcases b sg m1 with _ | ⟨y, m2⟩
  · simp [w_none]
  simp only [w_some]
  rcases f x y m2 with _ | ⟨z, m3⟩
  · simp [w_none]
  simp only [w_some]
  cases z <;> simp [w_none, isB]
  rename_i k
  cases k <;> simp [w_some]
  rcases c sg m3 with _ | ⟨z, m4⟩ <;> simp [w_none, w_some]
theorem w_chain3 {f g h : F2} : wp (xChain3 f g h a b c d sg m) Q ↔ wp (a sg m) fun p => wp (b sg p.2) fun q => wp (f p.1 q.1 q.2) fun s => isB s.1 fun k => (k = true → wp (c sg s.2) fun z => wp (g q.1 z.1 z.2) fun s' => isB s'.1 fun k' =>
    (k' = true → wp (d sg s'.2) fun z' => wp (h z.1 z'.1 z'.2) Q) ∧ (k' = false → Q (.bl false, s'.2))) ∧ (k = false → Q (.bl false, s.2)) := by
  unfold xChain3
  rcases a sg m with _ | ⟨x, m1⟩
  · simp [w_none]
  simp only [w_some]
  rcases b sg m1 with _ | ⟨y, m2⟩
  · simp [w_none]
  simp only [w_some]
  rcases f x y m2 with _ | ⟨z, m3⟩
  · simp [w_none]
  simp only [w_some]
  cases z <;> simp [w_none, isB]
  rename_i k
  cases k <;> simp [w_some]
  rcases c sg m3 with _ | ⟨z, m4⟩ <;> simp [w_none, w_some]
  rcases g y z m4 with _ | ⟨z', m5⟩
  · simp [w_none]
  simp only [w_some]
  cases z' <;> simp [w_none]
  rename_i k
  cases k <;> simp [w_some]
  rcases d sg m5 with _ | ⟨z', m6⟩ <;> simp [w_none, w_some]
/-! fields and methods -/
def isR (d : D) (P : Nat → Prop) : Prop := match d with | .ref i => P i | _ => False
theorem isR_ref {i : Nat} {P : Nat → Prop} : isR (.ref i) P ↔ P i := Iff.rfl
/-- an instance -/
def isI (c : Nat) (o : Option O) (P : List (Str × D) → Prop) : Prop := match o with | some (.ins c' fs) => c' = c ∧ P fs | _ => False
theorem isI_ins {c c' : Nat} {fs : List (Str × D)} {P : List (Str × D) → Prop} : isI c (some (.ins c' fs)) P ↔ c' = c ∧ P fs := Iff.rfl
def isD (o : Option O) (P : List (Key × D) → Prop) : Prop := match o with | some (.dct fs) => P fs | _ => False
theorem isD_dct {fs : List (Key × D)} {P : List (Key × D) → Prop} : isD (some (.dct fs)) P ↔ P fs := Iff.rfl
def isL (o : Option O) (P : List D → Prop) : Prop := match o with | some (.lst fs) => P fs | _ => False
theorem isL_lst {fs : List D} {P : List D → Prop} : isL (some (.lst fs)) P ↔ P fs := Iff.rfl
theorem w_fld {k : Nat} {f : Str} : wp (xFld k f a sg m) Q ↔ wp (a sg m) fun p => isR p.1 fun i => isI k p.2[i]? fun fs => wp (fs.lookup f) fun d => Q (d, p.2) := by
  unfold xFld
  rcases a sg m with _ | ⟨x, m1⟩
  · simp [w_none]
  simp only [w_some]
  cases x <;> simp [w_none, isR]
  rename_i i
  rcases m1[i]? with _ | o
  · simp [w_none, isI]
  cases o <;> simp [w_none, isI]
  rename_i c fs
  by_cases hc : c = k
  · simp only [hc, if_true, true_and]
    rcases fs.lookup f with _ | d <;> simp [w_none, w_some]
  · simp [hc, w_none]
theorem w_meth {k : Nat} {mn : Str} {f : FN} : wp (xMeth k mn f a r sg m) Q ↔ wp (a sg m) fun p => isR p.1 fun i => isI k p.2[i]? fun fs => fs.lookup mn = none ∧ wp (r sg p.2) fun q => wp (f (.ref i :: q.1) q.2) Q := by
  unfold xMeth
  rcases a sg m with _ | ⟨x, m1⟩
  · simp [w_none]
  simp only [w_some]
  cases x <;> simp only [w_none, isR]
  rename_i i
  rcases m1[i]? with _ | o
  · simp [w_none, isI]
  cases o <;> simp only [w_none, isI]
  rename_i c fs
  by_cases hc : c = k
  · simp only [hc, if_true, true_and]
    generalize fs.lookup mn = l
    cases l
    · simp only [Option.isNone, true_and, if_true]
      rcases r sg m1 with _ | ⟨q, m2⟩ <;> simp [w_none, w_some]
    · simp [w_none]
  · simp [hc, w_none]
theorem w_make {k : Nat} {f : FN} : wp (xMake k f r sg m) Q ↔ wp (r sg m) fun p => wp (f (.ref p.2.length :: p.1) (p.2 ++ [.ins k []])) fun q => q.1 = .non ∧ Q (.ref p.2.length, q.2) := by
  unfold xMake
  rcases r sg m with _ | ⟨x, m1⟩
  · simp [w_none]
  simp only [w_some]
  generalize f (.ref m1.length :: x) _ = o
  rcases o with _ | ⟨y, m2⟩
  · simp [w_none]
  cases y <;> simp [w_none, w_some]
theorem w_lm {f : FMt} : wp (xLm f a r sg m) Q ↔ wp (a sg m) fun p => isLst p.1 p.2 = true ∧ wp (r sg p.2) fun q => wp (f p.1 q.1 q.2) Q := by
  unfold xLm
  rcases a sg m with _ | ⟨x, m1⟩
  · simp [w_none]
  simp only [w_some]
  by_cases h : isLst x m1 = true
  · simp only [h, if_true, true_and]
    rcases r sg m1 with _ | ⟨q, m2⟩ <;> simp [w_none, w_some]
  · simp [h, w_none]
theorem w_dm {f : FMt} : wp (xDm f a r sg m) Q ↔ wp (a sg m) fun p => isDct p.1 p.2 = true ∧ wp (r sg p.2) fun q => wp (f p.1 q.1 q.2) Q := by
  unfold xDm
  rcases a sg m with _ | ⟨x, m1⟩
  · simp [w_none]
  simp only [w_some]
  by_cases h : isDct x m1 = true
  · simp only [h, if_true, true_and]
    rcases r sg m1 with _ | ⟨q, m2⟩ <;> simp [w_none, w_some]
  · simp [h, w_none]
theorem w_disp {ps : List (XE × XE)} : wp (xDisp ps sg m) Q ↔ wp (dPairs ps sg (m ++ [.dct []])) fun p => p.2[m.length]? = some (.dct []) ∧ p.1.length ≤ 15 ∧ Q (.ref m.length, p.2.set m.length (.dct (mergeD [] p.1))) := by
  unfold xDisp
  generalize dPairs ps sg _ = o
  rcases o with _ | ⟨x, m1⟩
  · simp [w_none]
  simp only [w_some]
  rcases m1[m.length]? with _ | o
  · simp [w_none]
  cases o <;> simp [w_none]
  rename_i kvs
  cases kvs <;> simp [w_none]
  split <;> simp [w_none, w_some, *]
abbrev QP := List (Key × D) × M → Prop
theorem w_dnil {QP : QP} : wp (dPairs [] sg m) QP ↔ QP ([], m) := w_some
theorem w_dcons {QP : QP} {ps : List (XE × XE)} : wp (dPairs ((a, b) :: ps) sg m) QP ↔ wp (a sg m) fun p => wp (b sg p.2) fun q => wp (keyD p.1) fun kk => wp (dPairs ps sg q.2) fun s => QP ((kk, q.1) :: s.1, s.2) := by
  show wp (match a sg m with
    | none => none
    | some (kd, m1) => match b sg m1 with
      | none => none
      | some (vd, m2) => match keyD kd with
        | none => none
        | some kk => match dPairs ps sg m2 with
          | none => none
          | some (ps, m3) => some ((kk, vd) :: ps, m3)) QP ↔ _
  rcases a sg m with _ | ⟨x, m1⟩
  · simp [w_none]
  simp only [w_some]
  rcases b sg m1 with _ | ⟨y, m2⟩
  · simp [w_none]
  simp only [w_some]
  rcases keyD x with _ | kk
  · simp [w_none]
  simp only [w_some]
  rcases dPairs ps sg m2 with _ | ⟨z, m3⟩ <;> simp [w_none, w_some]
end
section
variable {sg : Sg} {m : M} {a b c : XE} {t : XT} {r : XA} {x y : XS} {Q : Fl × Sg × M → Prop} {i : Nat}
theorem w_nil : wp (sNil sg m) Q ↔ Q (.nx, sg, m) := w_some
theorem w_retN : wp (sRetN sg m) Q ↔ Q (.rt .non, sg, m) := w_some
theorem w_break : wp (sBreak sg m) Q ↔ Q (.bk, sg, m) := w_some
theorem w_cont : wp (sCont sg m) Q ↔ Q (.ct, sg, m) := w_some
/-- what follows a row -/
def nxt (k : Sg → M → Prop) (Q : Fl × Sg × M → Prop) (p : Fl × Sg × M) : Prop := match p.1 with | .nx => k p.2.1 p.2.2 | _ => Q p
theorem nxt_nx {k : Sg → M → Prop} {s : Sg} {m : M} : nxt k Q (.nx, s, m) ↔ k s m := Iff.rfl
theorem nxt_rt {k : Sg → M → Prop} {s : Sg} {m : M} {d : D} : nxt k Q (.rt d, s, m) ↔ Q (.rt d, s, m) := Iff.rfl
theorem nxt_bk {k : Sg → M → Prop} {s : Sg} {m : M} : nxt k Q (.bk, s, m) ↔ Q (.bk, s, m) := Iff.rfl
theorem nxt_ct {k : Sg → M → Prop} {s : Sg} {m : M} : nxt k Q (.ct, s, m) ↔ Q (.ct, s, m) := Iff.rfl
theorem w_seq : wp (sSeq x y sg m) Q ↔ wp (x sg m) (nxt (fun s m => wp (y s m) Q) Q) := by
  unfold sSeq
  rcases x sg m with _ | ⟨f, s, m1⟩
  · simp [w_none]
  cases f <;> simp [w_some, nxt]
theorem w_set : wp (sSet i a sg m) Q ↔ wp (a sg m) fun p => Q (.nx, setS sg i p.1, p.2) := by
  unfold sSet
  rcases a sg m with _ | ⟨x, m1⟩ <;> simp [w_none, w_some]
theorem w_drop : wp (sDrop a sg m) Q ↔ wp (a sg m) fun p => Q (.nx, sg, p.2) := by
  unfold sDrop
  rcases a sg m with _ | ⟨x, m1⟩ <;> simp [w_none, w_some]
theorem w_ret : wp (sRet a sg m) Q ↔ wp (a sg m) fun p => Q (.rt p.1, sg, p.2) := by
  unfold sRet
  rcases a sg m with _ | ⟨x, m1⟩ <;> simp [w_none, w_some]
theorem w_sif : wp (sIf t x y sg m) Q ↔ wp (t sg m) fun p => (p.1 = true → wp (x sg p.2) Q) ∧ (p.1 = false → wp (y sg p.2) Q) := by
  unfold sIf
  rcases t sg m with _ | ⟨k, m1⟩
  · simp [w_none]
  cases k <;> simp [w_some]
theorem w_asg {g : XG} : wp (sAsg a g sg m) Q ↔ wp (a sg m) fun p => wp (g p.1 sg p.2) fun q => Q (.nx, q.1, q.2) := by
  unfold sAsg
  rcases a sg m with _ | ⟨x, m1⟩
  · simp [w_none]
  simp only [w_some]
  rcases g x sg m1 with _ | ⟨s, m2⟩ <;> simp [w_none, w_some]
theorem w_gN {d : D} {QG : Sg × M → Prop} : wp (gN i d sg m) QG ↔ QG (setS sg i d, m) := w_some
theorem w_gT {ds : List D} {n : Nat} {gs : List D → Sg → M → Option (Sg × M)} {QG : Sg × M → Prop} : wp (gT n gs (.tup ds) sg m) QG ↔ ds.length = n ∧ wp (gs ds sg m) QG := by
  unfold gT
  simp only
  split <;> simp [*, w_none]
theorem w_gsnil {QG : Sg × M → Prop} : wp (gsNil [] sg m) QG ↔ QG (sg, m) := w_some
theorem w_gscons {g : XG} {gs : List D → Sg → M → Option (Sg × M)} {d : D} {ds : List D} {QG : Sg × M → Prop} : wp (gsCons g gs (d :: ds) sg m) QG ↔ wp (g d sg m) fun p => wp (gs ds p.1 p.2) QG := by
  unfold gsCons
  simp only
  rcases g d sg m with _ | ⟨s, m2⟩ <;> simp [w_none, w_some]
theorem w_gdput {d : D} {QG : Sg × M → Prop} : wp (gDPut a b d sg m) QG ↔ wp (a sg m) fun p => isR p.1 fun i => wp (b sg p.2) fun q => wp (keyD q.1) fun kk => isD q.2[i]? fun kvs => kvs.length < 100000 ∧ QG (sg, q.2.set i (.dct (putD kvs kk d))) := by
  unfold gDPut
  rcases a sg m with _ | ⟨x, m1⟩
  · simp [w_none]
  simp only [w_some]
  cases x <;> simp [w_none, isR]
  rename_i i
  rcases b sg m1 with _ | ⟨y, m2⟩
  · simp [w_none]
  simp only [w_some]
  rcases keyD y with _ | kk
  · simp [w_none]
  simp only [w_some]
  rcases m2[i]? with _ | o
  · simp [w_none, isD]
  cases o <;> simp [w_none, isD]
  split <;> simp [*, w_none, w_some]
theorem w_dput : wp (sDPut c a b sg m) Q ↔ wp (c sg m) fun y => wp (a sg y.2) fun p => isR p.1 fun i => wp (b sg p.2) fun q => wp (keyD q.1) fun kk => isD q.2[i]? fun kvs => kvs.length < 100000 ∧ Q (.nx, sg, q.2.set i (.dct (putD kvs kk y.1))) := by
  unfold sDPut
  rcases c sg m with _ | ⟨y, m0⟩
  · simp [w_none]
  simp only [w_some]
  rcases a sg m0 with _ | ⟨x, m1⟩
  · simp [w_none]
  simp only [w_some]
  cases x <;> simp [w_none, isR]
  rename_i i
  rcases b sg m1 with _ | ⟨z, m2⟩
  · simp [w_none]
  simp only [w_some]
  rcases keyD z with _ | kk
  · simp [w_none]
  simp only [w_some]
  rcases m2[i]? with _ | o
  · simp [w_none, isD]
  cases o <;> simp [w_none, isD]
  split <;> simp [*, w_none, w_some]
def isN (d : D) (P : Int → Prop) : Prop := match d with | .int i => P i | _ => False
theorem isN_int {i : Int} {P : Int → Prop} : isN (.int i) P ↔ P i := Iff.rfl
theorem w_lput : wp (sLPut c a b sg m) Q ↔ wp (c sg m) fun y => wp (a sg y.2) fun p => isR p.1 fun i => wp (b sg p.2) fun q => isN q.1 fun n => isL q.2[i]? fun xs => wp (ixN xs.length n) fun j => Q (.nx, sg, q.2.set i (.lst (xs.set j y.1))) := by
  unfold sLPut
  rcases c sg m with _ | ⟨y, m0⟩
  · simp [w_none]
  simp only [w_some]
  rcases a sg m0 with _ | ⟨x, m1⟩
  · simp [w_none]
  simp only [w_some]
  cases x <;> simp [w_none, isR]
  rename_i i
  rcases b sg m1 with _ | ⟨z, m2⟩
  · simp [w_none]
  simp only [w_some]
  cases z <;> simp [w_none, isN]
  rcases m2[i]? with _ | o
  · simp [w_none, isL]
  cases o <;> simp [w_none, isL]
  split <;> simp [*, w_none, w_some]
theorem w_par {j : Nat} : wp (sPar i j (aCons a (aCons b aNil)) sg m) Q ↔ wp (a sg m) fun p => wp (b sg p.2) fun q => Q (.nx, setS (setS sg i p.1) j q.1, q.2) := by
  simp only [sPar, aCons, aNil]
  rcases a sg m with _ | ⟨x, m1⟩
  · simp [w_none]
  simp only [w_some]
  rcases b sg m1 with _ | ⟨z, m2⟩ <;> simp [w_none, w_some]
theorem w_aug {f : F2} : wp (sAug i f a sg m) Q ↔ wp (getS sg i) fun x => wp (a sg m) fun p => wp (f x p.1 p.2) fun q => Q (.nx, setS sg i q.1, q.2) := by
  unfold sAug
  rcases getS sg i with _ | x
  · simp [w_none]
  simp only [w_some]
  rcases a sg m with _ | ⟨y, m1⟩
  · simp [w_none]
  simp only [w_some]
  rcases f x y m1 with _ | ⟨y, m1⟩ <;> simp [w_none, w_some]
theorem w_flds {k : Nat} {f : Str} : wp (sFldS k f a b sg m) Q ↔ wp (a sg m) fun y => wp (b sg y.2) fun p => isR p.1 fun i => isI k p.2[i]? fun fs => fs.length < 1000 ∧ Q (.nx, sg, p.2.set i (.ins k (putFD f y.1 fs))) := by
  unfold sFldS
  rcases a sg m with _ | ⟨y, m0⟩
  · simp [w_none]
  simp only [w_some]
  rcases b sg m0 with _ | ⟨x, m1⟩
  · simp [w_none]
  simp only [w_some]
  cases x <;> simp [w_none, isR]
  rename_i i
  rcases m1[i]? with _ | o
  · simp [w_none, isI]
  cases o <;> simp [w_none, isI]
  rename_i c fs
  by_cases hc : c = k
  · simp only [hc, if_true, true_and]
    split <;> simp [*, w_none, w_some]
  · simp [hc, w_none]
theorem w_flda {k : Nat} {f : Str} {g : F2} : wp (sFldA k f g a b sg m) Q ↔ wp (a sg m) fun p => isR p.1 fun i => isI k p.2[i]? fun fs => wp (fs.lookup f) fun d => wp (b sg p.2) fun y => wp (g d y.1 y.2) fun z => isI k z.2[i]? fun fs' => fs'.length < 1000 ∧ Q (.nx, sg, z.2.set i (.ins k (putFD f z.1 fs'))) := by
  unfold sFldA
  rcases a sg m with _ | ⟨x, m1⟩
  · simp [w_none]
  simp only [w_some]
  cases x <;> simp [w_none, isR]
  rename_i i
  rcases m1[i]? with _ | o
  · simp [w_none, isI]
  cases o <;> simp [w_none, isI]
  rename_i c fs
  by_cases hc : c = k
  · simp only [hc, if_true, true_and]
    rcases fs.lookup f with _ | d
    · simp [w_none]
    simp only [w_some]
    rcases b sg m1 with _ | ⟨y, m2⟩
    · simp [w_none]
    simp only [w_some]
    rcases g d y m2 with _ | ⟨z, m3⟩
    · simp [w_none]
    simp only [w_some]
    rcases m3[i]? with _ | o
    · simp [w_none]
    cases o <;> simp [w_none]
    rename_i c' fs'
    by_cases hc' : c' = k
    · simp only [hc', if_true, true_and]
      split <;> simp [*, w_none, w_some]
    · simp [hc', w_none]
  · simp [hc, w_none]
/-! functions -/
/-- what a function gives -/
def gives (Q : D × M → Prop) (p : Fl × Sg × M) : Prop := match p.1 with | .rt d => Q (d, p.2.2) | .nx => Q (.non, p.2.2) | _ => False
theorem gives_rt {Q : D × M → Prop} {d : D} {s : Sg} {m : M} : gives Q (.rt d, s, m) ↔ Q (d, m) := Iff.rfl
theorem gives_nx {Q : D × M → Prop} {s : Sg} {m : M} : gives Q (.nx, s, m) ↔ Q (.non, m) := Iff.rfl
theorem w_fnb {N n : Nat} {ds : List D} {Q : D × M → Prop} : wp (fnB N n x ds m) Q ↔ ds.length = n ∧ wp (x (ds.map some ++ List.replicate (N - ds.length) none) m) (gives Q) := by
  unfold fnB
  by_cases h : ds.length = n
  · rw [if_pos h]
    simp only [h, true_and]
    rcases x (ds.map some ++ List.replicate (N - n) none) m with _ | ⟨f, s, m1⟩
    · simp [w_none]
    cases f <;> simp [w_some, w_none, gives]
  · simp [h, w_none]
/-! loops -/
theorem wp_loop {g : XG} {b : XS} {Q : Fl × Sg × M → Prop} (I : Nat → Sg → M → Prop) : ∀ {ds : List D} {sg : Sg} {m : M} (n : Nat), I n sg m →
    (∀ i d sg m, ds[i]? = some d → I (n + i) sg m → wp (g d sg m) fun p => wp (b p.1 p.2) fun q => match q.1 with | .nx => I (n + i + 1) q.2.1 q.2.2 | .ct => I (n + i + 1) q.2.1 q.2.2 | .bk => Q (.nx, q.2) | .rt d => Q (.rt d, q.2)) →
    (∀ sg m, I (n + ds.length) sg m → Q (.nx, sg, m)) → wp (loopS g b ds sg m) Q
  | [], sg, m, n, h, _, e => w_some.mpr (e sg m h)
  | d :: ds, sg, m, n, h, st, e => by
    obtain ⟨⟨s1, m1⟩, e1, q1⟩ := st 0 d sg m rfl h
    obtain ⟨⟨f, s2, m2⟩, e2, q2⟩ := q1
    have st' : ∀ i d sg m, ds[i]? = some d → I (n + 1 + i) sg m → wp (g d sg m) fun p => wp (b p.1 p.2) fun q => match q.1 with | .nx => I (n + 1 + i + 1) q.2.1 q.2.2 | .ct => I (n + 1 + i + 1) q.2.1 q.2.2 | .bk => Q (.nx, q.2) | .rt d => Q (.rt d, q.2) := by
      intro i d sg m hd hi
      have := st (i + 1) d sg m (by simpa using hd) (by rw [show n + (i + 1) = n + 1 + i by omega]; exact hi)
      rw [show n + (i + 1) + 1 = n + 1 + i + 1 by omega] at this
      exact this
    have e' : ∀ sg m, I (n + 1 + ds.length) sg m → Q (.nx, sg, m) := fun sg m hi => e sg m (by rw [List.length_cons, show n + (ds.length + 1) = n + 1 + ds.length by omega]; exact hi)
    unfold loopS
    rw [e1]
    simp only at e2 ⊢
    rw [e2]
    cases f with
    | nx => exact wp_loop I (n + 1) q2 st' e'
    | ct => exact wp_loop I (n + 1) q2 st' e'
    | bk => exact w_some.mpr q2
    | rt d => exact w_some.mpr q2
theorem w_for {it : XI} {g : XG} : wp (sFor it g x sg m) Q ↔ wp (it sg m) fun p => wp (loopS g x p.1 sg p.2) Q := by
  unfold sFor
  rcases it sg m with _ | ⟨ds, m1⟩ <;> simp [w_none, w_some]
theorem w_range1 {QI : List D × M → Prop} : wp (iRange1 (aCons a aNil) sg m) QI ↔ wp (a sg m) fun p => isN p.1 fun j => (-1000000 ≤ j ∧ j ≤ 1000000) ∧ QI (rangeD 0 j.toNat, p.2) := by
  unfold iRange1 aCons aNil
  rcases a sg m with _ | ⟨d, m1⟩
  · simp [w_none]
  simp only [w_some]
  cases d <;> simp [w_none, isN]
  split <;> simp [*, w_none, w_some]
theorem w_range2 {QI : List D × M → Prop} : wp (iRange2 (aCons a (aCons b aNil)) sg m) QI ↔ wp (a sg m) fun p => wp (b sg p.2) fun q => isN p.1 fun i => isN q.1 fun j => (-1000000 ≤ i ∧ i ≤ 1000000 ∧ -1000000 ≤ j ∧ j ≤ 1000000) ∧ QI (rangeD i (j - i).toNat, q.2) := by
  simp only [iRange2, aCons, aNil]
  rcases a sg m with _ | ⟨d, m1⟩
  · simp [w_none]
  simp only [w_some]
  rcases b sg m1 with _ | ⟨e, m2⟩
  · simp [w_none]
  simp only [w_some]
  cases d <;> simp [w_none, isN]
  cases e <;> simp [w_none]
  split
  · simp_all [w_some]
  · rename_i h
    simp only [w_none, false_iff]
    omega
def isS (d : D) (P : List D → Prop) : Prop := match d with | .lst xs => P xs | .rol xs => P xs | .tup xs => P xs | .ptp xs => P xs | _ => False
theorem isS_ptp {xs : List D} {P : List D → Prop} : isS (.ptp xs) P ↔ P xs := Iff.rfl
theorem isS_lst {xs : List D} {P : List D → Prop} : isS (.lst xs) P ↔ P xs := Iff.rfl
theorem isS_rol {xs : List D} {P : List D → Prop} : isS (.rol xs) P ↔ P xs := Iff.rfl
theorem isS_tup {xs : List D} {P : List D → Prop} : isS (.tup xs) P ↔ P xs := Iff.rfl
theorem w_iseq {QI : List D × M → Prop} : wp (iSeq a sg m) QI ↔ wp (a sg m) fun p => isS p.1 fun xs => QI (xs, p.2) := by
  unfold iSeq
  rcases a sg m with _ | ⟨d, m1⟩
  · simp [w_none]
  simp only [w_some]
  cases d <;> simp [w_none, w_some, isS]
theorem w_lc {vs : List Nat} {it : XI} {g : XG} {e : XE} {Q : D × M → Prop} : wp (xLc vs it g t e sg m) Q ↔ wp (it sg m) fun p => p.1.length ≤ 100000 ∧ wp (loopC g t e (wipeS sg vs) p.1 p.2) fun q => Q (.lst q.1, q.2) := by
  unfold xLc
  rcases it sg m with _ | ⟨ds, m1⟩
  · simp [w_none]
  simp only [w_some]
  by_cases h : ds.length ≤ 100000
  · simp only [h, if_true, true_and]
    rcases loopC g t e (wipeS sg vs) ds m1 with _ | ⟨ys, m2⟩ <;> simp [w_none, w_some]
  · simp [h, w_none]
theorem w_lcM {vs : List Nat} {it : XI} {g : XG} {e : XE} {Q : D × M → Prop} : wp (xLcM vs it g t e sg m) Q ↔ wp (it sg m) fun p => p.1.length ≤ 100000 ∧ wp (loopC g t e (wipeS sg vs) p.1 p.2) fun q => Q (.ref q.2.length, q.2 ++ [.lst q.1]) := by
  unfold xLcM
  rcases it sg m with _ | ⟨ds, m1⟩
  · simp [w_none]
  simp only [w_some]
  by_cases h : ds.length ≤ 100000
  · simp only [h, if_true, true_and]
    rcases loopC g t e (wipeS sg vs) ds m1 with _ | ⟨ys, m2⟩ <;> simp [w_none, w_some]
  · simp [h, w_none]
/-- a comprehension that changes nothing -/
theorem loopC_pure {g : XG} {e : XE} {p : D → Bool} {f : D → D} : ∀ {ds : List D}, (∀ d ∈ ds, wp (g d sg m) fun s => s.2 = m ∧ wp (t s.1 m) fun k => k = (p d, m) ∧ (p d = true → e s.1 m = some (f d, m))) → loopC g t e sg ds m = some ((ds.filter p).map f, m)
  | [], _ => rfl
  | d :: r, h => by
    obtain ⟨⟨s, m1⟩, e1, hm, ⟨k, e2, hk, q⟩⟩ := h d (by simp)
    simp only at hm e2 q
    rw [hm] at e1
    rw [hk] at e2
    have ih := loopC_pure (p := p) (f := f) (ds := r) fun x hx => h x (by simp [hx])
    unfold loopC
    rw [e1]
    simp only at e2 ⊢
    rw [e2]
    cases hp : p d
    · simp [ih, hp]
    · simp [q hp, ih, hp]
/-- one that makes its items one by one -/
theorem wp_loopC {g : XG} {e : XE} {Q : List D × M → Prop} (I : List D → M → Prop) : ∀ {ds : List D} {m : M} (acc : List D), I acc m →
    (∀ d ∈ ds, ∀ acc m, I acc m → wp (g d sg m) fun s => wp (t s.1 s.2) fun k => k.1 = true ∧ wp (e s.1 k.2) fun q => I (acc ++ [q.1]) q.2) →
    (∀ ys m, I (acc ++ ys) m → ys.length = ds.length → Q (ys, m)) → wp (loopC g t e sg ds m) Q
  | [], m, acc, h, _, e => w_some.mpr (e [] m (by simpa using h) rfl)
  | d :: r, m, acc, h, st, fin => by
    obtain ⟨⟨s, m1⟩, e1, ⟨k, m2⟩, e2, hk, ⟨y, m3⟩, e3, q⟩ := st d (by simp) acc m h
    simp only at e2 hk e3 q
    subst hk
    obtain ⟨⟨ys, m4⟩, e4, q4⟩ := wp_loopC (Q := fun z => Q (y :: z.1, z.2)) I (ds := r) (acc ++ [y]) q (fun d hd => st d (by simp [hd])) fun ys m hi hl => fin (y :: ys) m (by simpa using hi) (by simp [hl])
    unfold loopC
    rw [e1]
    simp only
    rw [e2]
    simp only
    rw [e3]
    simp only
    rw [e4]
    exact w_some.mpr q4
end
/-! values -/
section
variable {i j : Int} {m : M} {Q : D × M → Prop}
theorem w_mul : wp (fMul (.int i) (.int j) m) Q ↔ (smallI i = true ∨ smallI j = true) ∧ Q (.int (i * j), m) := by
  simp only [fMul]
  split <;> simp_all [w_none, w_some]
theorem w_div : wp (fDiv (.int i) (.int j) m) Q ↔ (0 < j ∧ j < 18446744073709551616) ∧ Q (.int (i / j), m) := by
  simp only [fDiv]
  split <;> simp_all [w_none, w_some]
  omega
theorem w_mod : wp (fMod (.int i) (.int j) m) Q ↔ 0 < j ∧ Q (.int (i % j), m) := by
  simp only [fMod]
  split <;> simp_all [w_none, w_some]
  omega
theorem e_add : fAdd (.int i) (.int j) m = some (.int (i + j), m) := rfl
theorem e_addI : fAddI (.int i) (.int j) m = some (.int (i + j), m) := rfl
theorem e_sub : fSub (.int i) (.int j) m = some (.int (i - j), m) := rfl
theorem e_cmp {p : Int → Int → Bool} : fCmp p (.int i) (.int j) m = some (.bl (p i j), m) := rfl
theorem e_eqI : fEq (.int i) (.int j) m = some (.bl (decide (i = j)), m) := rfl
theorem e_neI : fNe (.int i) (.int j) m = some (.bl (!decide (i = j)), m) := rfl
theorem e_eqS {x y : Str} : fEq (.str x) (.str y) m = some (.bl (decide (x = y)), m) := rfl
theorem e_neS {x y : Str} : fNe (.str x) (.str y) m = some (.bl (!decide (x = y)), m) := rfl
theorem e_eqB {x y : Bool} : fEq (.bl x) (.bl y) m = some (.bl (decide (x = y)), m) := rfl
theorem e_neB {x y : Bool} : fNe (.bl x) (.bl y) m = some (.bl (!decide (x = y)), m) := rfl
theorem e_abs : fAbs [.int i] m = some (.int (if i < 0 then -i else i), m) := rfl
theorem e_int : fInt [.int i] m = some (.int i, m) := rfl
theorem e_max2 : fMax2 [.int i, .int j] m = some (.int (if j > i then j else i), m) := rfl
theorem e_truB {b : Bool} : truD (.bl b) m = some b := rfl
theorem e_truI : truD (.int i) m = some (i != 0) := rfl
theorem w_dget {d k : D} : wp (fDGet d k m) Q ↔ wp (dctD d m) fun kvs => wp (keyD k) fun kk => wp (lookD kvs kk) fun x => Q (x, m) := by
  unfold fDGet
  rcases dctD d m with _ | kvs
  · simp [w_none]
  simp only [w_some]
  rcases keyD k with _ | kk
  · simp [w_none]
  simp only [w_some]
  rcases lookD kvs kk with _ | x <;> simp [w_none, w_some]
theorem w_ixref {a : Nat} : wp (fIx (.ref a) (.int i) m) Q ↔ isL m[a]? fun xs => wp (atI xs i) fun x => Q (x, m) := by
  unfold fIx seqD
  simp only
  rcases m[a]? with _ | o
  · simp [w_none, isL]
  cases o <;> simp [w_none, isL]
  split <;> simp_all [w_none, w_some]
theorem w_ixlst {xs : List D} : wp (fIx (.lst xs) (.int i) m) Q ↔ wp (atI xs i) fun x => Q (x, m) := by
  unfold fIx seqD
  simp only
  split <;> simp_all [w_none, w_some]
theorem w_ixrol {xs : List D} : wp (fIx (.rol xs) (.int i) m) Q ↔ wp (atI xs i) fun x => Q (x, m) := by
  unfold fIx seqD
  simp only
  split <;> simp_all [w_none, w_some]
theorem w_ixtup {xs : List D} : wp (fIx (.tup xs) (.int i) m) Q ↔ wp (atI xs i) fun x => Q (x, m) := by
  unfold fIx seqD
  simp only
  split <;> simp_all [w_none, w_some]
def isK (o : Option O) (P : List (Key × D) → Prop) : Prop := match o with | some (.dct fs) => P fs | some (.dctL fs) => P fs | _ => False
theorem isK_dct {fs : List (Key × D)} {P : List (Key × D) → Prop} : isK (some (.dct fs)) P ↔ P fs := Iff.rfl
theorem isK_dctL {fs : List (Key × D)} {P : List (Key × D) → Prop} : isK (some (.dctL fs)) P ↔ P fs := Iff.rfl
theorem w_dref {a : Nat} {P : List (Key × D) → Prop} : wp (dctD (.ref a) m) P ↔ isK m[a]? P := by
  unfold dctD
  simp only
  rcases m[a]? with _ | o
  · simp [w_none, isK]
  cases o <;> simp [w_none, w_some, isK]
theorem e_lenlst {xs : List D} : fLen [.lst xs] m = some (.int xs.length, m) := rfl
theorem e_lenrol {xs : List D} : fLen [.rol xs] m = some (.int xs.length, m) := rfl
theorem e_lentup {xs : List D} : fLen [.tup xs] m = some (.int xs.length, m) := rfl
theorem w_lenref {a : Nat} : wp (fLen [.ref a] m) Q ↔ isL m[a]? fun xs => Q (.int xs.length, m) := by
  unfold fLen seqD
  simp only
  rcases m[a]? with _ | o
  · simp [w_none, isL]
  cases o <;> simp [w_none, w_some, isL]
end
end Mini

set_option Elab.async false
set_option maxRecDepth 100000
namespace Mini
open PySem L2
theorem w_eq {α : Type} {o : Option α} {x : α} : wp o (fun a => a = x) ↔ o = some x := ⟨fun ⟨_, e, q⟩ => q ▸ e, fun e => ⟨x, e, rfl⟩⟩
theorem wp_of {α : Type} {o : Option α} {x : α} (h : wp o (fun a => a = x)) : o = some x := w_eq.mp h
theorem get_set {m : M} {t : Nat} {o : O} (h : m[t]? = some o) (o' : O) : (m.set t o')[t]? = some o' := by
  have := (List.getElem?_eq_some_iff.mp h).1
  simp [this]
theorem get_set_ne {m : M} {t u : Nat} (h : t ≠ u) (o' : O) : (m.set t o')[u]? = m[u]? := by
  simp [List.getElem?_set, h]
theorem set_id {m : M} {t : Nat} {o : O} (h : m[t]? = some o) : m.set t o = m := by
  obtain ⟨h1, h2⟩ := List.getElem?_eq_some_iff.mp h
  subst h2
  simp
theorem get_app {m : M} {t : Nat} {o : O} (h : m[t]? = some o) (G : M) : (m ++ G)[t]? = some o := by
  rw [List.getElem?_append_left (List.getElem?_eq_some_iff.mp h).1]
  exact h
theorem set_app {m : M} {t : Nat} {o : O} (h : m[t]? = some o) (o' : O) (G : M) : (m ++ G).set t o' = m.set t o' ++ G := by
  rw [List.set_append_left _ _ (List.getElem?_eq_some_iff.mp h).1]
theorem get_len {m : M} {o : O} : (m ++ [o])[m.length]? = some o := by simp
theorem set_len {m : M} {o o' : O} : (m ++ [o]).set m.length o' = m ++ [o'] := by simp
theorem lt_of_get {m : M} {t : Nat} {o : O} (h : m[t]? = some o) : t < m.length := (List.getElem?_eq_some_iff.mp h).1
theorem ne_len {m : M} {t : Nat} {o : O} (h : m[t]? = some o) : t ≠ m.length := Nat.ne_of_lt (lt_of_get h)
theorem len_ne {m : M} {t : Nat} {o : O} (h : m[t]? = some o) : m.length ≠ t := (ne_len h).symm
theorem atIN {α : Type} {xs : List α} {k : Nat} : atI xs (k : Int) = xs[k]? := by
  unfold atI ixN
  rw [if_pos (by omega)]
  by_cases h : k < xs.length
  · rw [if_pos (by omega)]
    simp
  · rw [if_neg (by omega)]
    simp at h
    simp [h]
theorem atI_int {α : Type} {xs : List α} {i : Int} (h : 0 ≤ i) : atI xs i = xs[i.toNat]? := by
  have e : atI xs ((i.toNat : Nat) : Int) = _ := atIN
  rwa [Int.toNat_of_nonneg h] at e
theorem ixN_nat {n k : Nat} (h : k < n) : ixN n (k : Int) = some k := by
  unfold ixN
  rw [if_pos (by omega), if_pos (by omega)]
  simp
def iD (k : Nat) : D := .int (k : Int)
theorem rangeD_zero {n : Nat} : rangeD 0 n = (List.range n).map iD := by
  unfold rangeD iD
  simp
section
variable {vs : List Nat} {v n : Nat} {a e : XE} {c : XT} {sg : Sg} {m : M} {g : Nat → Bool}
theorem range1_of (ha : a sg m = some (.int (n : Int), m)) (hn : n ≤ 100000) : iRange1 (aCons a aNil) sg m = some ((List.range n).map iD, m) := by
  refine wp_of (w_range1.mpr ?_)
  rw [ha, w_some]
  exact ⟨by omega, by rw [← rangeD_zero]; simp⟩
theorem blsD_map {α : Type} {f : α → Bool} : ∀ {l : List α}, blsD (l.map fun x => .bl (f x)) = some (l.map f)
  | [] => rfl
  | x :: l => by
    simp only [List.map_cons, blsD]
    rw [blsD_map]
theorem intsD_map {α : Type} {f : α → Int} : ∀ {l : List α}, intsD (l.map fun x => .int (f x)) = some (l.map f)
  | [] => rfl
  | x :: l => by
    simp only [List.map_cons, intsD]
    rw [intsD_map]
/-- a comprehension over any data that changes nothing, indexed -/
theorem loopC_map {α : Type} {tg : XG} {f : α → D} {p : α → Bool} {h : α → D} : ∀ {l : List α}, (∀ x ∈ l, wp (tg (f x) sg m) fun s => s.2 = m ∧ c s.1 m = some (p x, m) ∧ (p x = true → e s.1 m = some (h x, m))) → loopC tg c e sg (l.map f) m = some ((l.filter p).map h, m)
  | [], _ => rfl
  | x :: l, w => by
    obtain ⟨⟨s, m1⟩, e1, hm, e2, q⟩ := w x (by simp)
    have ih := loopC_map (f := f) (p := p) (h := h) (l := l) fun y hy => w y (by simp [hy])
    simp only at hm e2 q
    rw [hm] at e1
    simp only [List.map_cons, loopC]
    rw [e1]
    simp only
    rw [e2]
    cases hp : p x
    · simp [ih, hp]
    · simp [q hp, ih, hp]
theorem lc_range (ha : a sg m = some (.int (n : Int), m)) (hn : n ≤ 100000) {p : Nat → Bool} {h : Nat → D} (w : ∀ i < n, c (setS (wipeS sg vs) v (iD i)) m = some (p i, m) ∧ (p i = true → e (setS (wipeS sg vs) v (iD i)) m = some (h i, m))) :
    xLc vs (iRange1 (aCons a aNil)) (gN v) c e sg m = some (.lst (((List.range n).filter p).map h), m) := by
  refine wp_of (w_lc.mpr ?_)
  rw [range1_of ha hn, w_some]
  exact ⟨by simpa using hn, wp.eq (loopC_map (f := iD) (p := p) (h := h) fun i hi => (w_gN.mpr ⟨rfl, w i (by simpa using hi)⟩)) rfl⟩
theorem lcM_range (ha : a sg m = some (.int (n : Int), m)) (hn : n ≤ 100000) {p : Nat → Bool} {h : Nat → D} (w : ∀ i < n, c (setS (wipeS sg vs) v (iD i)) m = some (p i, m) ∧ (p i = true → e (setS (wipeS sg vs) v (iD i)) m = some (h i, m))) :
    xLcM vs (iRange1 (aCons a aNil)) (gN v) c e sg m = some (.ref m.length, m ++ [.lst (((List.range n).filter p).map h)]) := by
  refine wp_of (w_lcM.mpr ?_)
  rw [range1_of ha hn, w_some]
  exact ⟨by simpa using hn, wp.eq (loopC_map (f := iD) (p := p) (h := h) fun i hi => (w_gN.mpr ⟨rfl, w i (by simpa using hi)⟩)) rfl⟩
theorem filter_yes {α : Type} {l : List α} : l.filter (fun _ => true) = l := by simp
theorem any_range (ha : a sg m = some (.int (n : Int), m)) (hn : n ≤ 100000) (w : ∀ i < n, e (setS (wipeS sg vs) v (iD i)) m = some (.bl (g i), m)) :
    xFn fAny (aCons (xLc vs (iRange1 (aCons a aNil)) (gN v) cYes e) aNil) sg m = some (.bl ((List.range n).any g), m) := by
  refine wp_of (w_fn.mpr (w_acons.mpr ?_))
  rw [lc_range (p := fun _ => true) (h := fun i => .bl (g i)) ha hn fun i hi => ⟨rfl, fun _ => w i hi⟩, w_some, w_anil, filter_yes]
  simp only [fAny, listD, seqD, blsD_map, w_some]
  simp
theorem all_range (ha : a sg m = some (.int (n : Int), m)) (hn : n ≤ 100000) (w : ∀ i < n, e (setS (wipeS sg vs) v (iD i)) m = some (.bl (g i), m)) :
    xFn fAll (aCons (xLc vs (iRange1 (aCons a aNil)) (gN v) cYes e) aNil) sg m = some (.bl ((List.range n).all g), m) := by
  refine wp_of (w_fn.mpr (w_acons.mpr ?_))
  rw [lc_range (p := fun _ => true) (h := fun i => .bl (g i)) ha hn fun i hi => ⟨rfl, fun _ => w i hi⟩, w_some, w_anil, filter_yes]
  simp only [fAll, listD, seqD, blsD_map, w_some]
  simp
end
end Mini

set_option Elab.async false
set_option maxRecDepth 100000
namespace Mini
open PySem L2
theorem plainDs_iD : ∀ l : List Nat, plainDs (l.map iD) = true
  | [] => rfl
  | _ :: l => by simp [plainDs, plainD, iD, plainDs_iD l]
theorem toPys_iD : ∀ l : List Nat, toPys (l.map iD) = (l.map fun (k : Nat) => (k : Int)).map PyData.int
  | [] => rfl
  | _ :: l => by simp [toPys, toPy, iD, toPys_iD l]
theorem eqD_nil {l : List Nat} : eqD (.lst (l.map iD)) (.lst []) = some l.isEmpty := by
  have h1 : SeqAt.shaped (toPy (.lst (l.map iD))) = true := by
    simp only [toPy, toPys_iD]
    exact PySem.W.shaped_ints _
  have h2 : SeqAt.shaped (toPy (.lst [])) = true := PySem.W.shaped_ints []
  have h3 : plainD (.lst (l.map iD)) = true := plainDs_iD l
  have h4 : plainD (.lst []) = true := rfl
  unfold eqD
  simp only [h1, h2, h3, h4, Bool.and_self, if_true]
  cases l <;> simp [toPy, toPys, PyData.eqv, PyData.eqvAll]
theorem ne_nil {l : List Nat} {m : M} : fNe (.lst (l.map iD)) (.lst []) m = some (.bl (!l.isEmpty), m) := by
  unfold fNe
  rw [eqD_nil]
/-- a loop over a list that stands -/
theorem wp_loopL {g : XG} {b : XS} {i0 : Nat} {Q : Fl × Sg × M → Prop} {ds : List D} (I : Nat → Sg → M → Prop) (hI : ∀ i sg m, I i sg m → m[i0]? = some (.lst ds))
    (st : ∀ i d sg m, ds[i]? = some d → I i sg m → wp (g d sg m) fun p => wp (b p.1 p.2) fun q => match q.1 with | .nx => I (i + 1) q.2.1 q.2.2 | .ct => I (i + 1) q.2.1 q.2.2 | .bk => Q (.nx, q.2) | .rt d => Q (.rt d, q.2))
    (fin : ∀ sg m, I ds.length sg m → Q (.nx, sg, m)) : ∀ (f j : Nat) (sg : Sg) (m : M), I j sg m → j ≤ ds.length → ds.length < f + j → wp (loopL g b i0 f j sg m) Q
  | 0, j, sg, m, h, hj, hf => absurd hf (by omega)
  | f + 1, j, sg, m, h, hj, hf => by
    unfold loopL
    rw [hI j sg m h]
    simp only
    cases hd : ds[j]? with
    | none =>
      have : j = ds.length := by
        have := List.getElem?_eq_none_iff.mp hd
        omega
      exact w_some.mpr (fin sg m (this ▸ h))
    | some d =>
      obtain ⟨⟨s1, m1⟩, e1, ⟨fl, s2, m2⟩, e2, q2⟩ := st j d sg m hd h
      have hlt := (List.getElem?_eq_some_iff.mp hd).1
      simp only at e2 ⊢
      rw [e1]
      simp only
      rw [e2]
      cases fl with
      | nx => exact wp_loopL I hI st fin f (j + 1) s2 m2 q2 hlt (by omega)
      | ct => exact wp_loopL I hI st fin f (j + 1) s2 m2 q2 hlt (by omega)
      | bk => exact w_some.mpr q2
      | rt d => exact w_some.mpr q2
theorem w_forL {n : Nat} {a : XE} {g : XG} {b : XS} {sg : Sg} {m : M} {Q : Fl × Sg × M → Prop} : wp (sForL n a g b sg m) Q ↔ wp (a sg m) fun p => isR p.1 fun i => isL p.2[i]? fun _ => wp (loopL g b i n 0 sg p.2) Q := by
  unfold sForL
  rcases a sg m with _ | ⟨x, m1⟩
  · simp [w_none]
  simp only [w_some]
  cases x <;> simp [w_none, isR]
  rename_i i
  rcases m1[i]? with _ | o
  · simp [w_none, isL]
  cases o <;> simp [w_none, isL]
end Mini

set_option Elab.async false
set_option maxRecDepth 100000
set_option linter.unusedSimpArgs false
namespace Mini
open PySem L2

/-! ### dicts of ints -/
def kI (p : Int × Int) : Key × D := (.inl p.1, .int p.2)
def dI (d : List (Int × Int)) : List (Key × D) := d.map kI
def putP (d : List (Int × Int)) (k v : Int) : List (Int × Int) := if (d.any fun p => decide (p.1 = k)) = true then d.map (fun p => if p.1 = k then (p.1, v) else p) else d ++ [(k, v)]
def lookP (d : List (Int × Int)) (k : Int) : Option Int := (d.find? fun p => decide (p.1 = k)).map (·.2)
theorem any_dI {k : Int} : ∀ {d : List (Int × Int)}, ((dI d).any fun kv => decide (kv.1 = (Sum.inl k : Key))) = d.any fun p => decide (p.1 = k)
  | [] => rfl
  | p :: d => by
    have ih := any_dI (k := k) (d := d)
    simp only [dI, List.map_cons, List.any_cons, kI] at ih ⊢
    rw [ih]
    congr 1
    simp
theorem putD_dI {d : List (Int × Int)} {k v : Int} : putD (dI d) (.inl k) (.int v) = dI (putP d k v) := by
  unfold putD putP
  rw [any_dI]
  split
  · simp only [dI, List.map_map]
    apply List.map_congr_left
    intro p _
    by_cases h : p.1 = k <;> simp [kI, h]
  · simp [dI, kI]
theorem lookD_dI {k : Int} : ∀ {d : List (Int × Int)}, lookD (dI d) (.inl k) = (lookP d k).map D.int
  | [] => rfl
  | p :: d => by
    have ih := lookD_dI (k := k) (d := d)
    simp only [dI, lookD, lookP, List.map_cons, kI, List.find?_cons] at ih ⊢
    by_cases h : p.1 = k
    · simp [h]
    · have h' : ¬ (Sum.inl p.1 : Key) = Sum.inl k := fun e => h (Sum.inl.inj e)
      simp only [h, h', decide_false]
      exact ih
theorem kvPs_dI : ∀ {d : List (Int × Int)}, kvPs (dI d) = some d
  | [] => rfl
  | p :: d => by
    have ih := kvPs_dI (d := d)
    simp only [dI] at ih
    simp only [dI, List.map_cons, kvPs, kvP, kI, ih]
theorem prK_prs : ∀ {d : List (Int × Int)}, prK (d.map prD) = some (dI d)
  | [] => rfl
  | p :: d => by
    have ih := prK_prs (d := d)
    show (match (some (Sum.inl p.1) : Option Key), prK (d.map prD) with
      | some k, some ks => some ((k, D.int p.2) :: ks)
      | _, _ => none) = _
    rw [ih]
    rfl
theorem prsD_prs : ∀ {d : List (Int × Int)}, prsD (d.map prD) = some d
  | [] => rfl
  | p :: d => by
    have ih := prsD_prs (d := d)
    show (match prsD (d.map prD) with
      | some ps => some ((p.1, p.2) :: ps)
      | none => none) = _
    rw [ih]
theorem merge_dI : ∀ {b a : List (Int × Int)}, mergeD (dI a) (dI b) = dI (b.foldl (fun d p => putP d p.1 p.2) a)
  | [], _ => rfl
  | p :: b, a => by
    have ih := merge_dI (b := b) (a := putP a p.1 p.2)
    simp only [dI, mergeD, List.map_cons, List.foldl_cons, kI] at ih ⊢
    rw [← ih]
    congr 1
    exact putD_dI
theorem len_dI {d : List (Int × Int)} : (dI d).length = d.length := by simp [dI]
def NK (d : List (Int × Int)) : Prop := (d.map (·.1)).Nodup
theorem putP_new {d : List (Int × Int)} {k v : Int} (h : k ∉ d.map (·.1)) : putP d k v = d ++ [(k, v)] := by
  unfold putP
  rw [if_neg]
  intro e
  obtain ⟨p, hp, hk⟩ := List.any_eq_true.mp e
  exact h (List.mem_map.mpr ⟨p, hp, by simpa using hk⟩)
def putF {α : Type} (key : α → Int) (f : α → Option Int) (d : List (Int × Int)) (p : α) : List (Int × Int) := match f p with | some v => putP d (key p) v | none => d
theorem putF_some {α : Type} {key : α → Int} {f : α → Option Int} {d : List (Int × Int)} {p : α} {v : Int} (h : f p = some v) : putF key f d p = putP d (key p) v := by unfold putF; rw [h]
theorem putF_none {α : Type} {key : α → Int} {f : α → Option Int} {d : List (Int × Int)} {p : α} (h : f p = none) : putF key f d p = d := by unfold putF; rw [h]
theorem fold_put {α : Type} {key : α → Int} {f : α → Option Int} : ∀ {l : List α} {acc : List (Int × Int)}, (l.map key).Nodup → (∀ p ∈ l, f p ≠ none → key p ∉ acc.map (·.1)) →
    l.foldl (putF key f) acc = acc ++ l.filterMap fun p => (f p).map fun v => (key p, v)
  | [], acc, _, _ => by simp
  | p :: l, acc, hn, ha => by
    have hn' : (l.map key).Nodup := (List.nodup_cons.mp hn).2
    have hk : key p ∉ l.map key := (List.nodup_cons.mp hn).1
    simp only [List.foldl_cons]
    cases hf : f p with
    | none =>
      rw [putF_none hf, fold_put hn' fun q hq => ha q (List.mem_cons_of_mem _ hq)]
      simp [List.filterMap_cons, hf]
    | some v =>
      rw [putF_some hf, putP_new (ha p List.mem_cons_self (by rw [hf]; simp)), fold_put hn' fun q hq hfq => ?_]
      · simp [List.filterMap_cons, hf]
      · simp only [List.map_append, List.map_cons, List.map_nil, List.mem_append, List.mem_singleton, not_or]
        exact ⟨ha q (List.mem_cons_of_mem _ hq) hfq, fun e => hk (List.mem_map.mpr ⟨q, hq, e⟩)⟩
theorem mrg_nk {ps : List (Int × Int)} (h : NK ps) : ps.foldl (fun d p => putP d p.1 p.2) [] = ps := by
  have := fold_put (key := fun p : Int × Int => p.1) (f := fun p : Int × Int => some p.2) (l := ps) (acc := []) h (by simp)
  simp only [List.nil_append] at this
  have e : ps.foldl (fun d p => putP d p.1 p.2) [] = ps.foldl (putF (fun p : Int × Int => p.1) fun p : Int × Int => some p.2) [] := rfl
  rw [e, this]
  simp
theorem find_nk {k v : Int} : ∀ {d : List (Int × Int)}, NK d → (lookP d k = some v ↔ (k, v) ∈ d)
  | [], _ => by simp [lookP]
  | p :: d, h => by
    have h1 : p.1 ∉ d.map (·.1) := (List.nodup_cons.mp h).1
    have ih := find_nk (k := k) (v := v) (d := d) (List.nodup_cons.mp h).2
    simp only [lookP] at ih
    simp only [lookP, List.find?_cons, List.mem_cons]
    by_cases e : p.1 = k
    · simp only [e, decide_true, Option.map_some, Option.some.injEq]
      constructor
      · intro e2
        left
        rw [← e, ← e2]
      · rintro (e2 | e2)
        · rw [← e2]
        · exact absurd (List.mem_map.mpr ⟨_, e2, rfl⟩) (by rw [← e] ; exact h1)
    · simp only [e, decide_false]
      rw [ih]
      constructor
      · exact fun q => .inr q
      · rintro (e2 | e2)
        · exact absurd (by rw [← e2]) e
        · exact e2
theorem look_mem {d : List (Int × Int)} {k v : Int} (h : lookP d k = some v) : (k, v) ∈ d := by
  unfold lookP at h
  obtain ⟨p, hp, rfl⟩ := Option.map_eq_some_iff.mp h
  have h1 := List.find?_some hp
  have h2 := List.mem_of_find?_eq_some hp
  have : p.1 = k := by simpa using h1
  rw [← this]
  exact h2
theorem look_none {d : List (Int × Int)} {k : Int} : lookP d k = none ↔ ∀ v, (k, v) ∉ d := by
  unfold lookP
  rw [Option.map_eq_none_iff, List.find?_eq_none]
  constructor
  · intro h v hv
    exact absurd (h _ hv) (by simp)
  · rintro h ⟨a, b⟩ hp e
    have : a = k := by simpa using e
    subst this
    exact h b hp
theorem keys_putP {d : List (Int × Int)} {k v : Int} : (putP d k v).map (·.1) = if (d.any fun p => decide (p.1 = k)) = true then d.map (·.1) else d.map (·.1) ++ [k] := by
  unfold putP
  split
  · rw [List.map_map]
    apply List.map_congr_left
    intro p _
    by_cases h : p.1 = k <;> simp [h]
  · simp
theorem nk_putP {d : List (Int × Int)} {k v : Int} (h : NK d) : NK (putP d k v) := by
  unfold NK
  rw [keys_putP]
  split
  · exact h
  · rename_i hk
    rw [List.nodup_append]
    refine ⟨h, by simp, fun a ha b hb e => ?_⟩
    have e2 : b = k := by simpa using hb
    obtain ⟨p, hp, e3⟩ := List.mem_map.mp ha
    exact hk (List.any_eq_true.mpr ⟨p, hp, by simp [e3, e, e2]⟩)
theorem look_putP {d : List (Int × Int)} {k v j : Int} : lookP (putP d k v) j = if j = k then some v else lookP d j := by
  unfold putP
  split
  · rename_i hk
    induction d with
    | nil => simp at hk
    | cons p d ih =>
      by_cases e : p.1 = k
      · by_cases ej : j = k
        · simp [lookP, e, ej]
        · have h1 : ¬ k = j := fun h => ej h.symm
          simp only [lookP, List.map_cons, e, if_true, List.find?_cons, h1, decide_false, ej, if_false]
          congr 1
          clear ih hk
          induction d with
          | nil => rfl
          | cons q d ih2 =>
            by_cases e2 : q.1 = k
            · simp [e2, h1, ih2]
            · by_cases e3 : q.1 = j
              · have h2 : ¬ j = k := ej
                simp [e3, h2]
              · simp [e2, e3, ih2]
      · have hk' : (d.any fun p => decide (p.1 = k)) = true := by simpa [e] using hk
        have ih := ih hk'
        simp only [lookP] at ih
        by_cases e3 : p.1 = j
        · have h2 : ¬ j = k := fun h => e (e3.trans h)
          simp [lookP, e, e3, h2]
        · simp only [lookP, List.map_cons, e, if_false, List.find?_cons, e3, decide_false]
          exact ih
  · rename_i hk
    have hno : ∀ w, (k, w) ∉ d := fun w hw => hk (List.any_eq_true.mpr ⟨_, hw, by simp⟩)
    by_cases ej : j = k
    · subst ej
      have := (look_none (d := d) (k := j)).mpr hno
      simp only [lookP, Option.map_eq_none_iff] at this
      simp [lookP, List.find?_append, this]
    · have h1 : ¬ k = j := fun h => ej h.symm
      simp only [lookP, List.find?_append, ej, if_false]
      cases d.find? fun p => decide (p.1 = j) <;> simp [h1]
theorem mem_srt {d : List (Int × Int)} {x : Int × Int} : x ∈ srtP d ↔ x ∈ d := (srtP_perm d).mem_iff
theorem nk_srt {d : List (Int × Int)} (h : NK d) : NK (srtP d) := List.Perm.nodup_iff (List.Perm.map (fun x : Int × Int => x.1) (srtP_perm d)) |>.mpr h
theorem len_srt {d : List (Int × Int)} : (srtP d).length = d.length := (srtP_perm d).length_eq
theorem len_putP {d : List (Int × Int)} {k v : Int} : (putP d k v).length ≤ d.length + 1 := by
  unfold putP
  split <;> simp

/-! ### wp -/
section
variable {a b c o k z : XE} {r : XA} {sg : Sg} {m : M} {Q : D × M → Prop}
theorem w_tupP : wp (xTupP r sg m) Q ↔ wp (r sg m) fun p => p.1.length ≤ 100000 ∧ Q (.ptp p.1, p.2) := by
  unfold xTupP
  rcases r sg m with _ | ⟨xs, m1⟩
  · simp [w_none]
  · by_cases h : xs.length ≤ 100000 <;> simp [w_some, w_none, h]
theorem w_dget2 : wp (xDGet2 o k z sg m) Q ↔ wp (o sg m) fun p => wp (dctD p.1 p.2) fun _ => wp (k sg p.2) fun q => wp (z sg q.2) fun s => wp (dctD p.1 s.2) fun kvs => wp (keyD q.1) fun kk => Q ((lookD kvs kk).getD s.1, s.2) := by
  unfold xDGet2
  rcases o sg m with _ | ⟨d, m1⟩
  · simp [w_none]
  simp only [w_some]
  rcases dctD d m1 with _ | kvs
  · simp [w_none]
  simp only [w_some]
  rcases k sg m1 with _ | ⟨kd, m2⟩
  · simp [w_none]
  simp only [w_some]
  rcases z sg m2 with _ | ⟨zd, m3⟩
  · simp [w_none]
  simp only [w_some]
  rcases dctD d m3 with _ | kvs
  · simp [w_none]
  simp only [w_some]
  rcases keyD kd with _ | kk <;> simp [w_none, w_some]
theorem e_dictP {ps : List (Int × Int)} (h : NK ps) : fDictP [.ptp (ps.map prD)] m = some (.ref m.length, m ++ [.dct (dI ps)]) := by
  simp only [fDictP, prK_prs]
  have := merge_dI (a := []) (b := ps)
  rw [mrg_nk h] at this
  simp only [dI, List.map_nil] at this
  rw [show dI ps = ps.map kI from rfl, this]
theorem w_srit : wp (xSrIt a sg m) Q ↔ wp (a sg m) fun p => isR p.1 fun i => isD p.2[i]? fun kvs => wp (kvPs kvs) fun ps => Q (.lst ((srtP ps).map prD), p.2) := by
  unfold xSrIt
  rcases a sg m with _ | ⟨x, m1⟩
  · simp [w_none]
  simp only [w_some]
  cases x <;> simp [w_none, isR]
  rename_i i
  rcases m1[i]? with _ | u
  · simp [w_none, isD]
  cases u <;> simp [w_none, isD]
  rename_i kvs
  rcases kvPs kvs with _ | ps <;> simp [w_none, w_some]
theorem e_tupP {xs : List D} : fTupP [.lst xs] m = some (.ptp xs, m) := rfl
theorem e_tupleL {xs : List D} : fTuple [.lst xs] m = some (.tup xs, m) := rfl
theorem e_tupleT {xs : List D} : fTuple [.tup xs] m = some (.tup xs, m) := rfl
theorem e_tupleR {i : Nat} {xs : List D} (h : m[i]? = some (.lst xs)) : fTuple [.ref i] m = some (.tup xs, m) := by
  simp only [fTuple, seqD, h]
theorem e_addPI {i j : Int} : fAddP (.int i) (.int j) m = some (.int (i + j), m) := rfl
theorem e_addPT {xs ys : List D} (h : xs.length + ys.length ≤ 100000) : fAddP (.ptp xs) (.tup ys) m = some (.tup (xs ++ ys), m) := by
  simp only [fAddP, unP, fAdd, h, if_true]
theorem e_srTup {ps : List (Int × Int)} : fSrTup [.tup (ps.map prD)] m = some (.lst ((srtP ps).map prD), m) := by
  simp only [fSrTup, unP, prsD_prs]
theorem e_isN_non : fIsN .non .non m = some (.bl true, m) := rfl
theorem e_isN_ptp {xs : List D} : fIsN (.ptp xs) .non m = some (.bl false, m) := rfl
theorem e_notN_non : fNotN .non .non m = some (.bl false, m) := rfl
theorem e_notN_ptp {xs : List D} : fNotN (.ptp xs) .non m = some (.bl true, m) := rfl
theorem w_par3 {x y w : XE} {i j l : Nat} {QS : Fl × Sg × M → Prop} : wp (sPar3 i j l (aCons x (aCons y (aCons w aNil))) sg m) QS ↔ wp (x sg m) fun p => wp (y sg p.2) fun q => wp (w sg q.2) fun s => QS (.nx, setS (setS (setS sg i p.1) j q.1) l s.1, s.2) := by
  simp only [sPar3, aCons, aNil]
  rcases x sg m with _ | ⟨a, m1⟩
  · simp [w_none]
  simp only [w_some]
  rcases y sg m1 with _ | ⟨b, m2⟩
  · simp [w_none]
  simp only [w_some]
  rcases w sg m2 with _ | ⟨c, m3⟩ <;> simp [w_none, w_some]
theorem w_ixptp {xs : List D} {i : Int} : wp (fIx (.ptp xs) (.int i) m) Q ↔ wp (atI xs i) fun x => Q (x, m) := by
  unfold fIx seqD
  simp only
  split <;> simp_all [w_none, w_some]
theorem e_lenptp {xs : List D} : fLen [.ptp xs] m = some (.int xs.length, m) := rfl
theorem w_enum {QI : List D × M → Prop} : wp (iEnum (aCons a aNil) sg m) QI ↔ wp (a sg m) fun p => (match p.1 with | .tup xs => QI (enumD xs, p.2) | _ => False) := by
  simp only [iEnum, aCons, aNil]
  rcases a sg m with _ | ⟨d, m1⟩
  · simp [w_none]
  simp only [w_some]
  cases d <;> simp [w_none, w_some]
/-- a loop that folds -/
theorem wp_fold {α β : Type} {g : XG} {bd : XS} {enc : α → D} {step : β → α → β} (I : β → Sg → M → Prop) {QS : Fl × Sg × M → Prop} : ∀ {l : List α} {b0 : β} {sg : Sg} {m : M}, I b0 sg m →
    (∀ b x sg m, x ∈ l → I b sg m → wp (g (enc x) sg m) fun p => wp (bd p.1 p.2) fun q => q.1 = .nx ∧ I (step b x) q.2.1 q.2.2) → (∀ sg m, I (l.foldl step b0) sg m → QS (.nx, sg, m)) → wp (loopS g bd (l.map enc) sg m) QS
  | [], b0, sg, m, h, _, f => w_some.mpr (f sg m h)
  | x :: l, b0, sg, m, h, st, f => by
    obtain ⟨⟨s1, m1⟩, e1, ⟨fl, s2, m2⟩, e2, e3, h2⟩ := st b0 x sg m List.mem_cons_self h
    simp only at e2 e3 h2
    subst e3
    simp only [List.map_cons, loopS]
    rw [e1]
    simp only
    rw [e2]
    simp only
    exact wp_fold I h2 (fun b y sg m hy => st b y sg m (List.mem_cons_of_mem _ hy)) f
theorem wp_foldN {α β : Type} {g : XG} {bd : XS} {enc : α → D} {step : β → α → β} (I : Nat → β → Sg → M → Prop) {QS : Fl × Sg × M → Prop} {N : Nat} : ∀ {l : List α} {b0 : β} {sg : Sg} {m : M} {n : Nat}, I n b0 sg m → n + l.length = N →
    (∀ n b x sg m, n < N → x ∈ l → I n b sg m → wp (g (enc x) sg m) fun p => wp (bd p.1 p.2) fun q => q.1 = .nx ∧ I (n + 1) (step b x) q.2.1 q.2.2) → (∀ sg m, I N (l.foldl step b0) sg m → QS (.nx, sg, m)) → wp (loopS g bd (l.map enc) sg m) QS
  | [], b0, sg, m, n, h, e, _, f => by
    have : n = N := by simpa using e
    subst this
    exact w_some.mpr (f sg m h)
  | x :: l, b0, sg, m, n, h, e, st, f => by
    have e' : n + 1 + l.length = N := by simpa [Nat.add_assoc, Nat.add_comm 1] using e
    obtain ⟨⟨s1, m1⟩, e1, ⟨fl, s2, m2⟩, e2, e3, h2⟩ := st n b0 x sg m (by omega) List.mem_cons_self h
    simp only at e2 e3 h2
    subst e3
    simp only [List.map_cons, loopS]
    rw [e1]
    simp only
    rw [e2]
    simp only
    exact wp_foldN I h2 e' (fun n b y sg m hn hy => st n b y sg m hn (List.mem_cons_of_mem _ hy)) f
theorem getD_int {o : Option Int} {w : Int} : (o.map D.int).getD (.int w) = .int (o.getD w) := by cases o <;> rfl
theorem merge_one {k v : Int} : mergeD [] [((Sum.inl k : Key), D.int v)] = dI [(k, v)] := rfl
theorem w_dnew : wp (xDNew sg m) Q ↔ Q (.ref m.length, m ++ [.dct []]) := w_some
theorem get_len2 {o p : O} : (m ++ [o] ++ [p])[m.length]? = some o := get_app get_len _
theorem set_len2 {o p q : O} : (m ++ [o] ++ [p]).set m.length q = m ++ [q] ++ [p] := by rw [set_app get_len, set_len]
theorem get_len1 {o p : O} : (m ++ [o] ++ [p])[m.length + 1]? = some p := by
  simp
theorem set_len1 {o p q : O} : (m ++ [o] ++ [p]).set (m.length + 1) q = m ++ [o] ++ [q] := by
  simp
theorem len_app1 {o : O} : (m ++ [o]).length = m.length + 1 := by simp
theorem w_keys {QI : List D × M → Prop} : wp (iKeysD a sg m) QI ↔ wp (a sg m) fun p => isR p.1 fun i => match p.2[i]? with | some (.dct kvs) => QI (keysD kvs, p.2.set i (.dctL kvs)) | some (.dctL kvs) => QI (keysD kvs, p.2) | _ => False := by
  unfold iKeysD
  rcases a sg m with _ | ⟨x, m1⟩
  · simp [w_none]
  simp only [w_some]
  cases x <;> simp [w_none, isR]
  rename_i i
  rcases m1[i]? with _ | u
  · simp [w_none]
  cases u <;> simp [w_none, w_some]
theorem keysD_dI {d : List (Int × Int)} : keysD (dI d) = d.map fun p => .int p.1 := by
  simp [keysD, dI, kI, keyV]
theorem w_dc {vs : List Nat} {it : XI} {g : XG} {t : XT} {e : XE} : wp (xDc vs it g t k e sg m) Q ↔ wp (it sg m) fun p => p.1.length ≤ 100000 ∧ wp (loopDC g t k e (wipeS sg vs) p.1 [] p.2) fun q => Q (.ref q.2.length, q.2 ++ [.dct q.1]) := by
  unfold xDc
  rcases it sg m with _ | ⟨ds, m1⟩
  · simp [w_none]
  simp only [w_some]
  by_cases h : ds.length ≤ 100000
  · simp only [h, if_true, true_and]
    rcases loopDC g t k e (wipeS sg vs) ds [] m1 with _ | ⟨ys, m2⟩ <;> simp [w_none, w_some]
  · simp [h, w_none]
theorem loopDC_fold {α : Type} {g : XG} {t : XT} {e : XE} {f : α → D} {key : α → Int} {F : α → Option Int} : ∀ {l : List α} {d : List (Int × Int)}, (∀ x ∈ l, wp (g (f x) sg m) fun s => s.2 = m ∧ t s.1 m = some ((F x).isSome, m) ∧ ∀ v, F x = some v → k s.1 m = some (.int (key x), m) ∧ e s.1 m = some (.int v, m)) →
    loopDC g t k e sg (l.map f) (dI d) m = some (dI (l.foldl (putF key F) d), m)
  | [], _, _ => rfl
  | x :: l, d, w => by
    obtain ⟨⟨s, m1⟩, e1, hm, e2, q⟩ := w x List.mem_cons_self
    simp only at hm e2 q
    rw [hm] at e1
    simp only [List.map_cons, List.foldl_cons, loopDC]
    rw [e1]
    simp only
    rw [e2]
    cases hF : F x with
    | none =>
      simp only [Option.isSome_none]
      rw [putF_none hF]
      exact loopDC_fold fun y hy => w y (List.mem_cons_of_mem _ hy)
    | some v =>
      obtain ⟨e3, e4⟩ := q v hF
      simp only [Option.isSome_some]
      rw [e3]
      simp only [keyD]
      rw [e4]
      simp only
      rw [putD_dI, putF_some hF]
      exact loopDC_fold fun y hy => w y (List.mem_cons_of_mem _ hy)
def isKK (o : Option O) (d : List (Int × Int)) : Prop := o = some (.dct (dI d)) ∨ o = some (.dctL (dI d))
theorem dctD_of {i : Nat} {d : List (Int × Int)} (h : isKK m[i]? d) : dctD (.ref i) m = some (dI d) := by
  unfold dctD
  rcases h with h | h <;> simp [h]
theorem e_inR {i : Nat} {l : Int} {d : List (Int × Int)} (h : isKK m[i]? d) : fIn (.int l) (.ref i) m = some (.bl (lookP d l).isSome, m) := by
  have hs : seqD (.ref i) m = none := by
    unfold seqD
    rcases h with h | h <;> simp [h]
  unfold fIn memD
  simp only [hs, dctD_of h, keyD, lookD_dI, Option.isSome_map]
theorem e_notinR {i : Nat} {l : Int} {d : List (Int × Int)} (h : isKK m[i]? d) : fNotIn (.int l) (.ref i) m = some (.bl (!(lookP d l).isSome), m) := by
  have hs : seqD (.ref i) m = none := by
    unfold seqD
    rcases h with h | h <;> simp [h]
  unfold fNotIn memD
  simp only [hs, dctD_of h, keyD, lookD_dI, Option.isSome_map]
theorem e_dgetR {i : Nat} {l v : Int} {d : List (Int × Int)} (h : isKK m[i]? d) (hv : lookP d l = some v) : fDGet (.ref i) (.int l) m = some (.int v, m) := by
  unfold fDGet
  simp only [dctD_of h, keyD, lookD_dI, hv, Option.map_some]
theorem e_min2' {i j : Int} : fMin2 [.int i, .int j] m = some (.int (if j < i then j else i), m) := rfl
end
end Mini

set_option Elab.async false
set_option maxRecDepth 100000
set_option linter.unusedSimpArgs false
set_option linter.unusedVariables false
namespace K03
open PySem L2 Mini

structure Tp where
  cells : List Int
  at_ : Int
  left : Int
  seed : Int
  salt : Int
def tapeD (T : Tp) : List (Key × D) := [(.inr "cells", .lst (T.cells.map D.int)), (.inr "at", .int T.at_), (.inr "left", .int T.left), (.inr "seed", .int T.seed), (.inr "salt", .int T.salt)]
theorem l_cells {T : Tp} : lookD (tapeD T) (.inr "cells") = some (.lst (T.cells.map D.int)) := rfl
theorem l_at {T : Tp} : lookD (tapeD T) (.inr "at") = some (.int T.at_) := rfl
theorem l_left {T : Tp} : lookD (tapeD T) (.inr "left") = some (.int T.left) := rfl
theorem l_seed {T : Tp} : lookD (tapeD T) (.inr "seed") = some (.int T.seed) := rfl
theorem l_salt {T : Tp} : lookD (tapeD T) (.inr "salt") = some (.int T.salt) := rfl
theorem p_at {T : Tp} {i : Int} : putD (tapeD T) (.inr "at") (.int i) = tapeD { T with at_ := i } := rfl
theorem p_left {T : Tp} {i : Int} : putD (tapeD T) (.inr "left") (.int i) = tapeD { T with left := i } := rfl
theorem p_salt {T : Tp} {i : Int} : putD (tapeD T) (.inr "salt") (.int i) = tapeD { T with salt := i } := rfl
theorem len_tape {T : Tp} : (tapeD T).length = 5 := rfl
theorem atI_map {xs : List Int} {i : Int} (h0 : 0 ≤ i) (h1 : i < xs.length) : ∃ x, atI (xs.map D.int) i = some (.int x) := by
  have hl : i.toNat < xs.length := by omega
  refine ⟨xs[i.toNat], ?_⟩
  simp [atI, ixN, h0, h1, hl]
theorem small_mod {x k : Int} (h : 0 < k) (hk : k < 18446744073709551616) : smallI (x % k) = true := by
  have := Int.emod_nonneg x (show k ≠ 0 by omega)
  have := Int.emod_lt_of_pos x h
  simp [smallI]
  omega
theorem take_spec {m : M} {t : Nat} {T : Tp} {many : Int} {Q : D × M → Prop} (hm : m[t]? = some (.dct (tapeD T))) (ha : 0 ≤ T.at_) (h1 : 0 < many) (h2 : many < 18446744073709551616)
    (q : ∀ r T', 0 ≤ T'.at_ → 0 ≤ r → r < many → Q (.int r, m.set t (.dct (tapeD T')))) : wp (f__law_take [.ref t, .int many] m) Q := by
  have r0 : ∀ x : Int, 0 ≤ x % many := fun x => Int.emod_nonneg x (by omega)
  have r1 : ∀ x : Int, x % many < many := fun x => Int.emod_lt_of_pos x h1
  unfold f__law_take b__law_take
  rw [w_fnb]
  refine ⟨rfl, ?_⟩
  rw [w_seq]
  -- the first row
  have first : wp ((sIf (cAnd (cTest (xOp fEq (xOp fDGet (xVar 0) (xC (.str "left"))) (xC (.int 0)))) ((cTest (xOp fLt (xOp fDGet (xVar 0) (xC (.str "at"))) (xFn fLen (aCons (xOp fDGet (xVar 0) (xC (.str "cells"))) aNil)))))) (sSeq (sDPut (xOp fIx (xOp fDGet (xVar 0) (xC (.str "cells"))) (xOp fDGet (xVar 0) (xC (.str "at")))) (xVar 0) (xC (.str "left")))
  (sDPut (xOp fAdd (xOp fDGet (xVar 0) (xC (.str "at"))) (xC (.int 1))) (xVar 0) (xC (.str "at")))) sNil) [some (.ref t), some (.int many), none, none] m) fun p => ∃ T', 0 ≤ T'.at_ ∧ p = (.nx, [some (.ref t), some (.int many), none, none], m.set t (.dct (tapeD T'))) := by
    simp only [w_some, w_var, w_c, w_op, w_un, w_anil, w_acons, w_fn (f := fLen), w_fn (f := fInt), w_fn (f := fAbs), w_fn (f := fMax2), w_fn (f := fMin2), w_fn (f := fBool), w_fn (f := fTuple), w_fn (f := fDictM), w_fn (f := fTupP), w_fn (f := fDictP), w_fn (f := fSrTup), w_fn (f := fLenD), w_tup, w_lst, w_lstM, isB_bl, w_test, w_cand, w_cor, w_cnot, w_if, w_tru, w_and, w_or, w_not, w_chain, w_chain3, isR_ref, isI_ins, isD_dct, isL_lst, w_fld, w_lm, w_dm, w_disp, w_dnil, w_dcons, w_nil, w_retN, w_break, w_cont, nxt_nx, nxt_rt, nxt_bk, nxt_ct, w_seq, w_set, w_drop, w_ret, w_sif, w_asg, w_gN, w_gT, w_gsnil, w_gscons, w_gdput, w_dput, isN_int, w_lput, w_par, w_aug, w_flds, w_flda, gives_rt, gives_nx, w_fnb, w_range1, w_range2, isS_lst, isS_rol, isS_tup, w_iseq, w_dnew, w_dc, w_mul, w_div, w_mod, w_tupP, w_dget2, w_srit, e_tupP, e_tupleL, e_tupleT, e_addPI, e_isN_non, e_isN_ptp, e_notN_non, e_notN_ptp, w_par3, w_ixptp, e_lenptp, isS_ptp, e_min2', w_for, w_iseq, e_add, e_addI, e_sub, e_cmp, e_eqI, e_neI, e_eqS, e_neS, e_eqB, e_neB, e_abs, e_int, e_max2, e_truB, e_truI, w_dget, w_ixref, w_ixlst, w_ixrol, w_ixtup, w_dref, isK_dct, isK_dctL, reduceCtorEq, false_implies, true_implies, Bool.false_eq_true, Bool.true_eq_false, e_lenlst, e_lenrol, e_lentup, w_lenref, w_ite, getS, setS, keyD, List.map_cons, List.map_nil, List.cons_append, List.nil_append, List.length_cons, List.length_nil, List.replicate, Nat.reduceSub, Nat.reduceAdd, Nat.reduceLeDiff, Nat.reduceLT, List.set_cons_zero, List.set_cons_succ, decide_eq_true_eq, decide_eq_false_iff_not, Bool.not_eq_true', Bool.not_eq_false', true_and, and_true, forall_const, hm, l_cells, l_at, l_left, List.length_map, len_tape]
    refine ⟨fun hl => ⟨fun hc => ?_, fun _ => ⟨T, ha, by rw [set_id hm]⟩⟩, fun _ => ⟨T, ha, by rw [set_id hm]⟩⟩
    obtain ⟨x, hx⟩ := atI_map ha hc
    rw [hx]
    simp only [w_some, w_var, w_c, w_op, w_un, w_anil, w_acons, w_fn (f := fLen), w_fn (f := fInt), w_fn (f := fAbs), w_fn (f := fMax2), w_fn (f := fMin2), w_fn (f := fBool), w_fn (f := fTuple), w_fn (f := fDictM), w_fn (f := fTupP), w_fn (f := fDictP), w_fn (f := fSrTup), w_fn (f := fLenD), w_tup, w_lst, w_lstM, isB_bl, w_test, w_cand, w_cor, w_cnot, w_if, w_tru, w_and, w_or, w_not, w_chain, w_chain3, isR_ref, isI_ins, isD_dct, isL_lst, w_fld, w_lm, w_dm, w_disp, w_dnil, w_dcons, w_nil, w_retN, w_break, w_cont, nxt_nx, nxt_rt, nxt_bk, nxt_ct, w_seq, w_set, w_drop, w_ret, w_sif, w_asg, w_gN, w_gT, w_gsnil, w_gscons, w_gdput, w_dput, isN_int, w_lput, w_par, w_aug, w_flds, w_flda, gives_rt, gives_nx, w_fnb, w_range1, w_range2, isS_lst, isS_rol, isS_tup, w_iseq, w_dnew, w_dc, w_mul, w_div, w_mod, w_tupP, w_dget2, w_srit, e_tupP, e_tupleL, e_tupleT, e_addPI, e_isN_non, e_isN_ptp, e_notN_non, e_notN_ptp, w_par3, w_ixptp, e_lenptp, isS_ptp, e_min2', w_for, w_iseq, e_add, e_addI, e_sub, e_cmp, e_eqI, e_neI, e_eqS, e_neS, e_eqB, e_neB, e_abs, e_int, e_max2, e_truB, e_truI, w_dget, w_ixref, w_ixlst, w_ixrol, w_ixtup, w_dref, isK_dct, isK_dctL, reduceCtorEq, false_implies, true_implies, Bool.false_eq_true, Bool.true_eq_false, e_lenlst, e_lenrol, e_lentup, w_lenref, w_ite, getS, setS, keyD, List.map_cons, List.map_nil, List.cons_append, List.nil_append, List.length_cons, List.length_nil, List.replicate, Nat.reduceSub, Nat.reduceAdd, Nat.reduceLeDiff, Nat.reduceLT, List.set_cons_zero, List.set_cons_succ, decide_eq_true_eq, decide_eq_false_iff_not, Bool.not_eq_true', Bool.not_eq_false', true_and, and_true, forall_const, get_set hm, p_left, l_at, len_tape, p_at, List.set_set]
    exact ⟨_, by simp; omega, rfl⟩
  refine first.mono ?_
  rintro _ ⟨T', ha', rfl⟩
  simp only [w_some, w_var, w_c, w_op, w_un, w_anil, w_acons, w_fn (f := fLen), w_fn (f := fInt), w_fn (f := fAbs), w_fn (f := fMax2), w_fn (f := fMin2), w_fn (f := fBool), w_fn (f := fTuple), w_fn (f := fDictM), w_fn (f := fTupP), w_fn (f := fDictP), w_fn (f := fSrTup), w_fn (f := fLenD), w_tup, w_lst, w_lstM, isB_bl, w_test, w_cand, w_cor, w_cnot, w_if, w_tru, w_and, w_or, w_not, w_chain, w_chain3, isR_ref, isI_ins, isD_dct, isL_lst, w_fld, w_lm, w_dm, w_disp, w_dnil, w_dcons, w_nil, w_retN, w_break, w_cont, nxt_nx, nxt_rt, nxt_bk, nxt_ct, w_seq, w_set, w_drop, w_ret, w_sif, w_asg, w_gN, w_gT, w_gsnil, w_gscons, w_gdput, w_dput, isN_int, w_lput, w_par, w_aug, w_flds, w_flda, gives_rt, gives_nx, w_fnb, w_range1, w_range2, isS_lst, isS_rol, isS_tup, w_iseq, w_dnew, w_dc, w_mul, w_div, w_mod, w_tupP, w_dget2, w_srit, e_tupP, e_tupleL, e_tupleT, e_addPI, e_isN_non, e_isN_ptp, e_notN_non, e_notN_ptp, w_par3, w_ixptp, e_lenptp, isS_ptp, e_min2', w_for, w_iseq, e_add, e_addI, e_sub, e_cmp, e_eqI, e_neI, e_eqS, e_neS, e_eqB, e_neB, e_abs, e_int, e_max2, e_truB, e_truI, w_dget, w_ixref, w_ixlst, w_ixrol, w_ixtup, w_dref, isK_dct, isK_dctL, reduceCtorEq, false_implies, true_implies, Bool.false_eq_true, Bool.true_eq_false, e_lenlst, e_lenrol, e_lentup, w_lenref, w_ite, getS, setS, keyD, List.map_cons, List.map_nil, List.cons_append, List.nil_append, List.length_cons, List.length_nil, List.replicate, Nat.reduceSub, Nat.reduceAdd, Nat.reduceLeDiff, Nat.reduceLT, List.set_cons_zero, List.set_cons_succ, decide_eq_true_eq, decide_eq_false_iff_not, Bool.not_eq_true', Bool.not_eq_false', true_and, and_true, forall_const, get_set hm, l_cells, l_at, l_left, l_seed, l_salt, len_tape, p_left, p_salt, List.set_set]
  refine ⟨fun hl => ⟨h1, ⟨h1, h2⟩, q _ _ ha' (r0 _) (r1 _)⟩, fun _ => ⟨.inr (by decide), .inr (by decide), by decide, .inl (small_mod (by decide) (by decide)), .inr (by decide), by decide, h1, q _ _ ha' (r0 _) (r1 _)⟩⟩
theorem tape_eq {ns : List Int} (h : ns.length ≤ 63) : ∃ T : Tp, f__law_tape [.rol (ns.map D.int)] [] = some (.ref 0, [.dct (tapeD T)]) ∧ T.at_ = 0 := by
  suffices hh : wp (f__law_tape [.rol (ns.map D.int)] []) fun p => ∃ T : Tp, p = (.ref 0, [.dct (tapeD T)]) ∧ T.at_ = 0 by
    obtain ⟨p, e, T, q, a⟩ := hh
    exact ⟨T, q ▸ e, a⟩
  unfold f__law_tape b__law_tape
  rw [w_fnb]
  refine ⟨rfl, ?_⟩
  rw [w_seq, w_set, w_lc]
  simp only [w_some, w_var, w_c, w_op, w_un, w_anil, w_acons, w_fn (f := fLen), w_fn (f := fInt), w_fn (f := fAbs), w_fn (f := fMax2), w_fn (f := fMin2), w_fn (f := fBool), w_fn (f := fTuple), w_fn (f := fDictM), w_fn (f := fTupP), w_fn (f := fDictP), w_fn (f := fSrTup), w_fn (f := fLenD), w_tup, w_lst, w_lstM, isB_bl, w_test, w_cand, w_cor, w_cnot, w_if, w_tru, w_and, w_or, w_not, w_chain, w_chain3, isR_ref, isI_ins, isD_dct, isL_lst, w_fld, w_lm, w_dm, w_disp, w_dnil, w_dcons, w_nil, w_retN, w_break, w_cont, nxt_nx, nxt_rt, nxt_bk, nxt_ct, w_seq, w_set, w_drop, w_ret, w_sif, w_asg, w_gN, w_gT, w_gsnil, w_gscons, w_gdput, w_dput, isN_int, w_lput, w_par, w_aug, w_flds, w_flda, gives_rt, gives_nx, w_fnb, w_range1, w_range2, isS_lst, isS_rol, isS_tup, w_iseq, w_dnew, w_dc, w_mul, w_div, w_mod, w_tupP, w_dget2, w_srit, e_tupP, e_tupleL, e_tupleT, e_addPI, e_isN_non, e_isN_ptp, e_notN_non, e_notN_ptp, w_par3, w_ixptp, e_lenptp, isS_ptp, e_min2', w_for, w_iseq, e_add, e_addI, e_sub, e_cmp, e_eqI, e_neI, e_eqS, e_neS, e_eqB, e_neB, e_abs, e_int, e_max2, e_truB, e_truI, w_dget, w_ixref, w_ixlst, w_ixrol, w_ixtup, w_dref, isK_dct, isK_dctL, reduceCtorEq, false_implies, true_implies, Bool.false_eq_true, Bool.true_eq_false, e_lenlst, e_lenrol, e_lentup, w_lenref, w_ite, getS, setS, keyD, List.map_cons, List.map_nil, List.cons_append, List.nil_append, List.length_cons, List.length_nil, List.replicate, Nat.reduceSub, Nat.reduceAdd, Nat.reduceLeDiff, Nat.reduceLT, List.set_cons_zero, List.set_cons_succ, decide_eq_true_eq, decide_eq_false_iff_not, Bool.not_eq_true', Bool.not_eq_false', true_and, and_true, forall_const, List.length_map]
  refine ⟨by omega, wp.eq (loopC_map (f := D.int) (p := fun _ => true) (h := fun x => .int (if x < 0 then -x else x)) fun x hx => ?_) ?_⟩
  · rw [w_gN]
    exact ⟨rfl, rfl, fun _ => wp_of (by simp only [w_some, w_var, w_c, w_op, w_un, w_anil, w_acons, w_fn (f := fLen), w_fn (f := fInt), w_fn (f := fAbs), w_fn (f := fMax2), w_fn (f := fMin2), w_fn (f := fBool), w_fn (f := fTuple), w_fn (f := fDictM), w_fn (f := fTupP), w_fn (f := fDictP), w_fn (f := fSrTup), w_fn (f := fLenD), w_tup, w_lst, w_lstM, isB_bl, w_test, w_cand, w_cor, w_cnot, w_if, w_tru, w_and, w_or, w_not, w_chain, w_chain3, isR_ref, isI_ins, isD_dct, isL_lst, w_fld, w_lm, w_dm, w_disp, w_dnil, w_dcons, w_nil, w_retN, w_break, w_cont, nxt_nx, nxt_rt, nxt_bk, nxt_ct, w_seq, w_set, w_drop, w_ret, w_sif, w_asg, w_gN, w_gT, w_gsnil, w_gscons, w_gdput, w_dput, isN_int, w_lput, w_par, w_aug, w_flds, w_flda, gives_rt, gives_nx, w_fnb, w_range1, w_range2, isS_lst, isS_rol, isS_tup, w_iseq, w_dnew, w_dc, w_mul, w_div, w_mod, w_tupP, w_dget2, w_srit, e_tupP, e_tupleL, e_tupleT, e_addPI, e_isN_non, e_isN_ptp, e_notN_non, e_notN_ptp, w_par3, w_ixptp, e_lenptp, isS_ptp, e_min2', w_for, w_iseq, e_add, e_addI, e_sub, e_cmp, e_eqI, e_neI, e_eqS, e_neS, e_eqB, e_neB, e_abs, e_int, e_max2, e_truB, e_truI, w_dget, w_ixref, w_ixlst, w_ixrol, w_ixtup, w_dref, isK_dct, isK_dctL, reduceCtorEq, false_implies, true_implies, Bool.false_eq_true, Bool.true_eq_false, e_lenlst, e_lenrol, e_lentup, w_lenref, w_ite, getS, setS, keyD, List.map_cons, List.map_nil, List.cons_append, List.nil_append, List.length_cons, List.length_nil, List.replicate, Nat.reduceSub, Nat.reduceAdd, Nat.reduceLeDiff, Nat.reduceLT, List.set_cons_zero, List.set_cons_succ, decide_eq_true_eq, decide_eq_false_iff_not, Bool.not_eq_true', Bool.not_eq_false', true_and, and_true, forall_const, wipeS])⟩
  simp only [w_some, w_var, w_c, w_op, w_un, w_anil, w_acons, w_fn (f := fLen), w_fn (f := fInt), w_fn (f := fAbs), w_fn (f := fMax2), w_fn (f := fMin2), w_fn (f := fBool), w_fn (f := fTuple), w_fn (f := fDictM), w_fn (f := fTupP), w_fn (f := fDictP), w_fn (f := fSrTup), w_fn (f := fLenD), w_tup, w_lst, w_lstM, isB_bl, w_test, w_cand, w_cor, w_cnot, w_if, w_tru, w_and, w_or, w_not, w_chain, w_chain3, isR_ref, isI_ins, isD_dct, isL_lst, w_fld, w_lm, w_dm, w_disp, w_dnil, w_dcons, w_nil, w_retN, w_break, w_cont, nxt_nx, nxt_rt, nxt_bk, nxt_ct, w_seq, w_set, w_drop, w_ret, w_sif, w_asg, w_gN, w_gT, w_gsnil, w_gscons, w_gdput, w_dput, isN_int, w_lput, w_par, w_aug, w_flds, w_flda, gives_rt, gives_nx, w_fnb, w_range1, w_range2, isS_lst, isS_rol, isS_tup, w_iseq, w_dnew, w_dc, w_mul, w_div, w_mod, w_tupP, w_dget2, w_srit, e_tupP, e_tupleL, e_tupleT, e_addPI, e_isN_non, e_isN_ptp, e_notN_non, e_notN_ptp, w_par3, w_ixptp, e_lenptp, isS_ptp, e_min2', w_for, w_iseq, e_add, e_addI, e_sub, e_cmp, e_eqI, e_neI, e_eqS, e_neS, e_eqB, e_neB, e_abs, e_int, e_max2, e_truB, e_truI, w_dget, w_ixref, w_ixlst, w_ixrol, w_ixtup, w_dref, isK_dct, isK_dctL, reduceCtorEq, false_implies, true_implies, Bool.false_eq_true, Bool.true_eq_false, e_lenlst, e_lenrol, e_lentup, w_lenref, w_ite, getS, setS, keyD, List.map_cons, List.map_nil, List.cons_append, List.nil_append, List.length_cons, List.length_nil, List.replicate, Nat.reduceSub, Nat.reduceAdd, Nat.reduceLeDiff, Nat.reduceLT, List.set_cons_zero, List.set_cons_succ, decide_eq_true_eq, decide_eq_false_iff_not, Bool.not_eq_true', Bool.not_eq_false', true_and, and_true, forall_const, filter_yes, w_for]
  have e : (ns.map fun x => D.int (if x < 0 then -x else x)) = (ns.map fun x => if x < 0 then -x else x).map D.int := by simp
  rw [e]
  generalize (ns.map fun x => if x < 0 then -x else x) = cs
  refine wp_loop (fun i sg m => m = [] ∧ ∃ s x, sg = [some (.rol (ns.map D.int)), some (.lst (cs.map D.int)), x, some (.int s)]) 0 ⟨rfl, 7, _, rfl⟩ ?_ ?_
  · rintro i d sg m hd ⟨rfl, s, x, rfl⟩
    rw [List.getElem?_map] at hd
    obtain ⟨j, hj, rfl⟩ := Option.map_eq_some_iff.mp hd
    simp only [w_some, w_var, w_c, w_op, w_un, w_anil, w_acons, w_fn (f := fLen), w_fn (f := fInt), w_fn (f := fAbs), w_fn (f := fMax2), w_fn (f := fMin2), w_fn (f := fBool), w_fn (f := fTuple), w_fn (f := fDictM), w_fn (f := fTupP), w_fn (f := fDictP), w_fn (f := fSrTup), w_fn (f := fLenD), w_tup, w_lst, w_lstM, isB_bl, w_test, w_cand, w_cor, w_cnot, w_if, w_tru, w_and, w_or, w_not, w_chain, w_chain3, isR_ref, isI_ins, isD_dct, isL_lst, w_fld, w_lm, w_dm, w_disp, w_dnil, w_dcons, w_nil, w_retN, w_break, w_cont, nxt_nx, nxt_rt, nxt_bk, nxt_ct, w_seq, w_set, w_drop, w_ret, w_sif, w_asg, w_gN, w_gT, w_gsnil, w_gscons, w_gdput, w_dput, isN_int, w_lput, w_par, w_aug, w_flds, w_flda, gives_rt, gives_nx, w_fnb, w_range1, w_range2, isS_lst, isS_rol, isS_tup, w_iseq, w_dnew, w_dc, w_mul, w_div, w_mod, w_tupP, w_dget2, w_srit, e_tupP, e_tupleL, e_tupleT, e_addPI, e_isN_non, e_isN_ptp, e_notN_non, e_notN_ptp, w_par3, w_ixptp, e_lenptp, isS_ptp, e_min2', w_for, w_iseq, e_add, e_addI, e_sub, e_cmp, e_eqI, e_neI, e_eqS, e_neS, e_eqB, e_neB, e_abs, e_int, e_max2, e_truB, e_truI, w_dget, w_ixref, w_ixlst, w_ixrol, w_ixtup, w_dref, isK_dct, isK_dctL, reduceCtorEq, false_implies, true_implies, Bool.false_eq_true, Bool.true_eq_false, e_lenlst, e_lenrol, e_lentup, w_lenref, w_ite, getS, setS, keyD, List.map_cons, List.map_nil, List.cons_append, List.nil_append, List.length_cons, List.length_nil, List.replicate, Nat.reduceSub, Nat.reduceAdd, Nat.reduceLeDiff, Nat.reduceLT, List.set_cons_zero, List.set_cons_succ, decide_eq_true_eq, decide_eq_false_iff_not, Bool.not_eq_true', Bool.not_eq_false', true_and, and_true, forall_const]
    refine ⟨.inr (by decide), by decide, _, _, rfl⟩
  · rintro sg m ⟨rfl, s, x, rfl⟩
    simp only [w_some, w_var, w_c, w_op, w_un, w_anil, w_acons, w_fn (f := fLen), w_fn (f := fInt), w_fn (f := fAbs), w_fn (f := fMax2), w_fn (f := fMin2), w_fn (f := fBool), w_fn (f := fTuple), w_fn (f := fDictM), w_fn (f := fTupP), w_fn (f := fDictP), w_fn (f := fSrTup), w_fn (f := fLenD), w_tup, w_lst, w_lstM, isB_bl, w_test, w_cand, w_cor, w_cnot, w_if, w_tru, w_and, w_or, w_not, w_chain, w_chain3, isR_ref, isI_ins, isD_dct, isL_lst, w_fld, w_lm, w_dm, w_disp, w_dnil, w_dcons, w_nil, w_retN, w_break, w_cont, nxt_nx, nxt_rt, nxt_bk, nxt_ct, w_seq, w_set, w_drop, w_ret, w_sif, w_asg, w_gN, w_gT, w_gsnil, w_gscons, w_gdput, w_dput, isN_int, w_lput, w_par, w_aug, w_flds, w_flda, gives_rt, gives_nx, w_fnb, w_range1, w_range2, isS_lst, isS_rol, isS_tup, w_iseq, w_dnew, w_dc, w_mul, w_div, w_mod, w_tupP, w_dget2, w_srit, e_tupP, e_tupleL, e_tupleT, e_addPI, e_isN_non, e_isN_ptp, e_notN_non, e_notN_ptp, w_par3, w_ixptp, e_lenptp, isS_ptp, e_min2', w_for, w_iseq, e_add, e_addI, e_sub, e_cmp, e_eqI, e_neI, e_eqS, e_neS, e_eqB, e_neB, e_abs, e_int, e_max2, e_truB, e_truI, w_dget, w_ixref, w_ixlst, w_ixrol, w_ixtup, w_dref, isK_dct, isK_dctL, reduceCtorEq, false_implies, true_implies, Bool.false_eq_true, Bool.true_eq_false, e_lenlst, e_lenrol, e_lentup, w_lenref, w_ite, getS, setS, keyD, List.map_cons, List.map_nil, List.cons_append, List.nil_append, List.length_cons, List.length_nil, List.replicate, Nat.reduceSub, Nat.reduceAdd, Nat.reduceLeDiff, Nat.reduceLT, List.set_cons_zero, List.set_cons_succ, decide_eq_true_eq, decide_eq_false_iff_not, Bool.not_eq_true', Bool.not_eq_false', true_and, and_true, forall_const]
    exact ⟨rfl, ⟨cs, 0, 0, s, 0⟩, rfl, rfl⟩
theorem seq_nx {x y : XS} {sg : Sg} {m : M} {Q : Fl × Sg × M → Prop} {R : Sg → M → Prop} (h : wp (x sg m) fun p => p.1 = .nx ∧ R p.2.1 p.2.2) (k : ∀ s m, R s m → wp (y s m) Q) : wp (sSeq x y sg m) Q := by
  rw [w_seq]
  refine h.mono ?_
  rintro ⟨f, s, m1⟩ ⟨rfl, r⟩
  exact k s m1 r
def Tape (m : M) : Prop := ∃ T : Tp, 0 ≤ T.at_ ∧ m[0]? = some (.dct (tapeD T))
theorem take_t {m : M} {many : Int} {Q : D × M → Prop} (h : Tape m) (h1 : 0 < many) (h2 : many < 18446744073709551616)
    (q : ∀ r m', Tape m' → (∀ i, 0 ≠ i → m'[i]? = m[i]?) → m'.length = m.length → 0 ≤ r → r < many → Q (.int r, m')) : wp (f__law_take [.ref 0, .int many] m) Q := by
  obtain ⟨T, ha, hm⟩ := h
  refine take_spec hm ha h1 h2 fun r T' ha' r0 r1 => q r _ ⟨T', ha', get_set hm _⟩ (fun i hi => get_set_ne hi _) (by simp) r0 r1
theorem Tape.mono {m m' : M} (h : Tape m) (e : m'[0]? = m[0]?) : Tape m' := by
  obtain ⟨T, ha, q⟩ := h
  exact ⟨T, ha, e.trans q⟩
theorem Tape.app {m : M} (h : Tape m) (G : M) : Tape (m ++ G) := by
  obtain ⟨T, ha, q⟩ := h
  exact ⟨T, ha, get_app q G⟩
theorem Tape.lt {m : M} (h : Tape m) : 0 < m.length := by
  obtain ⟨T, ha, q⟩ := h
  exact lt_of_get q

end K03

set_option Elab.async false
set_option maxRecDepth 100000
set_option linter.unusedSimpArgs false
set_option linter.unusedVariables false
namespace K03
open Mini

structure Told where
  S : Int
  W : Int
  lru : Bool
structure TOk (T : Told) : Prop where
  s : T.S = 1 ∨ T.S = 2
  w1 : 1 ≤ T.W
  w4 : T.W ≤ 4
abbrev Ps := List (Int × Int)
abbrev Kn := Ps × Option Ps
def sureP (T : Told) : Int := if T.lru = true then T.W else 1
def agedF (T : Told) (bf line : Int) (p : Int × Int) : Option Int :=
  if p.1 = line then none else if (if T.lru = true ∧ p.1 % T.S = line % T.S ∧ p.2 ≤ bf then p.2 + 1 else p.2) < T.W then some (if T.lru = true ∧ p.1 % T.S = line % T.S ∧ p.2 ≤ bf then p.2 + 1 else p.2) else none
def agedP (T : Told) (may : Ps) (line : Int) : Ps := srtP ([(line, 0)] ++ may.filterMap fun p => (agedF T ((lookP may line).getD T.W) line p).map fun v => (p.1, v))
def usedF (T : Told) (bf line : Int) (p : Int × Int) : Option Int :=
  if p.1 = line then none else if (if p.1 % T.S = line % T.S ∧ p.2 < bf then p.2 + 1 else p.2) < sureP T then some (if p.1 % T.S = line % T.S ∧ p.2 < bf then p.2 + 1 else p.2) else none
def usedM (T : Told) (must : Ps) (line : Int) : Ps := srtP ([(line, 0)] ++ must.filterMap fun p => (usedF T ((lookP must line).getD (sureP T)) line p).map fun v => (p.1, v))
def usedP (T : Told) (k : Kn) (line : Int) : Kn := (usedM T k.1 line, k.2.map fun may => agedP T may line)
def hasK (ps : Ps) (line : Int) : Bool := ps.any fun p => decide (p.1 = line)
def touchedP (T : Told) (k : Kn) (line : Int) : Kn := if T.lru = true then usedP T k line else if hasK k.1 line = true then k else (srtP (k.1 ++ [(line, 0)]), k.2)
def missedP (k : Kn) (line : Int) : Kn := (k.1, k.2.map fun may => may.filter fun p => !decide (p.1 = line))
def maxI (i j : Int) : Int := if j > i then j else i
def minI (i j : Int) : Int := if j < i then j else i
def joinF (b : Ps) (p : Int × Int) : Option Int := (lookP b p.1).map fun v => maxI p.2 v
def joinM (a b : Ps) : Ps := srtP ([] ++ a.filterMap fun p => (joinF b p).map fun v => (p.1, v))
def joinY (a b : Ps) : Ps := b.foldl (fun d p => putP d p.1 (minI p.2 ((lookP d p.1).getD p.2))) a
def joinP (one two : Kn) : Kn := (joinM one.1 two.1, match one.2, two.2 with | some a, some b => some (srtP (joinY a b)) | _, _ => none)
def leK (a : Ps) (p : Int × Int) : Bool := match lookP a p.1 with | some v => decide (v ≤ p.2) | none => false
def withinP (one two : Kn) : Bool := if two.1.any (fun p => !leK one.1 p) = true then false else match two.2 with
  | none => true
  | some b => match one.2 with
    | none => false
    | some a => a.all fun p => leK b p
def verdP (k : Kn) (line : Int) : List Bool := if hasK k.1 line = true then [true] else match k.2 with
  | none => [true, false]
  | some may => if hasK may line = true then [true, false] else [false]
abbrev Rows := List (List Int)
def pairsOf (row : List Int) : Ps := (List.range row.length).map fun i => (row.getD i 0, (i : Int))
def whereP (rows : Rows) : Ps := rows.flatMap pairsOf
def ofCacheP (T : Told) (rows : Rows) : Kn := (srtP ((whereP rows).map fun p => (p.1, if T.lru = true then p.2 else 0)), some (srtP (whereP rows)))
def okMust (T : Told) (w : Ps) (p : Int × Int) : Bool := match lookP w p.1 with | none => false | some a => !(T.lru && decide (p.2 < a))
def okMay (T : Told) (may : Ps) (p : Int × Int) : Bool := match lookP may p.1 with | none => false | some b => !T.lru || decide (b ≤ p.2)
def holdsP (T : Told) (k : Kn) (rows : Rows) : Bool := if k.1.any (fun p => !okMust T (whereP rows) p) = true then false else match k.2 with
  | none => true
  | some may => (whereP rows).all fun p => okMay T may p
def atP (T : Told) (line : Int) : Nat := (line % T.S).toNat
def mtf (row : List Int) (line : Int) : List Int := line :: row.filter fun x => !decide (x = line)
def rowP (T : Told) (rows : Rows) (line : Int) : List Int := rows.getD (atP T line) []
def hitP (T : Told) (rows : Rows) (line : Int) : Rows := rows.set (atP T line) (mtf (rowP T rows line) line)
def fillP (T : Told) (rows : Rows) (line : Int) : Rows := rows.set (atP T line) ((mtf (rowP T rows line) line).take T.W.toNat)
def inP (T : Told) (rows : Rows) (line : Int) : Bool := decide (line ∈ rowP T rows line)
structure Valid (T : Told) (rows : Rows) : Prop where
  len : (rows.length : Int) = T.S
  row : ∀ (i : Nat) (row : List Int), rows[i]? = some row → row.Nodup ∧ (row.length : Int) ≤ T.W ∧ ∀ l ∈ row, l % T.S = i

section
variable {T : Told} {rows : Rows} {line : Int}
theorem atP_lt (t : TOk T) (v : Valid T rows) (line : Int) : atP T line < rows.length := by
  have h := v.len
  have h1 := Int.emod_nonneg line (show T.S ≠ 0 by rcases t.s with h | h <;> omega)
  have h2 := Int.emod_lt_of_pos line (show 0 < T.S by rcases t.s with h | h <;> omega)
  unfold atP
  omega
theorem row_at (t : TOk T) (v : Valid T rows) (line : Int) : rows[atP T line]? = some (rowP T rows line) := by
  have h := atP_lt t v line
  unfold rowP
  simp [h]
theorem row_ok (t : TOk T) (v : Valid T rows) (line : Int) : (rowP T rows line).Nodup ∧ ((rowP T rows line).length : Int) ≤ T.W ∧ ∀ l ∈ rowP T rows line, l % T.S = line % T.S := by
  obtain ⟨a, b, c⟩ := v.row _ _ (row_at t v line)
  refine ⟨a, b, fun l hl => ?_⟩
  have h1 := Int.emod_nonneg line (show T.S ≠ 0 by rcases t.s with h | h <;> omega)
  have := c l hl
  unfold atP at this
  omega
theorem mem_pairs {row : List Int} {l a : Int} : (l, a) ∈ pairsOf row ↔ ∃ i : Nat, a = i ∧ row[i]? = some l := by
  unfold pairsOf
  simp only [List.mem_map, List.mem_range, Prod.mk.injEq]
  constructor
  · rintro ⟨i, hi, h1, h2⟩
    refine ⟨i, h2.symm, ?_⟩
    rw [List.getElem?_eq_getElem hi, ← h1]
    simp [hi]
  · rintro ⟨i, rfl, h⟩
    obtain ⟨hi, e⟩ := List.getElem?_eq_some_iff.mp h
    exact ⟨i, hi, by simp [hi, e], rfl⟩
theorem keys_pairs {row : List Int} : (pairsOf row).map (·.1) = row := by
  unfold pairsOf
  rw [List.map_map]
  apply List.ext_getElem
  · simp
  · intro i h1 h2
    simp [h2]
theorem keys_where : ∀ {rows : Rows}, (whereP rows).map (·.1) = rows.flatten
  | [] => rfl
  | r :: rows => by
    have ih := keys_where (rows := rows)
    unfold whereP at ih ⊢
    rw [List.flatMap_cons, List.map_append, keys_pairs, ih]
    rfl
theorem mem_where (t : TOk T) (v : Valid T rows) {l a : Int} : (l, a) ∈ whereP rows ↔ ∃ i : Nat, a = i ∧ (rowP T rows l)[i]? = some l := by
  unfold whereP
  rw [List.mem_flatMap]
  constructor
  · rintro ⟨row, hr, hm⟩
    obtain ⟨i, rfl, hi⟩ := mem_pairs.mp hm
    obtain ⟨j, hj, e⟩ := List.getElem_of_mem hr
    have hj' : rows[j]? = some row := by rw [List.getElem?_eq_getElem hj, e]
    have hl := (v.row j row hj').2.2 l (List.mem_of_getElem? hi)
    have : rowP T rows l = row := by
      unfold rowP atP
      rw [hl]
      simp [hj, e]
    exact ⟨i, rfl, by rw [this]; exact hi⟩
  · rintro ⟨i, rfl, hi⟩
    exact ⟨rowP T rows l, List.mem_of_getElem? (row_at t v l), mem_pairs.mpr ⟨i, rfl, hi⟩⟩
theorem nk_where (v : Valid T rows) : NK (whereP rows) := by
  unfold NK
  rw [keys_where]
  unfold List.Nodup
  rw [List.pairwise_flatten]
  refine ⟨fun l hl => ?_, ?_⟩
  · obtain ⟨j, hj, e⟩ := List.getElem_of_mem hl
    exact (v.row j l (by rw [List.getElem?_eq_getElem hj, e])).1
  · rw [List.pairwise_iff_getElem]
    intro i j hi hj hij
    rintro x hx _ hy rfl
    have h1 := (v.row i _ (List.getElem?_eq_getElem hi)).2.2 x hx
    have h2 := (v.row j _ (List.getElem?_eq_getElem hj)).2.2 x hy
    omega
theorem look_where (v : Valid T rows) {l a : Int} : lookP (whereP rows) l = some a ↔ (l, a) ∈ whereP rows := find_nk (nk_where v)
/-! ### one row -/
theorem flt {l : Int} : ∀ {row : List Int} {i : Nat}, row.Nodup → row[i]? = some l → l ≠ line → (row.filter fun x => !decide (x = line))[if line ∈ row.take i then i - 1 else i]? = some l
  | [], i, _, h, _ => by simp at h
  | x :: xs, 0, hn, h, hl => by
    have : x = l := by simpa using h
    subst this
    simp [hl]
  | x :: xs, i + 1, hn, h, hl => by
    have h' : xs[i]? = some l := by simpa using h
    obtain ⟨hx, hn'⟩ := List.nodup_cons.mp hn
    have ih := flt (row := xs) (i := i) hn' h' hl
    by_cases e : x = line
    · subst e
      have : x ∉ xs.take i := fun q => hx (List.mem_of_mem_take q)
      rw [if_neg this] at ih
      simp [ih]
    · have e' : ¬ line = x := fun h => e h.symm
      simp only [List.take_succ_cons, List.mem_cons, e', false_or]
      by_cases q : line ∈ xs.take i
      · rw [if_pos q] at ih ⊢
        have hi : i ≠ 0 := by
          rintro rfl
          simp at q
        obtain ⟨k, rfl⟩ := Nat.exists_eq_succ_of_ne_zero hi
        simp only [Nat.succ_sub_one, Nat.add_one_sub_one] at ih ⊢
        simp [List.filter_cons, e]
        simpa using ih
      · rw [if_neg q] at ih ⊢
        simp [List.filter_cons, e]
        simpa using ih
theorem mem_take {row : List Int} {i : Nat} {x : Int} : x ∈ row.take i ↔ ∃ p : Nat, p < i ∧ row[p]? = some x := by
  rw [List.mem_take_iff_getElem]
  constructor
  · rintro ⟨p, hp, e⟩
    refine ⟨p, by omega, ?_⟩
    rw [List.getElem?_eq_getElem (by omega), e]
  · rintro ⟨p, hp, e⟩
    obtain ⟨h1, h2⟩ := List.getElem?_eq_some_iff.mp e
    exact ⟨p, by omega, h2⟩
/-- where the others stand when one has come to the front -/
theorem mtf_fwd {row : List Int} {l : Int} {i : Nat} (hn : row.Nodup) (h : row[i]? = some l) (hl : l ≠ line) :
    ∃ j : Nat, (mtf row line)[j]? = some l ∧ ((j = i ∧ ∃ p : Nat, p < i ∧ row[p]? = some line) ∨ (j = i + 1 ∧ ∀ p : Nat, row[p]? = some line → i < p)) := by
  have f := flt hn h hl
  by_cases q : line ∈ row.take i
  · rw [if_pos q] at f
    obtain ⟨p, hp, e⟩ := mem_take.mp q
    refine ⟨i, ?_, .inl ⟨rfl, p, hp, e⟩⟩
    obtain ⟨k, rfl⟩ := Nat.exists_eq_succ_of_ne_zero (show i ≠ 0 by omega)
    simpa [mtf] using f
  · rw [if_neg q] at f
    refine ⟨i + 1, by simpa [mtf] using f, .inr ⟨rfl, fun p hp => ?_⟩⟩
    rcases Nat.lt_trichotomy p i with hlt | rfl | hgt
    · exact absurd (mem_take.mpr ⟨p, hlt, hp⟩) q
    · rw [h] at hp
      exact absurd (Option.some.inj hp) hl
    · exact hgt
theorem mtf_nodup {row : List Int} (hn : row.Nodup) : (mtf row line).Nodup := by
  unfold mtf
  rw [List.nodup_cons]
  exact ⟨by simp, hn.filter _⟩
theorem mtf_mem {row : List Int} {l : Int} (h : l ∈ mtf row line) : l = line ∨ l ∈ row := by
  unfold mtf at h
  rcases List.mem_cons.mp h with h | h
  · exact .inl h
  · exact .inr (List.mem_filter.mp h).1
theorem nodup_at {row : List Int} {l : Int} {i j : Nat} (hn : row.Nodup) (h1 : row[i]? = some l) (h2 : row[j]? = some l) : i = j := by
  obtain ⟨a, b⟩ := List.getElem?_eq_some_iff.mp h1
  obtain ⟨c, d⟩ := List.getElem?_eq_some_iff.mp h2
  exact (List.getElem_inj hn).mp (b.trans d.symm)
theorem mtf_bwd {row : List Int} {l : Int} {j : Nat} (hn : row.Nodup) (h : (mtf row line)[j]? = some l) (hl : l ≠ line) :
    ∃ i : Nat, row[i]? = some l ∧ ((j = i ∧ ∃ p : Nat, p < i ∧ row[p]? = some line) ∨ (j = i + 1 ∧ ∀ p : Nat, row[p]? = some line → i < p)) := by
  have hm := (mtf_mem (List.mem_of_getElem? h)).resolve_left hl
  obtain ⟨i, hi, e⟩ := List.getElem_of_mem hm
  have hi' : row[i]? = some l := by rw [List.getElem?_eq_getElem hi, e]
  obtain ⟨j', h', c⟩ := mtf_fwd hn hi' hl
  have := nodup_at (mtf_nodup hn) h h'
  subst this
  exact ⟨i, hi', c⟩
theorem flt_len {row : List Int} (hn : row.Nodup) (h : line ∈ row) : (row.filter fun x => !decide (x = line)).length + 1 = row.length := by
  induction row with
  | nil => cases h
  | cons x xs ih =>
    obtain ⟨hx, hn'⟩ := List.nodup_cons.mp hn
    by_cases e : x = line
    · subst e
      have : xs.filter (fun y => !decide (y = x)) = xs := List.filter_eq_self.mpr fun y hy => by
        have : y ≠ x := fun e => hx (e ▸ hy)
        simp [this]
      simp [this]
    · have h' : line ∈ xs := by
        rcases List.mem_cons.mp h with h | h
        · exact absurd h.symm e
        · exact h
      have := ih hn' h'
      simp [List.filter_cons, e]
      simpa using this
theorem mtf_len {row : List Int} (hn : row.Nodup) (h : line ∈ row) : (mtf row line).length = row.length := by
  have := flt_len hn h
  simpa [mtf] using this
theorem hit_fill (t : TOk T) (v : Valid T rows) (h : inP T rows line = true) : hitP T rows line = fillP T rows line := by
  have hm : line ∈ rowP T rows line := by simpa [inP] using h
  obtain ⟨a, b, c⟩ := row_ok t v line
  have := mtf_len a hm
  unfold hitP fillP
  rw [List.take_of_length_le (by rw [this]; have := t.w1; omega)]
theorem row_fill (t : TOk T) (v : Valid T rows) {l : Int} : rowP T (fillP T rows line) l = if l % T.S = line % T.S then (mtf (rowP T rows line) line).take T.W.toNat else rowP T rows l := by
  have h1 := Int.emod_nonneg line (show T.S ≠ 0 by rcases t.s with h | h <;> omega)
  have h2 := Int.emod_nonneg l (show T.S ≠ 0 by rcases t.s with h | h <;> omega)
  have hlt := atP_lt t v line
  unfold fillP
  by_cases e : l % T.S = line % T.S
  · rw [if_pos e]
    have : atP T l = atP T line := by unfold atP; rw [e]
    simp only [rowP, this]
    simp [hlt]
  · rw [if_neg e]
    have : atP T line ≠ atP T l := by unfold atP; omega
    simp only [rowP]
    simp [List.getD, List.getElem?_set, this]
theorem valid_fill (t : TOk T) (v : Valid T rows) : Valid T (fillP T rows line) := by
  have h1 := Int.emod_nonneg line (show T.S ≠ 0 by rcases t.s with h | h <;> omega)
  refine ⟨by unfold fillP; simpa using v.len, fun i row hi => ?_⟩
  unfold fillP at hi
  by_cases e : atP T line = i
  · subst e
    rw [List.getElem?_set_self (atP_lt t v line)] at hi
    cases hi
    obtain ⟨a, b, c⟩ := row_ok t v line
    refine ⟨(mtf_nodup a).sublist (List.take_sublist _ _), ?_, fun l hl => ?_⟩
    · have := t.w1
      rw [List.length_take]
      omega
    · have h2 : l % T.S = line % T.S := by
        rcases mtf_mem (List.mem_of_mem_take hl) with rfl | h
        · rfl
        · exact c l h
      unfold atP
      omega
  · rw [List.getElem?_set_ne e] at hi
    exact v.row i row hi
end
end K03

set_option Elab.async false
set_option maxRecDepth 100000
set_option linter.unusedSimpArgs false
set_option linter.unusedVariables false
namespace K03
open Mini

structure Good (k : Kn) : Prop where
  nk : NK k.1
  nn : ∀ l b, (l, b) ∈ k.1 → 0 ≤ b
  nky : ∀ may, k.2 = some may → NK may
structure Sound (T : Told) (rows : Rows) (k : Kn) : Prop where
  good : Good k
  must : ∀ l b, (l, b) ∈ k.1 → ∃ a : Int, (l, a) ∈ whereP rows ∧ (T.lru = true → a ≤ b)
  may : ∀ may, k.2 = some may → ∀ l a, (l, a) ∈ whereP rows → ∃ b, (l, b) ∈ may ∧ b < T.W ∧ (T.lru = true → b ≤ a)
section
variable {T : Told} {rows rows2 : Rows} {line : Int} {k one two : Kn} {ps a b : Ps}
theorem mem_fm {f : Int × Int → Option Int} {l v : Int} : (l, v) ∈ (ps.filterMap fun p => (f p).map fun v => (p.1, v)) ↔ ∃ b, (l, b) ∈ ps ∧ f (l, b) = some v := by
  rw [List.mem_filterMap]
  constructor
  · rintro ⟨⟨l', b⟩, hm, e⟩
    obtain ⟨w, hw, e2⟩ := Option.map_eq_some_iff.mp e
    cases e2
    exact ⟨b, hm, hw⟩
  · rintro ⟨b, hm, e⟩
    exact ⟨_, hm, by rw [e]; rfl⟩
theorem keys_fm {f : Int × Int → Option Int} : ∀ {ps : Ps}, ((ps.filterMap fun p => (f p).map fun v => (p.1, v)).map (·.1)).Sublist (ps.map (·.1))
  | [] => by simp
  | p :: ps => by
    have ih := keys_fm (f := f) (ps := ps)
    rw [List.filterMap_cons]
    cases f p with
    | none => exact ih.cons _
    | some v => exact ih.cons_cons _
theorem nk_fm {f : Int × Int → Option Int} (h : NK ps) : NK (ps.filterMap fun p => (f p).map fun v => (p.1, v)) := List.Sublist.nodup keys_fm h
theorem nk_fm1 {f : Int × Int → Option Int} (h : NK ps) (hf : ∀ b v, f (line, b) ≠ some v) : NK ([(line, 0)] ++ ps.filterMap fun p => (f p).map fun v => (p.1, v)) := by
  show ((line, (0 : Int)).1 :: (ps.filterMap fun p => (f p).map fun v => (p.1, v)).map (·.1)).Nodup
  rw [List.nodup_cons]
  refine ⟨fun q => ?_, nk_fm h⟩
  obtain ⟨⟨l, v⟩, hm, e⟩ := List.mem_map.mp q
  obtain ⟨b, _, e2⟩ := mem_fm.mp hm
  simp only at e
  subst e
  exact hf _ _ e2
theorem usedF_some {bf l b v : Int} : usedF T bf line (l, b) = some v ↔ l ≠ line ∧ v = (if l % T.S = line % T.S ∧ b < bf then b + 1 else b) ∧ v < sureP T := by
  unfold usedF
  by_cases h : l = line
  · simp [h]
  · simp only [h, if_false, not_false_eq_true, ne_eq, true_and]
    generalize (if l % T.S = line % T.S ∧ b < bf then b + 1 else b) = o
    by_cases h2 : o < sureP T
    · rw [if_pos h2]
      exact ⟨fun e => ⟨(Option.some.inj e).symm, by rw [← Option.some.inj e]; exact h2⟩, fun e => by rw [e.1]⟩
    · rw [if_neg h2]
      exact ⟨fun e => (nomatch e), fun e => absurd (e.1 ▸ e.2) h2⟩
theorem agedF_some {bf l b v : Int} : agedF T bf line (l, b) = some v ↔ l ≠ line ∧ v = (if T.lru = true ∧ l % T.S = line % T.S ∧ b ≤ bf then b + 1 else b) ∧ v < T.W := by
  unfold agedF
  by_cases h : l = line
  · simp [h]
  · simp only [h, if_false, not_false_eq_true, ne_eq, true_and]
    generalize (if T.lru = true ∧ l % T.S = line % T.S ∧ b ≤ bf then b + 1 else b) = o
    by_cases h2 : o < T.W
    · rw [if_pos h2]
      exact ⟨fun e => ⟨(Option.some.inj e).symm, by rw [← Option.some.inj e]; exact h2⟩, fun e => by rw [e.1]⟩
    · rw [if_neg h2]
      exact ⟨fun e => (nomatch e), fun e => absurd (e.1 ▸ e.2) h2⟩
theorem mem_usedM {l v : Int} : (l, v) ∈ usedM T ps line ↔ (l = line ∧ v = 0) ∨ ∃ b, (l, b) ∈ ps ∧ usedF T ((lookP ps line).getD (sureP T)) line (l, b) = some v := by
  unfold usedM
  rw [mem_srt, List.mem_append, mem_fm]
  simp
theorem mem_agedP {l v : Int} : (l, v) ∈ agedP T ps line ↔ (l = line ∧ v = 0) ∨ ∃ b, (l, b) ∈ ps ∧ agedF T ((lookP ps line).getD T.W) line (l, b) = some v := by
  unfold agedP
  rw [mem_srt, List.mem_append, mem_fm]
  simp
theorem good_used (g : Good k) : Good (usedP T k line) := by
  refine ⟨nk_srt (nk_fm1 g.nk fun b v e => (usedF_some.mp e).1 rfl), fun l b h => ?_, fun may e => ?_⟩
  · rcases mem_usedM.mp h with ⟨_, rfl⟩ | ⟨b0, h0, e⟩
    · exact Int.le_refl _
    · obtain ⟨_, rfl, _⟩ := usedF_some.mp e
      have := g.nn l b0 h0
      split <;> omega
  · unfold usedP at e
    obtain ⟨m0, e0, rfl⟩ := Option.map_eq_some_iff.mp e
    exact nk_srt (nk_fm1 (g.nky _ e0) fun b v e => (agedF_some.mp e).1 rfl)
theorem row_same (t : TOk T) {l : Int} (e : l % T.S = line % T.S) : rowP T rows l = rowP T rows line := by
  unfold rowP atP
  rw [e]
theorem sound_used (t : TOk T) (v : Valid T rows) (s : Sound T rows k) : Sound T (fillP T rows line) (usedP T k line) := by
  have v' : Valid T (fillP T rows line) := valid_fill t v
  have hw1 := t.w1
  obtain ⟨rn, rl, rr⟩ := row_ok t v line
  refine ⟨good_used s.good, fun l b h => ?_, fun may' e l a h => ?_⟩
  · rcases mem_usedM.mp h with ⟨rfl, rfl⟩ | ⟨b0, h0, e⟩
    · refine ⟨0, (mem_where t v').mpr ⟨0, rfl, ?_⟩, fun _ => Int.le_refl _⟩
      rw [row_fill t v, if_pos rfl, List.getElem?_take]
      rw [if_pos (by omega)]
      rfl
    · obtain ⟨hl, hb, hs⟩ := usedF_some.mp e
      obtain ⟨a0, ha, hle⟩ := s.must l b0 h0
      obtain ⟨i, rfl, hi⟩ := (mem_where t v).mp ha
      have hnn := s.good.nn l b0 h0
      by_cases same : l % T.S = line % T.S
      · rw [row_same t same] at hi
        obtain ⟨j, hj, hc⟩ := mtf_fwd rn hi hl
        simp only [same, true_and] at hb
        have key : (j : Int) < T.W ∧ (T.lru = true → (j : Int) ≤ b) := by
          cases hlru : T.lru with
          | true =>
            have hle := hle hlru
            simp only [sureP, hlru, if_true] at hs hb
            have : (j : Int) ≤ b := by
              rcases hc with ⟨rfl, p, hp, _⟩ | ⟨rfl, hp⟩
              · split at hb <;> omega
              · cases hk : lookP k.1 line with
                | none =>
                  rw [hk] at hb
                  simp only [Option.getD_none] at hb
                  split at hb <;> omega
                | some w =>
                  rw [hk] at hb
                  simp only [Option.getD_some] at hb
                  obtain ⟨a1, ha1, hle1⟩ := s.must line w (look_mem hk)
                  obtain ⟨i1, rfl, hi1⟩ := (mem_where t v).mp ha1
                  have h1 := hp i1 hi1
                  have h2 := hle1 hlru
                  split at hb <;> omega
            exact ⟨by omega, fun _ => this⟩
          | false =>
            refine ⟨?_, fun h => (nomatch h)⟩
            simp only [sureP, hlru, Bool.false_eq_true, if_false] at hs hb
            have hmem : line ∈ rowP T rows line := by
              cases hk : lookP k.1 line with
              | none =>
                rw [hk] at hb
                simp only [Option.getD_none] at hb
                split at hb <;> omega
              | some w =>
                obtain ⟨a1, ha1, hle1⟩ := s.must line w (look_mem hk)
                obtain ⟨i1, rfl, hi1⟩ := (mem_where t v).mp ha1
                exact List.mem_of_getElem? hi1
            have h1 := mtf_len rn hmem
            have h2 := (List.getElem?_eq_some_iff.mp hj).1
            omega
        refine ⟨j, (mem_where t v').mpr ⟨j, rfl, ?_⟩, key.2⟩
        rw [row_fill t v, if_pos same, List.getElem?_take, if_pos (by omega)]
        exact hj
      · rw [if_neg (fun h => same h.1)] at hb
        subst hb
        refine ⟨i, (mem_where t v').mpr ⟨i, rfl, ?_⟩, hle⟩
        rw [row_fill t v, if_neg same]
        exact hi
  · unfold usedP at e
    obtain ⟨may, e0, rfl⟩ := Option.map_eq_some_iff.mp e
    obtain ⟨i, rfl, hi⟩ := (mem_where t v').mp h
    by_cases hl : l = line
    · subst hl
      exact ⟨0, mem_agedP.mpr (.inl ⟨rfl, rfl⟩), by omega, fun _ => by omega⟩
    · rw [row_fill t v] at hi
      by_cases same : l % T.S = line % T.S
      · rw [if_pos same, List.getElem?_take] at hi
        split at hi
        · rename_i hiW
          obtain ⟨i0, hi0, hc⟩ := mtf_bwd rn hi hl
          obtain ⟨b0, hb0, hbW, hble⟩ := s.may may e0 l i0 ((mem_where t v).mpr ⟨i0, rfl, by rw [row_same t same]; exact hi0⟩)
          have main : T.lru = true → (if T.lru = true ∧ l % T.S = line % T.S ∧ b0 ≤ (lookP may line).getD T.W then b0 + 1 else b0) ≤ (i : Int) := by
            intro hlru
            have hble := hble hlru
            simp only [hlru, same, true_and]
            rcases hc with ⟨rfl, p, hp, hpl⟩ | ⟨rfl, _⟩
            · obtain ⟨b1, hb1, _, hb1le⟩ := s.may may e0 line p ((mem_where t v).mpr ⟨p, rfl, hpl⟩)
              have hk := (find_nk (s.good.nky may e0)).mpr hb1
              rw [hk]
              simp only [Option.getD_some]
              have := hb1le hlru
              split <;> omega
            · split <;> omega
          refine ⟨_, mem_agedP.mpr (.inr ⟨b0, hb0, agedF_some.mpr ⟨hl, rfl, ?_⟩⟩), ?_, main⟩
          · cases hlru : T.lru with
            | true =>
              have := main hlru
              rw [hlru] at this
              omega
            | false => simpa using hbW
          · cases hlru : T.lru with
            | true =>
              have := main hlru
              rw [hlru] at this
              omega
            | false => simpa using hbW
        · cases hi
      · rw [if_neg same] at hi
        obtain ⟨b0, hb0, hbW, hble⟩ := s.may may e0 l i ((mem_where t v).mpr ⟨i, rfl, hi⟩)
        refine ⟨b0, mem_agedP.mpr (.inr ⟨b0, hb0, agedF_some.mpr ⟨hl, ?_, hbW⟩⟩), hbW, hble⟩
        rw [if_neg (fun h => same h.2.1)]
theorem mem_hasK {l : Int} : hasK ps l = true ↔ ∃ b, (l, b) ∈ ps := by
  unfold hasK
  rw [List.any_eq_true]
  constructor
  · rintro ⟨⟨x, b⟩, h, e⟩
    have : x = l := by simpa using e
    exact ⟨b, this ▸ h⟩
  · rintro ⟨b, h⟩
    exact ⟨_, h, by simp⟩
theorem mem_in (t : TOk T) (v : Valid T rows) : inP T rows line = true ↔ ∃ a, (line, a) ∈ whereP rows := by
  unfold inP
  rw [decide_eq_true_eq]
  constructor
  · intro h
    obtain ⟨i, hi, e⟩ := List.getElem_of_mem h
    exact ⟨i, (mem_where t v).mpr ⟨i, rfl, by rw [List.getElem?_eq_getElem hi, e]⟩⟩
  · rintro ⟨a, h⟩
    obtain ⟨i, rfl, hi⟩ := (mem_where t v).mp h
    exact List.mem_of_getElem? hi
def afterHit (T : Told) (rows : Rows) (line : Int) : Rows := if inP T rows line = true ∧ T.lru = true then hitP T rows line else rows
theorem valid_hit (t : TOk T) (v : Valid T rows) : Valid T (afterHit T rows line) := by
  unfold afterHit
  split
  · rename_i h
    rw [hit_fill t v h.1]
    exact valid_fill t v
  · exact v
theorem sound_touched (t : TOk T) (v : Valid T rows) (s : Sound T rows k) (h : inP T rows line = true) : Sound T (afterHit T rows line) (touchedP T k line) := by
  unfold afterHit touchedP
  by_cases hl : T.lru = true
  · rw [if_pos ⟨h, hl⟩, if_pos hl, hit_fill t v h]
    exact sound_used t v s
  · rw [if_neg (fun q => hl q.2), if_neg hl]
    split
    · exact s
    · rename_i hk
      have hno : ∀ b, (line, b) ∉ k.1 := fun b hb => hk (mem_hasK.mpr ⟨b, hb⟩)
      refine ⟨⟨nk_srt ?_, fun l b hm => ?_, s.good.nky⟩, fun l b hm => ?_, s.may⟩
      · show ((k.1 ++ [(line, (0 : Int))]).map (·.1)).Nodup
        rw [List.map_append, List.nodup_append]
        refine ⟨s.good.nk, by simp, fun x hx y hy e => ?_⟩
        have hy' : y = line := by simpa using hy
        subst hy'
        subst e
        obtain ⟨⟨x', b⟩, hp, rfl⟩ := List.mem_map.mp hx
        exact hno b hp
      · rcases List.mem_append.mp (mem_srt.mp hm) with hm | hm
        · exact s.good.nn l b hm
        · cases (List.mem_singleton.mp hm)
          exact Int.le_refl _
      · rcases List.mem_append.mp (mem_srt.mp hm) with hm | hm
        · exact s.must l b hm
        · cases (List.mem_singleton.mp hm)
          obtain ⟨a, ha⟩ := (mem_in t v).mp h
          exact ⟨a, ha, fun q => absurd q hl⟩
theorem sound_missed (t : TOk T) (v : Valid T rows) (s : Sound T rows k) (h : inP T rows line = false) : Sound T rows (missedP k line) := by
  have hno : ∀ a, (line, a) ∉ whereP rows := fun a ha => by rw [(mem_in t v).mpr ⟨a, ha⟩] at h; cases h
  refine ⟨⟨s.good.nk, s.good.nn, fun may e => ?_⟩, s.must, fun may e l a hm => ?_⟩
  · obtain ⟨m0, e0, rfl⟩ := Option.map_eq_some_iff.mp e
    exact List.Sublist.nodup (List.filter_sublist.map _) (s.good.nky m0 e0)
  · obtain ⟨m0, e0, rfl⟩ := Option.map_eq_some_iff.mp e
    obtain ⟨b, hb, c⟩ := s.may m0 e0 l a hm
    refine ⟨b, List.mem_filter.mpr ⟨hb, ?_⟩, c⟩
    have : l ≠ line := fun e => hno a (e ▸ hm)
    simp [this]
theorem after_missed (h : inP T rows line = false) : afterHit T rows line = rows := by
  unfold afterHit
  rw [if_neg]
  rw [h]
  simp
end
end K03

set_option Elab.async false
set_option maxRecDepth 100000
set_option linter.unusedSimpArgs false
set_option linter.unusedVariables false
namespace K03
open Mini

section
variable {T : Told} {rows rows2 : Rows} {line : Int} {k one two : Kn} {ps a b : Ps}
theorem max1 {x y : Int} : x ≤ maxI x y := by unfold maxI; split <;> omega
theorem max2 {x y : Int} : y ≤ maxI x y := by unfold maxI; split <;> omega
theorem min1 {x y : Int} : minI x y ≤ x := by unfold minI; split <;> omega
theorem min2 {x y : Int} : minI x y ≤ y := by unfold minI; split <;> omega
theorem mem_joinM {l v : Int} : (l, v) ∈ joinM a b ↔ ∃ x, (l, x) ∈ a ∧ ∃ y, lookP b l = some y ∧ v = maxI x y := by
  unfold joinM
  rw [mem_srt, List.nil_append, mem_fm]
  constructor
  · rintro ⟨x, hx, e⟩
    obtain ⟨y, hy, rfl⟩ := Option.map_eq_some_iff.mp e
    exact ⟨x, hx, y, hy, rfl⟩
  · rintro ⟨x, hx, y, hy, rfl⟩
    exact ⟨x, hx, by unfold joinF; simp only [hy]; rfl⟩
theorem nk_joinM (h : NK a) : NK (joinM a b) := nk_srt (by rw [List.nil_append]; exact nk_fm h)
theorem nk_joinY : ∀ {b a : Ps}, NK a → NK (joinY a b)
  | [], _, h => h
  | p :: b, a, h => by
    have := nk_joinY (b := b) (a := putP a p.1 (minI p.2 ((lookP a p.1).getD p.2))) (nk_putP h)
    exact this
theorem look_joinY {l : Int} : ∀ {b a : Ps}, NK b → lookP (joinY a b) l = match lookP b l with | some y => some (minI y ((lookP a l).getD y)) | none => lookP a l
  | [], _, _ => rfl
  | p :: b, a, h => by
    obtain ⟨h1, h2⟩ := List.nodup_cons.mp h
    have ih := look_joinY (l := l) (b := b) (a := putP a p.1 (minI p.2 ((lookP a p.1).getD p.2))) h2
    show lookP (joinY (putP a p.1 (minI p.2 ((lookP a p.1).getD p.2))) b) l = _
    rw [ih, look_putP]
    by_cases e : p.1 = l
    · subst e
      have hb : lookP b p.1 = none := look_none.mpr fun v hv => h1 (List.mem_map.mpr ⟨_, hv, rfl⟩)
      have hp : lookP (p :: b) p.1 = some p.2 := by simp [lookP]
      rw [hb, hp]
      simp
    · have hp : lookP (p :: b) l = lookP b l := by simp [lookP, e]
      have e' : ¬ l = p.1 := fun q => e q.symm
      rw [hp]
      simp only [e', if_false]
theorem good_join (g1 : Good one) (g2 : Good two) : Good (joinP one two) := by
  refine ⟨nk_joinM g1.nk, fun l v h => ?_, fun may e => ?_⟩
  · obtain ⟨x, hx, y, hy, rfl⟩ := mem_joinM.mp h
    have := g1.nn l x hx
    have := max1 (x := x) (y := y)
    omega
  · unfold joinP at e
    simp only at e
    split at e
    · rename_i a b ha hb
      cases e
      exact nk_srt (nk_joinY (g1.nky _ ha))
    · cases e
theorem sound_join1 (s : Sound T rows one) (g : Good two) : Sound T rows (joinP one two) := by
  refine ⟨good_join s.good g, fun l v h => ?_, fun may e l v h => ?_⟩
  · obtain ⟨x, hx, y, hy, rfl⟩ := mem_joinM.mp h
    obtain ⟨a, ha, hle⟩ := s.must l x hx
    exact ⟨a, ha, fun q => Int.le_trans (hle q) max1⟩
  · unfold joinP at e
    simp only at e
    split at e
    · rename_i a b ha hb
      cases e
      obtain ⟨w, hw, c1, c2⟩ := s.may a ha l v h
      have hk := (find_nk (s.good.nky a ha)).mpr hw
      have hj := look_joinY (l := l) (a := a) (g.nky b hb)
      rw [hk] at hj
      simp only [Option.getD_some] at hj
      cases hbl : lookP b l with
      | none =>
        rw [hbl] at hj
        exact ⟨w, mem_srt.mpr (look_mem hj), c1, c2⟩
      | some y =>
        rw [hbl] at hj
        have h2 := min2 (x := y) (y := w)
        exact ⟨_, mem_srt.mpr (look_mem hj), by omega, fun q => Int.le_trans h2 (c2 q)⟩
    · cases e
theorem sound_join2 (s : Sound T rows two) (g : Good one) : Sound T rows (joinP one two) := by
  refine ⟨good_join g s.good, fun l v h => ?_, fun may e l v h => ?_⟩
  · obtain ⟨x, hx, y, hy, rfl⟩ := mem_joinM.mp h
    obtain ⟨a, ha, hle⟩ := s.must l y (look_mem hy)
    exact ⟨a, ha, fun q => Int.le_trans (hle q) max2⟩
  · unfold joinP at e
    simp only at e
    split at e
    · rename_i a b ha hb
      cases e
      obtain ⟨w, hw, c1, c2⟩ := s.may b hb l v h
      have hk := (find_nk (s.good.nky b hb)).mpr hw
      have hj := look_joinY (l := l) (a := a) (s.good.nky b hb)
      rw [hk] at hj
      have h1 := min1 (x := w) (y := (lookP a l).getD w)
      exact ⟨_, mem_srt.mpr (look_mem hj), by omega, fun q => Int.le_trans h1 (c2 q)⟩
    · cases e
theorem leK_of {p : Int × Int} {v : Int} (h : lookP a p.1 = some v) (hv : v ≤ p.2) : leK a p = true := by
  unfold leK
  rw [h]
  simpa using hv
theorem within_of (h1 : ∀ l v, (l, v) ∈ two.1 → leK one.1 (l, v) = true) (h2 : ∀ b, two.2 = some b → ∃ a, one.2 = some a ∧ ∀ l v, (l, v) ∈ a → leK b (l, v) = true) : withinP one two = true := by
  unfold withinP
  have : ¬ (two.1.any fun p => !leK one.1 p) = true := by
    intro e
    obtain ⟨⟨l, v⟩, hp, hf⟩ := List.any_eq_true.mp e
    rw [h1 l v hp] at hf
    cases hf
  rw [if_neg this]
  split
  · rfl
  · rename_i b hb
    obtain ⟨a, ha, h3⟩ := h2 b hb
    rw [ha]
    simp only
    rw [List.all_eq_true]
    rintro ⟨l, v⟩ hp
    exact h3 l v hp
theorem within_refl (g : Good k) : withinP k k = true := within_of (fun l v h => leK_of ((find_nk g.nk).mpr h) (Int.le_refl _)) fun b hb => ⟨b, hb, fun l v h => leK_of ((find_nk (g.nky b hb)).mpr h) (Int.le_refl _)⟩
theorem within_1 (g1 : Good one) (g2 : Good two) : withinP one (joinP one two) = true := by
  refine within_of (fun l v h => ?_) fun m hm => ?_
  · obtain ⟨x, hx, y, hy, rfl⟩ := mem_joinM.mp h
    exact leK_of ((find_nk g1.nk).mpr hx) max1
  · unfold joinP at hm
    simp only at hm
    split at hm
    · rename_i a b ha hb
      cases hm
      refine ⟨a, ha, fun l v h => ?_⟩
      have hj := look_joinY (l := l) (a := a) (g2.nky b hb)
      rw [(find_nk (g1.nky a ha)).mpr h] at hj
      have hn := nk_joinY (b := b) (g1.nky a ha)
      cases hbl : lookP b l with
      | none =>
        rw [hbl] at hj
        exact leK_of ((find_nk (nk_srt hn)).mpr (mem_srt.mpr (look_mem hj))) (Int.le_refl _)
      | some y =>
        rw [hbl] at hj
        exact leK_of ((find_nk (nk_srt hn)).mpr (mem_srt.mpr (look_mem hj))) min2
    · cases hm
theorem within_2 (g1 : Good one) (g2 : Good two) : withinP two (joinP one two) = true := by
  refine within_of (fun l v h => ?_) fun m hm => ?_
  · obtain ⟨x, hx, y, hy, rfl⟩ := mem_joinM.mp h
    exact leK_of hy max2
  · unfold joinP at hm
    simp only at hm
    split at hm
    · rename_i a b ha hb
      cases hm
      refine ⟨b, hb, fun l v h => ?_⟩
      have hj := look_joinY (l := l) (a := a) (g2.nky b hb)
      rw [(find_nk (g2.nky b hb)).mpr h] at hj
      have hn := nk_joinY (b := b) (g1.nky a ha)
      exact leK_of ((find_nk (nk_srt hn)).mpr (mem_srt.mpr (look_mem hj))) min1
    · cases hm
theorem within_any : withinP k ([], none) = true := rfl
theorem within_nothing (h : withinP ([], some []) k = true) : k.1 = [] := by
  unfold withinP at h
  split at h
  · cases h
  · rename_i hn
    cases hk : k.1 with
    | nil => rfl
    | cons p ps =>
      exfalso
      apply hn
      rw [hk]
      rfl
theorem sound_any : Sound T rows ([], none) := ⟨⟨List.nodup_nil, fun l b h => (nomatch h), fun may e => (nomatch e)⟩, fun l b h => (nomatch h), fun may e => (nomatch e)⟩
theorem sound_of (t : TOk T) (v : Valid T rows) : Sound T rows (ofCacheP T rows) := by
  have hm : ∀ l b, (l, b) ∈ (ofCacheP T rows).1 → ∃ a, (l, a) ∈ whereP rows ∧ b = if T.lru = true then a else 0 := fun l b h => by
    obtain ⟨⟨x, a⟩, h1, e⟩ := List.mem_map.mp (mem_srt.mp h)
    cases e
    exact ⟨a, h1, rfl⟩
  refine ⟨⟨nk_srt ?_, fun l b h => ?_, fun may e => ?_⟩, fun l b h => ?_, fun may e l a h => ?_⟩
  · unfold NK
    rw [List.map_map]
    exact nk_where v
  · obtain ⟨a, ha, rfl⟩ := hm l b h
    obtain ⟨i, rfl, _⟩ := (mem_where t v).mp ha
    split <;> omega
  · cases e
    exact nk_srt (nk_where v)
  · obtain ⟨a, ha, rfl⟩ := hm l b h
    exact ⟨a, ha, fun q => by rw [if_pos q]; exact Int.le_refl _⟩
  · cases e
    refine ⟨a, mem_srt.mpr h, ?_, fun _ => Int.le_refl _⟩
    obtain ⟨i, rfl, hi⟩ := (mem_where t v).mp h
    have h1 := (row_ok t v l).2.1
    have h2 := (List.getElem?_eq_some_iff.mp hi).1
    omega
theorem verd_ok (t : TOk T) (v : Valid T rows) (s : Sound T rows k) : inP T rows line ∈ verdP k line := by
  unfold verdP
  split
  · rename_i h
    obtain ⟨b, hb⟩ := mem_hasK.mp h
    obtain ⟨a, ha, _⟩ := s.must line b hb
    rw [(mem_in t v).mpr ⟨a, ha⟩]
    exact List.mem_singleton.mpr rfl
  · split
    · cases inP T rows line <;> simp
    · rename_i may e
      split
      · cases inP T rows line <;> simp
      · rename_i h
        cases hi : inP T rows line with
        | false => simp
        | true =>
          obtain ⟨a, ha⟩ := (mem_in t v).mp hi
          obtain ⟨b, hb, _⟩ := s.may may e line a ha
          exact absurd (mem_hasK.mpr ⟨b, hb⟩) h
theorem holds_ok (t : TOk T) (v : Valid T rows) (s : Sound T rows k) : holdsP T k rows = true := by
  unfold holdsP
  have : ¬ (k.1.any fun p => !okMust T (whereP rows) p) = true := by
    intro e
    obtain ⟨⟨l, b⟩, hp, hf⟩ := List.any_eq_true.mp e
    obtain ⟨a, ha, hle⟩ := s.must l b hp
    have : okMust T (whereP rows) (l, b) = true := by
      unfold okMust
      rw [(look_where v).mpr ha]
      cases hl : T.lru with
      | false => rfl
      | true =>
        have := hle hl
        simp
        omega
    rw [this] at hf
    cases hf
  rw [if_neg this]
  split
  · rfl
  · rename_i may e
    rw [List.all_eq_true]
    rintro ⟨l, a⟩ hp
    obtain ⟨b, hb, _, hle⟩ := s.may may e l a hp
    unfold okMay
    rw [(find_nk (s.good.nky may e)).mpr hb]
    cases hl : T.lru with
    | false => rfl
    | true => simpa using hle hl
end
end K03

set_option Elab.async false
set_option maxRecDepth 100000
set_option linter.unusedSimpArgs false
set_option linter.unusedVariables false
namespace K03
open PySem L2 Mini

def polS (b : Bool) : Str := if b then "lru" else "fifo"
theorem pol_lru {b : Bool} : polS b = ("lru" : Str) ↔ b = true := by cases b <;> decide
theorem pol_fifo {b : Bool} : polS b = ("fifo" : Str) ↔ b = false := by cases b <;> decide
def toldD (T : Told) : D := .tup [.int T.S, .int T.W, .str (polS T.lru)]
def mayD : Option Ps → D
  | none => .non
  | some ps => .ptp (ps.map prD)
def knD (k : Kn) : D := .tup [.ptp (k.1.map prD), mayD k.2]
def rowD (row : List Int) : D := .tup (row.map D.int)
theorem ix3_0 {x y z : D} : atI [x, y, z] 0 = some x := rfl
theorem ix3_1 {x y z : D} : atI [x, y, z] 1 = some y := rfl
theorem ix3_2 {x y z : D} : atI [x, y, z] 2 = some z := rfl
theorem ix2_0 {x y : D} : atI [x, y] 0 = some x := rfl
theorem ix2_1 {x y : D} : atI [x, y] 1 = some y := rfl
def In10 (ps : Ps) : Prop := ∀ l b, (l, b) ∈ ps → 0 ≤ l ∧ l < 10
theorem len10 {ps : Ps} (h : NK ps) (hi : In10 ps) : ps.length ≤ 10 := by
  have := List.Nodup.length_le_of_subset (l₁ := ps.map (·.1)) (l₂ := (List.range 10).map fun i : Nat => (i : Int)) (show (ps.map fun x => x.1).Nodup from h) fun x hx => by
    obtain ⟨⟨l, b⟩, hp, rfl⟩ := List.mem_map.mp hx
    obtain ⟨h1, h2⟩ := hi l b hp
    exact List.mem_map.mpr ⟨l.toNat, List.mem_range.mpr (by omega), by show ((l.toNat : Nat) : Int) = l; omega⟩
  simpa using this
structure Lim (k : Kn) : Prop where
  must : In10 k.1
  may : ∀ may, k.2 = some may → In10 may
section
variable {T : Told} {line : Int} {m : M} {may must : Ps} {k : Kn}
theorem leaf_len {d : Ps} {c : Nat} (h : d.length ≤ c) (hc : c < 100000) : (dI d).length < 100000 := by rw [len_dI]; omega
structure agedI (T : Told) (mb : M) (may : Ps) (line bf : Int) (n : Nat) (d : Ps) (sg : Sg) (m' : M) : Prop where
  eq : m' = mb ++ [.dct (dI d)]
  len : d.length ≤ 1 + n
  sl : ∃ x5 x6 x7 x8, sg = [some (.tup [.int T.S, .int T.W, .str (polS T.lru)]), some (.ptp (may.map prD)), some (.int line), some (.int bf), some (.ref mb.length), x5, x6, x7, x8]
theorem agedI_put {mb : M} {bf : Int} {n : Nat} {d : Ps} {x y v : Int} {x5 x6 x7 x8 : Option D} (hdl : d.length ≤ 1 + n) (h : agedF T bf line (x, y) = some v) :
    agedI T mb may line bf (n + 1) (putF (fun p : Int × Int => p.1) (agedF T bf line) d (x, y)) [some (.tup [.int T.S, .int T.W, .str (polS T.lru)]), some (.ptp (may.map prD)), some (.int line), some (.int bf), some (.ref mb.length), x5, x6, x7, x8]
      (List.set (mb ++ [.dct (dI d)]) mb.length (.dct (putD (dI d) (Sum.inl x) (.int v)))) := by
  rw [putF_some h]
  refine ⟨by rw [set_len, putD_dI], ?_, _, _, _, _, rfl⟩
  have := len_putP (d := d) (k := x) (v := v)
  try simp only
  omega
theorem agedI_no {mb : M} {bf : Int} {n : Nat} {d : Ps} {x y : Int} {x5 x6 x7 x8 : Option D} (hdl : d.length ≤ 1 + n) (h : agedF T bf line (x, y) = none) :
    agedI T mb may line bf (n + 1) (putF (fun p : Int × Int => p.1) (agedF T bf line) d (x, y)) [some (.tup [.int T.S, .int T.W, .str (polS T.lru)]), some (.ptp (may.map prD)), some (.int line), some (.int bf), some (.ref mb.length), x5, x6, x7, x8]
      (mb ++ [.dct (dI d)]) := by
  rw [putF_none h]
  exact ⟨rfl, Nat.le_trans hdl (by omega), _, _, _, _, rfl⟩
theorem aged_eq (hn : NK may) (hl : may.length ≤ 1000) (hS : 0 < T.S) : ∃ G, f_aged [toldD T, .ptp (may.map prD), .int line] m = some (.ptp ((agedP T may line).map prD), m ++ G) := by
  suffices hh : wp (f_aged [toldD T, .ptp (may.map prD), .int line] m) fun p => ∃ G, p = (.ptp ((agedP T may line).map prD), m ++ G) by
    obtain ⟨p, e, G, q⟩ := hh
    exact ⟨G, q ▸ e⟩
  unfold f_aged b_aged toldD
  simp only [w_some, w_var, w_c, w_op, w_un, w_anil, w_acons, w_fn (f := fLen), w_fn (f := fInt), w_fn (f := fAbs), w_fn (f := fMax2), w_fn (f := fMin2), w_fn (f := fBool), w_fn (f := fTuple), w_fn (f := fDictM), w_fn (f := fTupP), w_fn (f := fDictP), w_fn (f := fSrTup), w_fn (f := fLenD), w_tup, w_lst, w_lstM, isB_bl, w_test, w_cand, w_cor, w_cnot, w_if, w_tru, w_and, w_or, w_not, w_chain, w_chain3, isR_ref, isI_ins, isD_dct, isL_lst, w_fld, w_lm, w_dm, w_disp, w_dnil, w_dcons, w_nil, w_retN, w_break, w_cont, nxt_nx, nxt_rt, nxt_bk, nxt_ct, w_seq, w_set, w_drop, w_ret, w_sif, w_asg, w_gN, w_gT, w_gsnil, w_gscons, w_gdput, w_dput, isN_int, w_lput, w_par, w_aug, w_flds, w_flda, gives_rt, gives_nx, w_fnb, w_range1, w_range2, isS_lst, isS_rol, isS_tup, w_iseq, w_dnew, w_dc, w_mul, w_div, w_mod, w_tupP, w_dget2, w_srit, e_tupP, e_tupleL, e_tupleT, e_addPI, e_isN_non, e_isN_ptp, e_notN_non, e_notN_ptp, w_par3, w_ixptp, e_lenptp, isS_ptp, e_min2', w_for, w_iseq, e_add, e_addI, e_sub, e_cmp, e_eqI, e_neI, e_eqS, e_neS, e_eqB, e_neB, e_abs, e_int, e_max2, e_truB, e_truI, w_dget, w_ixref, w_ixlst, w_ixrol, w_ixtup, w_dref, isK_dct, isK_dctL, reduceCtorEq, false_implies, true_implies, Bool.false_eq_true, Bool.true_eq_false, e_lenlst, e_lenrol, e_lentup, w_lenref, w_ite, getS, setS, keyD, List.map_cons, List.map_nil, List.cons_append, List.nil_append, List.length_cons, List.length_nil, List.replicate, Nat.reduceSub, Nat.reduceAdd, Nat.reduceLeDiff, Nat.reduceLT, List.set_cons_zero, List.set_cons_succ, decide_eq_true_eq, decide_eq_false_iff_not, Bool.not_eq_true', Bool.not_eq_false', true_and, and_true, forall_const, e_dictP hn, ix3_0, ix3_1, ix3_2, get_len, lookD_dI, getD_int, merge_one, set_len, w_for]
  refine wp_foldN (n := 0) (N := may.length) (step := putF (fun p : Int × Int => p.1) (agedF T ((lookP may line).getD T.W) line)) (agedI T (m ++ [.dct (dI may)]) may line ((lookP may line).getD T.W)) ⟨rfl, by simp, none, none, none, none, rfl⟩ (by simp) ?_ ?_
  · rintro n d ⟨x, y⟩ sg m' hn hx ⟨rfl, hdl, x5, x6, x7, x8, rfl⟩
    simp only [w_some, w_var, w_c, w_op, w_un, w_anil, w_acons, w_fn (f := fLen), w_fn (f := fInt), w_fn (f := fAbs), w_fn (f := fMax2), w_fn (f := fMin2), w_fn (f := fBool), w_fn (f := fTuple), w_fn (f := fDictM), w_fn (f := fTupP), w_fn (f := fDictP), w_fn (f := fSrTup), w_fn (f := fLenD), w_tup, w_lst, w_lstM, isB_bl, w_test, w_cand, w_cor, w_cnot, w_if, w_tru, w_and, w_or, w_not, w_chain, w_chain3, isR_ref, isI_ins, isD_dct, isL_lst, w_fld, w_lm, w_dm, w_disp, w_dnil, w_dcons, w_nil, w_retN, w_break, w_cont, nxt_nx, nxt_rt, nxt_bk, nxt_ct, w_seq, w_set, w_drop, w_ret, w_sif, w_asg, w_gN, w_gT, w_gsnil, w_gscons, w_gdput, w_dput, isN_int, w_lput, w_par, w_aug, w_flds, w_flda, gives_rt, gives_nx, w_fnb, w_range1, w_range2, isS_lst, isS_rol, isS_tup, w_iseq, w_dnew, w_dc, w_mul, w_div, w_mod, w_tupP, w_dget2, w_srit, e_tupP, e_tupleL, e_tupleT, e_addPI, e_isN_non, e_isN_ptp, e_notN_non, e_notN_ptp, w_par3, w_ixptp, e_lenptp, isS_ptp, e_min2', w_for, w_iseq, e_add, e_addI, e_sub, e_cmp, e_eqI, e_neI, e_eqS, e_neS, e_eqB, e_neB, e_abs, e_int, e_max2, e_truB, e_truI, w_dget, w_ixref, w_ixlst, w_ixrol, w_ixtup, w_dref, isK_dct, isK_dctL, reduceCtorEq, false_implies, true_implies, Bool.false_eq_true, Bool.true_eq_false, e_lenlst, e_lenrol, e_lentup, w_lenref, w_ite, getS, setS, keyD, List.map_cons, List.map_nil, List.cons_append, List.nil_append, List.length_cons, List.length_nil, List.replicate, Nat.reduceSub, Nat.reduceAdd, Nat.reduceLeDiff, Nat.reduceLT, List.set_cons_zero, List.set_cons_succ, decide_eq_true_eq, decide_eq_false_iff_not, Bool.not_eq_true', Bool.not_eq_false', true_and, and_true, forall_const, prD, ix3_0, ix3_1, ix3_2, get_len, getS, pol_lru, hS]
    repeat' (first | intro _ | apply And.intro)
    all_goals first
      | contradiction
      | exact leaf_len hdl (by omega)
      | exact agedI_no hdl (by simp [agedF, *])
      | exact agedI_put hdl (by simp [agedF, *])
  · rintro sg _ ⟨rfl, hdl, x5, x6, x7, x8, rfl⟩
    rw [fold_put hn (by
      rintro ⟨l, b⟩ _ h e
      have e' : l = line := by simpa using e
      exact h (by simp [agedF, e']))]
    simp only [w_some, w_var, w_c, w_op, w_un, w_anil, w_acons, w_fn (f := fLen), w_fn (f := fInt), w_fn (f := fAbs), w_fn (f := fMax2), w_fn (f := fMin2), w_fn (f := fBool), w_fn (f := fTuple), w_fn (f := fDictM), w_fn (f := fTupP), w_fn (f := fDictP), w_fn (f := fSrTup), w_fn (f := fLenD), w_tup, w_lst, w_lstM, isB_bl, w_test, w_cand, w_cor, w_cnot, w_if, w_tru, w_and, w_or, w_not, w_chain, w_chain3, isR_ref, isI_ins, isD_dct, isL_lst, w_fld, w_lm, w_dm, w_disp, w_dnil, w_dcons, w_nil, w_retN, w_break, w_cont, nxt_nx, nxt_rt, nxt_bk, nxt_ct, w_seq, w_set, w_drop, w_ret, w_sif, w_asg, w_gN, w_gT, w_gsnil, w_gscons, w_gdput, w_dput, isN_int, w_lput, w_par, w_aug, w_flds, w_flda, gives_rt, gives_nx, w_fnb, w_range1, w_range2, isS_lst, isS_rol, isS_tup, w_iseq, w_dnew, w_dc, w_mul, w_div, w_mod, w_tupP, w_dget2, w_srit, e_tupP, e_tupleL, e_tupleT, e_addPI, e_isN_non, e_isN_ptp, e_notN_non, e_notN_ptp, w_par3, w_ixptp, e_lenptp, isS_ptp, e_min2', w_for, w_iseq, e_add, e_addI, e_sub, e_cmp, e_eqI, e_neI, e_eqS, e_neS, e_eqB, e_neB, e_abs, e_int, e_max2, e_truB, e_truI, w_dget, w_ixref, w_ixlst, w_ixrol, w_ixtup, w_dref, isK_dct, isK_dctL, reduceCtorEq, false_implies, true_implies, Bool.false_eq_true, Bool.true_eq_false, e_lenlst, e_lenrol, e_lentup, w_lenref, w_ite, getS, setS, keyD, List.map_cons, List.map_nil, List.cons_append, List.nil_append, List.length_cons, List.length_nil, List.replicate, Nat.reduceSub, Nat.reduceAdd, Nat.reduceLeDiff, Nat.reduceLT, List.set_cons_zero, List.set_cons_succ, decide_eq_true_eq, decide_eq_false_iff_not, Bool.not_eq_true', Bool.not_eq_false', true_and, and_true, forall_const, get_len, kvPs_dI]
    exact ⟨_, Prod.ext (by simp [agedP]) (List.append_assoc _ _ _)⟩
theorem aged_wp {Q : D × M → Prop} (hn : NK may) (hl : may.length ≤ 1000) (hS : 0 < T.S) (q : ∀ G, Q (.ptp ((agedP T may line).map prD), m ++ G)) : wp (f_aged [toldD T, .ptp (may.map prD), .int line] m) Q := let ⟨G, e⟩ := aged_eq hn hl hS; .eq e (q G)
structure usedI (T : Told) (mb : M) (must : Ps) (yD : D) (line bf : Int) (n : Nat) (d : Ps) (sg : Sg) (m' : M) : Prop where
  eq : m' = mb ++ [.dct (dI d)]
  len : d.length ≤ 1 + n
  sl : ∃ x1 x8 x9 x10, sg = [some (.tup [.int T.S, .int T.W, .str (polS T.lru)]), x1, some (.int line), some (.ptp (must.map prD)), some yD, some (.int (sureP T)), some (.int bf), some (.ref mb.length), x8, x9, x10]
theorem usedI_put {mb : M} {yD : D} {bf : Int} {n : Nat} {d : Ps} {x y v : Int} {x1 x8 x9 x10 : Option D} (hdl : d.length ≤ 1 + n) (h : usedF T bf line (x, y) = some v) :
    usedI T mb must yD line bf (n + 1) (putF (fun p : Int × Int => p.1) (usedF T bf line) d (x, y)) [some (.tup [.int T.S, .int T.W, .str (polS T.lru)]), x1, some (.int line), some (.ptp (must.map prD)), some yD, some (.int (sureP T)), some (.int bf), some (.ref mb.length), x8, x9, x10]
      (List.set (mb ++ [.dct (dI d)]) mb.length (.dct (putD (dI d) (Sum.inl x) (.int v)))) := by
  rw [putF_some h]
  refine ⟨by rw [set_len, putD_dI], ?_, _, _, _, _, rfl⟩
  have := len_putP (d := d) (k := x) (v := v)
  try simp only
  omega
theorem usedI_no {mb : M} {yD : D} {bf : Int} {n : Nat} {d : Ps} {x y : Int} {x1 x8 x9 x10 : Option D} (hdl : d.length ≤ 1 + n) (h : usedF T bf line (x, y) = none) :
    usedI T mb must yD line bf (n + 1) (putF (fun p : Int × Int => p.1) (usedF T bf line) d (x, y)) [some (.tup [.int T.S, .int T.W, .str (polS T.lru)]), x1, some (.int line), some (.ptp (must.map prD)), some yD, some (.int (sureP T)), some (.int bf), some (.ref mb.length), x8, x9, x10]
      (mb ++ [.dct (dI d)]) := by
  rw [putF_none h]
  exact ⟨rfl, Nat.le_trans hdl (by omega), _, _, _, _, rfl⟩
theorem sure_eq : f_ways_sure [toldD T] m = some (.int (sureP T), m) := by
  refine wp_of ?_
  unfold f_ways_sure b_ways_sure toldD
  simp only [w_some, w_var, w_c, w_op, w_un, w_anil, w_acons, w_fn (f := fLen), w_fn (f := fInt), w_fn (f := fAbs), w_fn (f := fMax2), w_fn (f := fMin2), w_fn (f := fBool), w_fn (f := fTuple), w_fn (f := fDictM), w_fn (f := fTupP), w_fn (f := fDictP), w_fn (f := fSrTup), w_fn (f := fLenD), w_tup, w_lst, w_lstM, isB_bl, w_test, w_cand, w_cor, w_cnot, w_if, w_tru, w_and, w_or, w_not, w_chain, w_chain3, isR_ref, isI_ins, isD_dct, isL_lst, w_fld, w_lm, w_dm, w_disp, w_dnil, w_dcons, w_nil, w_retN, w_break, w_cont, nxt_nx, nxt_rt, nxt_bk, nxt_ct, w_seq, w_set, w_drop, w_ret, w_sif, w_asg, w_gN, w_gT, w_gsnil, w_gscons, w_gdput, w_dput, isN_int, w_lput, w_par, w_aug, w_flds, w_flda, gives_rt, gives_nx, w_fnb, w_range1, w_range2, isS_lst, isS_rol, isS_tup, w_iseq, w_dnew, w_dc, w_mul, w_div, w_mod, w_tupP, w_dget2, w_srit, e_tupP, e_tupleL, e_tupleT, e_addPI, e_isN_non, e_isN_ptp, e_notN_non, e_notN_ptp, w_par3, w_ixptp, e_lenptp, isS_ptp, e_min2', w_for, w_iseq, e_add, e_addI, e_sub, e_cmp, e_eqI, e_neI, e_eqS, e_neS, e_eqB, e_neB, e_abs, e_int, e_max2, e_truB, e_truI, w_dget, w_ixref, w_ixlst, w_ixrol, w_ixtup, w_dref, isK_dct, isK_dctL, reduceCtorEq, false_implies, true_implies, Bool.false_eq_true, Bool.true_eq_false, e_lenlst, e_lenrol, e_lentup, w_lenref, w_ite, getS, setS, keyD, List.map_cons, List.map_nil, List.cons_append, List.nil_append, List.length_cons, List.length_nil, List.replicate, Nat.reduceSub, Nat.reduceAdd, Nat.reduceLeDiff, Nat.reduceLT, List.set_cons_zero, List.set_cons_succ, decide_eq_true_eq, decide_eq_false_iff_not, Bool.not_eq_true', Bool.not_eq_false', true_and, and_true, forall_const, ix3_0, ix3_1, ix3_2, pol_lru]
  cases h : T.lru <;> simp [sureP, h]
theorem used_eq (hn : NK k.1) (hl : k.1.length ≤ 1000) (hy : ∀ may, k.2 = some may → NK may ∧ may.length ≤ 1000) (hS : 0 < T.S) : ∃ G, f_used [toldD T, knD k, .int line] m = some (knD (usedP T k line), m ++ G) := by
  suffices hh : wp (f_used [toldD T, knD k, .int line] m) fun p => ∃ G, p = (knD (usedP T k line), m ++ G) by
    obtain ⟨p, e, G, q⟩ := hh
    exact ⟨G, q ▸ e⟩
  unfold f_used b_used knD
  simp only [w_some, w_var, w_c, w_op, w_un, w_anil, w_acons, w_fn (f := fLen), w_fn (f := fInt), w_fn (f := fAbs), w_fn (f := fMax2), w_fn (f := fMin2), w_fn (f := fBool), w_fn (f := fTuple), w_fn (f := fDictM), w_fn (f := fTupP), w_fn (f := fDictP), w_fn (f := fSrTup), w_fn (f := fLenD), w_tup, w_lst, w_lstM, isB_bl, w_test, w_cand, w_cor, w_cnot, w_if, w_tru, w_and, w_or, w_not, w_chain, w_chain3, isR_ref, isI_ins, isD_dct, isL_lst, w_fld, w_lm, w_dm, w_disp, w_dnil, w_dcons, w_nil, w_retN, w_break, w_cont, nxt_nx, nxt_rt, nxt_bk, nxt_ct, w_seq, w_set, w_drop, w_ret, w_sif, w_asg, w_gN, w_gT, w_gsnil, w_gscons, w_gdput, w_dput, isN_int, w_lput, w_par, w_aug, w_flds, w_flda, gives_rt, gives_nx, w_fnb, w_range1, w_range2, isS_lst, isS_rol, isS_tup, w_iseq, w_dnew, w_dc, w_mul, w_div, w_mod, w_tupP, w_dget2, w_srit, e_tupP, e_tupleL, e_tupleT, e_addPI, e_isN_non, e_isN_ptp, e_notN_non, e_notN_ptp, w_par3, w_ixptp, e_lenptp, isS_ptp, e_min2', w_for, w_iseq, e_add, e_addI, e_sub, e_cmp, e_eqI, e_neI, e_eqS, e_neS, e_eqB, e_neB, e_abs, e_int, e_max2, e_truB, e_truI, w_dget, w_ixref, w_ixlst, w_ixrol, w_ixtup, w_dref, isK_dct, isK_dctL, reduceCtorEq, false_implies, true_implies, Bool.false_eq_true, Bool.true_eq_false, e_lenlst, e_lenrol, e_lentup, w_lenref, w_ite, getS, setS, keyD, List.map_cons, List.map_nil, List.cons_append, List.nil_append, List.length_cons, List.length_nil, List.replicate, Nat.reduceSub, Nat.reduceAdd, Nat.reduceLeDiff, Nat.reduceLT, List.set_cons_zero, List.set_cons_succ, decide_eq_true_eq, decide_eq_false_iff_not, Bool.not_eq_true', Bool.not_eq_false', true_and, and_true, forall_const, w_fn (f := f_ways_sure), sure_eq]
  unfold toldD
  simp only [w_some, w_var, w_c, w_op, w_un, w_anil, w_acons, w_fn (f := fLen), w_fn (f := fInt), w_fn (f := fAbs), w_fn (f := fMax2), w_fn (f := fMin2), w_fn (f := fBool), w_fn (f := fTuple), w_fn (f := fDictM), w_fn (f := fTupP), w_fn (f := fDictP), w_fn (f := fSrTup), w_fn (f := fLenD), w_tup, w_lst, w_lstM, isB_bl, w_test, w_cand, w_cor, w_cnot, w_if, w_tru, w_and, w_or, w_not, w_chain, w_chain3, isR_ref, isI_ins, isD_dct, isL_lst, w_fld, w_lm, w_dm, w_disp, w_dnil, w_dcons, w_nil, w_retN, w_break, w_cont, nxt_nx, nxt_rt, nxt_bk, nxt_ct, w_seq, w_set, w_drop, w_ret, w_sif, w_asg, w_gN, w_gT, w_gsnil, w_gscons, w_gdput, w_dput, isN_int, w_lput, w_par, w_aug, w_flds, w_flda, gives_rt, gives_nx, w_fnb, w_range1, w_range2, isS_lst, isS_rol, isS_tup, w_iseq, w_dnew, w_dc, w_mul, w_div, w_mod, w_tupP, w_dget2, w_srit, e_tupP, e_tupleL, e_tupleT, e_addPI, e_isN_non, e_isN_ptp, e_notN_non, e_notN_ptp, w_par3, w_ixptp, e_lenptp, isS_ptp, e_min2', w_for, w_iseq, e_add, e_addI, e_sub, e_cmp, e_eqI, e_neI, e_eqS, e_neS, e_eqB, e_neB, e_abs, e_int, e_max2, e_truB, e_truI, w_dget, w_ixref, w_ixlst, w_ixrol, w_ixtup, w_dref, isK_dct, isK_dctL, reduceCtorEq, false_implies, true_implies, Bool.false_eq_true, Bool.true_eq_false, e_lenlst, e_lenrol, e_lentup, w_lenref, w_ite, getS, setS, keyD, List.map_cons, List.map_nil, List.cons_append, List.nil_append, List.length_cons, List.length_nil, List.replicate, Nat.reduceSub, Nat.reduceAdd, Nat.reduceLeDiff, Nat.reduceLT, List.set_cons_zero, List.set_cons_succ, decide_eq_true_eq, decide_eq_false_iff_not, Bool.not_eq_true', Bool.not_eq_false', true_and, and_true, forall_const, e_dictP hn, ix3_0, ix3_1, ix3_2, get_len, lookD_dI, getD_int, merge_one, set_len, w_for]
  refine wp_foldN (n := 0) (N := k.1.length) (step := putF (fun p : Int × Int => p.1) (usedF T ((lookP k.1 line).getD (sureP T)) line)) (usedI T (m ++ [.dct (dI k.1)]) k.1 (mayD k.2) line ((lookP k.1 line).getD (sureP T))) ⟨rfl, by simp, _, none, none, none, rfl⟩ (by simp) ?_ ?_
  · rintro n d ⟨x, y⟩ sg m' hn hx ⟨rfl, hdl, x1, x8, x9, x10, rfl⟩
    simp only [w_some, w_var, w_c, w_op, w_un, w_anil, w_acons, w_fn (f := fLen), w_fn (f := fInt), w_fn (f := fAbs), w_fn (f := fMax2), w_fn (f := fMin2), w_fn (f := fBool), w_fn (f := fTuple), w_fn (f := fDictM), w_fn (f := fTupP), w_fn (f := fDictP), w_fn (f := fSrTup), w_fn (f := fLenD), w_tup, w_lst, w_lstM, isB_bl, w_test, w_cand, w_cor, w_cnot, w_if, w_tru, w_and, w_or, w_not, w_chain, w_chain3, isR_ref, isI_ins, isD_dct, isL_lst, w_fld, w_lm, w_dm, w_disp, w_dnil, w_dcons, w_nil, w_retN, w_break, w_cont, nxt_nx, nxt_rt, nxt_bk, nxt_ct, w_seq, w_set, w_drop, w_ret, w_sif, w_asg, w_gN, w_gT, w_gsnil, w_gscons, w_gdput, w_dput, isN_int, w_lput, w_par, w_aug, w_flds, w_flda, gives_rt, gives_nx, w_fnb, w_range1, w_range2, isS_lst, isS_rol, isS_tup, w_iseq, w_dnew, w_dc, w_mul, w_div, w_mod, w_tupP, w_dget2, w_srit, e_tupP, e_tupleL, e_tupleT, e_addPI, e_isN_non, e_isN_ptp, e_notN_non, e_notN_ptp, w_par3, w_ixptp, e_lenptp, isS_ptp, e_min2', w_for, w_iseq, e_add, e_addI, e_sub, e_cmp, e_eqI, e_neI, e_eqS, e_neS, e_eqB, e_neB, e_abs, e_int, e_max2, e_truB, e_truI, w_dget, w_ixref, w_ixlst, w_ixrol, w_ixtup, w_dref, isK_dct, isK_dctL, reduceCtorEq, false_implies, true_implies, Bool.false_eq_true, Bool.true_eq_false, e_lenlst, e_lenrol, e_lentup, w_lenref, w_ite, getS, setS, keyD, List.map_cons, List.map_nil, List.cons_append, List.nil_append, List.length_cons, List.length_nil, List.replicate, Nat.reduceSub, Nat.reduceAdd, Nat.reduceLeDiff, Nat.reduceLT, List.set_cons_zero, List.set_cons_succ, decide_eq_true_eq, decide_eq_false_iff_not, Bool.not_eq_true', Bool.not_eq_false', true_and, and_true, forall_const, prD, ix3_0, ix3_1, ix3_2, get_len, getS, pol_lru, hS]
    repeat' (first | intro _ | apply And.intro)
    all_goals first
      | contradiction
      | exact leaf_len hdl (by omega)
      | exact usedI_no hdl (by simp [usedF, *])
      | exact usedI_put hdl (by simp [usedF, *])
  · rintro sg _ ⟨rfl, hdl, x1, x8, x9, x10, rfl⟩
    rw [fold_put hn (by
      rintro ⟨l, b⟩ _ h e
      have e' : l = line := by simpa using e
      exact h (by simp [usedF, e']))]
    cases hk : k.2 with
    | none =>
      simp only [w_some, w_var, w_c, w_op, w_un, w_anil, w_acons, w_fn (f := fLen), w_fn (f := fInt), w_fn (f := fAbs), w_fn (f := fMax2), w_fn (f := fMin2), w_fn (f := fBool), w_fn (f := fTuple), w_fn (f := fDictM), w_fn (f := fTupP), w_fn (f := fDictP), w_fn (f := fSrTup), w_fn (f := fLenD), w_tup, w_lst, w_lstM, isB_bl, w_test, w_cand, w_cor, w_cnot, w_if, w_tru, w_and, w_or, w_not, w_chain, w_chain3, isR_ref, isI_ins, isD_dct, isL_lst, w_fld, w_lm, w_dm, w_disp, w_dnil, w_dcons, w_nil, w_retN, w_break, w_cont, nxt_nx, nxt_rt, nxt_bk, nxt_ct, w_seq, w_set, w_drop, w_ret, w_sif, w_asg, w_gN, w_gT, w_gsnil, w_gscons, w_gdput, w_dput, isN_int, w_lput, w_par, w_aug, w_flds, w_flda, gives_rt, gives_nx, w_fnb, w_range1, w_range2, isS_lst, isS_rol, isS_tup, w_iseq, w_dnew, w_dc, w_mul, w_div, w_mod, w_tupP, w_dget2, w_srit, e_tupP, e_tupleL, e_tupleT, e_addPI, e_isN_non, e_isN_ptp, e_notN_non, e_notN_ptp, w_par3, w_ixptp, e_lenptp, isS_ptp, e_min2', w_for, w_iseq, e_add, e_addI, e_sub, e_cmp, e_eqI, e_neI, e_eqS, e_neS, e_eqB, e_neB, e_abs, e_int, e_max2, e_truB, e_truI, w_dget, w_ixref, w_ixlst, w_ixrol, w_ixtup, w_dref, isK_dct, isK_dctL, reduceCtorEq, false_implies, true_implies, Bool.false_eq_true, Bool.true_eq_false, e_lenlst, e_lenrol, e_lentup, w_lenref, w_ite, getS, setS, keyD, List.map_cons, List.map_nil, List.cons_append, List.nil_append, List.length_cons, List.length_nil, List.replicate, Nat.reduceSub, Nat.reduceAdd, Nat.reduceLeDiff, Nat.reduceLT, List.set_cons_zero, List.set_cons_succ, decide_eq_true_eq, decide_eq_false_iff_not, Bool.not_eq_true', Bool.not_eq_false', true_and, and_true, forall_const, get_len, kvPs_dI, mayD]
      exact ⟨_, Prod.ext (by simp [usedP, usedM, hk, mayD]) (List.append_assoc _ _ _)⟩
    | some may =>
      obtain ⟨hn2, hl2⟩ := hy may hk
      simp only [w_some, w_var, w_c, w_op, w_un, w_anil, w_acons, w_fn (f := fLen), w_fn (f := fInt), w_fn (f := fAbs), w_fn (f := fMax2), w_fn (f := fMin2), w_fn (f := fBool), w_fn (f := fTuple), w_fn (f := fDictM), w_fn (f := fTupP), w_fn (f := fDictP), w_fn (f := fSrTup), w_fn (f := fLenD), w_tup, w_lst, w_lstM, isB_bl, w_test, w_cand, w_cor, w_cnot, w_if, w_tru, w_and, w_or, w_not, w_chain, w_chain3, isR_ref, isI_ins, isD_dct, isL_lst, w_fld, w_lm, w_dm, w_disp, w_dnil, w_dcons, w_nil, w_retN, w_break, w_cont, nxt_nx, nxt_rt, nxt_bk, nxt_ct, w_seq, w_set, w_drop, w_ret, w_sif, w_asg, w_gN, w_gT, w_gsnil, w_gscons, w_gdput, w_dput, isN_int, w_lput, w_par, w_aug, w_flds, w_flda, gives_rt, gives_nx, w_fnb, w_range1, w_range2, isS_lst, isS_rol, isS_tup, w_iseq, w_dnew, w_dc, w_mul, w_div, w_mod, w_tupP, w_dget2, w_srit, e_tupP, e_tupleL, e_tupleT, e_addPI, e_isN_non, e_isN_ptp, e_notN_non, e_notN_ptp, w_par3, w_ixptp, e_lenptp, isS_ptp, e_min2', w_for, w_iseq, e_add, e_addI, e_sub, e_cmp, e_eqI, e_neI, e_eqS, e_neS, e_eqB, e_neB, e_abs, e_int, e_max2, e_truB, e_truI, w_dget, w_ixref, w_ixlst, w_ixrol, w_ixtup, w_dref, isK_dct, isK_dctL, reduceCtorEq, false_implies, true_implies, Bool.false_eq_true, Bool.true_eq_false, e_lenlst, e_lenrol, e_lentup, w_lenref, w_ite, getS, setS, keyD, List.map_cons, List.map_nil, List.cons_append, List.nil_append, List.length_cons, List.length_nil, List.replicate, Nat.reduceSub, Nat.reduceAdd, Nat.reduceLeDiff, Nat.reduceLT, List.set_cons_zero, List.set_cons_succ, decide_eq_true_eq, decide_eq_false_iff_not, Bool.not_eq_true', Bool.not_eq_false', true_and, and_true, forall_const, get_len, kvPs_dI, mayD, w_fn (f := f_aged)]
      refine aged_wp hn2 hl2 hS fun G => ?_
      exact ⟨_, Prod.ext (by simp [usedP, usedM, hk, mayD]) ((List.append_assoc _ _ _).trans (List.append_assoc _ _ _))⟩
theorem used_wp {Q : D × M → Prop} (hn : NK k.1) (hl : k.1.length ≤ 1000) (hy : ∀ may, k.2 = some may → NK may ∧ may.length ≤ 1000) (hS : 0 < T.S) (q : ∀ G, Q (knD (usedP T k line), m ++ G)) : wp (f_used [toldD T, knD k, .int line] m) Q := let ⟨G, e⟩ := used_eq hn hl hy hS; .eq e (q G)
end
end K03

set_option Elab.async false
set_option maxRecDepth 100000
set_option linter.unusedSimpArgs false
set_option linter.unusedVariables false
namespace K03
open PySem L2 Mini

structure KB (k : Kn) : Prop where
  nk : NK k.1
  len : k.1.length ≤ 1000
  y : ∀ may, k.2 = some may → NK may ∧ may.length ≤ 1000
theorem KB.of {k : Kn} (g : Good k) (l : Lim k) : KB k := ⟨g.nk, by have := len10 g.nk l.must; omega, fun may e => ⟨g.nky may e, by have := len10 (g.nky may e) (l.may may e); omega⟩⟩
theorem any_prs {a e : XE} {vs : List Nat} {i j : Nat} {sg : Sg} {m : M} {ps : Ps} {g : Int × Int → Bool} (ha : a sg m = some (.ptp (ps.map prD), m)) (hl : ps.length ≤ 100000)
    (w : ∀ p ∈ ps, e (setS (setS (wipeS sg vs) i (.int p.1)) j (.int p.2)) m = some (.bl (g p), m)) :
    xFn fAny (aCons (xLc vs (iSeq a) (gTn [i, j]) cYes e) aNil) sg m = some (.bl (ps.any g), m) := by
  refine wp_of (w_fn.mpr (w_acons.mpr (w_lc.mpr (w_iseq.mpr ?_))))
  rw [ha, w_some]
  refine ⟨by simpa using hl, wp.eq (loopC_map (f := prD) (p := fun _ => true) (h := fun p => .bl (g p)) fun p hp => ?_) ?_⟩
  · exact .eq (by rfl) ⟨rfl, rfl, fun _ => w p hp⟩
  · rw [w_anil, filter_yes]
    simp only [fAny, listD, seqD, blsD_map, w_some]
    simp
theorem all_prs {a e : XE} {vs : List Nat} {i j : Nat} {sg : Sg} {m : M} {ps : Ps} {g : Int × Int → Bool} (ha : a sg m = some (.ptp (ps.map prD), m)) (hl : ps.length ≤ 100000)
    (w : ∀ p ∈ ps, e (setS (setS (wipeS sg vs) i (.int p.1)) j (.int p.2)) m = some (.bl (g p), m)) :
    xFn fAll (aCons (xLc vs (iSeq a) (gTn [i, j]) cYes e) aNil) sg m = some (.bl (ps.all g), m) := by
  refine wp_of (w_fn.mpr (w_acons.mpr (w_lc.mpr (w_iseq.mpr ?_))))
  rw [ha, w_some]
  refine ⟨by simpa using hl, wp.eq (loopC_map (f := prD) (p := fun _ => true) (h := fun p => .bl (g p)) fun p hp => ?_) ?_⟩
  · exact .eq (by rfl) ⟨rfl, rfl, fun _ => w p hp⟩
  · rw [w_anil, filter_yes]
    simp only [fAll, listD, seqD, blsD_map, w_some]
    simp
section
variable {T : Told} {line : Int} {m : M} {may must : Ps} {k : Kn} {Q : D × M → Prop}
theorem any_wp (q : Q (knD ([], none), m)) : wp (f_anything [] m) Q := by
  unfold f_anything b_anything
  simp only [w_some, w_var, w_c, w_op, w_un, w_anil, w_acons, w_fn (f := fLen), w_fn (f := fInt), w_fn (f := fAbs), w_fn (f := fMax2), w_fn (f := fMin2), w_fn (f := fBool), w_fn (f := fTuple), w_fn (f := fDictM), w_fn (f := fTupP), w_fn (f := fDictP), w_fn (f := fSrTup), w_fn (f := fLenD), w_tup, w_lst, w_lstM, isB_bl, w_test, w_cand, w_cor, w_cnot, w_if, w_tru, w_and, w_or, w_not, w_chain, w_chain3, isR_ref, isI_ins, isD_dct, isL_lst, w_fld, w_lm, w_dm, w_disp, w_dnil, w_dcons, w_nil, w_retN, w_break, w_cont, nxt_nx, nxt_rt, nxt_bk, nxt_ct, w_seq, w_set, w_drop, w_ret, w_sif, w_asg, w_gN, w_gT, w_gsnil, w_gscons, w_gdput, w_dput, isN_int, w_lput, w_par, w_aug, w_flds, w_flda, gives_rt, gives_nx, w_fnb, w_range1, w_range2, isS_lst, isS_rol, isS_tup, w_iseq, w_dnew, w_dc, w_mul, w_div, w_mod, w_tupP, w_dget2, w_srit, e_tupP, e_tupleL, e_tupleT, e_addPI, e_isN_non, e_isN_ptp, e_notN_non, e_notN_ptp, w_par3, w_ixptp, e_lenptp, isS_ptp, e_min2', w_for, w_iseq, e_add, e_addI, e_sub, e_cmp, e_eqI, e_neI, e_eqS, e_neS, e_eqB, e_neB, e_abs, e_int, e_max2, e_truB, e_truI, w_dget, w_ixref, w_ixlst, w_ixrol, w_ixtup, w_dref, isK_dct, isK_dctL, reduceCtorEq, false_implies, true_implies, Bool.false_eq_true, Bool.true_eq_false, e_lenlst, e_lenrol, e_lentup, w_lenref, w_ite, getS, setS, keyD, List.map_cons, List.map_nil, List.cons_append, List.nil_append, List.length_cons, List.length_nil, List.replicate, Nat.reduceSub, Nat.reduceAdd, Nat.reduceLeDiff, Nat.reduceLT, List.set_cons_zero, List.set_cons_succ, decide_eq_true_eq, decide_eq_false_iff_not, Bool.not_eq_true', Bool.not_eq_false', true_and, and_true, forall_const]
  exact q
theorem nothing_wp (q : Q (knD ([], some []), m)) : wp (f_nothing [] m) Q := by
  unfold f_nothing b_nothing
  simp only [w_some, w_var, w_c, w_op, w_un, w_anil, w_acons, w_fn (f := fLen), w_fn (f := fInt), w_fn (f := fAbs), w_fn (f := fMax2), w_fn (f := fMin2), w_fn (f := fBool), w_fn (f := fTuple), w_fn (f := fDictM), w_fn (f := fTupP), w_fn (f := fDictP), w_fn (f := fSrTup), w_fn (f := fLenD), w_tup, w_lst, w_lstM, isB_bl, w_test, w_cand, w_cor, w_cnot, w_if, w_tru, w_and, w_or, w_not, w_chain, w_chain3, isR_ref, isI_ins, isD_dct, isL_lst, w_fld, w_lm, w_dm, w_disp, w_dnil, w_dcons, w_nil, w_retN, w_break, w_cont, nxt_nx, nxt_rt, nxt_bk, nxt_ct, w_seq, w_set, w_drop, w_ret, w_sif, w_asg, w_gN, w_gT, w_gsnil, w_gscons, w_gdput, w_dput, isN_int, w_lput, w_par, w_aug, w_flds, w_flda, gives_rt, gives_nx, w_fnb, w_range1, w_range2, isS_lst, isS_rol, isS_tup, w_iseq, w_dnew, w_dc, w_mul, w_div, w_mod, w_tupP, w_dget2, w_srit, e_tupP, e_tupleL, e_tupleT, e_addPI, e_isN_non, e_isN_ptp, e_notN_non, e_notN_ptp, w_par3, w_ixptp, e_lenptp, isS_ptp, e_min2', w_for, w_iseq, e_add, e_addI, e_sub, e_cmp, e_eqI, e_neI, e_eqS, e_neS, e_eqB, e_neB, e_abs, e_int, e_max2, e_truB, e_truI, w_dget, w_ixref, w_ixlst, w_ixrol, w_ixtup, w_dref, isK_dct, isK_dctL, reduceCtorEq, false_implies, true_implies, Bool.false_eq_true, Bool.true_eq_false, e_lenlst, e_lenrol, e_lentup, w_lenref, w_ite, getS, setS, keyD, List.map_cons, List.map_nil, List.cons_append, List.nil_append, List.length_cons, List.length_nil, List.replicate, Nat.reduceSub, Nat.reduceAdd, Nat.reduceLeDiff, Nat.reduceLT, List.set_cons_zero, List.set_cons_succ, decide_eq_true_eq, decide_eq_false_iff_not, Bool.not_eq_true', Bool.not_eq_false', true_and, and_true, forall_const]
  exact q
theorem filled_wp (h : KB k) (hS : 0 < T.S) (q : ∀ G, Q (knD (usedP T k line), m ++ G)) : wp (f_filled [toldD T, knD k, .int line] m) Q := by
  unfold f_filled b_filled
  simp only [w_some, w_var, w_c, w_op, w_un, w_anil, w_acons, w_fn (f := fLen), w_fn (f := fInt), w_fn (f := fAbs), w_fn (f := fMax2), w_fn (f := fMin2), w_fn (f := fBool), w_fn (f := fTuple), w_fn (f := fDictM), w_fn (f := fTupP), w_fn (f := fDictP), w_fn (f := fSrTup), w_fn (f := fLenD), w_tup, w_lst, w_lstM, isB_bl, w_test, w_cand, w_cor, w_cnot, w_if, w_tru, w_and, w_or, w_not, w_chain, w_chain3, isR_ref, isI_ins, isD_dct, isL_lst, w_fld, w_lm, w_dm, w_disp, w_dnil, w_dcons, w_nil, w_retN, w_break, w_cont, nxt_nx, nxt_rt, nxt_bk, nxt_ct, w_seq, w_set, w_drop, w_ret, w_sif, w_asg, w_gN, w_gT, w_gsnil, w_gscons, w_gdput, w_dput, isN_int, w_lput, w_par, w_aug, w_flds, w_flda, gives_rt, gives_nx, w_fnb, w_range1, w_range2, isS_lst, isS_rol, isS_tup, w_iseq, w_dnew, w_dc, w_mul, w_div, w_mod, w_tupP, w_dget2, w_srit, e_tupP, e_tupleL, e_tupleT, e_addPI, e_isN_non, e_isN_ptp, e_notN_non, e_notN_ptp, w_par3, w_ixptp, e_lenptp, isS_ptp, e_min2', w_for, w_iseq, e_add, e_addI, e_sub, e_cmp, e_eqI, e_neI, e_eqS, e_neS, e_eqB, e_neB, e_abs, e_int, e_max2, e_truB, e_truI, w_dget, w_ixref, w_ixlst, w_ixrol, w_ixtup, w_dref, isK_dct, isK_dctL, reduceCtorEq, false_implies, true_implies, Bool.false_eq_true, Bool.true_eq_false, e_lenlst, e_lenrol, e_lentup, w_lenref, w_ite, getS, setS, keyD, List.map_cons, List.map_nil, List.cons_append, List.nil_append, List.length_cons, List.length_nil, List.replicate, Nat.reduceSub, Nat.reduceAdd, Nat.reduceLeDiff, Nat.reduceLT, List.set_cons_zero, List.set_cons_succ, decide_eq_true_eq, decide_eq_false_iff_not, Bool.not_eq_true', Bool.not_eq_false', true_and, and_true, forall_const, w_fn (f := f_used)]
  exact used_wp h.nk h.len h.y hS fun G => by simp only [w_some, w_var, w_c, w_op, w_un, w_anil, w_acons, w_fn (f := fLen), w_fn (f := fInt), w_fn (f := fAbs), w_fn (f := fMax2), w_fn (f := fMin2), w_fn (f := fBool), w_fn (f := fTuple), w_fn (f := fDictM), w_fn (f := fTupP), w_fn (f := fDictP), w_fn (f := fSrTup), w_fn (f := fLenD), w_tup, w_lst, w_lstM, isB_bl, w_test, w_cand, w_cor, w_cnot, w_if, w_tru, w_and, w_or, w_not, w_chain, w_chain3, isR_ref, isI_ins, isD_dct, isL_lst, w_fld, w_lm, w_dm, w_disp, w_dnil, w_dcons, w_nil, w_retN, w_break, w_cont, nxt_nx, nxt_rt, nxt_bk, nxt_ct, w_seq, w_set, w_drop, w_ret, w_sif, w_asg, w_gN, w_gT, w_gsnil, w_gscons, w_gdput, w_dput, isN_int, w_lput, w_par, w_aug, w_flds, w_flda, gives_rt, gives_nx, w_fnb, w_range1, w_range2, isS_lst, isS_rol, isS_tup, w_iseq, w_dnew, w_dc, w_mul, w_div, w_mod, w_tupP, w_dget2, w_srit, e_tupP, e_tupleL, e_tupleT, e_addPI, e_isN_non, e_isN_ptp, e_notN_non, e_notN_ptp, w_par3, w_ixptp, e_lenptp, isS_ptp, e_min2', w_for, w_iseq, e_add, e_addI, e_sub, e_cmp, e_eqI, e_neI, e_eqS, e_neS, e_eqB, e_neB, e_abs, e_int, e_max2, e_truB, e_truI, w_dget, w_ixref, w_ixlst, w_ixrol, w_ixtup, w_dref, isK_dct, isK_dctL, reduceCtorEq, false_implies, true_implies, Bool.false_eq_true, Bool.true_eq_false, e_lenlst, e_lenrol, e_lentup, w_lenref, w_ite, getS, setS, keyD, List.map_cons, List.map_nil, List.cons_append, List.nil_append, List.length_cons, List.length_nil, List.replicate, Nat.reduceSub, Nat.reduceAdd, Nat.reduceLeDiff, Nat.reduceLT, List.set_cons_zero, List.set_cons_succ, decide_eq_true_eq, decide_eq_false_iff_not, Bool.not_eq_true', Bool.not_eq_false', true_and, and_true, forall_const]; exact q G
theorem touched_wp (h : KB k) (hS : 0 < T.S) (q : ∀ G, Q (knD (touchedP T k line), m ++ G)) : wp (f_touched [toldD T, knD k, .int line] m) Q := by
  have h1 := h.nk
  have h2 := h.len
  have h3 := h.y
  unfold f_touched b_touched
  simp only [w_some, w_var, w_c, w_op, w_un, w_anil, w_acons, w_fn (f := fLen), w_fn (f := fInt), w_fn (f := fAbs), w_fn (f := fMax2), w_fn (f := fMin2), w_fn (f := fBool), w_fn (f := fTuple), w_fn (f := fDictM), w_fn (f := fTupP), w_fn (f := fDictP), w_fn (f := fSrTup), w_fn (f := fLenD), w_tup, w_lst, w_lstM, isB_bl, w_test, w_cand, w_cor, w_cnot, w_if, w_tru, w_and, w_or, w_not, w_chain, w_chain3, isR_ref, isI_ins, isD_dct, isL_lst, w_fld, w_lm, w_dm, w_disp, w_dnil, w_dcons, w_nil, w_retN, w_break, w_cont, nxt_nx, nxt_rt, nxt_bk, nxt_ct, w_seq, w_set, w_drop, w_ret, w_sif, w_asg, w_gN, w_gT, w_gsnil, w_gscons, w_gdput, w_dput, isN_int, w_lput, w_par, w_aug, w_flds, w_flda, gives_rt, gives_nx, w_fnb, w_range1, w_range2, isS_lst, isS_rol, isS_tup, w_iseq, w_dnew, w_dc, w_mul, w_div, w_mod, w_tupP, w_dget2, w_srit, e_tupP, e_tupleL, e_tupleT, e_addPI, e_isN_non, e_isN_ptp, e_notN_non, e_notN_ptp, w_par3, w_ixptp, e_lenptp, isS_ptp, e_min2', w_for, w_iseq, e_add, e_addI, e_sub, e_cmp, e_eqI, e_neI, e_eqS, e_neS, e_eqB, e_neB, e_abs, e_int, e_max2, e_truB, e_truI, w_dget, w_ixref, w_ixlst, w_ixrol, w_ixtup, w_dref, isK_dct, isK_dctL, reduceCtorEq, false_implies, true_implies, Bool.false_eq_true, Bool.true_eq_false, e_lenlst, e_lenrol, e_lentup, w_lenref, w_ite, getS, setS, keyD, List.map_cons, List.map_nil, List.cons_append, List.nil_append, List.length_cons, List.length_nil, List.replicate, Nat.reduceSub, Nat.reduceAdd, Nat.reduceLeDiff, Nat.reduceLT, List.set_cons_zero, List.set_cons_succ, decide_eq_true_eq, decide_eq_false_iff_not, Bool.not_eq_true', Bool.not_eq_false', true_and, and_true, forall_const, w_fn (f := f_used), toldD, ix3_2, pol_lru]
  refine ⟨fun hl => ?_, fun hl => ?_⟩
  · refine used_wp h1 h2 h3 hS fun G => ?_
    simp only [w_some, w_var, w_c, w_op, w_un, w_anil, w_acons, w_fn (f := fLen), w_fn (f := fInt), w_fn (f := fAbs), w_fn (f := fMax2), w_fn (f := fMin2), w_fn (f := fBool), w_fn (f := fTuple), w_fn (f := fDictM), w_fn (f := fTupP), w_fn (f := fDictP), w_fn (f := fSrTup), w_fn (f := fLenD), w_tup, w_lst, w_lstM, isB_bl, w_test, w_cand, w_cor, w_cnot, w_if, w_tru, w_and, w_or, w_not, w_chain, w_chain3, isR_ref, isI_ins, isD_dct, isL_lst, w_fld, w_lm, w_dm, w_disp, w_dnil, w_dcons, w_nil, w_retN, w_break, w_cont, nxt_nx, nxt_rt, nxt_bk, nxt_ct, w_seq, w_set, w_drop, w_ret, w_sif, w_asg, w_gN, w_gT, w_gsnil, w_gscons, w_gdput, w_dput, isN_int, w_lput, w_par, w_aug, w_flds, w_flda, gives_rt, gives_nx, w_fnb, w_range1, w_range2, isS_lst, isS_rol, isS_tup, w_iseq, w_dnew, w_dc, w_mul, w_div, w_mod, w_tupP, w_dget2, w_srit, e_tupP, e_tupleL, e_tupleT, e_addPI, e_isN_non, e_isN_ptp, e_notN_non, e_notN_ptp, w_par3, w_ixptp, e_lenptp, isS_ptp, e_min2', w_for, w_iseq, e_add, e_addI, e_sub, e_cmp, e_eqI, e_neI, e_eqS, e_neS, e_eqB, e_neB, e_abs, e_int, e_max2, e_truB, e_truI, w_dget, w_ixref, w_ixlst, w_ixrol, w_ixtup, w_dref, isK_dct, isK_dctL, reduceCtorEq, false_implies, true_implies, Bool.false_eq_true, Bool.true_eq_false, e_lenlst, e_lenrol, e_lentup, w_lenref, w_ite, getS, setS, keyD, List.map_cons, List.map_nil, List.cons_append, List.nil_append, List.length_cons, List.length_nil, List.replicate, Nat.reduceSub, Nat.reduceAdd, Nat.reduceLeDiff, Nat.reduceLT, List.set_cons_zero, List.set_cons_succ, decide_eq_true_eq, decide_eq_false_iff_not, Bool.not_eq_true', Bool.not_eq_false', true_and, and_true, forall_const]
    have := q G
    unfold touchedP at this
    rw [if_pos hl] at this
    exact this
  · unfold knD
    simp only [w_some, w_var, w_c, w_op, w_un, w_anil, w_acons, w_fn (f := fLen), w_fn (f := fInt), w_fn (f := fAbs), w_fn (f := fMax2), w_fn (f := fMin2), w_fn (f := fBool), w_fn (f := fTuple), w_fn (f := fDictM), w_fn (f := fTupP), w_fn (f := fDictP), w_fn (f := fSrTup), w_fn (f := fLenD), w_tup, w_lst, w_lstM, isB_bl, w_test, w_cand, w_cor, w_cnot, w_if, w_tru, w_and, w_or, w_not, w_chain, w_chain3, isR_ref, isI_ins, isD_dct, isL_lst, w_fld, w_lm, w_dm, w_disp, w_dnil, w_dcons, w_nil, w_retN, w_break, w_cont, nxt_nx, nxt_rt, nxt_bk, nxt_ct, w_seq, w_set, w_drop, w_ret, w_sif, w_asg, w_gN, w_gT, w_gsnil, w_gscons, w_gdput, w_dput, isN_int, w_lput, w_par, w_aug, w_flds, w_flda, gives_rt, gives_nx, w_fnb, w_range1, w_range2, isS_lst, isS_rol, isS_tup, w_iseq, w_dnew, w_dc, w_mul, w_div, w_mod, w_tupP, w_dget2, w_srit, e_tupP, e_tupleL, e_tupleT, e_addPI, e_isN_non, e_isN_ptp, e_notN_non, e_notN_ptp, w_par3, w_ixptp, e_lenptp, isS_ptp, e_min2', w_for, w_iseq, e_add, e_addI, e_sub, e_cmp, e_eqI, e_neI, e_eqS, e_neS, e_eqB, e_neB, e_abs, e_int, e_max2, e_truB, e_truI, w_dget, w_ixref, w_ixlst, w_ixrol, w_ixtup, w_dref, isK_dct, isK_dctL, reduceCtorEq, false_implies, true_implies, Bool.false_eq_true, Bool.true_eq_false, e_lenlst, e_lenrol, e_lentup, w_lenref, w_ite, getS, setS, keyD, List.map_cons, List.map_nil, List.cons_append, List.nil_append, List.length_cons, List.length_nil, List.replicate, Nat.reduceSub, Nat.reduceAdd, Nat.reduceLeDiff, Nat.reduceLT, List.set_cons_zero, List.set_cons_succ, decide_eq_true_eq, decide_eq_false_iff_not, Bool.not_eq_true', Bool.not_eq_false', true_and, and_true, forall_const]
    refine wp.eq (any_prs (ps := k.1) (g := fun p => decide (p.1 = line)) ?_ (by omega) fun p hp => wp_of ?_) ?_
    · refine wp_of ?_
      simp only [w_some, w_var, w_c, w_op, w_un, w_anil, w_acons, w_fn (f := fLen), w_fn (f := fInt), w_fn (f := fAbs), w_fn (f := fMax2), w_fn (f := fMin2), w_fn (f := fBool), w_fn (f := fTuple), w_fn (f := fDictM), w_fn (f := fTupP), w_fn (f := fDictP), w_fn (f := fSrTup), w_fn (f := fLenD), w_tup, w_lst, w_lstM, isB_bl, w_test, w_cand, w_cor, w_cnot, w_if, w_tru, w_and, w_or, w_not, w_chain, w_chain3, isR_ref, isI_ins, isD_dct, isL_lst, w_fld, w_lm, w_dm, w_disp, w_dnil, w_dcons, w_nil, w_retN, w_break, w_cont, nxt_nx, nxt_rt, nxt_bk, nxt_ct, w_seq, w_set, w_drop, w_ret, w_sif, w_asg, w_gN, w_gT, w_gsnil, w_gscons, w_gdput, w_dput, isN_int, w_lput, w_par, w_aug, w_flds, w_flda, gives_rt, gives_nx, w_fnb, w_range1, w_range2, isS_lst, isS_rol, isS_tup, w_iseq, w_dnew, w_dc, w_mul, w_div, w_mod, w_tupP, w_dget2, w_srit, e_tupP, e_tupleL, e_tupleT, e_addPI, e_isN_non, e_isN_ptp, e_notN_non, e_notN_ptp, w_par3, w_ixptp, e_lenptp, isS_ptp, e_min2', w_for, w_iseq, e_add, e_addI, e_sub, e_cmp, e_eqI, e_neI, e_eqS, e_neS, e_eqB, e_neB, e_abs, e_int, e_max2, e_truB, e_truI, w_dget, w_ixref, w_ixlst, w_ixrol, w_ixtup, w_dref, isK_dct, isK_dctL, reduceCtorEq, false_implies, true_implies, Bool.false_eq_true, Bool.true_eq_false, e_lenlst, e_lenrol, e_lentup, w_lenref, w_ite, getS, setS, keyD, List.map_cons, List.map_nil, List.cons_append, List.nil_append, List.length_cons, List.length_nil, List.replicate, Nat.reduceSub, Nat.reduceAdd, Nat.reduceLeDiff, Nat.reduceLT, List.set_cons_zero, List.set_cons_succ, decide_eq_true_eq, decide_eq_false_iff_not, Bool.not_eq_true', Bool.not_eq_false', true_and, and_true, forall_const]
    · simp only [w_some, w_var, w_c, w_op, w_un, w_anil, w_acons, w_fn (f := fLen), w_fn (f := fInt), w_fn (f := fAbs), w_fn (f := fMax2), w_fn (f := fMin2), w_fn (f := fBool), w_fn (f := fTuple), w_fn (f := fDictM), w_fn (f := fTupP), w_fn (f := fDictP), w_fn (f := fSrTup), w_fn (f := fLenD), w_tup, w_lst, w_lstM, isB_bl, w_test, w_cand, w_cor, w_cnot, w_if, w_tru, w_and, w_or, w_not, w_chain, w_chain3, isR_ref, isI_ins, isD_dct, isL_lst, w_fld, w_lm, w_dm, w_disp, w_dnil, w_dcons, w_nil, w_retN, w_break, w_cont, nxt_nx, nxt_rt, nxt_bk, nxt_ct, w_seq, w_set, w_drop, w_ret, w_sif, w_asg, w_gN, w_gT, w_gsnil, w_gscons, w_gdput, w_dput, isN_int, w_lput, w_par, w_aug, w_flds, w_flda, gives_rt, gives_nx, w_fnb, w_range1, w_range2, isS_lst, isS_rol, isS_tup, w_iseq, w_dnew, w_dc, w_mul, w_div, w_mod, w_tupP, w_dget2, w_srit, e_tupP, e_tupleL, e_tupleT, e_addPI, e_isN_non, e_isN_ptp, e_notN_non, e_notN_ptp, w_par3, w_ixptp, e_lenptp, isS_ptp, e_min2', w_for, w_iseq, e_add, e_addI, e_sub, e_cmp, e_eqI, e_neI, e_eqS, e_neS, e_eqB, e_neB, e_abs, e_int, e_max2, e_truB, e_truI, w_dget, w_ixref, w_ixlst, w_ixrol, w_ixtup, w_dref, isK_dct, isK_dctL, reduceCtorEq, false_implies, true_implies, Bool.false_eq_true, Bool.true_eq_false, e_lenlst, e_lenrol, e_lentup, w_lenref, w_ite, getS, setS, keyD, List.map_cons, List.map_nil, List.cons_append, List.nil_append, List.length_cons, List.length_nil, List.replicate, Nat.reduceSub, Nat.reduceAdd, Nat.reduceLeDiff, Nat.reduceLT, List.set_cons_zero, List.set_cons_succ, decide_eq_true_eq, decide_eq_false_iff_not, Bool.not_eq_true', Bool.not_eq_false', true_and, and_true, forall_const, wipeS]
    · simp only [w_some, w_var, w_c, w_op, w_un, w_anil, w_acons, w_fn (f := fLen), w_fn (f := fInt), w_fn (f := fAbs), w_fn (f := fMax2), w_fn (f := fMin2), w_fn (f := fBool), w_fn (f := fTuple), w_fn (f := fDictM), w_fn (f := fTupP), w_fn (f := fDictP), w_fn (f := fSrTup), w_fn (f := fLenD), w_tup, w_lst, w_lstM, isB_bl, w_test, w_cand, w_cor, w_cnot, w_if, w_tru, w_and, w_or, w_not, w_chain, w_chain3, isR_ref, isI_ins, isD_dct, isL_lst, w_fld, w_lm, w_dm, w_disp, w_dnil, w_dcons, w_nil, w_retN, w_break, w_cont, nxt_nx, nxt_rt, nxt_bk, nxt_ct, w_seq, w_set, w_drop, w_ret, w_sif, w_asg, w_gN, w_gT, w_gsnil, w_gscons, w_gdput, w_dput, isN_int, w_lput, w_par, w_aug, w_flds, w_flda, gives_rt, gives_nx, w_fnb, w_range1, w_range2, isS_lst, isS_rol, isS_tup, w_iseq, w_dnew, w_dc, w_mul, w_div, w_mod, w_tupP, w_dget2, w_srit, e_tupP, e_tupleL, e_tupleT, e_addPI, e_isN_non, e_isN_ptp, e_notN_non, e_notN_ptp, w_par3, w_ixptp, e_lenptp, isS_ptp, e_min2', w_for, w_iseq, e_add, e_addI, e_sub, e_cmp, e_eqI, e_neI, e_eqS, e_neS, e_eqB, e_neB, e_abs, e_int, e_max2, e_truB, e_truI, w_dget, w_ixref, w_ixlst, w_ixrol, w_ixtup, w_dref, isK_dct, isK_dctL, reduceCtorEq, false_implies, true_implies, Bool.false_eq_true, Bool.true_eq_false, e_lenlst, e_lenrol, e_lentup, w_lenref, w_ite, getS, setS, keyD, List.map_cons, List.map_nil, List.cons_append, List.nil_append, List.length_cons, List.length_nil, List.replicate, Nat.reduceSub, Nat.reduceAdd, Nat.reduceLeDiff, Nat.reduceLT, List.set_cons_zero, List.set_cons_succ, decide_eq_true_eq, decide_eq_false_iff_not, Bool.not_eq_true', Bool.not_eq_false', true_and, and_true, forall_const]
      refine ⟨fun hk => ?_, fun hk => ?_⟩
      · have := q []
        unfold touchedP at this
        rw [if_neg hl, if_pos (show hasK k.1 line = true from hk), List.append_nil] at this
        exact this
      · have hk' : ¬ hasK k.1 line = true := by unfold hasK; rw [hk]; simp
        rw [e_addPT (by simp; omega), w_some]
        have e : k.1.map prD ++ [.tup [.int line, .int 0]] = (k.1 ++ [(line, 0)]).map prD := by simp [prD]
        rw [e, e_srTup, w_some]
        simp only [w_some, w_var, w_c, w_op, w_un, w_anil, w_acons, w_fn (f := fLen), w_fn (f := fInt), w_fn (f := fAbs), w_fn (f := fMax2), w_fn (f := fMin2), w_fn (f := fBool), w_fn (f := fTuple), w_fn (f := fDictM), w_fn (f := fTupP), w_fn (f := fDictP), w_fn (f := fSrTup), w_fn (f := fLenD), w_tup, w_lst, w_lstM, isB_bl, w_test, w_cand, w_cor, w_cnot, w_if, w_tru, w_and, w_or, w_not, w_chain, w_chain3, isR_ref, isI_ins, isD_dct, isL_lst, w_fld, w_lm, w_dm, w_disp, w_dnil, w_dcons, w_nil, w_retN, w_break, w_cont, nxt_nx, nxt_rt, nxt_bk, nxt_ct, w_seq, w_set, w_drop, w_ret, w_sif, w_asg, w_gN, w_gT, w_gsnil, w_gscons, w_gdput, w_dput, isN_int, w_lput, w_par, w_aug, w_flds, w_flda, gives_rt, gives_nx, w_fnb, w_range1, w_range2, isS_lst, isS_rol, isS_tup, w_iseq, w_dnew, w_dc, w_mul, w_div, w_mod, w_tupP, w_dget2, w_srit, e_tupP, e_tupleL, e_tupleT, e_addPI, e_isN_non, e_isN_ptp, e_notN_non, e_notN_ptp, w_par3, w_ixptp, e_lenptp, isS_ptp, e_min2', w_for, w_iseq, e_add, e_addI, e_sub, e_cmp, e_eqI, e_neI, e_eqS, e_neS, e_eqB, e_neB, e_abs, e_int, e_max2, e_truB, e_truI, w_dget, w_ixref, w_ixlst, w_ixrol, w_ixtup, w_dref, isK_dct, isK_dctL, reduceCtorEq, false_implies, true_implies, Bool.false_eq_true, Bool.true_eq_false, e_lenlst, e_lenrol, e_lentup, w_lenref, w_ite, getS, setS, keyD, List.map_cons, List.map_nil, List.cons_append, List.nil_append, List.length_cons, List.length_nil, List.replicate, Nat.reduceSub, Nat.reduceAdd, Nat.reduceLeDiff, Nat.reduceLT, List.set_cons_zero, List.set_cons_succ, decide_eq_true_eq, decide_eq_false_iff_not, Bool.not_eq_true', Bool.not_eq_false', true_and, and_true, forall_const]
        have := q []
        unfold touchedP at this
        rw [if_neg hl, if_neg hk', List.append_nil] at this
        exact this
theorem missed_wp (h : KB k) (q : ∀ G, Q (knD (missedP k line), m ++ G)) : wp (f_missed [knD k, .int line] m) Q := by
  have h1 := h.nk
  have h2 := h.len
  have h3 := h.y
  unfold f_missed b_missed knD
  cases hk : k.2 with
  | none =>
    simp only [w_some, w_var, w_c, w_op, w_un, w_anil, w_acons, w_fn (f := fLen), w_fn (f := fInt), w_fn (f := fAbs), w_fn (f := fMax2), w_fn (f := fMin2), w_fn (f := fBool), w_fn (f := fTuple), w_fn (f := fDictM), w_fn (f := fTupP), w_fn (f := fDictP), w_fn (f := fSrTup), w_fn (f := fLenD), w_tup, w_lst, w_lstM, isB_bl, w_test, w_cand, w_cor, w_cnot, w_if, w_tru, w_and, w_or, w_not, w_chain, w_chain3, isR_ref, isI_ins, isD_dct, isL_lst, w_fld, w_lm, w_dm, w_disp, w_dnil, w_dcons, w_nil, w_retN, w_break, w_cont, nxt_nx, nxt_rt, nxt_bk, nxt_ct, w_seq, w_set, w_drop, w_ret, w_sif, w_asg, w_gN, w_gT, w_gsnil, w_gscons, w_gdput, w_dput, isN_int, w_lput, w_par, w_aug, w_flds, w_flda, gives_rt, gives_nx, w_fnb, w_range1, w_range2, isS_lst, isS_rol, isS_tup, w_iseq, w_dnew, w_dc, w_mul, w_div, w_mod, w_tupP, w_dget2, w_srit, e_tupP, e_tupleL, e_tupleT, e_addPI, e_isN_non, e_isN_ptp, e_notN_non, e_notN_ptp, w_par3, w_ixptp, e_lenptp, isS_ptp, e_min2', w_for, w_iseq, e_add, e_addI, e_sub, e_cmp, e_eqI, e_neI, e_eqS, e_neS, e_eqB, e_neB, e_abs, e_int, e_max2, e_truB, e_truI, w_dget, w_ixref, w_ixlst, w_ixrol, w_ixtup, w_dref, isK_dct, isK_dctL, reduceCtorEq, false_implies, true_implies, Bool.false_eq_true, Bool.true_eq_false, e_lenlst, e_lenrol, e_lentup, w_lenref, w_ite, getS, setS, keyD, List.map_cons, List.map_nil, List.cons_append, List.nil_append, List.length_cons, List.length_nil, List.replicate, Nat.reduceSub, Nat.reduceAdd, Nat.reduceLeDiff, Nat.reduceLT, List.set_cons_zero, List.set_cons_succ, decide_eq_true_eq, decide_eq_false_iff_not, Bool.not_eq_true', Bool.not_eq_false', true_and, and_true, forall_const, mayD]
    have := q []
    unfold missedP knD at this
    simp only [hk, Option.map_none, mayD, List.append_nil] at this
    exact this
  | some may =>
    obtain ⟨h4, h5⟩ := h3 may hk
    simp only [w_some, w_var, w_c, w_op, w_un, w_anil, w_acons, w_fn (f := fLen), w_fn (f := fInt), w_fn (f := fAbs), w_fn (f := fMax2), w_fn (f := fMin2), w_fn (f := fBool), w_fn (f := fTuple), w_fn (f := fDictM), w_fn (f := fTupP), w_fn (f := fDictP), w_fn (f := fSrTup), w_fn (f := fLenD), w_tup, w_lst, w_lstM, isB_bl, w_test, w_cand, w_cor, w_cnot, w_if, w_tru, w_and, w_or, w_not, w_chain, w_chain3, isR_ref, isI_ins, isD_dct, isL_lst, w_fld, w_lm, w_dm, w_disp, w_dnil, w_dcons, w_nil, w_retN, w_break, w_cont, nxt_nx, nxt_rt, nxt_bk, nxt_ct, w_seq, w_set, w_drop, w_ret, w_sif, w_asg, w_gN, w_gT, w_gsnil, w_gscons, w_gdput, w_dput, isN_int, w_lput, w_par, w_aug, w_flds, w_flda, gives_rt, gives_nx, w_fnb, w_range1, w_range2, isS_lst, isS_rol, isS_tup, w_iseq, w_dnew, w_dc, w_mul, w_div, w_mod, w_tupP, w_dget2, w_srit, e_tupP, e_tupleL, e_tupleT, e_addPI, e_isN_non, e_isN_ptp, e_notN_non, e_notN_ptp, w_par3, w_ixptp, e_lenptp, isS_ptp, e_min2', w_for, w_iseq, e_add, e_addI, e_sub, e_cmp, e_eqI, e_neI, e_eqS, e_neS, e_eqB, e_neB, e_abs, e_int, e_max2, e_truB, e_truI, w_dget, w_ixref, w_ixlst, w_ixrol, w_ixtup, w_dref, isK_dct, isK_dctL, reduceCtorEq, false_implies, true_implies, Bool.false_eq_true, Bool.true_eq_false, e_lenlst, e_lenrol, e_lentup, w_lenref, w_ite, getS, setS, keyD, List.map_cons, List.map_nil, List.cons_append, List.nil_append, List.length_cons, List.length_nil, List.replicate, Nat.reduceSub, Nat.reduceAdd, Nat.reduceLeDiff, Nat.reduceLT, List.set_cons_zero, List.set_cons_succ, decide_eq_true_eq, decide_eq_false_iff_not, Bool.not_eq_true', Bool.not_eq_false', true_and, and_true, forall_const, mayD, w_lc, w_iseq, List.length_map]
    refine ⟨by omega, wp.eq (loopC_map (f := prD) (p := fun p => !decide (p.1 = line)) (h := prD) fun p hp => ?_) ?_⟩
    · simp only [w_gN, true_and]
      refine ⟨wp_of ?_, fun _ => wp_of ?_⟩
      · simp only [w_some, w_var, w_c, w_op, w_un, w_anil, w_acons, w_fn (f := fLen), w_fn (f := fInt), w_fn (f := fAbs), w_fn (f := fMax2), w_fn (f := fMin2), w_fn (f := fBool), w_fn (f := fTuple), w_fn (f := fDictM), w_fn (f := fTupP), w_fn (f := fDictP), w_fn (f := fSrTup), w_fn (f := fLenD), w_tup, w_lst, w_lstM, isB_bl, w_test, w_cand, w_cor, w_cnot, w_if, w_tru, w_and, w_or, w_not, w_chain, w_chain3, isR_ref, isI_ins, isD_dct, isL_lst, w_fld, w_lm, w_dm, w_disp, w_dnil, w_dcons, w_nil, w_retN, w_break, w_cont, nxt_nx, nxt_rt, nxt_bk, nxt_ct, w_seq, w_set, w_drop, w_ret, w_sif, w_asg, w_gN, w_gT, w_gsnil, w_gscons, w_gdput, w_dput, isN_int, w_lput, w_par, w_aug, w_flds, w_flda, gives_rt, gives_nx, w_fnb, w_range1, w_range2, isS_lst, isS_rol, isS_tup, w_iseq, w_dnew, w_dc, w_mul, w_div, w_mod, w_tupP, w_dget2, w_srit, e_tupP, e_tupleL, e_tupleT, e_addPI, e_isN_non, e_isN_ptp, e_notN_non, e_notN_ptp, w_par3, w_ixptp, e_lenptp, isS_ptp, e_min2', w_for, w_iseq, e_add, e_addI, e_sub, e_cmp, e_eqI, e_neI, e_eqS, e_neS, e_eqB, e_neB, e_abs, e_int, e_max2, e_truB, e_truI, w_dget, w_ixref, w_ixlst, w_ixrol, w_ixtup, w_dref, isK_dct, isK_dctL, reduceCtorEq, false_implies, true_implies, Bool.false_eq_true, Bool.true_eq_false, e_lenlst, e_lenrol, e_lentup, w_lenref, w_ite, getS, setS, keyD, List.map_cons, List.map_nil, List.cons_append, List.nil_append, List.length_cons, List.length_nil, List.replicate, Nat.reduceSub, Nat.reduceAdd, Nat.reduceLeDiff, Nat.reduceLT, List.set_cons_zero, List.set_cons_succ, decide_eq_true_eq, decide_eq_false_iff_not, Bool.not_eq_true', Bool.not_eq_false', true_and, and_true, forall_const, wipeS, prD, ix2_0]
      · simp only [w_some, w_var, w_c, w_op, w_un, w_anil, w_acons, w_fn (f := fLen), w_fn (f := fInt), w_fn (f := fAbs), w_fn (f := fMax2), w_fn (f := fMin2), w_fn (f := fBool), w_fn (f := fTuple), w_fn (f := fDictM), w_fn (f := fTupP), w_fn (f := fDictP), w_fn (f := fSrTup), w_fn (f := fLenD), w_tup, w_lst, w_lstM, isB_bl, w_test, w_cand, w_cor, w_cnot, w_if, w_tru, w_and, w_or, w_not, w_chain, w_chain3, isR_ref, isI_ins, isD_dct, isL_lst, w_fld, w_lm, w_dm, w_disp, w_dnil, w_dcons, w_nil, w_retN, w_break, w_cont, nxt_nx, nxt_rt, nxt_bk, nxt_ct, w_seq, w_set, w_drop, w_ret, w_sif, w_asg, w_gN, w_gT, w_gsnil, w_gscons, w_gdput, w_dput, isN_int, w_lput, w_par, w_aug, w_flds, w_flda, gives_rt, gives_nx, w_fnb, w_range1, w_range2, isS_lst, isS_rol, isS_tup, w_iseq, w_dnew, w_dc, w_mul, w_div, w_mod, w_tupP, w_dget2, w_srit, e_tupP, e_tupleL, e_tupleT, e_addPI, e_isN_non, e_isN_ptp, e_notN_non, e_notN_ptp, w_par3, w_ixptp, e_lenptp, isS_ptp, e_min2', w_for, w_iseq, e_add, e_addI, e_sub, e_cmp, e_eqI, e_neI, e_eqS, e_neS, e_eqB, e_neB, e_abs, e_int, e_max2, e_truB, e_truI, w_dget, w_ixref, w_ixlst, w_ixrol, w_ixtup, w_dref, isK_dct, isK_dctL, reduceCtorEq, false_implies, true_implies, Bool.false_eq_true, Bool.true_eq_false, e_lenlst, e_lenrol, e_lentup, w_lenref, w_ite, getS, setS, keyD, List.map_cons, List.map_nil, List.cons_append, List.nil_append, List.length_cons, List.length_nil, List.replicate, Nat.reduceSub, Nat.reduceAdd, Nat.reduceLeDiff, Nat.reduceLT, List.set_cons_zero, List.set_cons_succ, decide_eq_true_eq, decide_eq_false_iff_not, Bool.not_eq_true', Bool.not_eq_false', true_and, and_true, forall_const, wipeS]
    · simp only [w_some, w_var, w_c, w_op, w_un, w_anil, w_acons, w_fn (f := fLen), w_fn (f := fInt), w_fn (f := fAbs), w_fn (f := fMax2), w_fn (f := fMin2), w_fn (f := fBool), w_fn (f := fTuple), w_fn (f := fDictM), w_fn (f := fTupP), w_fn (f := fDictP), w_fn (f := fSrTup), w_fn (f := fLenD), w_tup, w_lst, w_lstM, isB_bl, w_test, w_cand, w_cor, w_cnot, w_if, w_tru, w_and, w_or, w_not, w_chain, w_chain3, isR_ref, isI_ins, isD_dct, isL_lst, w_fld, w_lm, w_dm, w_disp, w_dnil, w_dcons, w_nil, w_retN, w_break, w_cont, nxt_nx, nxt_rt, nxt_bk, nxt_ct, w_seq, w_set, w_drop, w_ret, w_sif, w_asg, w_gN, w_gT, w_gsnil, w_gscons, w_gdput, w_dput, isN_int, w_lput, w_par, w_aug, w_flds, w_flda, gives_rt, gives_nx, w_fnb, w_range1, w_range2, isS_lst, isS_rol, isS_tup, w_iseq, w_dnew, w_dc, w_mul, w_div, w_mod, w_tupP, w_dget2, w_srit, e_tupP, e_tupleL, e_tupleT, e_addPI, e_isN_non, e_isN_ptp, e_notN_non, e_notN_ptp, w_par3, w_ixptp, e_lenptp, isS_ptp, e_min2', w_for, w_iseq, e_add, e_addI, e_sub, e_cmp, e_eqI, e_neI, e_eqS, e_neS, e_eqB, e_neB, e_abs, e_int, e_max2, e_truB, e_truI, w_dget, w_ixref, w_ixlst, w_ixrol, w_ixtup, w_dref, isK_dct, isK_dctL, reduceCtorEq, false_implies, true_implies, Bool.false_eq_true, Bool.true_eq_false, e_lenlst, e_lenrol, e_lentup, w_lenref, w_ite, getS, setS, keyD, List.map_cons, List.map_nil, List.cons_append, List.nil_append, List.length_cons, List.length_nil, List.replicate, Nat.reduceSub, Nat.reduceAdd, Nat.reduceLeDiff, Nat.reduceLT, List.set_cons_zero, List.set_cons_succ, decide_eq_true_eq, decide_eq_false_iff_not, Bool.not_eq_true', Bool.not_eq_false', true_and, and_true, forall_const]
      have := q []
      unfold missedP knD at this
      simp only [hk, Option.map_some, mayD, List.append_nil] at this
      exact this
def blD (b : Bool) : D := .bl b
theorem verd_wp (h : KB k) (q : Q (.lst ((verdP k line).map D.bl), m)) : wp (f_verdicts [knD k, .int line] m) Q := by
  have h1 := h.nk
  have h2 := h.len
  have h3 := h.y
  unfold f_verdicts b_verdicts knD
  simp only [w_some, w_var, w_c, w_op, w_un, w_anil, w_acons, w_fn (f := fLen), w_fn (f := fInt), w_fn (f := fAbs), w_fn (f := fMax2), w_fn (f := fMin2), w_fn (f := fBool), w_fn (f := fTuple), w_fn (f := fDictM), w_fn (f := fTupP), w_fn (f := fDictP), w_fn (f := fSrTup), w_fn (f := fLenD), w_tup, w_lst, w_lstM, isB_bl, w_test, w_cand, w_cor, w_cnot, w_if, w_tru, w_and, w_or, w_not, w_chain, w_chain3, isR_ref, isI_ins, isD_dct, isL_lst, w_fld, w_lm, w_dm, w_disp, w_dnil, w_dcons, w_nil, w_retN, w_break, w_cont, nxt_nx, nxt_rt, nxt_bk, nxt_ct, w_seq, w_set, w_drop, w_ret, w_sif, w_asg, w_gN, w_gT, w_gsnil, w_gscons, w_gdput, w_dput, isN_int, w_lput, w_par, w_aug, w_flds, w_flda, gives_rt, gives_nx, w_fnb, w_range1, w_range2, isS_lst, isS_rol, isS_tup, w_iseq, w_dnew, w_dc, w_mul, w_div, w_mod, w_tupP, w_dget2, w_srit, e_tupP, e_tupleL, e_tupleT, e_addPI, e_isN_non, e_isN_ptp, e_notN_non, e_notN_ptp, w_par3, w_ixptp, e_lenptp, isS_ptp, e_min2', w_for, w_iseq, e_add, e_addI, e_sub, e_cmp, e_eqI, e_neI, e_eqS, e_neS, e_eqB, e_neB, e_abs, e_int, e_max2, e_truB, e_truI, w_dget, w_ixref, w_ixlst, w_ixrol, w_ixtup, w_dref, isK_dct, isK_dctL, reduceCtorEq, false_implies, true_implies, Bool.false_eq_true, Bool.true_eq_false, e_lenlst, e_lenrol, e_lentup, w_lenref, w_ite, getS, setS, keyD, List.map_cons, List.map_nil, List.cons_append, List.nil_append, List.length_cons, List.length_nil, List.replicate, Nat.reduceSub, Nat.reduceAdd, Nat.reduceLeDiff, Nat.reduceLT, List.set_cons_zero, List.set_cons_succ, decide_eq_true_eq, decide_eq_false_iff_not, Bool.not_eq_true', Bool.not_eq_false', true_and, and_true, forall_const]
  refine wp.eq (any_prs (ps := k.1) (g := fun p => decide (p.1 = line)) ?_ (by omega) fun p hp => wp_of ?_) ?_
  · refine wp_of ?_
    simp only [w_some, w_var, w_c, w_op, w_un, w_anil, w_acons, w_fn (f := fLen), w_fn (f := fInt), w_fn (f := fAbs), w_fn (f := fMax2), w_fn (f := fMin2), w_fn (f := fBool), w_fn (f := fTuple), w_fn (f := fDictM), w_fn (f := fTupP), w_fn (f := fDictP), w_fn (f := fSrTup), w_fn (f := fLenD), w_tup, w_lst, w_lstM, isB_bl, w_test, w_cand, w_cor, w_cnot, w_if, w_tru, w_and, w_or, w_not, w_chain, w_chain3, isR_ref, isI_ins, isD_dct, isL_lst, w_fld, w_lm, w_dm, w_disp, w_dnil, w_dcons, w_nil, w_retN, w_break, w_cont, nxt_nx, nxt_rt, nxt_bk, nxt_ct, w_seq, w_set, w_drop, w_ret, w_sif, w_asg, w_gN, w_gT, w_gsnil, w_gscons, w_gdput, w_dput, isN_int, w_lput, w_par, w_aug, w_flds, w_flda, gives_rt, gives_nx, w_fnb, w_range1, w_range2, isS_lst, isS_rol, isS_tup, w_iseq, w_dnew, w_dc, w_mul, w_div, w_mod, w_tupP, w_dget2, w_srit, e_tupP, e_tupleL, e_tupleT, e_addPI, e_isN_non, e_isN_ptp, e_notN_non, e_notN_ptp, w_par3, w_ixptp, e_lenptp, isS_ptp, e_min2', w_for, w_iseq, e_add, e_addI, e_sub, e_cmp, e_eqI, e_neI, e_eqS, e_neS, e_eqB, e_neB, e_abs, e_int, e_max2, e_truB, e_truI, w_dget, w_ixref, w_ixlst, w_ixrol, w_ixtup, w_dref, isK_dct, isK_dctL, reduceCtorEq, false_implies, true_implies, Bool.false_eq_true, Bool.true_eq_false, e_lenlst, e_lenrol, e_lentup, w_lenref, w_ite, getS, setS, keyD, List.map_cons, List.map_nil, List.cons_append, List.nil_append, List.length_cons, List.length_nil, List.replicate, Nat.reduceSub, Nat.reduceAdd, Nat.reduceLeDiff, Nat.reduceLT, List.set_cons_zero, List.set_cons_succ, decide_eq_true_eq, decide_eq_false_iff_not, Bool.not_eq_true', Bool.not_eq_false', true_and, and_true, forall_const]
  · simp only [w_some, w_var, w_c, w_op, w_un, w_anil, w_acons, w_fn (f := fLen), w_fn (f := fInt), w_fn (f := fAbs), w_fn (f := fMax2), w_fn (f := fMin2), w_fn (f := fBool), w_fn (f := fTuple), w_fn (f := fDictM), w_fn (f := fTupP), w_fn (f := fDictP), w_fn (f := fSrTup), w_fn (f := fLenD), w_tup, w_lst, w_lstM, isB_bl, w_test, w_cand, w_cor, w_cnot, w_if, w_tru, w_and, w_or, w_not, w_chain, w_chain3, isR_ref, isI_ins, isD_dct, isL_lst, w_fld, w_lm, w_dm, w_disp, w_dnil, w_dcons, w_nil, w_retN, w_break, w_cont, nxt_nx, nxt_rt, nxt_bk, nxt_ct, w_seq, w_set, w_drop, w_ret, w_sif, w_asg, w_gN, w_gT, w_gsnil, w_gscons, w_gdput, w_dput, isN_int, w_lput, w_par, w_aug, w_flds, w_flda, gives_rt, gives_nx, w_fnb, w_range1, w_range2, isS_lst, isS_rol, isS_tup, w_iseq, w_dnew, w_dc, w_mul, w_div, w_mod, w_tupP, w_dget2, w_srit, e_tupP, e_tupleL, e_tupleT, e_addPI, e_isN_non, e_isN_ptp, e_notN_non, e_notN_ptp, w_par3, w_ixptp, e_lenptp, isS_ptp, e_min2', w_for, w_iseq, e_add, e_addI, e_sub, e_cmp, e_eqI, e_neI, e_eqS, e_neS, e_eqB, e_neB, e_abs, e_int, e_max2, e_truB, e_truI, w_dget, w_ixref, w_ixlst, w_ixrol, w_ixtup, w_dref, isK_dct, isK_dctL, reduceCtorEq, false_implies, true_implies, Bool.false_eq_true, Bool.true_eq_false, e_lenlst, e_lenrol, e_lentup, w_lenref, w_ite, getS, setS, keyD, List.map_cons, List.map_nil, List.cons_append, List.nil_append, List.length_cons, List.length_nil, List.replicate, Nat.reduceSub, Nat.reduceAdd, Nat.reduceLeDiff, Nat.reduceLT, List.set_cons_zero, List.set_cons_succ, decide_eq_true_eq, decide_eq_false_iff_not, Bool.not_eq_true', Bool.not_eq_false', true_and, and_true, forall_const, wipeS]
  simp only [w_some, w_var, w_c, w_op, w_un, w_anil, w_acons, w_fn (f := fLen), w_fn (f := fInt), w_fn (f := fAbs), w_fn (f := fMax2), w_fn (f := fMin2), w_fn (f := fBool), w_fn (f := fTuple), w_fn (f := fDictM), w_fn (f := fTupP), w_fn (f := fDictP), w_fn (f := fSrTup), w_fn (f := fLenD), w_tup, w_lst, w_lstM, isB_bl, w_test, w_cand, w_cor, w_cnot, w_if, w_tru, w_and, w_or, w_not, w_chain, w_chain3, isR_ref, isI_ins, isD_dct, isL_lst, w_fld, w_lm, w_dm, w_disp, w_dnil, w_dcons, w_nil, w_retN, w_break, w_cont, nxt_nx, nxt_rt, nxt_bk, nxt_ct, w_seq, w_set, w_drop, w_ret, w_sif, w_asg, w_gN, w_gT, w_gsnil, w_gscons, w_gdput, w_dput, isN_int, w_lput, w_par, w_aug, w_flds, w_flda, gives_rt, gives_nx, w_fnb, w_range1, w_range2, isS_lst, isS_rol, isS_tup, w_iseq, w_dnew, w_dc, w_mul, w_div, w_mod, w_tupP, w_dget2, w_srit, e_tupP, e_tupleL, e_tupleT, e_addPI, e_isN_non, e_isN_ptp, e_notN_non, e_notN_ptp, w_par3, w_ixptp, e_lenptp, isS_ptp, e_min2', w_for, w_iseq, e_add, e_addI, e_sub, e_cmp, e_eqI, e_neI, e_eqS, e_neS, e_eqB, e_neB, e_abs, e_int, e_max2, e_truB, e_truI, w_dget, w_ixref, w_ixlst, w_ixrol, w_ixtup, w_dref, isK_dct, isK_dctL, reduceCtorEq, false_implies, true_implies, Bool.false_eq_true, Bool.true_eq_false, e_lenlst, e_lenrol, e_lentup, w_lenref, w_ite, getS, setS, keyD, List.map_cons, List.map_nil, List.cons_append, List.nil_append, List.length_cons, List.length_nil, List.replicate, Nat.reduceSub, Nat.reduceAdd, Nat.reduceLeDiff, Nat.reduceLT, List.set_cons_zero, List.set_cons_succ, decide_eq_true_eq, decide_eq_false_iff_not, Bool.not_eq_true', Bool.not_eq_false', true_and, and_true, forall_const]
  refine ⟨fun hk => ?_, fun hk => ?_⟩
  · unfold verdP hasK at q
    rw [if_pos hk] at q
    exact q
  · have hk' : ¬ hasK k.1 line = true := by unfold hasK; rw [hk]; simp
    unfold verdP at q
    rw [if_neg hk'] at q
    cases hy : k.2 with
    | none =>
      rw [hy] at q
      simp only [w_some, w_var, w_c, w_op, w_un, w_anil, w_acons, w_fn (f := fLen), w_fn (f := fInt), w_fn (f := fAbs), w_fn (f := fMax2), w_fn (f := fMin2), w_fn (f := fBool), w_fn (f := fTuple), w_fn (f := fDictM), w_fn (f := fTupP), w_fn (f := fDictP), w_fn (f := fSrTup), w_fn (f := fLenD), w_tup, w_lst, w_lstM, isB_bl, w_test, w_cand, w_cor, w_cnot, w_if, w_tru, w_and, w_or, w_not, w_chain, w_chain3, isR_ref, isI_ins, isD_dct, isL_lst, w_fld, w_lm, w_dm, w_disp, w_dnil, w_dcons, w_nil, w_retN, w_break, w_cont, nxt_nx, nxt_rt, nxt_bk, nxt_ct, w_seq, w_set, w_drop, w_ret, w_sif, w_asg, w_gN, w_gT, w_gsnil, w_gscons, w_gdput, w_dput, isN_int, w_lput, w_par, w_aug, w_flds, w_flda, gives_rt, gives_nx, w_fnb, w_range1, w_range2, isS_lst, isS_rol, isS_tup, w_iseq, w_dnew, w_dc, w_mul, w_div, w_mod, w_tupP, w_dget2, w_srit, e_tupP, e_tupleL, e_tupleT, e_addPI, e_isN_non, e_isN_ptp, e_notN_non, e_notN_ptp, w_par3, w_ixptp, e_lenptp, isS_ptp, e_min2', w_for, w_iseq, e_add, e_addI, e_sub, e_cmp, e_eqI, e_neI, e_eqS, e_neS, e_eqB, e_neB, e_abs, e_int, e_max2, e_truB, e_truI, w_dget, w_ixref, w_ixlst, w_ixrol, w_ixtup, w_dref, isK_dct, isK_dctL, reduceCtorEq, false_implies, true_implies, Bool.false_eq_true, Bool.true_eq_false, e_lenlst, e_lenrol, e_lentup, w_lenref, w_ite, getS, setS, keyD, List.map_cons, List.map_nil, List.cons_append, List.nil_append, List.length_cons, List.length_nil, List.replicate, Nat.reduceSub, Nat.reduceAdd, Nat.reduceLeDiff, Nat.reduceLT, List.set_cons_zero, List.set_cons_succ, decide_eq_true_eq, decide_eq_false_iff_not, Bool.not_eq_true', Bool.not_eq_false', true_and, and_true, forall_const, mayD]
      exact q
    | some may =>
      obtain ⟨h4, h5⟩ := h3 may hy
      rw [hy] at q
      simp only at q
      simp only [w_some, w_var, w_c, w_op, w_un, w_anil, w_acons, w_fn (f := fLen), w_fn (f := fInt), w_fn (f := fAbs), w_fn (f := fMax2), w_fn (f := fMin2), w_fn (f := fBool), w_fn (f := fTuple), w_fn (f := fDictM), w_fn (f := fTupP), w_fn (f := fDictP), w_fn (f := fSrTup), w_fn (f := fLenD), w_tup, w_lst, w_lstM, isB_bl, w_test, w_cand, w_cor, w_cnot, w_if, w_tru, w_and, w_or, w_not, w_chain, w_chain3, isR_ref, isI_ins, isD_dct, isL_lst, w_fld, w_lm, w_dm, w_disp, w_dnil, w_dcons, w_nil, w_retN, w_break, w_cont, nxt_nx, nxt_rt, nxt_bk, nxt_ct, w_seq, w_set, w_drop, w_ret, w_sif, w_asg, w_gN, w_gT, w_gsnil, w_gscons, w_gdput, w_dput, isN_int, w_lput, w_par, w_aug, w_flds, w_flda, gives_rt, gives_nx, w_fnb, w_range1, w_range2, isS_lst, isS_rol, isS_tup, w_iseq, w_dnew, w_dc, w_mul, w_div, w_mod, w_tupP, w_dget2, w_srit, e_tupP, e_tupleL, e_tupleT, e_addPI, e_isN_non, e_isN_ptp, e_notN_non, e_notN_ptp, w_par3, w_ixptp, e_lenptp, isS_ptp, e_min2', w_for, w_iseq, e_add, e_addI, e_sub, e_cmp, e_eqI, e_neI, e_eqS, e_neS, e_eqB, e_neB, e_abs, e_int, e_max2, e_truB, e_truI, w_dget, w_ixref, w_ixlst, w_ixrol, w_ixtup, w_dref, isK_dct, isK_dctL, reduceCtorEq, false_implies, true_implies, Bool.false_eq_true, Bool.true_eq_false, e_lenlst, e_lenrol, e_lentup, w_lenref, w_ite, getS, setS, keyD, List.map_cons, List.map_nil, List.cons_append, List.nil_append, List.length_cons, List.length_nil, List.replicate, Nat.reduceSub, Nat.reduceAdd, Nat.reduceLeDiff, Nat.reduceLT, List.set_cons_zero, List.set_cons_succ, decide_eq_true_eq, decide_eq_false_iff_not, Bool.not_eq_true', Bool.not_eq_false', true_and, and_true, forall_const, mayD]
      refine wp.eq (any_prs (ps := may) (g := fun p => decide (p.1 = line)) ?_ (by omega) fun p hp => wp_of ?_) ?_
      · refine wp_of ?_
        simp only [w_some, w_var, w_c, w_op, w_un, w_anil, w_acons, w_fn (f := fLen), w_fn (f := fInt), w_fn (f := fAbs), w_fn (f := fMax2), w_fn (f := fMin2), w_fn (f := fBool), w_fn (f := fTuple), w_fn (f := fDictM), w_fn (f := fTupP), w_fn (f := fDictP), w_fn (f := fSrTup), w_fn (f := fLenD), w_tup, w_lst, w_lstM, isB_bl, w_test, w_cand, w_cor, w_cnot, w_if, w_tru, w_and, w_or, w_not, w_chain, w_chain3, isR_ref, isI_ins, isD_dct, isL_lst, w_fld, w_lm, w_dm, w_disp, w_dnil, w_dcons, w_nil, w_retN, w_break, w_cont, nxt_nx, nxt_rt, nxt_bk, nxt_ct, w_seq, w_set, w_drop, w_ret, w_sif, w_asg, w_gN, w_gT, w_gsnil, w_gscons, w_gdput, w_dput, isN_int, w_lput, w_par, w_aug, w_flds, w_flda, gives_rt, gives_nx, w_fnb, w_range1, w_range2, isS_lst, isS_rol, isS_tup, w_iseq, w_dnew, w_dc, w_mul, w_div, w_mod, w_tupP, w_dget2, w_srit, e_tupP, e_tupleL, e_tupleT, e_addPI, e_isN_non, e_isN_ptp, e_notN_non, e_notN_ptp, w_par3, w_ixptp, e_lenptp, isS_ptp, e_min2', w_for, w_iseq, e_add, e_addI, e_sub, e_cmp, e_eqI, e_neI, e_eqS, e_neS, e_eqB, e_neB, e_abs, e_int, e_max2, e_truB, e_truI, w_dget, w_ixref, w_ixlst, w_ixrol, w_ixtup, w_dref, isK_dct, isK_dctL, reduceCtorEq, false_implies, true_implies, Bool.false_eq_true, Bool.true_eq_false, e_lenlst, e_lenrol, e_lentup, w_lenref, w_ite, getS, setS, keyD, List.map_cons, List.map_nil, List.cons_append, List.nil_append, List.length_cons, List.length_nil, List.replicate, Nat.reduceSub, Nat.reduceAdd, Nat.reduceLeDiff, Nat.reduceLT, List.set_cons_zero, List.set_cons_succ, decide_eq_true_eq, decide_eq_false_iff_not, Bool.not_eq_true', Bool.not_eq_false', true_and, and_true, forall_const]
      · simp only [w_some, w_var, w_c, w_op, w_un, w_anil, w_acons, w_fn (f := fLen), w_fn (f := fInt), w_fn (f := fAbs), w_fn (f := fMax2), w_fn (f := fMin2), w_fn (f := fBool), w_fn (f := fTuple), w_fn (f := fDictM), w_fn (f := fTupP), w_fn (f := fDictP), w_fn (f := fSrTup), w_fn (f := fLenD), w_tup, w_lst, w_lstM, isB_bl, w_test, w_cand, w_cor, w_cnot, w_if, w_tru, w_and, w_or, w_not, w_chain, w_chain3, isR_ref, isI_ins, isD_dct, isL_lst, w_fld, w_lm, w_dm, w_disp, w_dnil, w_dcons, w_nil, w_retN, w_break, w_cont, nxt_nx, nxt_rt, nxt_bk, nxt_ct, w_seq, w_set, w_drop, w_ret, w_sif, w_asg, w_gN, w_gT, w_gsnil, w_gscons, w_gdput, w_dput, isN_int, w_lput, w_par, w_aug, w_flds, w_flda, gives_rt, gives_nx, w_fnb, w_range1, w_range2, isS_lst, isS_rol, isS_tup, w_iseq, w_dnew, w_dc, w_mul, w_div, w_mod, w_tupP, w_dget2, w_srit, e_tupP, e_tupleL, e_tupleT, e_addPI, e_isN_non, e_isN_ptp, e_notN_non, e_notN_ptp, w_par3, w_ixptp, e_lenptp, isS_ptp, e_min2', w_for, w_iseq, e_add, e_addI, e_sub, e_cmp, e_eqI, e_neI, e_eqS, e_neS, e_eqB, e_neB, e_abs, e_int, e_max2, e_truB, e_truI, w_dget, w_ixref, w_ixlst, w_ixrol, w_ixtup, w_dref, isK_dct, isK_dctL, reduceCtorEq, false_implies, true_implies, Bool.false_eq_true, Bool.true_eq_false, e_lenlst, e_lenrol, e_lentup, w_lenref, w_ite, getS, setS, keyD, List.map_cons, List.map_nil, List.cons_append, List.nil_append, List.length_cons, List.length_nil, List.replicate, Nat.reduceSub, Nat.reduceAdd, Nat.reduceLeDiff, Nat.reduceLT, List.set_cons_zero, List.set_cons_succ, decide_eq_true_eq, decide_eq_false_iff_not, Bool.not_eq_true', Bool.not_eq_false', true_and, and_true, forall_const, wipeS]
      simp only [w_some, w_var, w_c, w_op, w_un, w_anil, w_acons, w_fn (f := fLen), w_fn (f := fInt), w_fn (f := fAbs), w_fn (f := fMax2), w_fn (f := fMin2), w_fn (f := fBool), w_fn (f := fTuple), w_fn (f := fDictM), w_fn (f := fTupP), w_fn (f := fDictP), w_fn (f := fSrTup), w_fn (f := fLenD), w_tup, w_lst, w_lstM, isB_bl, w_test, w_cand, w_cor, w_cnot, w_if, w_tru, w_and, w_or, w_not, w_chain, w_chain3, isR_ref, isI_ins, isD_dct, isL_lst, w_fld, w_lm, w_dm, w_disp, w_dnil, w_dcons, w_nil, w_retN, w_break, w_cont, nxt_nx, nxt_rt, nxt_bk, nxt_ct, w_seq, w_set, w_drop, w_ret, w_sif, w_asg, w_gN, w_gT, w_gsnil, w_gscons, w_gdput, w_dput, isN_int, w_lput, w_par, w_aug, w_flds, w_flda, gives_rt, gives_nx, w_fnb, w_range1, w_range2, isS_lst, isS_rol, isS_tup, w_iseq, w_dnew, w_dc, w_mul, w_div, w_mod, w_tupP, w_dget2, w_srit, e_tupP, e_tupleL, e_tupleT, e_addPI, e_isN_non, e_isN_ptp, e_notN_non, e_notN_ptp, w_par3, w_ixptp, e_lenptp, isS_ptp, e_min2', w_for, w_iseq, e_add, e_addI, e_sub, e_cmp, e_eqI, e_neI, e_eqS, e_neS, e_eqB, e_neB, e_abs, e_int, e_max2, e_truB, e_truI, w_dget, w_ixref, w_ixlst, w_ixrol, w_ixtup, w_dref, isK_dct, isK_dctL, reduceCtorEq, false_implies, true_implies, Bool.false_eq_true, Bool.true_eq_false, e_lenlst, e_lenrol, e_lentup, w_lenref, w_ite, getS, setS, keyD, List.map_cons, List.map_nil, List.cons_append, List.nil_append, List.length_cons, List.length_nil, List.replicate, Nat.reduceSub, Nat.reduceAdd, Nat.reduceLeDiff, Nat.reduceLT, List.set_cons_zero, List.set_cons_succ, decide_eq_true_eq, decide_eq_false_iff_not, Bool.not_eq_true', Bool.not_eq_false', true_and, and_true, forall_const]
      refine ⟨fun hm => ?_, fun hm => ?_⟩
      · have hm' : ¬ hasK may line = true := by unfold hasK; rw [hm]; simp
        rw [if_neg hm'] at q
        exact q
      · rw [if_pos (show hasK may line = true from hm)] at q
        exact q
end
end K03

set_option Elab.async false
set_option maxRecDepth 100000
set_option linter.unusedSimpArgs false
set_option linter.unusedVariables false
namespace K03
open PySem L2 Mini

theorem locks {m : M} {o p q : O} : (m ++ [o] ++ [p])[m.length]? = some o := get_len2
section
variable {T : Told} {line : Int} {m : M} {may must : Ps} {k one two : Kn} {Q : D × M → Prop}
structure joinI (mb : M) (a b : Nat) (x0 x4 : Option D) (yb : Ps) (c : Nat) (n : Nat) (d : Ps) (sg : Sg) (m' : M) : Prop where
  eq : m' = mb ++ [.dct (dI d)]
  len : d.length ≤ c + n
  sl : ∃ x1 x5 x7, sg = [x0, x1, some (.ref a), some (.ref b), x4, x5, some (.ref mb.length), x7]
theorem joined_wp (h1 : KB one) (h2 : KB two) (q : ∀ G, Q (knD (joinP one two), m ++ G)) : wp (f_joined_known [knD one, knD two] m) Q := by
  have n1 := h1.nk
  have n2 := h2.nk
  have l1 := h1.len
  have l2 := h2.len
  unfold f_joined_known b_joined_known knD
  simp only [w_some, w_var, w_c, w_op, w_un, w_anil, w_acons, w_fn (f := fLen), w_fn (f := fInt), w_fn (f := fAbs), w_fn (f := fMax2), w_fn (f := fMin2), w_fn (f := fBool), w_fn (f := fTuple), w_fn (f := fDictM), w_fn (f := fTupP), w_fn (f := fDictP), w_fn (f := fSrTup), w_fn (f := fLenD), w_tup, w_lst, w_lstM, isB_bl, w_test, w_cand, w_cor, w_cnot, w_if, w_tru, w_and, w_or, w_not, w_chain, w_chain3, isR_ref, isI_ins, isD_dct, isL_lst, w_fld, w_lm, w_dm, w_disp, w_dnil, w_dcons, w_nil, w_retN, w_break, w_cont, nxt_nx, nxt_rt, nxt_bk, nxt_ct, w_seq, w_set, w_drop, w_ret, w_sif, w_asg, w_gN, w_gT, w_gsnil, w_gscons, w_gdput, w_dput, isN_int, w_lput, w_par, w_aug, w_flds, w_flda, gives_rt, gives_nx, w_fnb, w_range1, w_range2, isS_lst, isS_rol, isS_tup, w_iseq, w_dnew, w_dc, w_mul, w_div, w_mod, w_tupP, w_dget2, w_srit, e_tupP, e_tupleL, e_tupleT, e_addPI, e_isN_non, e_isN_ptp, e_notN_non, e_notN_ptp, w_par3, w_ixptp, e_lenptp, isS_ptp, e_min2', w_for, w_iseq, e_add, e_addI, e_sub, e_cmp, e_eqI, e_neI, e_eqS, e_neS, e_eqB, e_neB, e_abs, e_int, e_max2, e_truB, e_truI, w_dget, w_ixref, w_ixlst, w_ixrol, w_ixtup, w_dref, isK_dct, isK_dctL, reduceCtorEq, false_implies, true_implies, Bool.false_eq_true, Bool.true_eq_false, e_lenlst, e_lenrol, e_lentup, w_lenref, w_ite, getS, setS, keyD, List.map_cons, List.map_nil, List.cons_append, List.nil_append, List.length_cons, List.length_nil, List.replicate, Nat.reduceSub, Nat.reduceAdd, Nat.reduceLeDiff, Nat.reduceLT, List.set_cons_zero, List.set_cons_succ, decide_eq_true_eq, decide_eq_false_iff_not, Bool.not_eq_true', Bool.not_eq_false', true_and, and_true, forall_const, ix2_0, ix2_1, e_dictP n1, e_dictP n2, w_keys, get_len2, keysD_dI, List.length_map, set_len2]
  refine ⟨by omega, wp.eq (loopDC_fold (d := []) (key := fun p => p.1) (F := joinF two.1) fun p hp => ?_) ?_⟩
  · have i1 : isKK (m ++ [O.dctL (dI one.1)] ++ [O.dct (dI two.1)])[m.length]? one.1 := .inr get_len2
    have i2 : isKK (m ++ [O.dctL (dI one.1)] ++ [O.dct (dI two.1)])[m.length + 1]? two.1 := .inl get_len1
    have hv : lookP one.1 p.1 = some p.2 := (find_nk n1).mpr hp
    simp only [w_gN, true_and]
    refine ⟨wp_of ?_, fun v hF => ⟨wp_of ?_, wp_of ?_⟩⟩
    · simp only [w_some, w_var, w_c, w_op, w_un, w_anil, w_acons, w_fn (f := fLen), w_fn (f := fInt), w_fn (f := fAbs), w_fn (f := fMax2), w_fn (f := fMin2), w_fn (f := fBool), w_fn (f := fTuple), w_fn (f := fDictM), w_fn (f := fTupP), w_fn (f := fDictP), w_fn (f := fSrTup), w_fn (f := fLenD), w_tup, w_lst, w_lstM, isB_bl, w_test, w_cand, w_cor, w_cnot, w_if, w_tru, w_and, w_or, w_not, w_chain, w_chain3, isR_ref, isI_ins, isD_dct, isL_lst, w_fld, w_lm, w_dm, w_disp, w_dnil, w_dcons, w_nil, w_retN, w_break, w_cont, nxt_nx, nxt_rt, nxt_bk, nxt_ct, w_seq, w_set, w_drop, w_ret, w_sif, w_asg, w_gN, w_gT, w_gsnil, w_gscons, w_gdput, w_dput, isN_int, w_lput, w_par, w_aug, w_flds, w_flda, gives_rt, gives_nx, w_fnb, w_range1, w_range2, isS_lst, isS_rol, isS_tup, w_iseq, w_dnew, w_dc, w_mul, w_div, w_mod, w_tupP, w_dget2, w_srit, e_tupP, e_tupleL, e_tupleT, e_addPI, e_isN_non, e_isN_ptp, e_notN_non, e_notN_ptp, w_par3, w_ixptp, e_lenptp, isS_ptp, e_min2', w_for, w_iseq, e_add, e_addI, e_sub, e_cmp, e_eqI, e_neI, e_eqS, e_neS, e_eqB, e_neB, e_abs, e_int, e_max2, e_truB, e_truI, w_dget, w_ixref, w_ixlst, w_ixrol, w_ixtup, w_dref, isK_dct, isK_dctL, reduceCtorEq, false_implies, true_implies, Bool.false_eq_true, Bool.true_eq_false, e_lenlst, e_lenrol, e_lentup, w_lenref, w_ite, getS, setS, keyD, List.map_cons, List.map_nil, List.cons_append, List.nil_append, List.length_cons, List.length_nil, List.replicate, Nat.reduceSub, Nat.reduceAdd, Nat.reduceLeDiff, Nat.reduceLT, List.set_cons_zero, List.set_cons_succ, decide_eq_true_eq, decide_eq_false_iff_not, Bool.not_eq_true', Bool.not_eq_false', true_and, and_true, forall_const, wipeS, len_app1, e_inR i2, joinF, Option.isSome_map]
    · simp only [w_some, w_var, w_c, w_op, w_un, w_anil, w_acons, w_fn (f := fLen), w_fn (f := fInt), w_fn (f := fAbs), w_fn (f := fMax2), w_fn (f := fMin2), w_fn (f := fBool), w_fn (f := fTuple), w_fn (f := fDictM), w_fn (f := fTupP), w_fn (f := fDictP), w_fn (f := fSrTup), w_fn (f := fLenD), w_tup, w_lst, w_lstM, isB_bl, w_test, w_cand, w_cor, w_cnot, w_if, w_tru, w_and, w_or, w_not, w_chain, w_chain3, isR_ref, isI_ins, isD_dct, isL_lst, w_fld, w_lm, w_dm, w_disp, w_dnil, w_dcons, w_nil, w_retN, w_break, w_cont, nxt_nx, nxt_rt, nxt_bk, nxt_ct, w_seq, w_set, w_drop, w_ret, w_sif, w_asg, w_gN, w_gT, w_gsnil, w_gscons, w_gdput, w_dput, isN_int, w_lput, w_par, w_aug, w_flds, w_flda, gives_rt, gives_nx, w_fnb, w_range1, w_range2, isS_lst, isS_rol, isS_tup, w_iseq, w_dnew, w_dc, w_mul, w_div, w_mod, w_tupP, w_dget2, w_srit, e_tupP, e_tupleL, e_tupleT, e_addPI, e_isN_non, e_isN_ptp, e_notN_non, e_notN_ptp, w_par3, w_ixptp, e_lenptp, isS_ptp, e_min2', w_for, w_iseq, e_add, e_addI, e_sub, e_cmp, e_eqI, e_neI, e_eqS, e_neS, e_eqB, e_neB, e_abs, e_int, e_max2, e_truB, e_truI, w_dget, w_ixref, w_ixlst, w_ixrol, w_ixtup, w_dref, isK_dct, isK_dctL, reduceCtorEq, false_implies, true_implies, Bool.false_eq_true, Bool.true_eq_false, e_lenlst, e_lenrol, e_lentup, w_lenref, w_ite, getS, setS, keyD, List.map_cons, List.map_nil, List.cons_append, List.nil_append, List.length_cons, List.length_nil, List.replicate, Nat.reduceSub, Nat.reduceAdd, Nat.reduceLeDiff, Nat.reduceLT, List.set_cons_zero, List.set_cons_succ, decide_eq_true_eq, decide_eq_false_iff_not, Bool.not_eq_true', Bool.not_eq_false', true_and, and_true, forall_const, wipeS]
    · obtain ⟨w, hw, rfl⟩ := Option.map_eq_some_iff.mp hF
      simp only [w_some, w_var, w_c, w_op, w_un, w_anil, w_acons, w_fn (f := fLen), w_fn (f := fInt), w_fn (f := fAbs), w_fn (f := fMax2), w_fn (f := fMin2), w_fn (f := fBool), w_fn (f := fTuple), w_fn (f := fDictM), w_fn (f := fTupP), w_fn (f := fDictP), w_fn (f := fSrTup), w_fn (f := fLenD), w_tup, w_lst, w_lstM, isB_bl, w_test, w_cand, w_cor, w_cnot, w_if, w_tru, w_and, w_or, w_not, w_chain, w_chain3, isR_ref, isI_ins, isD_dct, isL_lst, w_fld, w_lm, w_dm, w_disp, w_dnil, w_dcons, w_nil, w_retN, w_break, w_cont, nxt_nx, nxt_rt, nxt_bk, nxt_ct, w_seq, w_set, w_drop, w_ret, w_sif, w_asg, w_gN, w_gT, w_gsnil, w_gscons, w_gdput, w_dput, isN_int, w_lput, w_par, w_aug, w_flds, w_flda, gives_rt, gives_nx, w_fnb, w_range1, w_range2, isS_lst, isS_rol, isS_tup, w_iseq, w_dnew, w_dc, w_mul, w_div, w_mod, w_tupP, w_dget2, w_srit, e_tupP, e_tupleL, e_tupleT, e_addPI, e_isN_non, e_isN_ptp, e_notN_non, e_notN_ptp, w_par3, w_ixptp, e_lenptp, isS_ptp, e_min2', w_for, w_iseq, e_add, e_addI, e_sub, e_cmp, e_eqI, e_neI, e_eqS, e_neS, e_eqB, e_neB, e_abs, e_int, e_max2, e_truB, e_truI, w_dget, w_ixref, w_ixlst, w_ixrol, w_ixtup, w_dref, isK_dct, isK_dctL, reduceCtorEq, false_implies, true_implies, Bool.false_eq_true, Bool.true_eq_false, e_lenlst, e_lenrol, e_lentup, w_lenref, w_ite, getS, setS, keyD, List.map_cons, List.map_nil, List.cons_append, List.nil_append, List.length_cons, List.length_nil, List.replicate, Nat.reduceSub, Nat.reduceAdd, Nat.reduceLeDiff, Nat.reduceLT, List.set_cons_zero, List.set_cons_succ, decide_eq_true_eq, decide_eq_false_iff_not, Bool.not_eq_true', Bool.not_eq_false', true_and, and_true, forall_const, wipeS, len_app1, get_len2, get_len1, lookD_dI, hv, hw, Option.map_some, maxI]
  · rw [fold_put n1 (by intro p _ _ h; simp at h)]
    have fin1 : joinM one.1 two.1 = srtP ([] ++ List.filterMap (fun p => Option.map (fun v => (p.1, v)) (joinF two.1 p)) one.1) := rfl
    cases hy1 : one.2 with
    | none =>
      simp only [w_some, w_var, w_c, w_op, w_un, w_anil, w_acons, w_fn (f := fLen), w_fn (f := fInt), w_fn (f := fAbs), w_fn (f := fMax2), w_fn (f := fMin2), w_fn (f := fBool), w_fn (f := fTuple), w_fn (f := fDictM), w_fn (f := fTupP), w_fn (f := fDictP), w_fn (f := fSrTup), w_fn (f := fLenD), w_tup, w_lst, w_lstM, isB_bl, w_test, w_cand, w_cor, w_cnot, w_if, w_tru, w_and, w_or, w_not, w_chain, w_chain3, isR_ref, isI_ins, isD_dct, isL_lst, w_fld, w_lm, w_dm, w_disp, w_dnil, w_dcons, w_nil, w_retN, w_break, w_cont, nxt_nx, nxt_rt, nxt_bk, nxt_ct, w_seq, w_set, w_drop, w_ret, w_sif, w_asg, w_gN, w_gT, w_gsnil, w_gscons, w_gdput, w_dput, isN_int, w_lput, w_par, w_aug, w_flds, w_flda, gives_rt, gives_nx, w_fnb, w_range1, w_range2, isS_lst, isS_rol, isS_tup, w_iseq, w_dnew, w_dc, w_mul, w_div, w_mod, w_tupP, w_dget2, w_srit, e_tupP, e_tupleL, e_tupleT, e_addPI, e_isN_non, e_isN_ptp, e_notN_non, e_notN_ptp, w_par3, w_ixptp, e_lenptp, isS_ptp, e_min2', w_for, w_iseq, e_add, e_addI, e_sub, e_cmp, e_eqI, e_neI, e_eqS, e_neS, e_eqB, e_neB, e_abs, e_int, e_max2, e_truB, e_truI, w_dget, w_ixref, w_ixlst, w_ixrol, w_ixtup, w_dref, isK_dct, isK_dctL, reduceCtorEq, false_implies, true_implies, Bool.false_eq_true, Bool.true_eq_false, e_lenlst, e_lenrol, e_lentup, w_lenref, w_ite, getS, setS, keyD, List.map_cons, List.map_nil, List.cons_append, List.nil_append, List.length_cons, List.length_nil, List.replicate, Nat.reduceSub, Nat.reduceAdd, Nat.reduceLeDiff, Nat.reduceLT, List.set_cons_zero, List.set_cons_succ, decide_eq_true_eq, decide_eq_false_iff_not, Bool.not_eq_true', Bool.not_eq_false', true_and, and_true, forall_const, mayD, get_len, kvPs_dI]
      have := q [.dctL (dI one.1), .dct (dI two.1), .dct (dI ([] ++ List.filterMap (fun p => Option.map (fun v => (p.1, v)) (joinF two.1 p)) one.1))]
      unfold joinP knD at this
      simp only [hy1, mayD, fin1] at this
      simpa using this
    | some ya =>
      cases hy2 : two.2 with
      | none =>
        simp only [w_some, w_var, w_c, w_op, w_un, w_anil, w_acons, w_fn (f := fLen), w_fn (f := fInt), w_fn (f := fAbs), w_fn (f := fMax2), w_fn (f := fMin2), w_fn (f := fBool), w_fn (f := fTuple), w_fn (f := fDictM), w_fn (f := fTupP), w_fn (f := fDictP), w_fn (f := fSrTup), w_fn (f := fLenD), w_tup, w_lst, w_lstM, isB_bl, w_test, w_cand, w_cor, w_cnot, w_if, w_tru, w_and, w_or, w_not, w_chain, w_chain3, isR_ref, isI_ins, isD_dct, isL_lst, w_fld, w_lm, w_dm, w_disp, w_dnil, w_dcons, w_nil, w_retN, w_break, w_cont, nxt_nx, nxt_rt, nxt_bk, nxt_ct, w_seq, w_set, w_drop, w_ret, w_sif, w_asg, w_gN, w_gT, w_gsnil, w_gscons, w_gdput, w_dput, isN_int, w_lput, w_par, w_aug, w_flds, w_flda, gives_rt, gives_nx, w_fnb, w_range1, w_range2, isS_lst, isS_rol, isS_tup, w_iseq, w_dnew, w_dc, w_mul, w_div, w_mod, w_tupP, w_dget2, w_srit, e_tupP, e_tupleL, e_tupleT, e_addPI, e_isN_non, e_isN_ptp, e_notN_non, e_notN_ptp, w_par3, w_ixptp, e_lenptp, isS_ptp, e_min2', w_for, w_iseq, e_add, e_addI, e_sub, e_cmp, e_eqI, e_neI, e_eqS, e_neS, e_eqB, e_neB, e_abs, e_int, e_max2, e_truB, e_truI, w_dget, w_ixref, w_ixlst, w_ixrol, w_ixtup, w_dref, isK_dct, isK_dctL, reduceCtorEq, false_implies, true_implies, Bool.false_eq_true, Bool.true_eq_false, e_lenlst, e_lenrol, e_lentup, w_lenref, w_ite, getS, setS, keyD, List.map_cons, List.map_nil, List.cons_append, List.nil_append, List.length_cons, List.length_nil, List.replicate, Nat.reduceSub, Nat.reduceAdd, Nat.reduceLeDiff, Nat.reduceLT, List.set_cons_zero, List.set_cons_succ, decide_eq_true_eq, decide_eq_false_iff_not, Bool.not_eq_true', Bool.not_eq_false', true_and, and_true, forall_const, mayD, get_len, kvPs_dI]
        have := q [.dctL (dI one.1), .dct (dI two.1), .dct (dI ([] ++ List.filterMap (fun p => Option.map (fun v => (p.1, v)) (joinF two.1 p)) one.1))]
        unfold joinP knD at this
        simp only [hy1, hy2, mayD, fin1] at this
        simpa using this
      | some yb =>
        obtain ⟨na, la⟩ := h1.y ya hy1
        obtain ⟨nb, lb⟩ := h2.y yb hy2
        simp only [w_some, w_var, w_c, w_op, w_un, w_anil, w_acons, w_fn (f := fLen), w_fn (f := fInt), w_fn (f := fAbs), w_fn (f := fMax2), w_fn (f := fMin2), w_fn (f := fBool), w_fn (f := fTuple), w_fn (f := fDictM), w_fn (f := fTupP), w_fn (f := fDictP), w_fn (f := fSrTup), w_fn (f := fLenD), w_tup, w_lst, w_lstM, isB_bl, w_test, w_cand, w_cor, w_cnot, w_if, w_tru, w_and, w_or, w_not, w_chain, w_chain3, isR_ref, isI_ins, isD_dct, isL_lst, w_fld, w_lm, w_dm, w_disp, w_dnil, w_dcons, w_nil, w_retN, w_break, w_cont, nxt_nx, nxt_rt, nxt_bk, nxt_ct, w_seq, w_set, w_drop, w_ret, w_sif, w_asg, w_gN, w_gT, w_gsnil, w_gscons, w_gdput, w_dput, isN_int, w_lput, w_par, w_aug, w_flds, w_flda, gives_rt, gives_nx, w_fnb, w_range1, w_range2, isS_lst, isS_rol, isS_tup, w_iseq, w_dnew, w_dc, w_mul, w_div, w_mod, w_tupP, w_dget2, w_srit, e_tupP, e_tupleL, e_tupleT, e_addPI, e_isN_non, e_isN_ptp, e_notN_non, e_notN_ptp, w_par3, w_ixptp, e_lenptp, isS_ptp, e_min2', w_for, w_iseq, e_add, e_addI, e_sub, e_cmp, e_eqI, e_neI, e_eqS, e_neS, e_eqB, e_neB, e_abs, e_int, e_max2, e_truB, e_truI, w_dget, w_ixref, w_ixlst, w_ixrol, w_ixtup, w_dref, isK_dct, isK_dctL, reduceCtorEq, false_implies, true_implies, Bool.false_eq_true, Bool.true_eq_false, e_lenlst, e_lenrol, e_lentup, w_lenref, w_ite, getS, setS, keyD, List.map_cons, List.map_nil, List.cons_append, List.nil_append, List.length_cons, List.length_nil, List.replicate, Nat.reduceSub, Nat.reduceAdd, Nat.reduceLeDiff, Nat.reduceLT, List.set_cons_zero, List.set_cons_succ, decide_eq_true_eq, decide_eq_false_iff_not, Bool.not_eq_true', Bool.not_eq_false', true_and, and_true, forall_const, mayD, e_dictP na]
        refine wp_foldN (n := 0) (N := yb.length) (step := fun d p => putP d p.1 (minI p.2 ((lookP d p.1).getD p.2))) (joinI (m ++ [O.dctL (dI one.1)] ++ [O.dct (dI two.1)] ++ [O.dct (dI ([] ++ List.filterMap (fun p => Option.map (fun v => (p.1, v)) (joinF two.1 p)) one.1))]) m.length (m ++ [O.dct (dI one.1)]).length _ _ yb ya.length) ⟨rfl, by simp, _, _, _, rfl⟩ (by simp) ?_ ?_
        · rintro n d ⟨x, y⟩ sg m' hn hx ⟨rfl, hdl, x1, x5, x7, rfl⟩
          simp only [w_some, w_var, w_c, w_op, w_un, w_anil, w_acons, w_fn (f := fLen), w_fn (f := fInt), w_fn (f := fAbs), w_fn (f := fMax2), w_fn (f := fMin2), w_fn (f := fBool), w_fn (f := fTuple), w_fn (f := fDictM), w_fn (f := fTupP), w_fn (f := fDictP), w_fn (f := fSrTup), w_fn (f := fLenD), w_tup, w_lst, w_lstM, isB_bl, w_test, w_cand, w_cor, w_cnot, w_if, w_tru, w_and, w_or, w_not, w_chain, w_chain3, isR_ref, isI_ins, isD_dct, isL_lst, w_fld, w_lm, w_dm, w_disp, w_dnil, w_dcons, w_nil, w_retN, w_break, w_cont, nxt_nx, nxt_rt, nxt_bk, nxt_ct, w_seq, w_set, w_drop, w_ret, w_sif, w_asg, w_gN, w_gT, w_gsnil, w_gscons, w_gdput, w_dput, isN_int, w_lput, w_par, w_aug, w_flds, w_flda, gives_rt, gives_nx, w_fnb, w_range1, w_range2, isS_lst, isS_rol, isS_tup, w_iseq, w_dnew, w_dc, w_mul, w_div, w_mod, w_tupP, w_dget2, w_srit, e_tupP, e_tupleL, e_tupleT, e_addPI, e_isN_non, e_isN_ptp, e_notN_non, e_notN_ptp, w_par3, w_ixptp, e_lenptp, isS_ptp, e_min2', w_for, w_iseq, e_add, e_addI, e_sub, e_cmp, e_eqI, e_neI, e_eqS, e_neS, e_eqB, e_neB, e_abs, e_int, e_max2, e_truB, e_truI, w_dget, w_ixref, w_ixlst, w_ixrol, w_ixtup, w_dref, isK_dct, isK_dctL, reduceCtorEq, false_implies, true_implies, Bool.false_eq_true, Bool.true_eq_false, e_lenlst, e_lenrol, e_lentup, w_lenref, w_ite, getS, setS, keyD, List.map_cons, List.map_nil, List.cons_append, List.nil_append, List.length_cons, List.length_nil, List.replicate, Nat.reduceSub, Nat.reduceAdd, Nat.reduceLeDiff, Nat.reduceLT, List.set_cons_zero, List.set_cons_succ, decide_eq_true_eq, decide_eq_false_iff_not, Bool.not_eq_true', Bool.not_eq_false', true_and, and_true, forall_const, prD, get_len, lookD_dI, getD_int, putD_dI, set_len]
          refine ⟨leaf_len hdl (by omega), rfl, ?_, _, _, _, rfl⟩
          have := len_putP (d := d) (k := x) (v := minI y ((lookP d x).getD y))
          exact Nat.le_trans this (by omega)
        · rintro sg _ ⟨rfl, hdl, x1, x5, x7, rfl⟩
          have g3 : ∀ (o o2 : O), (m ++ [O.dctL (dI one.1)] ++ [O.dct (dI two.1)] ++ [o] ++ [o2])[(m ++ [O.dctL (dI one.1)] ++ [O.dct (dI two.1)]).length]? = some o := fun o o2 => get_len2
          simp only [w_some, w_var, w_c, w_op, w_un, w_anil, w_acons, w_fn (f := fLen), w_fn (f := fInt), w_fn (f := fAbs), w_fn (f := fMax2), w_fn (f := fMin2), w_fn (f := fBool), w_fn (f := fTuple), w_fn (f := fDictM), w_fn (f := fTupP), w_fn (f := fDictP), w_fn (f := fSrTup), w_fn (f := fLenD), w_tup, w_lst, w_lstM, isB_bl, w_test, w_cand, w_cor, w_cnot, w_if, w_tru, w_and, w_or, w_not, w_chain, w_chain3, isR_ref, isI_ins, isD_dct, isL_lst, w_fld, w_lm, w_dm, w_disp, w_dnil, w_dcons, w_nil, w_retN, w_break, w_cont, nxt_nx, nxt_rt, nxt_bk, nxt_ct, w_seq, w_set, w_drop, w_ret, w_sif, w_asg, w_gN, w_gT, w_gsnil, w_gscons, w_gdput, w_dput, isN_int, w_lput, w_par, w_aug, w_flds, w_flda, gives_rt, gives_nx, w_fnb, w_range1, w_range2, isS_lst, isS_rol, isS_tup, w_iseq, w_dnew, w_dc, w_mul, w_div, w_mod, w_tupP, w_dget2, w_srit, e_tupP, e_tupleL, e_tupleT, e_addPI, e_isN_non, e_isN_ptp, e_notN_non, e_notN_ptp, w_par3, w_ixptp, e_lenptp, isS_ptp, e_min2', w_for, w_iseq, e_add, e_addI, e_sub, e_cmp, e_eqI, e_neI, e_eqS, e_neS, e_eqB, e_neB, e_abs, e_int, e_max2, e_truB, e_truI, w_dget, w_ixref, w_ixlst, w_ixrol, w_ixtup, w_dref, isK_dct, isK_dctL, reduceCtorEq, false_implies, true_implies, Bool.false_eq_true, Bool.true_eq_false, e_lenlst, e_lenrol, e_lentup, w_lenref, w_ite, getS, setS, keyD, List.map_cons, List.map_nil, List.cons_append, List.nil_append, List.length_cons, List.length_nil, List.replicate, Nat.reduceSub, Nat.reduceAdd, Nat.reduceLeDiff, Nat.reduceLT, List.set_cons_zero, List.set_cons_succ, decide_eq_true_eq, decide_eq_false_iff_not, Bool.not_eq_true', Bool.not_eq_false', true_and, and_true, forall_const, get_len, g3, kvPs_dI]
          have := q [.dctL (dI one.1), .dct (dI two.1), .dct (dI ([] ++ List.filterMap (fun p => Option.map (fun v => (p.1, v)) (joinF two.1 p)) one.1)), .dct (dI (joinY ya yb))]
          unfold joinP knD at this
          simp only [hy1, hy2, mayD, fin1] at this
          simpa [joinY] using this
theorem within_wp (h1 : KB one) (h2 : KB two) (q : ∀ G, Q (.bl (withinP one two), m ++ G)) : wp (f_is_known_within [knD one, knD two] m) Q := by
  have n1 := h1.nk
  have l1 := h1.len
  have l2 := h2.len
  unfold f_is_known_within b_is_known_within knD
  simp only [w_some, w_var, w_c, w_op, w_un, w_anil, w_acons, w_fn (f := fLen), w_fn (f := fInt), w_fn (f := fAbs), w_fn (f := fMax2), w_fn (f := fMin2), w_fn (f := fBool), w_fn (f := fTuple), w_fn (f := fDictM), w_fn (f := fTupP), w_fn (f := fDictP), w_fn (f := fSrTup), w_fn (f := fLenD), w_tup, w_lst, w_lstM, isB_bl, w_test, w_cand, w_cor, w_cnot, w_if, w_tru, w_and, w_or, w_not, w_chain, w_chain3, isR_ref, isI_ins, isD_dct, isL_lst, w_fld, w_lm, w_dm, w_disp, w_dnil, w_dcons, w_nil, w_retN, w_break, w_cont, nxt_nx, nxt_rt, nxt_bk, nxt_ct, w_seq, w_set, w_drop, w_ret, w_sif, w_asg, w_gN, w_gT, w_gsnil, w_gscons, w_gdput, w_dput, isN_int, w_lput, w_par, w_aug, w_flds, w_flda, gives_rt, gives_nx, w_fnb, w_range1, w_range2, isS_lst, isS_rol, isS_tup, w_iseq, w_dnew, w_dc, w_mul, w_div, w_mod, w_tupP, w_dget2, w_srit, e_tupP, e_tupleL, e_tupleT, e_addPI, e_isN_non, e_isN_ptp, e_notN_non, e_notN_ptp, w_par3, w_ixptp, e_lenptp, isS_ptp, e_min2', w_for, w_iseq, e_add, e_addI, e_sub, e_cmp, e_eqI, e_neI, e_eqS, e_neS, e_eqB, e_neB, e_abs, e_int, e_max2, e_truB, e_truI, w_dget, w_ixref, w_ixlst, w_ixrol, w_ixtup, w_dref, isK_dct, isK_dctL, reduceCtorEq, false_implies, true_implies, Bool.false_eq_true, Bool.true_eq_false, e_lenlst, e_lenrol, e_lentup, w_lenref, w_ite, getS, setS, keyD, List.map_cons, List.map_nil, List.cons_append, List.nil_append, List.length_cons, List.length_nil, List.replicate, Nat.reduceSub, Nat.reduceAdd, Nat.reduceLeDiff, Nat.reduceLT, List.set_cons_zero, List.set_cons_succ, decide_eq_true_eq, decide_eq_false_iff_not, Bool.not_eq_true', Bool.not_eq_false', true_and, and_true, forall_const, ix2_0, ix2_1, e_dictP n1]
  have i1 : isKK (m ++ [O.dct (dI one.1)])[m.length]? one.1 := .inl get_len
  refine wp.eq (any_prs (ps := two.1) (g := fun p => !leK one.1 p) ?_ (by omega) fun p hp => wp_of ?_) ?_
  · refine wp_of ?_
    simp only [w_some, w_var, w_c, w_op, w_un, w_anil, w_acons, w_fn (f := fLen), w_fn (f := fInt), w_fn (f := fAbs), w_fn (f := fMax2), w_fn (f := fMin2), w_fn (f := fBool), w_fn (f := fTuple), w_fn (f := fDictM), w_fn (f := fTupP), w_fn (f := fDictP), w_fn (f := fSrTup), w_fn (f := fLenD), w_tup, w_lst, w_lstM, isB_bl, w_test, w_cand, w_cor, w_cnot, w_if, w_tru, w_and, w_or, w_not, w_chain, w_chain3, isR_ref, isI_ins, isD_dct, isL_lst, w_fld, w_lm, w_dm, w_disp, w_dnil, w_dcons, w_nil, w_retN, w_break, w_cont, nxt_nx, nxt_rt, nxt_bk, nxt_ct, w_seq, w_set, w_drop, w_ret, w_sif, w_asg, w_gN, w_gT, w_gsnil, w_gscons, w_gdput, w_dput, isN_int, w_lput, w_par, w_aug, w_flds, w_flda, gives_rt, gives_nx, w_fnb, w_range1, w_range2, isS_lst, isS_rol, isS_tup, w_iseq, w_dnew, w_dc, w_mul, w_div, w_mod, w_tupP, w_dget2, w_srit, e_tupP, e_tupleL, e_tupleT, e_addPI, e_isN_non, e_isN_ptp, e_notN_non, e_notN_ptp, w_par3, w_ixptp, e_lenptp, isS_ptp, e_min2', w_for, w_iseq, e_add, e_addI, e_sub, e_cmp, e_eqI, e_neI, e_eqS, e_neS, e_eqB, e_neB, e_abs, e_int, e_max2, e_truB, e_truI, w_dget, w_ixref, w_ixlst, w_ixrol, w_ixtup, w_dref, isK_dct, isK_dctL, reduceCtorEq, false_implies, true_implies, Bool.false_eq_true, Bool.true_eq_false, e_lenlst, e_lenrol, e_lentup, w_lenref, w_ite, getS, setS, keyD, List.map_cons, List.map_nil, List.cons_append, List.nil_append, List.length_cons, List.length_nil, List.replicate, Nat.reduceSub, Nat.reduceAdd, Nat.reduceLeDiff, Nat.reduceLT, List.set_cons_zero, List.set_cons_succ, decide_eq_true_eq, decide_eq_false_iff_not, Bool.not_eq_true', Bool.not_eq_false', true_and, and_true, forall_const, ix2_0]
  · cases hv : lookP one.1 p.1 with
    | none =>
      simp only [w_some, w_var, w_c, w_op, w_un, w_anil, w_acons, w_fn (f := fLen), w_fn (f := fInt), w_fn (f := fAbs), w_fn (f := fMax2), w_fn (f := fMin2), w_fn (f := fBool), w_fn (f := fTuple), w_fn (f := fDictM), w_fn (f := fTupP), w_fn (f := fDictP), w_fn (f := fSrTup), w_fn (f := fLenD), w_tup, w_lst, w_lstM, isB_bl, w_test, w_cand, w_cor, w_cnot, w_if, w_tru, w_and, w_or, w_not, w_chain, w_chain3, isR_ref, isI_ins, isD_dct, isL_lst, w_fld, w_lm, w_dm, w_disp, w_dnil, w_dcons, w_nil, w_retN, w_break, w_cont, nxt_nx, nxt_rt, nxt_bk, nxt_ct, w_seq, w_set, w_drop, w_ret, w_sif, w_asg, w_gN, w_gT, w_gsnil, w_gscons, w_gdput, w_dput, isN_int, w_lput, w_par, w_aug, w_flds, w_flda, gives_rt, gives_nx, w_fnb, w_range1, w_range2, isS_lst, isS_rol, isS_tup, w_iseq, w_dnew, w_dc, w_mul, w_div, w_mod, w_tupP, w_dget2, w_srit, e_tupP, e_tupleL, e_tupleT, e_addPI, e_isN_non, e_isN_ptp, e_notN_non, e_notN_ptp, w_par3, w_ixptp, e_lenptp, isS_ptp, e_min2', w_for, w_iseq, e_add, e_addI, e_sub, e_cmp, e_eqI, e_neI, e_eqS, e_neS, e_eqB, e_neB, e_abs, e_int, e_max2, e_truB, e_truI, w_dget, w_ixref, w_ixlst, w_ixrol, w_ixtup, w_dref, isK_dct, isK_dctL, reduceCtorEq, false_implies, true_implies, Bool.false_eq_true, Bool.true_eq_false, e_lenlst, e_lenrol, e_lentup, w_lenref, w_ite, getS, setS, keyD, List.map_cons, List.map_nil, List.cons_append, List.nil_append, List.length_cons, List.length_nil, List.replicate, Nat.reduceSub, Nat.reduceAdd, Nat.reduceLeDiff, Nat.reduceLT, List.set_cons_zero, List.set_cons_succ, decide_eq_true_eq, decide_eq_false_iff_not, Bool.not_eq_true', Bool.not_eq_false', true_and, and_true, forall_const, wipeS, e_notinR i1, get_len, lookD_dI, hv, Option.isSome_none, Option.map_some]
      simp [leK, hv]
    | some v =>
      simp only [w_some, w_var, w_c, w_op, w_un, w_anil, w_acons, w_fn (f := fLen), w_fn (f := fInt), w_fn (f := fAbs), w_fn (f := fMax2), w_fn (f := fMin2), w_fn (f := fBool), w_fn (f := fTuple), w_fn (f := fDictM), w_fn (f := fTupP), w_fn (f := fDictP), w_fn (f := fSrTup), w_fn (f := fLenD), w_tup, w_lst, w_lstM, isB_bl, w_test, w_cand, w_cor, w_cnot, w_if, w_tru, w_and, w_or, w_not, w_chain, w_chain3, isR_ref, isI_ins, isD_dct, isL_lst, w_fld, w_lm, w_dm, w_disp, w_dnil, w_dcons, w_nil, w_retN, w_break, w_cont, nxt_nx, nxt_rt, nxt_bk, nxt_ct, w_seq, w_set, w_drop, w_ret, w_sif, w_asg, w_gN, w_gT, w_gsnil, w_gscons, w_gdput, w_dput, isN_int, w_lput, w_par, w_aug, w_flds, w_flda, gives_rt, gives_nx, w_fnb, w_range1, w_range2, isS_lst, isS_rol, isS_tup, w_iseq, w_dnew, w_dc, w_mul, w_div, w_mod, w_tupP, w_dget2, w_srit, e_tupP, e_tupleL, e_tupleT, e_addPI, e_isN_non, e_isN_ptp, e_notN_non, e_notN_ptp, w_par3, w_ixptp, e_lenptp, isS_ptp, e_min2', w_for, w_iseq, e_add, e_addI, e_sub, e_cmp, e_eqI, e_neI, e_eqS, e_neS, e_eqB, e_neB, e_abs, e_int, e_max2, e_truB, e_truI, w_dget, w_ixref, w_ixlst, w_ixrol, w_ixtup, w_dref, isK_dct, isK_dctL, reduceCtorEq, false_implies, true_implies, Bool.false_eq_true, Bool.true_eq_false, e_lenlst, e_lenrol, e_lentup, w_lenref, w_ite, getS, setS, keyD, List.map_cons, List.map_nil, List.cons_append, List.nil_append, List.length_cons, List.length_nil, List.replicate, Nat.reduceSub, Nat.reduceAdd, Nat.reduceLeDiff, Nat.reduceLT, List.set_cons_zero, List.set_cons_succ, decide_eq_true_eq, decide_eq_false_iff_not, Bool.not_eq_true', Bool.not_eq_false', true_and, and_true, forall_const, wipeS, e_notinR i1, get_len, lookD_dI, hv, Option.isSome_some, Option.map_some]
      simp [leK, hv]
      by_cases h : v ≤ p.2
      · have : ¬ p.2 < v := by omega
        simp [h, this]
      · have : p.2 < v := by omega
        simp [h, this]
  simp only [w_some, w_var, w_c, w_op, w_un, w_anil, w_acons, w_fn (f := fLen), w_fn (f := fInt), w_fn (f := fAbs), w_fn (f := fMax2), w_fn (f := fMin2), w_fn (f := fBool), w_fn (f := fTuple), w_fn (f := fDictM), w_fn (f := fTupP), w_fn (f := fDictP), w_fn (f := fSrTup), w_fn (f := fLenD), w_tup, w_lst, w_lstM, isB_bl, w_test, w_cand, w_cor, w_cnot, w_if, w_tru, w_and, w_or, w_not, w_chain, w_chain3, isR_ref, isI_ins, isD_dct, isL_lst, w_fld, w_lm, w_dm, w_disp, w_dnil, w_dcons, w_nil, w_retN, w_break, w_cont, nxt_nx, nxt_rt, nxt_bk, nxt_ct, w_seq, w_set, w_drop, w_ret, w_sif, w_asg, w_gN, w_gT, w_gsnil, w_gscons, w_gdput, w_dput, isN_int, w_lput, w_par, w_aug, w_flds, w_flda, gives_rt, gives_nx, w_fnb, w_range1, w_range2, isS_lst, isS_rol, isS_tup, w_iseq, w_dnew, w_dc, w_mul, w_div, w_mod, w_tupP, w_dget2, w_srit, e_tupP, e_tupleL, e_tupleT, e_addPI, e_isN_non, e_isN_ptp, e_notN_non, e_notN_ptp, w_par3, w_ixptp, e_lenptp, isS_ptp, e_min2', w_for, w_iseq, e_add, e_addI, e_sub, e_cmp, e_eqI, e_neI, e_eqS, e_neS, e_eqB, e_neB, e_abs, e_int, e_max2, e_truB, e_truI, w_dget, w_ixref, w_ixlst, w_ixrol, w_ixtup, w_dref, isK_dct, isK_dctL, reduceCtorEq, false_implies, true_implies, Bool.false_eq_true, Bool.true_eq_false, e_lenlst, e_lenrol, e_lentup, w_lenref, w_ite, getS, setS, keyD, List.map_cons, List.map_nil, List.cons_append, List.nil_append, List.length_cons, List.length_nil, List.replicate, Nat.reduceSub, Nat.reduceAdd, Nat.reduceLeDiff, Nat.reduceLT, List.set_cons_zero, List.set_cons_succ, decide_eq_true_eq, decide_eq_false_iff_not, Bool.not_eq_true', Bool.not_eq_false', true_and, and_true, forall_const]
  unfold withinP at q
  refine ⟨fun ha => ?_, fun ha => ?_⟩
  · rw [if_pos ha] at q
    exact q _
  · have ha' : ¬ (two.1.any fun p => !leK one.1 p) = true := by rw [ha]; simp
    rw [if_neg ha'] at q
    cases hy2 : two.2 with
    | none =>
      rw [hy2] at q
      simp only [w_some, w_var, w_c, w_op, w_un, w_anil, w_acons, w_fn (f := fLen), w_fn (f := fInt), w_fn (f := fAbs), w_fn (f := fMax2), w_fn (f := fMin2), w_fn (f := fBool), w_fn (f := fTuple), w_fn (f := fDictM), w_fn (f := fTupP), w_fn (f := fDictP), w_fn (f := fSrTup), w_fn (f := fLenD), w_tup, w_lst, w_lstM, isB_bl, w_test, w_cand, w_cor, w_cnot, w_if, w_tru, w_and, w_or, w_not, w_chain, w_chain3, isR_ref, isI_ins, isD_dct, isL_lst, w_fld, w_lm, w_dm, w_disp, w_dnil, w_dcons, w_nil, w_retN, w_break, w_cont, nxt_nx, nxt_rt, nxt_bk, nxt_ct, w_seq, w_set, w_drop, w_ret, w_sif, w_asg, w_gN, w_gT, w_gsnil, w_gscons, w_gdput, w_dput, isN_int, w_lput, w_par, w_aug, w_flds, w_flda, gives_rt, gives_nx, w_fnb, w_range1, w_range2, isS_lst, isS_rol, isS_tup, w_iseq, w_dnew, w_dc, w_mul, w_div, w_mod, w_tupP, w_dget2, w_srit, e_tupP, e_tupleL, e_tupleT, e_addPI, e_isN_non, e_isN_ptp, e_notN_non, e_notN_ptp, w_par3, w_ixptp, e_lenptp, isS_ptp, e_min2', w_for, w_iseq, e_add, e_addI, e_sub, e_cmp, e_eqI, e_neI, e_eqS, e_neS, e_eqB, e_neB, e_abs, e_int, e_max2, e_truB, e_truI, w_dget, w_ixref, w_ixlst, w_ixrol, w_ixtup, w_dref, isK_dct, isK_dctL, reduceCtorEq, false_implies, true_implies, Bool.false_eq_true, Bool.true_eq_false, e_lenlst, e_lenrol, e_lentup, w_lenref, w_ite, getS, setS, keyD, List.map_cons, List.map_nil, List.cons_append, List.nil_append, List.length_cons, List.length_nil, List.replicate, Nat.reduceSub, Nat.reduceAdd, Nat.reduceLeDiff, Nat.reduceLT, List.set_cons_zero, List.set_cons_succ, decide_eq_true_eq, decide_eq_false_iff_not, Bool.not_eq_true', Bool.not_eq_false', true_and, and_true, forall_const, mayD]
      exact q _
    | some yb =>
      rw [hy2] at q
      cases hy1 : one.2 with
      | none =>
        rw [hy1] at q
        simp only [w_some, w_var, w_c, w_op, w_un, w_anil, w_acons, w_fn (f := fLen), w_fn (f := fInt), w_fn (f := fAbs), w_fn (f := fMax2), w_fn (f := fMin2), w_fn (f := fBool), w_fn (f := fTuple), w_fn (f := fDictM), w_fn (f := fTupP), w_fn (f := fDictP), w_fn (f := fSrTup), w_fn (f := fLenD), w_tup, w_lst, w_lstM, isB_bl, w_test, w_cand, w_cor, w_cnot, w_if, w_tru, w_and, w_or, w_not, w_chain, w_chain3, isR_ref, isI_ins, isD_dct, isL_lst, w_fld, w_lm, w_dm, w_disp, w_dnil, w_dcons, w_nil, w_retN, w_break, w_cont, nxt_nx, nxt_rt, nxt_bk, nxt_ct, w_seq, w_set, w_drop, w_ret, w_sif, w_asg, w_gN, w_gT, w_gsnil, w_gscons, w_gdput, w_dput, isN_int, w_lput, w_par, w_aug, w_flds, w_flda, gives_rt, gives_nx, w_fnb, w_range1, w_range2, isS_lst, isS_rol, isS_tup, w_iseq, w_dnew, w_dc, w_mul, w_div, w_mod, w_tupP, w_dget2, w_srit, e_tupP, e_tupleL, e_tupleT, e_addPI, e_isN_non, e_isN_ptp, e_notN_non, e_notN_ptp, w_par3, w_ixptp, e_lenptp, isS_ptp, e_min2', w_for, w_iseq, e_add, e_addI, e_sub, e_cmp, e_eqI, e_neI, e_eqS, e_neS, e_eqB, e_neB, e_abs, e_int, e_max2, e_truB, e_truI, w_dget, w_ixref, w_ixlst, w_ixrol, w_ixtup, w_dref, isK_dct, isK_dctL, reduceCtorEq, false_implies, true_implies, Bool.false_eq_true, Bool.true_eq_false, e_lenlst, e_lenrol, e_lentup, w_lenref, w_ite, getS, setS, keyD, List.map_cons, List.map_nil, List.cons_append, List.nil_append, List.length_cons, List.length_nil, List.replicate, Nat.reduceSub, Nat.reduceAdd, Nat.reduceLeDiff, Nat.reduceLT, List.set_cons_zero, List.set_cons_succ, decide_eq_true_eq, decide_eq_false_iff_not, Bool.not_eq_true', Bool.not_eq_false', true_and, and_true, forall_const, mayD]
        exact q _
      | some ya =>
        rw [hy1] at q
        obtain ⟨na, la⟩ := h1.y ya hy1
        obtain ⟨nb, lb⟩ := h2.y yb hy2
        simp only [w_some, w_var, w_c, w_op, w_un, w_anil, w_acons, w_fn (f := fLen), w_fn (f := fInt), w_fn (f := fAbs), w_fn (f := fMax2), w_fn (f := fMin2), w_fn (f := fBool), w_fn (f := fTuple), w_fn (f := fDictM), w_fn (f := fTupP), w_fn (f := fDictP), w_fn (f := fSrTup), w_fn (f := fLenD), w_tup, w_lst, w_lstM, isB_bl, w_test, w_cand, w_cor, w_cnot, w_if, w_tru, w_and, w_or, w_not, w_chain, w_chain3, isR_ref, isI_ins, isD_dct, isL_lst, w_fld, w_lm, w_dm, w_disp, w_dnil, w_dcons, w_nil, w_retN, w_break, w_cont, nxt_nx, nxt_rt, nxt_bk, nxt_ct, w_seq, w_set, w_drop, w_ret, w_sif, w_asg, w_gN, w_gT, w_gsnil, w_gscons, w_gdput, w_dput, isN_int, w_lput, w_par, w_aug, w_flds, w_flda, gives_rt, gives_nx, w_fnb, w_range1, w_range2, isS_lst, isS_rol, isS_tup, w_iseq, w_dnew, w_dc, w_mul, w_div, w_mod, w_tupP, w_dget2, w_srit, e_tupP, e_tupleL, e_tupleT, e_addPI, e_isN_non, e_isN_ptp, e_notN_non, e_notN_ptp, w_par3, w_ixptp, e_lenptp, isS_ptp, e_min2', w_for, w_iseq, e_add, e_addI, e_sub, e_cmp, e_eqI, e_neI, e_eqS, e_neS, e_eqB, e_neB, e_abs, e_int, e_max2, e_truB, e_truI, w_dget, w_ixref, w_ixlst, w_ixrol, w_ixtup, w_dref, isK_dct, isK_dctL, reduceCtorEq, false_implies, true_implies, Bool.false_eq_true, Bool.true_eq_false, e_lenlst, e_lenrol, e_lentup, w_lenref, w_ite, getS, setS, keyD, List.map_cons, List.map_nil, List.cons_append, List.nil_append, List.length_cons, List.length_nil, List.replicate, Nat.reduceSub, Nat.reduceAdd, Nat.reduceLeDiff, Nat.reduceLT, List.set_cons_zero, List.set_cons_succ, decide_eq_true_eq, decide_eq_false_iff_not, Bool.not_eq_true', Bool.not_eq_false', true_and, and_true, forall_const, mayD, e_dictP nb]
        have i2 : isKK (m ++ [O.dct (dI one.1)] ++ [O.dct (dI yb)])[(m ++ [O.dct (dI one.1)]).length]? yb := .inl get_len
        refine wp.eq (all_prs (ps := ya) (g := fun p => leK yb p) ?_ (by omega) fun p hp => wp_of ?_) ?_
        · refine wp_of ?_
          simp only [w_some, w_var, w_c, w_op, w_un, w_anil, w_acons, w_fn (f := fLen), w_fn (f := fInt), w_fn (f := fAbs), w_fn (f := fMax2), w_fn (f := fMin2), w_fn (f := fBool), w_fn (f := fTuple), w_fn (f := fDictM), w_fn (f := fTupP), w_fn (f := fDictP), w_fn (f := fSrTup), w_fn (f := fLenD), w_tup, w_lst, w_lstM, isB_bl, w_test, w_cand, w_cor, w_cnot, w_if, w_tru, w_and, w_or, w_not, w_chain, w_chain3, isR_ref, isI_ins, isD_dct, isL_lst, w_fld, w_lm, w_dm, w_disp, w_dnil, w_dcons, w_nil, w_retN, w_break, w_cont, nxt_nx, nxt_rt, nxt_bk, nxt_ct, w_seq, w_set, w_drop, w_ret, w_sif, w_asg, w_gN, w_gT, w_gsnil, w_gscons, w_gdput, w_dput, isN_int, w_lput, w_par, w_aug, w_flds, w_flda, gives_rt, gives_nx, w_fnb, w_range1, w_range2, isS_lst, isS_rol, isS_tup, w_iseq, w_dnew, w_dc, w_mul, w_div, w_mod, w_tupP, w_dget2, w_srit, e_tupP, e_tupleL, e_tupleT, e_addPI, e_isN_non, e_isN_ptp, e_notN_non, e_notN_ptp, w_par3, w_ixptp, e_lenptp, isS_ptp, e_min2', w_for, w_iseq, e_add, e_addI, e_sub, e_cmp, e_eqI, e_neI, e_eqS, e_neS, e_eqB, e_neB, e_abs, e_int, e_max2, e_truB, e_truI, w_dget, w_ixref, w_ixlst, w_ixrol, w_ixtup, w_dref, isK_dct, isK_dctL, reduceCtorEq, false_implies, true_implies, Bool.false_eq_true, Bool.true_eq_false, e_lenlst, e_lenrol, e_lentup, w_lenref, w_ite, getS, setS, keyD, List.map_cons, List.map_nil, List.cons_append, List.nil_append, List.length_cons, List.length_nil, List.replicate, Nat.reduceSub, Nat.reduceAdd, Nat.reduceLeDiff, Nat.reduceLT, List.set_cons_zero, List.set_cons_succ, decide_eq_true_eq, decide_eq_false_iff_not, Bool.not_eq_true', Bool.not_eq_false', true_and, and_true, forall_const, ix2_1]
        · cases hv : lookP yb p.1 with
          | none =>
            simp only [w_some, w_var, w_c, w_op, w_un, w_anil, w_acons, w_fn (f := fLen), w_fn (f := fInt), w_fn (f := fAbs), w_fn (f := fMax2), w_fn (f := fMin2), w_fn (f := fBool), w_fn (f := fTuple), w_fn (f := fDictM), w_fn (f := fTupP), w_fn (f := fDictP), w_fn (f := fSrTup), w_fn (f := fLenD), w_tup, w_lst, w_lstM, isB_bl, w_test, w_cand, w_cor, w_cnot, w_if, w_tru, w_and, w_or, w_not, w_chain, w_chain3, isR_ref, isI_ins, isD_dct, isL_lst, w_fld, w_lm, w_dm, w_disp, w_dnil, w_dcons, w_nil, w_retN, w_break, w_cont, nxt_nx, nxt_rt, nxt_bk, nxt_ct, w_seq, w_set, w_drop, w_ret, w_sif, w_asg, w_gN, w_gT, w_gsnil, w_gscons, w_gdput, w_dput, isN_int, w_lput, w_par, w_aug, w_flds, w_flda, gives_rt, gives_nx, w_fnb, w_range1, w_range2, isS_lst, isS_rol, isS_tup, w_iseq, w_dnew, w_dc, w_mul, w_div, w_mod, w_tupP, w_dget2, w_srit, e_tupP, e_tupleL, e_tupleT, e_addPI, e_isN_non, e_isN_ptp, e_notN_non, e_notN_ptp, w_par3, w_ixptp, e_lenptp, isS_ptp, e_min2', w_for, w_iseq, e_add, e_addI, e_sub, e_cmp, e_eqI, e_neI, e_eqS, e_neS, e_eqB, e_neB, e_abs, e_int, e_max2, e_truB, e_truI, w_dget, w_ixref, w_ixlst, w_ixrol, w_ixtup, w_dref, isK_dct, isK_dctL, reduceCtorEq, false_implies, true_implies, Bool.false_eq_true, Bool.true_eq_false, e_lenlst, e_lenrol, e_lentup, w_lenref, w_ite, getS, setS, keyD, List.map_cons, List.map_nil, List.cons_append, List.nil_append, List.length_cons, List.length_nil, List.replicate, Nat.reduceSub, Nat.reduceAdd, Nat.reduceLeDiff, Nat.reduceLT, List.set_cons_zero, List.set_cons_succ, decide_eq_true_eq, decide_eq_false_iff_not, Bool.not_eq_true', Bool.not_eq_false', true_and, and_true, forall_const, wipeS, e_inR i2, get_len, lookD_dI, hv, Option.isSome_none, Option.map_some]
            simp [leK, hv]
          | some v =>
            simp only [w_some, w_var, w_c, w_op, w_un, w_anil, w_acons, w_fn (f := fLen), w_fn (f := fInt), w_fn (f := fAbs), w_fn (f := fMax2), w_fn (f := fMin2), w_fn (f := fBool), w_fn (f := fTuple), w_fn (f := fDictM), w_fn (f := fTupP), w_fn (f := fDictP), w_fn (f := fSrTup), w_fn (f := fLenD), w_tup, w_lst, w_lstM, isB_bl, w_test, w_cand, w_cor, w_cnot, w_if, w_tru, w_and, w_or, w_not, w_chain, w_chain3, isR_ref, isI_ins, isD_dct, isL_lst, w_fld, w_lm, w_dm, w_disp, w_dnil, w_dcons, w_nil, w_retN, w_break, w_cont, nxt_nx, nxt_rt, nxt_bk, nxt_ct, w_seq, w_set, w_drop, w_ret, w_sif, w_asg, w_gN, w_gT, w_gsnil, w_gscons, w_gdput, w_dput, isN_int, w_lput, w_par, w_aug, w_flds, w_flda, gives_rt, gives_nx, w_fnb, w_range1, w_range2, isS_lst, isS_rol, isS_tup, w_iseq, w_dnew, w_dc, w_mul, w_div, w_mod, w_tupP, w_dget2, w_srit, e_tupP, e_tupleL, e_tupleT, e_addPI, e_isN_non, e_isN_ptp, e_notN_non, e_notN_ptp, w_par3, w_ixptp, e_lenptp, isS_ptp, e_min2', w_for, w_iseq, e_add, e_addI, e_sub, e_cmp, e_eqI, e_neI, e_eqS, e_neS, e_eqB, e_neB, e_abs, e_int, e_max2, e_truB, e_truI, w_dget, w_ixref, w_ixlst, w_ixrol, w_ixtup, w_dref, isK_dct, isK_dctL, reduceCtorEq, false_implies, true_implies, Bool.false_eq_true, Bool.true_eq_false, e_lenlst, e_lenrol, e_lentup, w_lenref, w_ite, getS, setS, keyD, List.map_cons, List.map_nil, List.cons_append, List.nil_append, List.length_cons, List.length_nil, List.replicate, Nat.reduceSub, Nat.reduceAdd, Nat.reduceLeDiff, Nat.reduceLT, List.set_cons_zero, List.set_cons_succ, decide_eq_true_eq, decide_eq_false_iff_not, Bool.not_eq_true', Bool.not_eq_false', true_and, and_true, forall_const, wipeS, e_inR i2, get_len, lookD_dI, hv, Option.isSome_some, Option.map_some]
            simp [leK, hv]
        · simp only [w_some, w_var, w_c, w_op, w_un, w_anil, w_acons, w_fn (f := fLen), w_fn (f := fInt), w_fn (f := fAbs), w_fn (f := fMax2), w_fn (f := fMin2), w_fn (f := fBool), w_fn (f := fTuple), w_fn (f := fDictM), w_fn (f := fTupP), w_fn (f := fDictP), w_fn (f := fSrTup), w_fn (f := fLenD), w_tup, w_lst, w_lstM, isB_bl, w_test, w_cand, w_cor, w_cnot, w_if, w_tru, w_and, w_or, w_not, w_chain, w_chain3, isR_ref, isI_ins, isD_dct, isL_lst, w_fld, w_lm, w_dm, w_disp, w_dnil, w_dcons, w_nil, w_retN, w_break, w_cont, nxt_nx, nxt_rt, nxt_bk, nxt_ct, w_seq, w_set, w_drop, w_ret, w_sif, w_asg, w_gN, w_gT, w_gsnil, w_gscons, w_gdput, w_dput, isN_int, w_lput, w_par, w_aug, w_flds, w_flda, gives_rt, gives_nx, w_fnb, w_range1, w_range2, isS_lst, isS_rol, isS_tup, w_iseq, w_dnew, w_dc, w_mul, w_div, w_mod, w_tupP, w_dget2, w_srit, e_tupP, e_tupleL, e_tupleT, e_addPI, e_isN_non, e_isN_ptp, e_notN_non, e_notN_ptp, w_par3, w_ixptp, e_lenptp, isS_ptp, e_min2', w_for, w_iseq, e_add, e_addI, e_sub, e_cmp, e_eqI, e_neI, e_eqS, e_neS, e_eqB, e_neB, e_abs, e_int, e_max2, e_truB, e_truI, w_dget, w_ixref, w_ixlst, w_ixrol, w_ixtup, w_dref, isK_dct, isK_dctL, reduceCtorEq, false_implies, true_implies, Bool.false_eq_true, Bool.true_eq_false, e_lenlst, e_lenrol, e_lentup, w_lenref, w_ite, getS, setS, keyD, List.map_cons, List.map_nil, List.cons_append, List.nil_append, List.length_cons, List.length_nil, List.replicate, Nat.reduceSub, Nat.reduceAdd, Nat.reduceLeDiff, Nat.reduceLT, List.set_cons_zero, List.set_cons_succ, decide_eq_true_eq, decide_eq_false_iff_not, Bool.not_eq_true', Bool.not_eq_false', true_and, and_true, forall_const]
          have := q ([.dct (dI one.1)] ++ [.dct (dI yb)])
          simpa using this
end
end K03

set_option Elab.async false
set_option maxRecDepth 100000
set_option linter.unusedSimpArgs false
set_option linter.unusedVariables false
namespace K03
open PySem L2 Mini

def enP (p : Int × Int) : D := .tup [.int p.2, .int p.1]
theorem enum_row {row : List Int} : enumD (row.map D.int) = (pairsOf row).map enP := by
  unfold enumD pairsOf
  rw [List.map_map, List.length_map]
  apply List.map_congr_left
  intro i hi
  have hi' : i < row.length := by simpa using hi
  simp [enP, hi']
abbrev fstI (p : Int × Int) : Int := p.1
theorem foldl_pair {α β γ : Type} {f : α → γ → α} {g : β → γ → β} : ∀ {l : List γ} {a : α} {b : β}, l.foldl (fun s p => (f s.1 p, g s.2 p)) (a, b) = (l.foldl f a, l.foldl g b)
  | [], _, _ => rfl
  | x :: l, a, b => foldl_pair (l := l)
theorem foldl_rows {β : Type} {f : β → Int × Int → β} : ∀ {rows : Rows} {b : β}, rows.foldl (fun s row => (pairsOf row).foldl f s) b = (whereP rows).foldl f b
  | [], _ => rfl
  | r :: rows, b => by
    rw [List.foldl_cons, foldl_rows (rows := rows)]
    unfold whereP
    rw [List.flatMap_cons, List.foldl_append]
theorem fold_map {g : Int × Int → Int} {ps : Ps} (h : NK ps) : ps.foldl (Mini.putF fstI fun p => some (g p)) [] = ps.map fun p => (p.1, g p) := by
  rw [fold_put h (by intro p _ _ q; simp at q), List.nil_append]
  simp
theorem fold_id {ps : Ps} (h : NK ps) : ps.foldl (Mini.putF fstI fun p => some p.2) [] = ps := by
  rw [fold_map h]
  simp
theorem len_putF {f : Int × Int → Option Int} {d : Ps} {p : Int × Int} : (Mini.putF fstI f d p).length ≤ d.length + 1 := by
  unfold Mini.putF
  split
  · exact len_putP
  · omega
section
variable {T : Told} {line : Int} {m : M} {rows : Rows} {k : Kn} {Q : D × M → Prop}
def ageF (T : Told) (p : Int × Int) : Option Int := some (if T.lru = true then p.2 else 0)
def ageG (p : Int × Int) : Option Int := some p.2
def st2 (T : Told) (s : Ps × Ps) (p : Int × Int) : Ps × Ps := (Mini.putF fstI (ageF T) s.1 p, putF fstI ageG s.2 p)
structure ofI (T : Told) (mb : M) (R : D) (c : Nat) (n : Nat) (s : Ps × Ps) (sg : Sg) (m' : M) : Prop where
  eq : m' = mb ++ [.dct (dI s.1)] ++ [.dct (dI s.2)]
  l1 : s.1.length ≤ c * n
  l2 : s.2.length ≤ c * n
  sl : ∃ x4 x5 x6, sg = [some (.tup [.int T.S, .int T.W, .str (polS T.lru)]), some R, some (.ref mb.length), some (.ref (mb.length + 1)), x4, x5, x6]
structure ofJ (T : Told) (mb : M) (R : D) (c : Nat) (n : Nat) (s : Ps × Ps) (sg : Sg) (m' : M) : Prop where
  eq : m' = mb ++ [.dct (dI s.1)] ++ [.dct (dI s.2)]
  l1 : s.1.length ≤ c + n
  l2 : s.2.length ≤ c + n
  sl : ∃ x4 x5 x6, sg = [some (.tup [.int T.S, .int T.W, .str (polS T.lru)]), some R, some (.ref mb.length), some (.ref (mb.length + 1)), x4, x5, x6]
theorem of_wp (hn : NK (whereP rows)) (hr : rows.length ≤ 100) (hc : ∀ row ∈ rows, row.length ≤ 100) (q : ∀ G, Q (knD (ofCacheP T rows), m ++ G)) : wp (f_of_cache [toldD T, .tup (rows.map rowD)] m) Q := by
  unfold f_of_cache b_of_cache toldD
  simp only [w_some, w_var, w_c, w_op, w_un, w_anil, w_acons, w_fn (f := fLen), w_fn (f := fInt), w_fn (f := fAbs), w_fn (f := fMax2), w_fn (f := fMin2), w_fn (f := fBool), w_fn (f := fTuple), w_fn (f := fDictM), w_fn (f := fTupP), w_fn (f := fDictP), w_fn (f := fSrTup), w_fn (f := fLenD), w_tup, w_lst, w_lstM, isB_bl, w_test, w_cand, w_cor, w_cnot, w_if, w_tru, w_and, w_or, w_not, w_chain, w_chain3, isR_ref, isI_ins, isD_dct, isL_lst, w_fld, w_lm, w_dm, w_disp, w_dnil, w_dcons, w_nil, w_retN, w_break, w_cont, nxt_nx, nxt_rt, nxt_bk, nxt_ct, w_seq, w_set, w_drop, w_ret, w_sif, w_asg, w_gN, w_gT, w_gsnil, w_gscons, w_gdput, w_dput, isN_int, w_lput, w_par, w_aug, w_flds, w_flda, gives_rt, gives_nx, w_fnb, w_range1, w_range2, isS_lst, isS_rol, isS_tup, w_iseq, w_dnew, w_dc, w_mul, w_div, w_mod, w_tupP, w_dget2, w_srit, e_tupP, e_tupleL, e_tupleT, e_addPI, e_isN_non, e_isN_ptp, e_notN_non, e_notN_ptp, w_par3, w_ixptp, e_lenptp, isS_ptp, e_min2', w_for, w_iseq, e_add, e_addI, e_sub, e_cmp, e_eqI, e_neI, e_eqS, e_neS, e_eqB, e_neB, e_abs, e_int, e_max2, e_truB, e_truI, w_dget, w_ixref, w_ixlst, w_ixrol, w_ixtup, w_dref, isK_dct, isK_dctL, reduceCtorEq, false_implies, true_implies, Bool.false_eq_true, Bool.true_eq_false, e_lenlst, e_lenrol, e_lentup, w_lenref, w_ite, getS, setS, keyD, List.map_cons, List.map_nil, List.cons_append, List.nil_append, List.length_cons, List.length_nil, List.replicate, Nat.reduceSub, Nat.reduceAdd, Nat.reduceLeDiff, Nat.reduceLT, List.set_cons_zero, List.set_cons_succ, decide_eq_true_eq, decide_eq_false_iff_not, Bool.not_eq_true', Bool.not_eq_false', true_and, and_true, forall_const, len_app1]
  refine wp_foldN (n := 0) (N := rows.length) (step := fun s row => (pairsOf row).foldl (st2 T) s) (b0 := ([], [])) (ofI T m (.tup (rows.map rowD)) 100) ⟨rfl, by simp, by simp, _, _, _, rfl⟩ (by simp) ?_ ?_
  · rintro n ⟨d1, d2⟩ row sg m' hlt hx ⟨rfl, hl1, hl2, x4, x5, x6, rfl⟩
    simp only at hl1 hl2
    have hrow := hc row hx
    simp only [w_some, w_var, w_c, w_op, w_un, w_anil, w_acons, w_fn (f := fLen), w_fn (f := fInt), w_fn (f := fAbs), w_fn (f := fMax2), w_fn (f := fMin2), w_fn (f := fBool), w_fn (f := fTuple), w_fn (f := fDictM), w_fn (f := fTupP), w_fn (f := fDictP), w_fn (f := fSrTup), w_fn (f := fLenD), w_tup, w_lst, w_lstM, isB_bl, w_test, w_cand, w_cor, w_cnot, w_if, w_tru, w_and, w_or, w_not, w_chain, w_chain3, isR_ref, isI_ins, isD_dct, isL_lst, w_fld, w_lm, w_dm, w_disp, w_dnil, w_dcons, w_nil, w_retN, w_break, w_cont, nxt_nx, nxt_rt, nxt_bk, nxt_ct, w_seq, w_set, w_drop, w_ret, w_sif, w_asg, w_gN, w_gT, w_gsnil, w_gscons, w_gdput, w_dput, isN_int, w_lput, w_par, w_aug, w_flds, w_flda, gives_rt, gives_nx, w_fnb, w_range1, w_range2, isS_lst, isS_rol, isS_tup, w_iseq, w_dnew, w_dc, w_mul, w_div, w_mod, w_tupP, w_dget2, w_srit, e_tupP, e_tupleL, e_tupleT, e_addPI, e_isN_non, e_isN_ptp, e_notN_non, e_notN_ptp, w_par3, w_ixptp, e_lenptp, isS_ptp, e_min2', w_for, w_iseq, e_add, e_addI, e_sub, e_cmp, e_eqI, e_neI, e_eqS, e_neS, e_eqB, e_neB, e_abs, e_int, e_max2, e_truB, e_truI, w_dget, w_ixref, w_ixlst, w_ixrol, w_ixtup, w_dref, isK_dct, isK_dctL, reduceCtorEq, false_implies, true_implies, Bool.false_eq_true, Bool.true_eq_false, e_lenlst, e_lenrol, e_lentup, w_lenref, w_ite, getS, setS, keyD, List.map_cons, List.map_nil, List.cons_append, List.nil_append, List.length_cons, List.length_nil, List.replicate, Nat.reduceSub, Nat.reduceAdd, Nat.reduceLeDiff, Nat.reduceLT, List.set_cons_zero, List.set_cons_succ, decide_eq_true_eq, decide_eq_false_iff_not, Bool.not_eq_true', Bool.not_eq_false', true_and, and_true, forall_const, rowD, w_enum, enum_row]
    refine wp_foldN (n := 0) (N := (pairsOf row).length) (step := st2 T) (b0 := (d1, d2)) (ofJ T m (.tup (rows.map rowD)) (100 * n)) ⟨rfl, by simpa using hl1, by simpa using hl2, _, _, _, rfl⟩ (by simp) ?_ ?_
    · rintro i ⟨e1, e2⟩ ⟨l, a⟩ sg m' hi hp ⟨rfl, hm1, hm2, y4, y5, y6, rfl⟩
      have hil : i < 100 := by
        have : (pairsOf row).length = row.length := by simp [pairsOf]
        omega
      have lena := len_putP (d := e2) (k := l) (v := a)
      have lenb := len_putP (d := e1) (k := l) (v := if T.lru = true then a else 0)
      simp only at hm1 hm2
      simp only [w_some, w_var, w_c, w_op, w_un, w_anil, w_acons, w_fn (f := fLen), w_fn (f := fInt), w_fn (f := fAbs), w_fn (f := fMax2), w_fn (f := fMin2), w_fn (f := fBool), w_fn (f := fTuple), w_fn (f := fDictM), w_fn (f := fTupP), w_fn (f := fDictP), w_fn (f := fSrTup), w_fn (f := fLenD), w_tup, w_lst, w_lstM, isB_bl, w_test, w_cand, w_cor, w_cnot, w_if, w_tru, w_and, w_or, w_not, w_chain, w_chain3, isR_ref, isI_ins, isD_dct, isL_lst, w_fld, w_lm, w_dm, w_disp, w_dnil, w_dcons, w_nil, w_retN, w_break, w_cont, nxt_nx, nxt_rt, nxt_bk, nxt_ct, w_seq, w_set, w_drop, w_ret, w_sif, w_asg, w_gN, w_gT, w_gsnil, w_gscons, w_gdput, w_dput, isN_int, w_lput, w_par, w_aug, w_flds, w_flda, gives_rt, gives_nx, w_fnb, w_range1, w_range2, isS_lst, isS_rol, isS_tup, w_iseq, w_dnew, w_dc, w_mul, w_div, w_mod, w_tupP, w_dget2, w_srit, e_tupP, e_tupleL, e_tupleT, e_addPI, e_isN_non, e_isN_ptp, e_notN_non, e_notN_ptp, w_par3, w_ixptp, e_lenptp, isS_ptp, e_min2', w_for, w_iseq, e_add, e_addI, e_sub, e_cmp, e_eqI, e_neI, e_eqS, e_neS, e_eqB, e_neB, e_abs, e_int, e_max2, e_truB, e_truI, w_dget, w_ixref, w_ixlst, w_ixrol, w_ixtup, w_dref, isK_dct, isK_dctL, reduceCtorEq, false_implies, true_implies, Bool.false_eq_true, Bool.true_eq_false, e_lenlst, e_lenrol, e_lentup, w_lenref, w_ite, getS, setS, keyD, List.map_cons, List.map_nil, List.cons_append, List.nil_append, List.length_cons, List.length_nil, List.replicate, Nat.reduceSub, Nat.reduceAdd, Nat.reduceLeDiff, Nat.reduceLT, List.set_cons_zero, List.set_cons_succ, decide_eq_true_eq, decide_eq_false_iff_not, Bool.not_eq_true', Bool.not_eq_false', true_and, and_true, forall_const, enP, get_len1, get_len2, putD_dI, set_len1, set_len2, ix3_2, pol_lru]
      refine ⟨leaf_len hm2 (by omega), fun hl => ⟨leaf_len hm1 (by omega), ?_⟩, fun hl => ⟨leaf_len hm1 (by omega), ?_⟩⟩
      · rw [if_pos hl] at lenb
        have es : st2 T (e1, e2) (l, a) = (putP e1 l a, putP e2 l a) := by simp [st2, Mini.putF, ageF, ageG, hl]
        rw [es]
        exact ⟨rfl, by show (putP e1 l a).length ≤ _; omega, by show (putP e2 l a).length ≤ _; omega, _, _, _, rfl⟩
      · rw [if_neg hl] at lenb
        have es : st2 T (e1, e2) (l, a) = (putP e1 l 0, putP e2 l a) := by simp [st2, Mini.putF, ageF, ageG, hl]
        rw [es]
        exact ⟨rfl, by show (putP e1 l 0).length ≤ _; omega, by show (putP e2 l a).length ≤ _; omega, _, _, _, rfl⟩
    · rintro sg _ ⟨rfl, hm1, hm2, y4, y5, y6, rfl⟩
      have : (pairsOf row).length = row.length := by simp [pairsOf]
      exact ⟨rfl, ⟨rfl, by omega, by omega, _, _, _, rfl⟩⟩
  · rintro sg _ ⟨rfl, hl1, hl2, x4, x5, x6, rfl⟩
    have tot : rows.foldl (fun s row => (pairsOf row).foldl (st2 T) s) ([], []) = ((whereP rows).map fun p => (p.1, if T.lru = true then p.2 else 0), whereP rows) := by
      rw [foldl_rows]
      show (whereP rows).foldl (fun s p => (Mini.putF fstI (ageF T) s.1 p, putF fstI ageG s.2 p)) ([], []) = _
      rw [foldl_pair]
      exact Prod.ext (fold_map hn) (fold_id hn)
    rw [tot]
    simp only [w_some, w_var, w_c, w_op, w_un, w_anil, w_acons, w_fn (f := fLen), w_fn (f := fInt), w_fn (f := fAbs), w_fn (f := fMax2), w_fn (f := fMin2), w_fn (f := fBool), w_fn (f := fTuple), w_fn (f := fDictM), w_fn (f := fTupP), w_fn (f := fDictP), w_fn (f := fSrTup), w_fn (f := fLenD), w_tup, w_lst, w_lstM, isB_bl, w_test, w_cand, w_cor, w_cnot, w_if, w_tru, w_and, w_or, w_not, w_chain, w_chain3, isR_ref, isI_ins, isD_dct, isL_lst, w_fld, w_lm, w_dm, w_disp, w_dnil, w_dcons, w_nil, w_retN, w_break, w_cont, nxt_nx, nxt_rt, nxt_bk, nxt_ct, w_seq, w_set, w_drop, w_ret, w_sif, w_asg, w_gN, w_gT, w_gsnil, w_gscons, w_gdput, w_dput, isN_int, w_lput, w_par, w_aug, w_flds, w_flda, gives_rt, gives_nx, w_fnb, w_range1, w_range2, isS_lst, isS_rol, isS_tup, w_iseq, w_dnew, w_dc, w_mul, w_div, w_mod, w_tupP, w_dget2, w_srit, e_tupP, e_tupleL, e_tupleT, e_addPI, e_isN_non, e_isN_ptp, e_notN_non, e_notN_ptp, w_par3, w_ixptp, e_lenptp, isS_ptp, e_min2', w_for, w_iseq, e_add, e_addI, e_sub, e_cmp, e_eqI, e_neI, e_eqS, e_neS, e_eqB, e_neB, e_abs, e_int, e_max2, e_truB, e_truI, w_dget, w_ixref, w_ixlst, w_ixrol, w_ixtup, w_dref, isK_dct, isK_dctL, reduceCtorEq, false_implies, true_implies, Bool.false_eq_true, Bool.true_eq_false, e_lenlst, e_lenrol, e_lentup, w_lenref, w_ite, getS, setS, keyD, List.map_cons, List.map_nil, List.cons_append, List.nil_append, List.length_cons, List.length_nil, List.replicate, Nat.reduceSub, Nat.reduceAdd, Nat.reduceLeDiff, Nat.reduceLT, List.set_cons_zero, List.set_cons_succ, decide_eq_true_eq, decide_eq_false_iff_not, Bool.not_eq_true', Bool.not_eq_false', true_and, and_true, forall_const, get_len1, get_len2, kvPs_dI]
    have := q ([.dct (dI ((whereP rows).map fun p => (p.1, if T.lru = true then p.2 else 0)))] ++ [.dct (dI (whereP rows))])
    rw [← List.append_assoc] at this
    exact this
theorem wp_forA {α β : Type} {g : XG} {bd : XS} {enc : α → D} {step : β → α → β} {a : XE} {d : D} {sg : Sg} (I : Nat → β → Sg → M → Prop) {QS : Fl × Sg × M → Prop} {l : List α} {b0 : β} (ha : a sg m = some (d, m))
    (hd : d = .tup (l.map enc) ∨ ∃ i, d = .ref i ∧ m[i]? = some (.lst (l.map enc)) ∧ ∀ n b sg m, I n b sg m → m[i]? = some (.lst (l.map enc))) (h0 : I 0 b0 sg m) (hl : l.length < 100000)
    (st : ∀ n b x sg m, n < l.length → x ∈ l → I n b sg m → wp (g (enc x) sg m) fun p => wp (bd p.1 p.2) fun q => q.1 = .nx ∧ I (n + 1) (step b x) q.2.1 q.2.2) (fin : ∀ sg m, I l.length (l.foldl step b0) sg m → QS (.nx, sg, m)) :
    wp (sForA 100000 a g bd sg m) QS := by
  unfold sForA
  rw [ha]
  rcases hd with rfl | ⟨i, rfl, hm, hI⟩
  · simp only [isRefD]
    rw [w_for, w_iseq, ha, w_some, isS_tup]
    exact wp_foldN (n := 0) I h0 (by simp) st fin
  · simp only [isRefD]
    rw [w_forL, ha, w_some, isR_ref]
    rw [hm, isL_lst]
    refine wp_loopL (ds := l.map enc) (fun j sg m => I j ((l.take j).foldl step b0) sg m) (fun j sg m h => hI j _ sg m h) ?_ ?_ 100000 0 sg m h0 (by simp) (by simp; omega)
    · intro j x sg m hj h
      rw [List.getElem?_map] at hj
      obtain ⟨y, hy, rfl⟩ := Option.map_eq_some_iff.mp hj
      obtain ⟨hlt, hy'⟩ := List.getElem?_eq_some_iff.mp hy
      refine (st j _ y sg m hlt (List.mem_of_getElem? hy) h).mono fun p hp => hp.mono ?_
      rintro ⟨fl, s2, m2⟩ ⟨e, h2⟩
      simp only at e h2
      subst e
      show I (j + 1) ((l.take (j + 1)).foldl step b0) s2 m2
      rw [List.take_succ_eq_append_getElem hlt, List.foldl_append, hy']
      exact h2
    · intro sg m h
      rw [List.length_map, List.take_length] at h
      exact fin sg m h
structure holI (T : Told) (mb : M) (k : Kn) (R : D) (c : Nat) (n : Nat) (d : Ps) (sg : Sg) (m' : M) : Prop where
  eq : m' = mb ++ [.dct (dI d)]
  l1 : d.length ≤ c * n
  sl : ∃ x6 x7 x8, sg = [some (.tup [.int T.S, .int T.W, .str (polS T.lru)]), some (knD k), some R, some (.ptp (k.1.map prD)), some (mayD k.2), some (.ref mb.length), x6, x7, x8]
structure holJ (T : Told) (mb : M) (k : Kn) (R : D) (row : List Int) (c : Nat) (n : Nat) (d : Ps) (sg : Sg) (m' : M) : Prop where
  eq : m' = mb ++ [.dct (dI d)]
  l1 : d.length ≤ c + n
  sl : ∃ x7 x8, sg = [some (.tup [.int T.S, .int T.W, .str (polS T.lru)]), some (knD k), some R, some (.ptp (k.1.map prD)), some (mayD k.2), some (.ref mb.length), some (rowD row), x7, x8]
def RowsAt (d : D) (m : M) (rows : Rows) : Prop := d = .tup (rows.map rowD) ∨ ∃ i, d = .ref i ∧ m[i]? = some (.lst (rows.map rowD))
theorem holds_wp {R : D} (hR : RowsAt R m rows) (hn : NK (whereP rows)) (hr : rows.length ≤ 100) (hc : ∀ row ∈ rows, row.length ≤ 100) (hk : KB k) (hh : holdsP T k rows = true) (q : ∀ G, Q (.bl true, m ++ G)) : wp (f__law_holds [toldD T, knD k, R] m) Q := by
  have l1 := hk.len
  have hmust : ∀ p ∈ k.1, okMust T (whereP rows) p = true := by
    unfold holdsP at hh
    split at hh
    · cases hh
    · rename_i h
      intro p hp
      cases e : okMust T (whereP rows) p with
      | true => rfl
      | false => exact absurd (List.any_eq_true.mpr ⟨p, hp, by rw [e]; rfl⟩) h
  have hmay : ∀ may, k.2 = some may → ∀ p ∈ whereP rows, okMay T may p = true := by
    intro may e
    unfold holdsP at hh
    split at hh
    · cases hh
    · rw [e] at hh
      exact List.all_eq_true.mp hh
  unfold f__law_holds b__law_holds
  rw [w_fnb]
  refine ⟨rfl, ?_⟩
  simp only [w_some, w_var, w_c, w_op, w_un, w_anil, w_acons, w_fn (f := fLen), w_fn (f := fInt), w_fn (f := fAbs), w_fn (f := fMax2), w_fn (f := fMin2), w_fn (f := fBool), w_fn (f := fTuple), w_fn (f := fDictM), w_fn (f := fTupP), w_fn (f := fDictP), w_fn (f := fSrTup), w_fn (f := fLenD), w_tup, w_lst, w_lstM, isB_bl, w_test, w_cand, w_cor, w_cnot, w_if, w_tru, w_and, w_or, w_not, w_chain, w_chain3, isR_ref, isI_ins, isD_dct, isL_lst, w_fld, w_lm, w_dm, w_disp, w_dnil, w_dcons, w_nil, w_retN, w_break, w_cont, nxt_nx, nxt_rt, nxt_bk, nxt_ct, w_seq, w_set, w_drop, w_ret, w_sif, w_asg, w_gN, w_gT, w_gsnil, w_gscons, w_gdput, w_dput, isN_int, w_lput, w_par, w_aug, w_flds, w_flda, gives_rt, gives_nx, w_fnb, w_range1, w_range2, isS_lst, isS_rol, isS_tup, w_iseq, w_dnew, w_dc, w_mul, w_div, w_mod, w_tupP, w_dget2, w_srit, e_tupP, e_tupleL, e_tupleT, e_addPI, e_isN_non, e_isN_ptp, e_notN_non, e_notN_ptp, w_par3, w_ixptp, e_lenptp, isS_ptp, e_min2', w_for, w_iseq, e_add, e_addI, e_sub, e_cmp, e_eqI, e_neI, e_eqS, e_neS, e_eqB, e_neB, e_abs, e_int, e_max2, e_truB, e_truI, w_dget, w_ixref, w_ixlst, w_ixrol, w_ixtup, w_dref, isK_dct, isK_dctL, reduceCtorEq, false_implies, true_implies, Bool.false_eq_true, Bool.true_eq_false, e_lenlst, e_lenrol, e_lentup, w_lenref, w_ite, getS, setS, keyD, List.map_cons, List.map_nil, List.cons_append, List.nil_append, List.length_cons, List.length_nil, List.replicate, Nat.reduceSub, Nat.reduceAdd, Nat.reduceLeDiff, Nat.reduceLT, List.set_cons_zero, List.set_cons_succ, decide_eq_true_eq, decide_eq_false_iff_not, Bool.not_eq_true', Bool.not_eq_false', true_and, and_true, forall_const]
  rw [show knD k = .tup [.ptp (k.1.map prD), mayD k.2] from rfl]
  simp only [w_some, w_var, w_c, w_op, w_un, w_anil, w_acons, w_fn (f := fLen), w_fn (f := fInt), w_fn (f := fAbs), w_fn (f := fMax2), w_fn (f := fMin2), w_fn (f := fBool), w_fn (f := fTuple), w_fn (f := fDictM), w_fn (f := fTupP), w_fn (f := fDictP), w_fn (f := fSrTup), w_fn (f := fLenD), w_tup, w_lst, w_lstM, isB_bl, w_test, w_cand, w_cor, w_cnot, w_if, w_tru, w_and, w_or, w_not, w_chain, w_chain3, isR_ref, isI_ins, isD_dct, isL_lst, w_fld, w_lm, w_dm, w_disp, w_dnil, w_dcons, w_nil, w_retN, w_break, w_cont, nxt_nx, nxt_rt, nxt_bk, nxt_ct, w_seq, w_set, w_drop, w_ret, w_sif, w_asg, w_gN, w_gT, w_gsnil, w_gscons, w_gdput, w_dput, isN_int, w_lput, w_par, w_aug, w_flds, w_flda, gives_rt, gives_nx, w_fnb, w_range1, w_range2, isS_lst, isS_rol, isS_tup, w_iseq, w_dnew, w_dc, w_mul, w_div, w_mod, w_tupP, w_dget2, w_srit, e_tupP, e_tupleL, e_tupleT, e_addPI, e_isN_non, e_isN_ptp, e_notN_non, e_notN_ptp, w_par3, w_ixptp, e_lenptp, isS_ptp, e_min2', w_for, w_iseq, e_add, e_addI, e_sub, e_cmp, e_eqI, e_neI, e_eqS, e_neS, e_eqB, e_neB, e_abs, e_int, e_max2, e_truB, e_truI, w_dget, w_ixref, w_ixlst, w_ixrol, w_ixtup, w_dref, isK_dct, isK_dctL, reduceCtorEq, false_implies, true_implies, Bool.false_eq_true, Bool.true_eq_false, e_lenlst, e_lenrol, e_lentup, w_lenref, w_ite, getS, setS, keyD, List.map_cons, List.map_nil, List.cons_append, List.nil_append, List.length_cons, List.length_nil, List.replicate, Nat.reduceSub, Nat.reduceAdd, Nat.reduceLeDiff, Nat.reduceLT, List.set_cons_zero, List.set_cons_succ, decide_eq_true_eq, decide_eq_false_iff_not, Bool.not_eq_true', Bool.not_eq_false', true_and, and_true, forall_const]
  rw [show D.tup [.ptp (k.1.map prD), mayD k.2] = knD k from rfl]
  have hlist : ∀ i, R = .ref i → m[i]? = some (.lst (rows.map rowD)) → ∀ n d sg m', holI T m k R 100 n d sg m' → m'[i]? = some (.lst (rows.map rowD)) := by
    rintro i rfl hm n d sg m' ⟨rfl, _, _⟩
    exact get_app hm _
  refine wp_forA (l := rows) (enc := rowD) (b0 := ([] : Ps)) (step := fun d row => (pairsOf row).foldl (Mini.putF fstI ageG) d) (holI T m k R 100) (d := R) (by refine wp_of ?_; simp only [w_some, w_var, w_c, w_op, w_un, w_anil, w_acons, w_fn (f := fLen), w_fn (f := fInt), w_fn (f := fAbs), w_fn (f := fMax2), w_fn (f := fMin2), w_fn (f := fBool), w_fn (f := fTuple), w_fn (f := fDictM), w_fn (f := fTupP), w_fn (f := fDictP), w_fn (f := fSrTup), w_fn (f := fLenD), w_tup, w_lst, w_lstM, isB_bl, w_test, w_cand, w_cor, w_cnot, w_if, w_tru, w_and, w_or, w_not, w_chain, w_chain3, isR_ref, isI_ins, isD_dct, isL_lst, w_fld, w_lm, w_dm, w_disp, w_dnil, w_dcons, w_nil, w_retN, w_break, w_cont, nxt_nx, nxt_rt, nxt_bk, nxt_ct, w_seq, w_set, w_drop, w_ret, w_sif, w_asg, w_gN, w_gT, w_gsnil, w_gscons, w_gdput, w_dput, isN_int, w_lput, w_par, w_aug, w_flds, w_flda, gives_rt, gives_nx, w_fnb, w_range1, w_range2, isS_lst, isS_rol, isS_tup, w_iseq, w_dnew, w_dc, w_mul, w_div, w_mod, w_tupP, w_dget2, w_srit, e_tupP, e_tupleL, e_tupleT, e_addPI, e_isN_non, e_isN_ptp, e_notN_non, e_notN_ptp, w_par3, w_ixptp, e_lenptp, isS_ptp, e_min2', w_for, w_iseq, e_add, e_addI, e_sub, e_cmp, e_eqI, e_neI, e_eqS, e_neS, e_eqB, e_neB, e_abs, e_int, e_max2, e_truB, e_truI, w_dget, w_ixref, w_ixlst, w_ixrol, w_ixtup, w_dref, isK_dct, isK_dctL, reduceCtorEq, false_implies, true_implies, Bool.false_eq_true, Bool.true_eq_false, e_lenlst, e_lenrol, e_lentup, w_lenref, w_ite, getS, setS, keyD, List.map_cons, List.map_nil, List.cons_append, List.nil_append, List.length_cons, List.length_nil, List.replicate, Nat.reduceSub, Nat.reduceAdd, Nat.reduceLeDiff, Nat.reduceLT, List.set_cons_zero, List.set_cons_succ, decide_eq_true_eq, decide_eq_false_iff_not, Bool.not_eq_true', Bool.not_eq_false', true_and, and_true, forall_const]) ?_ ⟨rfl, by simp, _, _, _, rfl⟩ (by omega) ?_ ?_
  · rcases hR with h | ⟨i, h, hm⟩
    · exact .inl h
    · exact .inr ⟨i, h, get_app hm _, hlist i h hm⟩
  · rintro n d row sg m' hlt hx ⟨rfl, hl, x6, x7, x8, rfl⟩
    have hrow := hc row hx
    simp only [w_some, w_var, w_c, w_op, w_un, w_anil, w_acons, w_fn (f := fLen), w_fn (f := fInt), w_fn (f := fAbs), w_fn (f := fMax2), w_fn (f := fMin2), w_fn (f := fBool), w_fn (f := fTuple), w_fn (f := fDictM), w_fn (f := fTupP), w_fn (f := fDictP), w_fn (f := fSrTup), w_fn (f := fLenD), w_tup, w_lst, w_lstM, isB_bl, w_test, w_cand, w_cor, w_cnot, w_if, w_tru, w_and, w_or, w_not, w_chain, w_chain3, isR_ref, isI_ins, isD_dct, isL_lst, w_fld, w_lm, w_dm, w_disp, w_dnil, w_dcons, w_nil, w_retN, w_break, w_cont, nxt_nx, nxt_rt, nxt_bk, nxt_ct, w_seq, w_set, w_drop, w_ret, w_sif, w_asg, w_gN, w_gT, w_gsnil, w_gscons, w_gdput, w_dput, isN_int, w_lput, w_par, w_aug, w_flds, w_flda, gives_rt, gives_nx, w_fnb, w_range1, w_range2, isS_lst, isS_rol, isS_tup, w_iseq, w_dnew, w_dc, w_mul, w_div, w_mod, w_tupP, w_dget2, w_srit, e_tupP, e_tupleL, e_tupleT, e_addPI, e_isN_non, e_isN_ptp, e_notN_non, e_notN_ptp, w_par3, w_ixptp, e_lenptp, isS_ptp, e_min2', w_for, w_iseq, e_add, e_addI, e_sub, e_cmp, e_eqI, e_neI, e_eqS, e_neS, e_eqB, e_neB, e_abs, e_int, e_max2, e_truB, e_truI, w_dget, w_ixref, w_ixlst, w_ixrol, w_ixtup, w_dref, isK_dct, isK_dctL, reduceCtorEq, false_implies, true_implies, Bool.false_eq_true, Bool.true_eq_false, e_lenlst, e_lenrol, e_lentup, w_lenref, w_ite, getS, setS, keyD, List.map_cons, List.map_nil, List.cons_append, List.nil_append, List.length_cons, List.length_nil, List.replicate, Nat.reduceSub, Nat.reduceAdd, Nat.reduceLeDiff, Nat.reduceLT, List.set_cons_zero, List.set_cons_succ, decide_eq_true_eq, decide_eq_false_iff_not, Bool.not_eq_true', Bool.not_eq_false', true_and, and_true, forall_const, rowD, List.length_map]
    refine ⟨by omega, ?_⟩
    rw [show ((row.length : Int)).toNat = row.length by omega, rangeD_zero]
    refine wp_foldN (n := 0) (N := row.length) (l := List.range row.length) (b0 := d) (step := fun d (i : Nat) => Mini.putF fstI ageG d (row.getD i 0, (i : Int))) (holJ T m k R row (100 * n)) ⟨rfl, by simpa using hl, _, _, rfl⟩ (by simp) ?_ ?_
    · rintro j e i sg m' hj hi ⟨rfl, hm, y7, y8, rfl⟩
      have hi' : i < row.length := by simpa using hi
      simp only [w_some, w_var, w_c, w_op, w_un, w_anil, w_acons, w_fn (f := fLen), w_fn (f := fInt), w_fn (f := fAbs), w_fn (f := fMax2), w_fn (f := fMin2), w_fn (f := fBool), w_fn (f := fTuple), w_fn (f := fDictM), w_fn (f := fTupP), w_fn (f := fDictP), w_fn (f := fSrTup), w_fn (f := fLenD), w_tup, w_lst, w_lstM, isB_bl, w_test, w_cand, w_cor, w_cnot, w_if, w_tru, w_and, w_or, w_not, w_chain, w_chain3, isR_ref, isI_ins, isD_dct, isL_lst, w_fld, w_lm, w_dm, w_disp, w_dnil, w_dcons, w_nil, w_retN, w_break, w_cont, nxt_nx, nxt_rt, nxt_bk, nxt_ct, w_seq, w_set, w_drop, w_ret, w_sif, w_asg, w_gN, w_gT, w_gsnil, w_gscons, w_gdput, w_dput, isN_int, w_lput, w_par, w_aug, w_flds, w_flda, gives_rt, gives_nx, w_fnb, w_range1, w_range2, isS_lst, isS_rol, isS_tup, w_iseq, w_dnew, w_dc, w_mul, w_div, w_mod, w_tupP, w_dget2, w_srit, e_tupP, e_tupleL, e_tupleT, e_addPI, e_isN_non, e_isN_ptp, e_notN_non, e_notN_ptp, w_par3, w_ixptp, e_lenptp, isS_ptp, e_min2', w_for, w_iseq, e_add, e_addI, e_sub, e_cmp, e_eqI, e_neI, e_eqS, e_neS, e_eqB, e_neB, e_abs, e_int, e_max2, e_truB, e_truI, w_dget, w_ixref, w_ixlst, w_ixrol, w_ixtup, w_dref, isK_dct, isK_dctL, reduceCtorEq, false_implies, true_implies, Bool.false_eq_true, Bool.true_eq_false, e_lenlst, e_lenrol, e_lentup, w_lenref, w_ite, getS, setS, keyD, List.map_cons, List.map_nil, List.cons_append, List.nil_append, List.length_cons, List.length_nil, List.replicate, Nat.reduceSub, Nat.reduceAdd, Nat.reduceLeDiff, Nat.reduceLT, List.set_cons_zero, List.set_cons_succ, decide_eq_true_eq, decide_eq_false_iff_not, Bool.not_eq_true', Bool.not_eq_false', true_and, and_true, forall_const, iD, rowD, atIN, List.getElem?_map]
      have hv : row[i]? = some (row.getD i 0) := by simp [hi']
      rw [hv, Option.map_some, w_some]
      simp only [w_some, w_var, w_c, w_op, w_un, w_anil, w_acons, w_fn (f := fLen), w_fn (f := fInt), w_fn (f := fAbs), w_fn (f := fMax2), w_fn (f := fMin2), w_fn (f := fBool), w_fn (f := fTuple), w_fn (f := fDictM), w_fn (f := fTupP), w_fn (f := fDictP), w_fn (f := fSrTup), w_fn (f := fLenD), w_tup, w_lst, w_lstM, isB_bl, w_test, w_cand, w_cor, w_cnot, w_if, w_tru, w_and, w_or, w_not, w_chain, w_chain3, isR_ref, isI_ins, isD_dct, isL_lst, w_fld, w_lm, w_dm, w_disp, w_dnil, w_dcons, w_nil, w_retN, w_break, w_cont, nxt_nx, nxt_rt, nxt_bk, nxt_ct, w_seq, w_set, w_drop, w_ret, w_sif, w_asg, w_gN, w_gT, w_gsnil, w_gscons, w_gdput, w_dput, isN_int, w_lput, w_par, w_aug, w_flds, w_flda, gives_rt, gives_nx, w_fnb, w_range1, w_range2, isS_lst, isS_rol, isS_tup, w_iseq, w_dnew, w_dc, w_mul, w_div, w_mod, w_tupP, w_dget2, w_srit, e_tupP, e_tupleL, e_tupleT, e_addPI, e_isN_non, e_isN_ptp, e_notN_non, e_notN_ptp, w_par3, w_ixptp, e_lenptp, isS_ptp, e_min2', w_for, w_iseq, e_add, e_addI, e_sub, e_cmp, e_eqI, e_neI, e_eqS, e_neS, e_eqB, e_neB, e_abs, e_int, e_max2, e_truB, e_truI, w_dget, w_ixref, w_ixlst, w_ixrol, w_ixtup, w_dref, isK_dct, isK_dctL, reduceCtorEq, false_implies, true_implies, Bool.false_eq_true, Bool.true_eq_false, e_lenlst, e_lenrol, e_lentup, w_lenref, w_ite, getS, setS, keyD, List.map_cons, List.map_nil, List.cons_append, List.nil_append, List.length_cons, List.length_nil, List.replicate, Nat.reduceSub, Nat.reduceAdd, Nat.reduceLeDiff, Nat.reduceLT, List.set_cons_zero, List.set_cons_succ, decide_eq_true_eq, decide_eq_false_iff_not, Bool.not_eq_true', Bool.not_eq_false', true_and, and_true, forall_const, get_len, putD_dI, set_len]
      have := len_putP (d := e) (k := row.getD i 0) (v := (i : Int))
      refine ⟨leaf_len hm (by omega), rfl, ?_, _, _, rfl⟩
      show (putP e (row.getD i 0) i).length ≤ _
      omega
    · rintro sg _ ⟨rfl, hm, y7, y8, rfl⟩
      have e : (pairsOf row).foldl (Mini.putF fstI ageG) d = (List.range row.length).foldl (fun d (i : Nat) => Mini.putF fstI ageG d (row.getD i 0, (i : Int))) d := by
        unfold pairsOf
        rw [List.foldl_map]
      refine ⟨rfl, by rw [e], ?_, _, _, _, rfl⟩
      rw [e]
      omega
  · rintro sg _ ⟨rfl, hl, x6, x7, x8, rfl⟩
    have tot : rows.foldl (fun d row => (pairsOf row).foldl (Mini.putF fstI ageG) d) [] = whereP rows := by
      rw [foldl_rows]
      exact fold_id hn
    rw [tot] at hl ⊢
    simp only [w_some, w_var, w_c, w_op, w_un, w_anil, w_acons, w_fn (f := fLen), w_fn (f := fInt), w_fn (f := fAbs), w_fn (f := fMax2), w_fn (f := fMin2), w_fn (f := fBool), w_fn (f := fTuple), w_fn (f := fDictM), w_fn (f := fTupP), w_fn (f := fDictP), w_fn (f := fSrTup), w_fn (f := fLenD), w_tup, w_lst, w_lstM, isB_bl, w_test, w_cand, w_cor, w_cnot, w_if, w_tru, w_and, w_or, w_not, w_chain, w_chain3, isR_ref, isI_ins, isD_dct, isL_lst, w_fld, w_lm, w_dm, w_disp, w_dnil, w_dcons, w_nil, w_retN, w_break, w_cont, nxt_nx, nxt_rt, nxt_bk, nxt_ct, w_seq, w_set, w_drop, w_ret, w_sif, w_asg, w_gN, w_gT, w_gsnil, w_gscons, w_gdput, w_dput, isN_int, w_lput, w_par, w_aug, w_flds, w_flda, gives_rt, gives_nx, w_fnb, w_range1, w_range2, isS_lst, isS_rol, isS_tup, w_iseq, w_dnew, w_dc, w_mul, w_div, w_mod, w_tupP, w_dget2, w_srit, e_tupP, e_tupleL, e_tupleT, e_addPI, e_isN_non, e_isN_ptp, e_notN_non, e_notN_ptp, w_par3, w_ixptp, e_lenptp, isS_ptp, e_min2', w_for, w_iseq, e_add, e_addI, e_sub, e_cmp, e_eqI, e_neI, e_eqS, e_neS, e_eqB, e_neB, e_abs, e_int, e_max2, e_truB, e_truI, w_dget, w_ixref, w_ixlst, w_ixrol, w_ixtup, w_dref, isK_dct, isK_dctL, reduceCtorEq, false_implies, true_implies, Bool.false_eq_true, Bool.true_eq_false, e_lenlst, e_lenrol, e_lentup, w_lenref, w_ite, getS, setS, keyD, List.map_cons, List.map_nil, List.cons_append, List.nil_append, List.length_cons, List.length_nil, List.replicate, Nat.reduceSub, Nat.reduceAdd, Nat.reduceLeDiff, Nat.reduceLT, List.set_cons_zero, List.set_cons_succ, decide_eq_true_eq, decide_eq_false_iff_not, Bool.not_eq_true', Bool.not_eq_false', true_and, and_true, forall_const]
    have i1 : isKK (m ++ [O.dct (dI (whereP rows))])[m.length]? (whereP rows) := .inl get_len
    refine wp.eq (any_prs (ps := k.1) (g := fun p => !okMust T (whereP rows) p) ?_ (by omega) fun p hp => wp_of ?_) ?_
    · refine wp_of ?_
      simp only [w_some, w_var, w_c, w_op, w_un, w_anil, w_acons, w_fn (f := fLen), w_fn (f := fInt), w_fn (f := fAbs), w_fn (f := fMax2), w_fn (f := fMin2), w_fn (f := fBool), w_fn (f := fTuple), w_fn (f := fDictM), w_fn (f := fTupP), w_fn (f := fDictP), w_fn (f := fSrTup), w_fn (f := fLenD), w_tup, w_lst, w_lstM, isB_bl, w_test, w_cand, w_cor, w_cnot, w_if, w_tru, w_and, w_or, w_not, w_chain, w_chain3, isR_ref, isI_ins, isD_dct, isL_lst, w_fld, w_lm, w_dm, w_disp, w_dnil, w_dcons, w_nil, w_retN, w_break, w_cont, nxt_nx, nxt_rt, nxt_bk, nxt_ct, w_seq, w_set, w_drop, w_ret, w_sif, w_asg, w_gN, w_gT, w_gsnil, w_gscons, w_gdput, w_dput, isN_int, w_lput, w_par, w_aug, w_flds, w_flda, gives_rt, gives_nx, w_fnb, w_range1, w_range2, isS_lst, isS_rol, isS_tup, w_iseq, w_dnew, w_dc, w_mul, w_div, w_mod, w_tupP, w_dget2, w_srit, e_tupP, e_tupleL, e_tupleT, e_addPI, e_isN_non, e_isN_ptp, e_notN_non, e_notN_ptp, w_par3, w_ixptp, e_lenptp, isS_ptp, e_min2', w_for, w_iseq, e_add, e_addI, e_sub, e_cmp, e_eqI, e_neI, e_eqS, e_neS, e_eqB, e_neB, e_abs, e_int, e_max2, e_truB, e_truI, w_dget, w_ixref, w_ixlst, w_ixrol, w_ixtup, w_dref, isK_dct, isK_dctL, reduceCtorEq, false_implies, true_implies, Bool.false_eq_true, Bool.true_eq_false, e_lenlst, e_lenrol, e_lentup, w_lenref, w_ite, getS, setS, keyD, List.map_cons, List.map_nil, List.cons_append, List.nil_append, List.length_cons, List.length_nil, List.replicate, Nat.reduceSub, Nat.reduceAdd, Nat.reduceLeDiff, Nat.reduceLT, List.set_cons_zero, List.set_cons_succ, decide_eq_true_eq, decide_eq_false_iff_not, Bool.not_eq_true', Bool.not_eq_false', true_and, and_true, forall_const]
    · cases hv : lookP (whereP rows) p.1 with
      | none =>
        have := hmust p hp
        unfold okMust at this
        rw [hv] at this
        cases this
      | some v =>
        simp only [w_some, w_var, w_c, w_op, w_un, w_anil, w_acons, w_fn (f := fLen), w_fn (f := fInt), w_fn (f := fAbs), w_fn (f := fMax2), w_fn (f := fMin2), w_fn (f := fBool), w_fn (f := fTuple), w_fn (f := fDictM), w_fn (f := fTupP), w_fn (f := fDictP), w_fn (f := fSrTup), w_fn (f := fLenD), w_tup, w_lst, w_lstM, isB_bl, w_test, w_cand, w_cor, w_cnot, w_if, w_tru, w_and, w_or, w_not, w_chain, w_chain3, isR_ref, isI_ins, isD_dct, isL_lst, w_fld, w_lm, w_dm, w_disp, w_dnil, w_dcons, w_nil, w_retN, w_break, w_cont, nxt_nx, nxt_rt, nxt_bk, nxt_ct, w_seq, w_set, w_drop, w_ret, w_sif, w_asg, w_gN, w_gT, w_gsnil, w_gscons, w_gdput, w_dput, isN_int, w_lput, w_par, w_aug, w_flds, w_flda, gives_rt, gives_nx, w_fnb, w_range1, w_range2, isS_lst, isS_rol, isS_tup, w_iseq, w_dnew, w_dc, w_mul, w_div, w_mod, w_tupP, w_dget2, w_srit, e_tupP, e_tupleL, e_tupleT, e_addPI, e_isN_non, e_isN_ptp, e_notN_non, e_notN_ptp, w_par3, w_ixptp, e_lenptp, isS_ptp, e_min2', w_for, w_iseq, e_add, e_addI, e_sub, e_cmp, e_eqI, e_neI, e_eqS, e_neS, e_eqB, e_neB, e_abs, e_int, e_max2, e_truB, e_truI, w_dget, w_ixref, w_ixlst, w_ixrol, w_ixtup, w_dref, isK_dct, isK_dctL, reduceCtorEq, false_implies, true_implies, Bool.false_eq_true, Bool.true_eq_false, e_lenlst, e_lenrol, e_lentup, w_lenref, w_ite, getS, setS, keyD, List.map_cons, List.map_nil, List.cons_append, List.nil_append, List.length_cons, List.length_nil, List.replicate, Nat.reduceSub, Nat.reduceAdd, Nat.reduceLeDiff, Nat.reduceLT, List.set_cons_zero, List.set_cons_succ, decide_eq_true_eq, decide_eq_false_iff_not, Bool.not_eq_true', Bool.not_eq_false', true_and, and_true, forall_const, wipeS, e_notinR i1, get_len, lookD_dI, hv, Option.isSome_some, Option.map_some, ix3_2, pol_lru]
        cases hlru : T.lru <;> simp [okMust, hv, hlru]
    have hany : (k.1.any fun p => !okMust T (whereP rows) p) = false := by
      rw [List.any_eq_false]
      intro p hp
      rw [hmust p hp]
      simp
    rw [hany]
    simp only [w_some, w_var, w_c, w_op, w_un, w_anil, w_acons, w_fn (f := fLen), w_fn (f := fInt), w_fn (f := fAbs), w_fn (f := fMax2), w_fn (f := fMin2), w_fn (f := fBool), w_fn (f := fTuple), w_fn (f := fDictM), w_fn (f := fTupP), w_fn (f := fDictP), w_fn (f := fSrTup), w_fn (f := fLenD), w_tup, w_lst, w_lstM, isB_bl, w_test, w_cand, w_cor, w_cnot, w_if, w_tru, w_and, w_or, w_not, w_chain, w_chain3, isR_ref, isI_ins, isD_dct, isL_lst, w_fld, w_lm, w_dm, w_disp, w_dnil, w_dcons, w_nil, w_retN, w_break, w_cont, nxt_nx, nxt_rt, nxt_bk, nxt_ct, w_seq, w_set, w_drop, w_ret, w_sif, w_asg, w_gN, w_gT, w_gsnil, w_gscons, w_gdput, w_dput, isN_int, w_lput, w_par, w_aug, w_flds, w_flda, gives_rt, gives_nx, w_fnb, w_range1, w_range2, isS_lst, isS_rol, isS_tup, w_iseq, w_dnew, w_dc, w_mul, w_div, w_mod, w_tupP, w_dget2, w_srit, e_tupP, e_tupleL, e_tupleT, e_addPI, e_isN_non, e_isN_ptp, e_notN_non, e_notN_ptp, w_par3, w_ixptp, e_lenptp, isS_ptp, e_min2', w_for, w_iseq, e_add, e_addI, e_sub, e_cmp, e_eqI, e_neI, e_eqS, e_neS, e_eqB, e_neB, e_abs, e_int, e_max2, e_truB, e_truI, w_dget, w_ixref, w_ixlst, w_ixrol, w_ixtup, w_dref, isK_dct, isK_dctL, reduceCtorEq, false_implies, true_implies, Bool.false_eq_true, Bool.true_eq_false, e_lenlst, e_lenrol, e_lentup, w_lenref, w_ite, getS, setS, keyD, List.map_cons, List.map_nil, List.cons_append, List.nil_append, List.length_cons, List.length_nil, List.replicate, Nat.reduceSub, Nat.reduceAdd, Nat.reduceLeDiff, Nat.reduceLT, List.set_cons_zero, List.set_cons_succ, decide_eq_true_eq, decide_eq_false_iff_not, Bool.not_eq_true', Bool.not_eq_false', true_and, and_true, forall_const]
    cases hy : k.2 with
    | none =>
      simp only [w_some, w_var, w_c, w_op, w_un, w_anil, w_acons, w_fn (f := fLen), w_fn (f := fInt), w_fn (f := fAbs), w_fn (f := fMax2), w_fn (f := fMin2), w_fn (f := fBool), w_fn (f := fTuple), w_fn (f := fDictM), w_fn (f := fTupP), w_fn (f := fDictP), w_fn (f := fSrTup), w_fn (f := fLenD), w_tup, w_lst, w_lstM, isB_bl, w_test, w_cand, w_cor, w_cnot, w_if, w_tru, w_and, w_or, w_not, w_chain, w_chain3, isR_ref, isI_ins, isD_dct, isL_lst, w_fld, w_lm, w_dm, w_disp, w_dnil, w_dcons, w_nil, w_retN, w_break, w_cont, nxt_nx, nxt_rt, nxt_bk, nxt_ct, w_seq, w_set, w_drop, w_ret, w_sif, w_asg, w_gN, w_gT, w_gsnil, w_gscons, w_gdput, w_dput, isN_int, w_lput, w_par, w_aug, w_flds, w_flda, gives_rt, gives_nx, w_fnb, w_range1, w_range2, isS_lst, isS_rol, isS_tup, w_iseq, w_dnew, w_dc, w_mul, w_div, w_mod, w_tupP, w_dget2, w_srit, e_tupP, e_tupleL, e_tupleT, e_addPI, e_isN_non, e_isN_ptp, e_notN_non, e_notN_ptp, w_par3, w_ixptp, e_lenptp, isS_ptp, e_min2', w_for, w_iseq, e_add, e_addI, e_sub, e_cmp, e_eqI, e_neI, e_eqS, e_neS, e_eqB, e_neB, e_abs, e_int, e_max2, e_truB, e_truI, w_dget, w_ixref, w_ixlst, w_ixrol, w_ixtup, w_dref, isK_dct, isK_dctL, reduceCtorEq, false_implies, true_implies, Bool.false_eq_true, Bool.true_eq_false, e_lenlst, e_lenrol, e_lentup, w_lenref, w_ite, getS, setS, keyD, List.map_cons, List.map_nil, List.cons_append, List.nil_append, List.length_cons, List.length_nil, List.replicate, Nat.reduceSub, Nat.reduceAdd, Nat.reduceLeDiff, Nat.reduceLT, List.set_cons_zero, List.set_cons_succ, decide_eq_true_eq, decide_eq_false_iff_not, Bool.not_eq_true', Bool.not_eq_false', true_and, and_true, forall_const, mayD]
      exact q _
    | some may =>
      obtain ⟨nm, lm⟩ := hk.y may hy
      have hm := hmay may hy
      simp only [w_some, w_var, w_c, w_op, w_un, w_anil, w_acons, w_fn (f := fLen), w_fn (f := fInt), w_fn (f := fAbs), w_fn (f := fMax2), w_fn (f := fMin2), w_fn (f := fBool), w_fn (f := fTuple), w_fn (f := fDictM), w_fn (f := fTupP), w_fn (f := fDictP), w_fn (f := fSrTup), w_fn (f := fLenD), w_tup, w_lst, w_lstM, isB_bl, w_test, w_cand, w_cor, w_cnot, w_if, w_tru, w_and, w_or, w_not, w_chain, w_chain3, isR_ref, isI_ins, isD_dct, isL_lst, w_fld, w_lm, w_dm, w_disp, w_dnil, w_dcons, w_nil, w_retN, w_break, w_cont, nxt_nx, nxt_rt, nxt_bk, nxt_ct, w_seq, w_set, w_drop, w_ret, w_sif, w_asg, w_gN, w_gT, w_gsnil, w_gscons, w_gdput, w_dput, isN_int, w_lput, w_par, w_aug, w_flds, w_flda, gives_rt, gives_nx, w_fnb, w_range1, w_range2, isS_lst, isS_rol, isS_tup, w_iseq, w_dnew, w_dc, w_mul, w_div, w_mod, w_tupP, w_dget2, w_srit, e_tupP, e_tupleL, e_tupleT, e_addPI, e_isN_non, e_isN_ptp, e_notN_non, e_notN_ptp, w_par3, w_ixptp, e_lenptp, isS_ptp, e_min2', w_for, w_iseq, e_add, e_addI, e_sub, e_cmp, e_eqI, e_neI, e_eqS, e_neS, e_eqB, e_neB, e_abs, e_int, e_max2, e_truB, e_truI, w_dget, w_ixref, w_ixlst, w_ixrol, w_ixtup, w_dref, isK_dct, isK_dctL, reduceCtorEq, false_implies, true_implies, Bool.false_eq_true, Bool.true_eq_false, e_lenlst, e_lenrol, e_lentup, w_lenref, w_ite, getS, setS, keyD, List.map_cons, List.map_nil, List.cons_append, List.nil_append, List.length_cons, List.length_nil, List.replicate, Nat.reduceSub, Nat.reduceAdd, Nat.reduceLeDiff, Nat.reduceLT, List.set_cons_zero, List.set_cons_succ, decide_eq_true_eq, decide_eq_false_iff_not, Bool.not_eq_true', Bool.not_eq_false', true_and, and_true, forall_const, mayD, w_fn (f := fAll), w_lc, w_keys, get_len, set_len, keysD_dI, List.length_map]
      refine ⟨by omega, wp_loopC (fun acc m' => (∃ G, m' = m ++ [O.dctL (dI (whereP rows))] ++ G) ∧ ∀ x ∈ acc, x = D.bl true) [] ⟨⟨[], by simp⟩, by simp⟩ ?_ ?_⟩
      · rintro d hd acc m' ⟨⟨G, rfl⟩, ha⟩
        obtain ⟨p, hp, rfl⟩ := List.mem_map.mp hd
        have hok := hm p hp
        have hw : lookP (whereP rows) p.1 = some p.2 := (find_nk hn).mpr hp
        unfold okMay at hok
        cases hv : lookP may p.1 with
        | none =>
          rw [hv] at hok
          cases hok
        | some b =>
          rw [hv] at hok
          have i2 : ∀ m2 : M, isKK (m2 ++ [O.dct (dI may)])[m2.length]? may := fun m2 => .inl get_len
          have i3 : ∀ G2 : M, (m ++ [O.dctL (dI (whereP rows))] ++ G2)[m.length]? = some (O.dctL (dI (whereP rows))) := fun G2 => get_app get_len _
          have acc' : ∀ G2 : M, (∃ G, m ++ [O.dctL (dI (whereP rows))] ++ G2 = m ++ [O.dctL (dI (whereP rows))] ++ G) ∧ ∀ x ∈ acc ++ [D.bl true], x = D.bl true := fun G2 => ⟨⟨G2, rfl⟩, fun x hx => by
            rcases List.mem_append.mp hx with h | h
            · exact ha x h
            · simpa using h⟩
          simp only [cYes, w_some, w_var, w_c, w_op, w_un, w_anil, w_acons, w_fn (f := fLen), w_fn (f := fInt), w_fn (f := fAbs), w_fn (f := fMax2), w_fn (f := fMin2), w_fn (f := fBool), w_fn (f := fTuple), w_fn (f := fDictM), w_fn (f := fTupP), w_fn (f := fDictP), w_fn (f := fSrTup), w_fn (f := fLenD), w_tup, w_lst, w_lstM, isB_bl, w_test, w_cand, w_cor, w_cnot, w_if, w_tru, w_and, w_or, w_not, w_chain, w_chain3, isR_ref, isI_ins, isD_dct, isL_lst, w_fld, w_lm, w_dm, w_disp, w_dnil, w_dcons, w_nil, w_retN, w_break, w_cont, nxt_nx, nxt_rt, nxt_bk, nxt_ct, w_seq, w_set, w_drop, w_ret, w_sif, w_asg, w_gN, w_gT, w_gsnil, w_gscons, w_gdput, w_dput, isN_int, w_lput, w_par, w_aug, w_flds, w_flda, gives_rt, gives_nx, w_fnb, w_range1, w_range2, isS_lst, isS_rol, isS_tup, w_iseq, w_dnew, w_dc, w_mul, w_div, w_mod, w_tupP, w_dget2, w_srit, e_tupP, e_tupleL, e_tupleT, e_addPI, e_isN_non, e_isN_ptp, e_notN_non, e_notN_ptp, w_par3, w_ixptp, e_lenptp, isS_ptp, e_min2', w_for, w_iseq, e_add, e_addI, e_sub, e_cmp, e_eqI, e_neI, e_eqS, e_neS, e_eqB, e_neB, e_abs, e_int, e_max2, e_truB, e_truI, w_dget, w_ixref, w_ixlst, w_ixrol, w_ixtup, w_dref, isK_dct, isK_dctL, reduceCtorEq, false_implies, true_implies, Bool.false_eq_true, Bool.true_eq_false, e_lenlst, e_lenrol, e_lentup, w_lenref, w_ite, getS, setS, keyD, List.map_cons, List.map_nil, List.cons_append, List.nil_append, List.length_cons, List.length_nil, List.replicate, Nat.reduceSub, Nat.reduceAdd, Nat.reduceLeDiff, Nat.reduceLT, List.set_cons_zero, List.set_cons_succ, decide_eq_true_eq, decide_eq_false_iff_not, Bool.not_eq_true', Bool.not_eq_false', true_and, and_true, forall_const, wipeS, e_dictP nm, e_inR (i2 _), hv, Option.isSome_some, ix3_2, pol_fifo, get_len, lookD_dI, Option.map_some]
          cases hlru : T.lru with
          | false =>
            simp only [w_some, w_var, w_c, w_op, w_un, w_anil, w_acons, w_fn (f := fLen), w_fn (f := fInt), w_fn (f := fAbs), w_fn (f := fMax2), w_fn (f := fMin2), w_fn (f := fBool), w_fn (f := fTuple), w_fn (f := fDictM), w_fn (f := fTupP), w_fn (f := fDictP), w_fn (f := fSrTup), w_fn (f := fLenD), w_tup, w_lst, w_lstM, isB_bl, w_test, w_cand, w_cor, w_cnot, w_if, w_tru, w_and, w_or, w_not, w_chain, w_chain3, isR_ref, isI_ins, isD_dct, isL_lst, w_fld, w_lm, w_dm, w_disp, w_dnil, w_dcons, w_nil, w_retN, w_break, w_cont, nxt_nx, nxt_rt, nxt_bk, nxt_ct, w_seq, w_set, w_drop, w_ret, w_sif, w_asg, w_gN, w_gT, w_gsnil, w_gscons, w_gdput, w_dput, isN_int, w_lput, w_par, w_aug, w_flds, w_flda, gives_rt, gives_nx, w_fnb, w_range1, w_range2, isS_lst, isS_rol, isS_tup, w_iseq, w_dnew, w_dc, w_mul, w_div, w_mod, w_tupP, w_dget2, w_srit, e_tupP, e_tupleL, e_tupleT, e_addPI, e_isN_non, e_isN_ptp, e_notN_non, e_notN_ptp, w_par3, w_ixptp, e_lenptp, isS_ptp, e_min2', w_for, w_iseq, e_add, e_addI, e_sub, e_cmp, e_eqI, e_neI, e_eqS, e_neS, e_eqB, e_neB, e_abs, e_int, e_max2, e_truB, e_truI, w_dget, w_ixref, w_ixlst, w_ixrol, w_ixtup, w_dref, isK_dct, isK_dctL, reduceCtorEq, false_implies, true_implies, Bool.false_eq_true, Bool.true_eq_false, e_lenlst, e_lenrol, e_lentup, w_lenref, w_ite, getS, setS, keyD, List.map_cons, List.map_nil, List.cons_append, List.nil_append, List.length_cons, List.length_nil, List.replicate, Nat.reduceSub, Nat.reduceAdd, Nat.reduceLeDiff, Nat.reduceLT, List.set_cons_zero, List.set_cons_succ, decide_eq_true_eq, decide_eq_false_iff_not, Bool.not_eq_true', Bool.not_eq_false', true_and, and_true, forall_const]
            rw [List.append_assoc _ G]
            exact ⟨fun h => absurd True.intro h, ⟨_, rfl⟩, by rw [show decide True = true from rfl]; exact (acc' []).2⟩
          | true =>
            rw [hlru] at hok
            have hle : b ≤ p.2 := by simpa using hok
            rw [List.append_assoc _ G, List.append_assoc _ (G ++ _), i3]
            simp only [w_some, w_var, w_c, w_op, w_un, w_anil, w_acons, w_fn (f := fLen), w_fn (f := fInt), w_fn (f := fAbs), w_fn (f := fMax2), w_fn (f := fMin2), w_fn (f := fBool), w_fn (f := fTuple), w_fn (f := fDictM), w_fn (f := fTupP), w_fn (f := fDictP), w_fn (f := fSrTup), w_fn (f := fLenD), w_tup, w_lst, w_lstM, isB_bl, w_test, w_cand, w_cor, w_cnot, w_if, w_tru, w_and, w_or, w_not, w_chain, w_chain3, isR_ref, isI_ins, isD_dct, isL_lst, w_fld, w_lm, w_dm, w_disp, w_dnil, w_dcons, w_nil, w_retN, w_break, w_cont, nxt_nx, nxt_rt, nxt_bk, nxt_ct, w_seq, w_set, w_drop, w_ret, w_sif, w_asg, w_gN, w_gT, w_gsnil, w_gscons, w_gdput, w_dput, isN_int, w_lput, w_par, w_aug, w_flds, w_flda, gives_rt, gives_nx, w_fnb, w_range1, w_range2, isS_lst, isS_rol, isS_tup, w_iseq, w_dnew, w_dc, w_mul, w_div, w_mod, w_tupP, w_dget2, w_srit, e_tupP, e_tupleL, e_tupleT, e_addPI, e_isN_non, e_isN_ptp, e_notN_non, e_notN_ptp, w_par3, w_ixptp, e_lenptp, isS_ptp, e_min2', w_for, w_iseq, e_add, e_addI, e_sub, e_cmp, e_eqI, e_neI, e_eqS, e_neS, e_eqB, e_neB, e_abs, e_int, e_max2, e_truB, e_truI, w_dget, w_ixref, w_ixlst, w_ixrol, w_ixtup, w_dref, isK_dct, isK_dctL, reduceCtorEq, false_implies, true_implies, Bool.false_eq_true, Bool.true_eq_false, e_lenlst, e_lenrol, e_lentup, w_lenref, w_ite, getS, setS, keyD, List.map_cons, List.map_nil, List.cons_append, List.nil_append, List.length_cons, List.length_nil, List.replicate, Nat.reduceSub, Nat.reduceAdd, Nat.reduceLeDiff, Nat.reduceLT, List.set_cons_zero, List.set_cons_succ, decide_eq_true_eq, decide_eq_false_iff_not, Bool.not_eq_true', Bool.not_eq_false', true_and, and_true, forall_const, lookD_dI, hw, Option.map_some, hle, decide_true]
            exact fun _ => acc' _
      · rintro ys _ ⟨⟨G, rfl⟩, ha⟩ hl
        have hbl : ys = (ys.map fun _ => true).map D.bl := by
          rw [List.map_map]
          refine (List.map_id ys).symm.trans (List.map_congr_left fun x hx => ?_)
          exact ha x (by simpa using hx)
        have hall : fAll [.lst ys] (m ++ [O.dctL (dI (whereP rows))] ++ G) = some (.bl true, m ++ [O.dctL (dI (whereP rows))] ++ G) := by
          rw [hbl]
          simp only [fAll, listD, seqD]
          have := blsD_map (f := fun b : Bool => b) (l := ys.map fun _ => true)
          simp only [List.map_id'] at this
          rw [this]
          simp
        simp only [w_some, w_var, w_c, w_op, w_un, w_anil, w_acons, w_fn (f := fLen), w_fn (f := fInt), w_fn (f := fAbs), w_fn (f := fMax2), w_fn (f := fMin2), w_fn (f := fBool), w_fn (f := fTuple), w_fn (f := fDictM), w_fn (f := fTupP), w_fn (f := fDictP), w_fn (f := fSrTup), w_fn (f := fLenD), w_tup, w_lst, w_lstM, isB_bl, w_test, w_cand, w_cor, w_cnot, w_if, w_tru, w_and, w_or, w_not, w_chain, w_chain3, isR_ref, isI_ins, isD_dct, isL_lst, w_fld, w_lm, w_dm, w_disp, w_dnil, w_dcons, w_nil, w_retN, w_break, w_cont, nxt_nx, nxt_rt, nxt_bk, nxt_ct, w_seq, w_set, w_drop, w_ret, w_sif, w_asg, w_gN, w_gT, w_gsnil, w_gscons, w_gdput, w_dput, isN_int, w_lput, w_par, w_aug, w_flds, w_flda, gives_rt, gives_nx, w_fnb, w_range1, w_range2, isS_lst, isS_rol, isS_tup, w_iseq, w_dnew, w_dc, w_mul, w_div, w_mod, w_tupP, w_dget2, w_srit, e_tupP, e_tupleL, e_tupleT, e_addPI, e_isN_non, e_isN_ptp, e_notN_non, e_notN_ptp, w_par3, w_ixptp, e_lenptp, isS_ptp, e_min2', w_for, w_iseq, e_add, e_addI, e_sub, e_cmp, e_eqI, e_neI, e_eqS, e_neS, e_eqB, e_neB, e_abs, e_int, e_max2, e_truB, e_truI, w_dget, w_ixref, w_ixlst, w_ixrol, w_ixtup, w_dref, isK_dct, isK_dctL, reduceCtorEq, false_implies, true_implies, Bool.false_eq_true, Bool.true_eq_false, e_lenlst, e_lenrol, e_lentup, w_lenref, w_ite, getS, setS, keyD, List.map_cons, List.map_nil, List.cons_append, List.nil_append, List.length_cons, List.length_nil, List.replicate, Nat.reduceSub, Nat.reduceAdd, Nat.reduceLeDiff, Nat.reduceLT, List.set_cons_zero, List.set_cons_succ, decide_eq_true_eq, decide_eq_false_iff_not, Bool.not_eq_true', Bool.not_eq_false', true_and, and_true, forall_const, hall]
        have := q ([O.dctL (dI (whereP rows))] ++ G)
        rw [← List.append_assoc] at this
        exact this
end
end K03

set_option Elab.async false
set_option maxRecDepth 100000
set_option linter.unusedSimpArgs false
set_option linter.unusedVariables false
namespace K03
open PySem L2 Mini

theorem flat_ints (l : List Int) : (l.map D.int).all flatD = true := by simp [flatD]
theorem in_ints {x : Int} {l : List Int} : inD (.int x) (l.map D.int) = decide (x ∈ l) := by
  unfold inD
  rw [List.any_map]
  have e : ((fun y => eqF y (.int x)) ∘ D.int) = fun y => y == x := rfl
  rw [e]
  by_cases h : x ∈ l
  · simp [h]
  · have : ∀ y ∈ l, ¬ y = x := fun y hy e => h (e ▸ hy)
    simpa [h] using this
theorem e_inT {x : Int} {l : List Int} {m : M} : fIn (.int x) (.tup (l.map D.int)) m = some (.bl (decide (x ∈ l)), m) := by
  unfold fIn memD
  simp only [seqD, flat_ints, flatD, Bool.and_self, if_true, in_ints]
theorem e_notinT {x : Int} {l : List Int} {m : M} : fNotIn (.int x) (.tup (l.map D.int)) m = some (.bl (!decide (x ∈ l)), m) := by
  unfold fNotIn memD
  simp only [seqD, flat_ints, flatD, Bool.and_self, if_true, in_ints]
theorem e_notinR2 {x : Int} {l : List Int} {m : M} {i : Nat} (h : m[i]? = some (.lst (l.map D.int))) : fNotIn (.int x) (.ref i) m = some (.bl (!decide (x ∈ l)), m) := by
  unfold fNotIn memD
  simp only [seqD, h, flat_ints, flatD, Bool.and_self, if_true, in_ints]
theorem in_bls {x : Bool} {l : List Bool} : inD (.bl x) (l.map D.bl) = decide (x ∈ l) := by
  unfold inD
  rw [List.any_map]
  have e : ((fun y => eqF y (.bl x)) ∘ D.bl) = fun y => y == x := rfl
  rw [e]
  by_cases h : x ∈ l
  · simp [h]
  · have : ∀ y ∈ l, ¬ y = x := fun y hy e => h (e ▸ hy)
    simpa [h] using this
theorem e_notinB {x : Bool} {l : List Bool} {m : M} : fNotIn (.bl x) (.lst (l.map D.bl)) m = some (.bl (!decide (x ∈ l)), m) := by
  have hf : (l.map D.bl).all flatD = true := by simp [flatD]
  unfold fNotIn memD
  simp only [seqD, hf, flatD, Bool.and_self, if_true, in_bls]
theorem e_fld0 {S W x r : D} : ([("sets", S), ("ways", W), ("policy", x), ("rows", r)] : List (Str × D)).lookup ("sets" : Str) = some S := rfl
theorem e_fld1 {S W x r : D} : ([("sets", S), ("ways", W), ("policy", x), ("rows", r)] : List (Str × D)).lookup ("ways" : Str) = some W := rfl
theorem e_fld2 {S W x r : D} : ([("sets", S), ("ways", W), ("policy", x), ("rows", r)] : List (Str × D)).lookup ("policy" : Str) = some x := rfl
theorem e_fld3 {S W x r : D} : ([("sets", S), ("ways", W), ("policy", x), ("rows", r)] : List (Str × D)).lookup ("rows" : Str) = some r := rfl
theorem e_fldh {S W x r : D} : ([("sets", S), ("ways", W), ("policy", x), ("rows", r)] : List (Str × D)).lookup ("has" : Str) = none := rfl
theorem e_fldf {S W x r : D} : ([("sets", S), ("ways", W), ("policy", x), ("rows", r)] : List (Str × D)).lookup ("fill" : Str) = none := rfl
theorem e_fldl {S W x r : D} : ([("sets", S), ("ways", W), ("policy", x), ("rows", r)] : List (Str × D)).lookup ("lines" : Str) = none := rfl
theorem p_0 {S : D} : putFD "sets" S [] = ([("sets", S)] : List (Str × D)) := rfl
theorem p_1 {S W : D} : putFD "ways" W ([("sets", S)] : List (Str × D)) = ([("sets", S), ("ways", W)] : List (Str × D)) := rfl
theorem p_2 {S W x : D} : putFD "policy" x ([("sets", S), ("ways", W)] : List (Str × D)) = ([("sets", S), ("ways", W), ("policy", x)] : List (Str × D)) := rfl
theorem p_3 {S W x r : D} : putFD "rows" r ([("sets", S), ("ways", W), ("policy", x)] : List (Str × D)) = ([("sets", S), ("ways", W), ("policy", x), ("rows", r)] : List (Str × D)) := rfl
theorem e_addT {xs ys : List D} {m : M} (h : xs.length + ys.length ≤ 100000) : fAdd (.tup xs) (.tup ys) m = some (.tup (xs ++ ys), m) := by simp only [fAdd, h, if_true]
theorem w_gfld {c : Nat} {f : Str} {o : XE} {d : D} {sg : Sg} {m : M} {QG : Sg × M → Prop} : wp (gFld c f o d sg m) QG ↔ wp (o sg m) fun p => isR p.1 fun i => isI c p.2[i]? fun fs => fs.length < 1000 ∧ QG (sg, p.2.set i (.ins c (putFD f d fs))) := by
  unfold gFld
  rcases o sg m with _ | ⟨x, m1⟩
  · simp [w_none]
  simp only [w_some]
  cases x <;> simp [w_none, isR]
  rename_i i
  rcases m1[i]? with _ | u
  · simp [w_none, isI]
  cases u <;> simp [w_none, isI]
  rename_i c' fs
  by_cases h : c' = c
  · by_cases h2 : fs.length < 1000 <;> simp [h, h2, w_none, w_some]
  · simp [h, w_none]
theorem w_sl {o a : XE} {sg : Sg} {m : M} {Q : D × M → Prop} : wp (xSl o pNone (pSome a) sg m) Q ↔ wp (o sg m) fun p => wp (a sg p.2) fun q => isN q.1 fun i => wp (cutF p.1 none (some i) q.2) Q := by
  unfold xSl pNone pSome
  rcases o sg m with _ | ⟨d, m1⟩
  · simp [w_none]
  simp only [w_some]
  rcases a sg m1 with _ | ⟨x, m2⟩
  · simp [w_none]
  simp only [w_some]
  cases x <;> simp [w_none, isN]
theorem e_cut {xs : List D} {i : Int} {m : M} (h : 0 ≤ i) : cutF (.tup xs) none (some i) m = some (.tup (xs.take i.toNat), m) := by
  unfold cutF cutD HT.sIx
  simp only [if_neg (show ¬ i < 0 by omega), Nat.sub_zero, List.drop_zero]
  congr 3
  rw [List.take_eq_take_iff]
  omega
section
variable {T : Told} {line : Int} {m : M} {rows : Rows} {k : Kn} {Q : D × M → Prop} {b j : Nat}
def cacheF (T : Told) (j : Nat) : List (Str × D) := [("sets", .int T.S), ("ways", .int T.W), ("policy", .str (polS T.lru)), ("rows", .ref j)]
structure CacheAt (m : M) (b j : Nat) (T : Told) (rows : Rows) : Prop where
  obj : m[b]? = some (.ins 0 (cacheF T j))
  lst : m[j]? = some (.lst (rows.map rowD))
theorem mod_at (t : TOk T) (l : Int) : l % T.S = ((atP T l : Nat) : Int) := by
  have h1 := Int.emod_nonneg l (show T.S ≠ 0 by rcases t.s with h | h <;> omega)
  unfold atP
  omega
theorem init_wp (hb : m[b]? = some (.ins 0 [])) (hr : rows.length ≤ 100) (q : Q (.non, (m.set b (.ins 0 (cacheF T m.length))) ++ [.lst (rows.map rowD)])) : wp (f_Cache___init__ [.ref b, toldD T, .tup (rows.map rowD)] m) Q := by
  have hlt := lt_of_get hb
  unfold f_Cache___init__ b_Cache___init__ toldD
  simp only [w_some, w_var, w_c, w_op, w_un, w_anil, w_acons, w_fn (f := fLen), w_fn (f := fInt), w_fn (f := fAbs), w_fn (f := fMax2), w_fn (f := fMin2), w_fn (f := fBool), w_fn (f := fTuple), w_fn (f := fDictM), w_fn (f := fTupP), w_fn (f := fDictP), w_fn (f := fSrTup), w_fn (f := fLenD), w_tup, w_lst, w_lstM, isB_bl, w_test, w_cand, w_cor, w_cnot, w_if, w_tru, w_and, w_or, w_not, w_chain, w_chain3, isR_ref, isI_ins, isD_dct, isL_lst, w_fld, w_lm, w_dm, w_disp, w_dnil, w_dcons, w_nil, w_retN, w_break, w_cont, nxt_nx, nxt_rt, nxt_bk, nxt_ct, w_seq, w_set, w_drop, w_ret, w_sif, w_asg, w_gN, w_gT, w_gsnil, w_gscons, w_gdput, w_dput, isN_int, w_lput, w_par, w_aug, w_flds, w_flda, gives_rt, gives_nx, w_fnb, w_range1, w_range2, isS_lst, isS_rol, isS_tup, w_iseq, w_dnew, w_dc, w_mul, w_div, w_mod, w_tupP, w_dget2, w_srit, e_tupP, e_tupleL, e_tupleT, e_addPI, e_isN_non, e_isN_ptp, e_notN_non, e_notN_ptp, w_par3, w_ixptp, e_lenptp, isS_ptp, e_min2', w_for, w_iseq, e_add, e_addI, e_sub, e_cmp, e_eqI, e_neI, e_eqS, e_neS, e_eqB, e_neB, e_abs, e_int, e_max2, e_truB, e_truI, w_dget, w_ixref, w_ixlst, w_ixrol, w_ixtup, w_dref, isK_dct, isK_dctL, reduceCtorEq, false_implies, true_implies, Bool.false_eq_true, Bool.true_eq_false, e_lenlst, e_lenrol, e_lentup, w_lenref, w_ite, getS, setS, keyD, List.map_cons, List.map_nil, List.cons_append, List.nil_append, List.length_cons, List.length_nil, List.replicate, Nat.reduceSub, Nat.reduceAdd, Nat.reduceLeDiff, Nat.reduceLT, List.set_cons_zero, List.set_cons_succ, decide_eq_true_eq, decide_eq_false_iff_not, Bool.not_eq_true', Bool.not_eq_false', true_and, and_true, forall_const, w_gfld, hb, p_0, p_1, p_2, get_set hb, List.set_set, w_lcM, List.length_map]
  refine ⟨by omega, wp.eq (loopC_map (f := rowD) (p := fun _ => true) (h := rowD) fun row hrow => ?_) ?_⟩
  · simp only [w_gN, true_and]
    refine ⟨rfl, fun _ => wp_of ?_⟩
    simp only [w_some, w_var, w_c, w_op, w_un, w_anil, w_acons, w_fn (f := fLen), w_fn (f := fInt), w_fn (f := fAbs), w_fn (f := fMax2), w_fn (f := fMin2), w_fn (f := fBool), w_fn (f := fTuple), w_fn (f := fDictM), w_fn (f := fTupP), w_fn (f := fDictP), w_fn (f := fSrTup), w_fn (f := fLenD), w_tup, w_lst, w_lstM, isB_bl, w_test, w_cand, w_cor, w_cnot, w_if, w_tru, w_and, w_or, w_not, w_chain, w_chain3, isR_ref, isI_ins, isD_dct, isL_lst, w_fld, w_lm, w_dm, w_disp, w_dnil, w_dcons, w_nil, w_retN, w_break, w_cont, nxt_nx, nxt_rt, nxt_bk, nxt_ct, w_seq, w_set, w_drop, w_ret, w_sif, w_asg, w_gN, w_gT, w_gsnil, w_gscons, w_gdput, w_dput, isN_int, w_lput, w_par, w_aug, w_flds, w_flda, gives_rt, gives_nx, w_fnb, w_range1, w_range2, isS_lst, isS_rol, isS_tup, w_iseq, w_dnew, w_dc, w_mul, w_div, w_mod, w_tupP, w_dget2, w_srit, e_tupP, e_tupleL, e_tupleT, e_addPI, e_isN_non, e_isN_ptp, e_notN_non, e_notN_ptp, w_par3, w_ixptp, e_lenptp, isS_ptp, e_min2', w_for, w_iseq, e_add, e_addI, e_sub, e_cmp, e_eqI, e_neI, e_eqS, e_neS, e_eqB, e_neB, e_abs, e_int, e_max2, e_truB, e_truI, w_dget, w_ixref, w_ixlst, w_ixrol, w_ixtup, w_dref, isK_dct, isK_dctL, reduceCtorEq, false_implies, true_implies, Bool.false_eq_true, Bool.true_eq_false, e_lenlst, e_lenrol, e_lentup, w_lenref, w_ite, getS, setS, keyD, List.map_cons, List.map_nil, List.cons_append, List.nil_append, List.length_cons, List.length_nil, List.replicate, Nat.reduceSub, Nat.reduceAdd, Nat.reduceLeDiff, Nat.reduceLT, List.set_cons_zero, List.set_cons_succ, decide_eq_true_eq, decide_eq_false_iff_not, Bool.not_eq_true', Bool.not_eq_false', true_and, and_true, forall_const, wipeS, rowD]
  · have g1 : ∀ o : O, (m.set b o ++ [O.lst (rows.map rowD)])[b]? = some o := fun o => get_app (get_set hb o) _
    have g2 : ∀ o o2 : O, (m.set b o ++ [O.lst (rows.map rowD)]).set b o2 = m.set b o2 ++ [O.lst (rows.map rowD)] := fun o o2 => by rw [set_app (get_set hb o) o2 [O.lst (rows.map rowD)], List.set_set]
    simp only [w_some, w_var, w_c, w_op, w_un, w_anil, w_acons, w_fn (f := fLen), w_fn (f := fInt), w_fn (f := fAbs), w_fn (f := fMax2), w_fn (f := fMin2), w_fn (f := fBool), w_fn (f := fTuple), w_fn (f := fDictM), w_fn (f := fTupP), w_fn (f := fDictP), w_fn (f := fSrTup), w_fn (f := fLenD), w_tup, w_lst, w_lstM, isB_bl, w_test, w_cand, w_cor, w_cnot, w_if, w_tru, w_and, w_or, w_not, w_chain, w_chain3, isR_ref, isI_ins, isD_dct, isL_lst, w_fld, w_lm, w_dm, w_disp, w_dnil, w_dcons, w_nil, w_retN, w_break, w_cont, nxt_nx, nxt_rt, nxt_bk, nxt_ct, w_seq, w_set, w_drop, w_ret, w_sif, w_asg, w_gN, w_gT, w_gsnil, w_gscons, w_gdput, w_dput, isN_int, w_lput, w_par, w_aug, w_flds, w_flda, gives_rt, gives_nx, w_fnb, w_range1, w_range2, isS_lst, isS_rol, isS_tup, w_iseq, w_dnew, w_dc, w_mul, w_div, w_mod, w_tupP, w_dget2, w_srit, e_tupP, e_tupleL, e_tupleT, e_addPI, e_isN_non, e_isN_ptp, e_notN_non, e_notN_ptp, w_par3, w_ixptp, e_lenptp, isS_ptp, e_min2', w_for, w_iseq, e_add, e_addI, e_sub, e_cmp, e_eqI, e_neI, e_eqS, e_neS, e_eqB, e_neB, e_abs, e_int, e_max2, e_truB, e_truI, w_dget, w_ixref, w_ixlst, w_ixrol, w_ixtup, w_dref, isK_dct, isK_dctL, reduceCtorEq, false_implies, true_implies, Bool.false_eq_true, Bool.true_eq_false, e_lenlst, e_lenrol, e_lentup, w_lenref, w_ite, getS, setS, keyD, List.map_cons, List.map_nil, List.cons_append, List.nil_append, List.length_cons, List.length_nil, List.replicate, Nat.reduceSub, Nat.reduceAdd, Nat.reduceLeDiff, Nat.reduceLT, List.set_cons_zero, List.set_cons_succ, decide_eq_true_eq, decide_eq_false_iff_not, Bool.not_eq_true', Bool.not_eq_false', true_and, and_true, forall_const, filter_yes, g1, g2, p_3, List.length_set]
    exact q
theorem make_wp {xs : XA} {sg : Sg} (hx : xs sg m = some ([toldD T, .tup (rows.map rowD)], m)) (hr : rows.length ≤ 100) (q : Q (.ref m.length, m ++ [.ins 0 (cacheF T (m.length + 1))] ++ [.lst (rows.map rowD)])) : wp (xMake 0 f_Cache___init__ xs sg m) Q := by
  rw [w_make, hx, w_some]
  refine init_wp get_len hr ?_
  rw [set_len, len_app1]
  exact ⟨rfl, q⟩
theorem mtf_map : [D.int line] ++ (List.filter (fun x => !decide (x = line)) (rowP T rows line)).map D.int = (mtf (rowP T rows line) line).map D.int := rfl
theorem row_len4 (t : TOk T) (v : Valid T rows) : (rowP T rows line).length ≤ 4 := by
  have h1 := (row_ok t v line).2.1
  have h2 := t.w4
  omega
theorem rows_len (t : TOk T) (v : Valid T rows) : rows.length ≤ 100 := by
  have := v.len
  rcases t.s with h | h <;> omega
theorem rows_row (t : TOk T) (v : Valid T rows) : ∀ row ∈ rows, row.length ≤ 100 := fun row h => by
  obtain ⟨i, hi, e⟩ := List.getElem_of_mem h
  have h1 := (v.row i row (by rw [List.getElem?_eq_getElem hi, e])).2.1
  have := t.w4
  omega
theorem set_rows {i : Nat} {row : List Int} : (rows.map rowD).set i (.tup (row.map D.int)) = (rows.set i row).map rowD := by
  rw [List.map_set]
  rfl
theorem has_wp (t : TOk T) (v : Valid T rows) (h : CacheAt m b j T rows) (q : Q (.bl (inP T rows line), m.set j (.lst ((afterHit T rows line).map rowD)))) : wp (f_Cache_has [.ref b, .int line] m) Q := by
  have hS : 0 < T.S := by rcases t.s with h | h <;> omega
  have hat := atP_lt t v line
  have hrow := row_at t v line
  have h4 := row_len4 (line := line) t v
  obtain ⟨hb, hj⟩ := h
  unfold f_Cache_has b_Cache_has
  simp only [w_some, w_var, w_c, w_op, w_un, w_anil, w_acons, w_fn (f := fLen), w_fn (f := fInt), w_fn (f := fAbs), w_fn (f := fMax2), w_fn (f := fMin2), w_fn (f := fBool), w_fn (f := fTuple), w_fn (f := fDictM), w_fn (f := fTupP), w_fn (f := fDictP), w_fn (f := fSrTup), w_fn (f := fLenD), w_tup, w_lst, w_lstM, isB_bl, w_test, w_cand, w_cor, w_cnot, w_if, w_tru, w_and, w_or, w_not, w_chain, w_chain3, isR_ref, isI_ins, isD_dct, isL_lst, w_fld, w_lm, w_dm, w_disp, w_dnil, w_dcons, w_nil, w_retN, w_break, w_cont, nxt_nx, nxt_rt, nxt_bk, nxt_ct, w_seq, w_set, w_drop, w_ret, w_sif, w_asg, w_gN, w_gT, w_gsnil, w_gscons, w_gdput, w_dput, isN_int, w_lput, w_par, w_aug, w_flds, w_flda, gives_rt, gives_nx, w_fnb, w_range1, w_range2, isS_lst, isS_rol, isS_tup, w_iseq, w_dnew, w_dc, w_mul, w_div, w_mod, w_tupP, w_dget2, w_srit, e_tupP, e_tupleL, e_tupleT, e_addPI, e_isN_non, e_isN_ptp, e_notN_non, e_notN_ptp, w_par3, w_ixptp, e_lenptp, isS_ptp, e_min2', w_for, w_iseq, e_add, e_addI, e_sub, e_cmp, e_eqI, e_neI, e_eqS, e_neS, e_eqB, e_neB, e_abs, e_int, e_max2, e_truB, e_truI, w_dget, w_ixref, w_ixlst, w_ixrol, w_ixtup, w_dref, isK_dct, isK_dctL, reduceCtorEq, false_implies, true_implies, Bool.false_eq_true, Bool.true_eq_false, e_lenlst, e_lenrol, e_lentup, w_lenref, w_ite, getS, setS, keyD, List.map_cons, List.map_nil, List.cons_append, List.nil_append, List.length_cons, List.length_nil, List.replicate, Nat.reduceSub, Nat.reduceAdd, Nat.reduceLeDiff, Nat.reduceLT, List.set_cons_zero, List.set_cons_succ, decide_eq_true_eq, decide_eq_false_iff_not, Bool.not_eq_true', Bool.not_eq_false', true_and, and_true, forall_const, hb, hj, cacheF, e_fld0, e_fld3, hS, mod_at t, atIN, List.getElem?_map, hrow, Option.map_some, rowD, e_notinT]
  refine ⟨fun hno => ?_, fun hyes => ?_⟩
  · have e : inP T rows line = false := by simpa [inP] using hno
    unfold afterHit at q
    rw [e, if_neg (by simp), set_id hj] at q
    exact q
  · have e : inP T rows line = true := by simpa [inP] using hyes
    simp only [w_some, w_var, w_c, w_op, w_un, w_anil, w_acons, w_fn (f := fLen), w_fn (f := fInt), w_fn (f := fAbs), w_fn (f := fMax2), w_fn (f := fMin2), w_fn (f := fBool), w_fn (f := fTuple), w_fn (f := fDictM), w_fn (f := fTupP), w_fn (f := fDictP), w_fn (f := fSrTup), w_fn (f := fLenD), w_tup, w_lst, w_lstM, isB_bl, w_test, w_cand, w_cor, w_cnot, w_if, w_tru, w_and, w_or, w_not, w_chain, w_chain3, isR_ref, isI_ins, isD_dct, isL_lst, w_fld, w_lm, w_dm, w_disp, w_dnil, w_dcons, w_nil, w_retN, w_break, w_cont, nxt_nx, nxt_rt, nxt_bk, nxt_ct, w_seq, w_set, w_drop, w_ret, w_sif, w_asg, w_gN, w_gT, w_gsnil, w_gscons, w_gdput, w_dput, isN_int, w_lput, w_par, w_aug, w_flds, w_flda, gives_rt, gives_nx, w_fnb, w_range1, w_range2, isS_lst, isS_rol, isS_tup, w_iseq, w_dnew, w_dc, w_mul, w_div, w_mod, w_tupP, w_dget2, w_srit, e_tupP, e_tupleL, e_tupleT, e_addPI, e_isN_non, e_isN_ptp, e_notN_non, e_notN_ptp, w_par3, w_ixptp, e_lenptp, isS_ptp, e_min2', w_for, w_iseq, e_add, e_addI, e_sub, e_cmp, e_eqI, e_neI, e_eqS, e_neS, e_eqB, e_neB, e_abs, e_int, e_max2, e_truB, e_truI, w_dget, w_ixref, w_ixlst, w_ixrol, w_ixtup, w_dref, isK_dct, isK_dctL, reduceCtorEq, false_implies, true_implies, Bool.false_eq_true, Bool.true_eq_false, e_lenlst, e_lenrol, e_lentup, w_lenref, w_ite, getS, setS, keyD, List.map_cons, List.map_nil, List.cons_append, List.nil_append, List.length_cons, List.length_nil, List.replicate, Nat.reduceSub, Nat.reduceAdd, Nat.reduceLeDiff, Nat.reduceLT, List.set_cons_zero, List.set_cons_succ, decide_eq_true_eq, decide_eq_false_iff_not, Bool.not_eq_true', Bool.not_eq_false', true_and, and_true, forall_const, hb, cacheF, e_fld2, pol_lru]
    refine ⟨fun hl => ?_, fun hl => ?_⟩
    · simp only [w_some, w_var, w_c, w_op, w_un, w_anil, w_acons, w_fn (f := fLen), w_fn (f := fInt), w_fn (f := fAbs), w_fn (f := fMax2), w_fn (f := fMin2), w_fn (f := fBool), w_fn (f := fTuple), w_fn (f := fDictM), w_fn (f := fTupP), w_fn (f := fDictP), w_fn (f := fSrTup), w_fn (f := fLenD), w_tup, w_lst, w_lstM, isB_bl, w_test, w_cand, w_cor, w_cnot, w_if, w_tru, w_and, w_or, w_not, w_chain, w_chain3, isR_ref, isI_ins, isD_dct, isL_lst, w_fld, w_lm, w_dm, w_disp, w_dnil, w_dcons, w_nil, w_retN, w_break, w_cont, nxt_nx, nxt_rt, nxt_bk, nxt_ct, w_seq, w_set, w_drop, w_ret, w_sif, w_asg, w_gN, w_gT, w_gsnil, w_gscons, w_gdput, w_dput, isN_int, w_lput, w_par, w_aug, w_flds, w_flda, gives_rt, gives_nx, w_fnb, w_range1, w_range2, isS_lst, isS_rol, isS_tup, w_iseq, w_dnew, w_dc, w_mul, w_div, w_mod, w_tupP, w_dget2, w_srit, e_tupP, e_tupleL, e_tupleT, e_addPI, e_isN_non, e_isN_ptp, e_notN_non, e_notN_ptp, w_par3, w_ixptp, e_lenptp, isS_ptp, e_min2', w_for, w_iseq, e_add, e_addI, e_sub, e_cmp, e_eqI, e_neI, e_eqS, e_neS, e_eqB, e_neB, e_abs, e_int, e_max2, e_truB, e_truI, w_dget, w_ixref, w_ixlst, w_ixrol, w_ixtup, w_dref, isK_dct, isK_dctL, reduceCtorEq, false_implies, true_implies, Bool.false_eq_true, Bool.true_eq_false, e_lenlst, e_lenrol, e_lentup, w_lenref, w_ite, getS, setS, keyD, List.map_cons, List.map_nil, List.cons_append, List.nil_append, List.length_cons, List.length_nil, List.replicate, Nat.reduceSub, Nat.reduceAdd, Nat.reduceLeDiff, Nat.reduceLT, List.set_cons_zero, List.set_cons_succ, decide_eq_true_eq, decide_eq_false_iff_not, Bool.not_eq_true', Bool.not_eq_false', true_and, and_true, forall_const, w_lc, List.length_map]
      refine ⟨by omega, wp.eq (loopC_map (f := D.int) (p := fun x => !decide (x = line)) (h := D.int) fun x hx => ?_) ?_⟩
      · simp only [w_gN, true_and]
        refine ⟨wp_of ?_, fun _ => wp_of ?_⟩
        · simp only [w_some, w_var, w_c, w_op, w_un, w_anil, w_acons, w_fn (f := fLen), w_fn (f := fInt), w_fn (f := fAbs), w_fn (f := fMax2), w_fn (f := fMin2), w_fn (f := fBool), w_fn (f := fTuple), w_fn (f := fDictM), w_fn (f := fTupP), w_fn (f := fDictP), w_fn (f := fSrTup), w_fn (f := fLenD), w_tup, w_lst, w_lstM, isB_bl, w_test, w_cand, w_cor, w_cnot, w_if, w_tru, w_and, w_or, w_not, w_chain, w_chain3, isR_ref, isI_ins, isD_dct, isL_lst, w_fld, w_lm, w_dm, w_disp, w_dnil, w_dcons, w_nil, w_retN, w_break, w_cont, nxt_nx, nxt_rt, nxt_bk, nxt_ct, w_seq, w_set, w_drop, w_ret, w_sif, w_asg, w_gN, w_gT, w_gsnil, w_gscons, w_gdput, w_dput, isN_int, w_lput, w_par, w_aug, w_flds, w_flda, gives_rt, gives_nx, w_fnb, w_range1, w_range2, isS_lst, isS_rol, isS_tup, w_iseq, w_dnew, w_dc, w_mul, w_div, w_mod, w_tupP, w_dget2, w_srit, e_tupP, e_tupleL, e_tupleT, e_addPI, e_isN_non, e_isN_ptp, e_notN_non, e_notN_ptp, w_par3, w_ixptp, e_lenptp, isS_ptp, e_min2', w_for, w_iseq, e_add, e_addI, e_sub, e_cmp, e_eqI, e_neI, e_eqS, e_neS, e_eqB, e_neB, e_abs, e_int, e_max2, e_truB, e_truI, w_dget, w_ixref, w_ixlst, w_ixrol, w_ixtup, w_dref, isK_dct, isK_dctL, reduceCtorEq, false_implies, true_implies, Bool.false_eq_true, Bool.true_eq_false, e_lenlst, e_lenrol, e_lentup, w_lenref, w_ite, getS, setS, keyD, List.map_cons, List.map_nil, List.cons_append, List.nil_append, List.length_cons, List.length_nil, List.replicate, Nat.reduceSub, Nat.reduceAdd, Nat.reduceLeDiff, Nat.reduceLT, List.set_cons_zero, List.set_cons_succ, decide_eq_true_eq, decide_eq_false_iff_not, Bool.not_eq_true', Bool.not_eq_false', true_and, and_true, forall_const, wipeS]
        · simp only [w_some, w_var, w_c, w_op, w_un, w_anil, w_acons, w_fn (f := fLen), w_fn (f := fInt), w_fn (f := fAbs), w_fn (f := fMax2), w_fn (f := fMin2), w_fn (f := fBool), w_fn (f := fTuple), w_fn (f := fDictM), w_fn (f := fTupP), w_fn (f := fDictP), w_fn (f := fSrTup), w_fn (f := fLenD), w_tup, w_lst, w_lstM, isB_bl, w_test, w_cand, w_cor, w_cnot, w_if, w_tru, w_and, w_or, w_not, w_chain, w_chain3, isR_ref, isI_ins, isD_dct, isL_lst, w_fld, w_lm, w_dm, w_disp, w_dnil, w_dcons, w_nil, w_retN, w_break, w_cont, nxt_nx, nxt_rt, nxt_bk, nxt_ct, w_seq, w_set, w_drop, w_ret, w_sif, w_asg, w_gN, w_gT, w_gsnil, w_gscons, w_gdput, w_dput, isN_int, w_lput, w_par, w_aug, w_flds, w_flda, gives_rt, gives_nx, w_fnb, w_range1, w_range2, isS_lst, isS_rol, isS_tup, w_iseq, w_dnew, w_dc, w_mul, w_div, w_mod, w_tupP, w_dget2, w_srit, e_tupP, e_tupleL, e_tupleT, e_addPI, e_isN_non, e_isN_ptp, e_notN_non, e_notN_ptp, w_par3, w_ixptp, e_lenptp, isS_ptp, e_min2', w_for, w_iseq, e_add, e_addI, e_sub, e_cmp, e_eqI, e_neI, e_eqS, e_neS, e_eqB, e_neB, e_abs, e_int, e_max2, e_truB, e_truI, w_dget, w_ixref, w_ixlst, w_ixrol, w_ixtup, w_dref, isK_dct, isK_dctL, reduceCtorEq, false_implies, true_implies, Bool.false_eq_true, Bool.true_eq_false, e_lenlst, e_lenrol, e_lentup, w_lenref, w_ite, getS, setS, keyD, List.map_cons, List.map_nil, List.cons_append, List.nil_append, List.length_cons, List.length_nil, List.replicate, Nat.reduceSub, Nat.reduceAdd, Nat.reduceLeDiff, Nat.reduceLT, List.set_cons_zero, List.set_cons_succ, decide_eq_true_eq, decide_eq_false_iff_not, Bool.not_eq_true', Bool.not_eq_false', true_and, and_true, forall_const, wipeS]
      · have hf := List.length_filter_le (fun x => !decide (x = line)) (rowP T rows line)
        have e5 : fAdd (.tup [.int line]) (.tup ((List.filter (fun x => !decide (x = line)) (rowP T rows line)).map D.int)) m = some (.tup ((mtf (rowP T rows line) line).map D.int), m) := by
          rw [e_addT (by simp; omega), mtf_map]
        simp only [w_some, w_var, w_c, w_op, w_un, w_anil, w_acons, w_fn (f := fLen), w_fn (f := fInt), w_fn (f := fAbs), w_fn (f := fMax2), w_fn (f := fMin2), w_fn (f := fBool), w_fn (f := fTuple), w_fn (f := fDictM), w_fn (f := fTupP), w_fn (f := fDictP), w_fn (f := fSrTup), w_fn (f := fLenD), w_tup, w_lst, w_lstM, isB_bl, w_test, w_cand, w_cor, w_cnot, w_if, w_tru, w_and, w_or, w_not, w_chain, w_chain3, isR_ref, isI_ins, isD_dct, isL_lst, w_fld, w_lm, w_dm, w_disp, w_dnil, w_dcons, w_nil, w_retN, w_break, w_cont, nxt_nx, nxt_rt, nxt_bk, nxt_ct, w_seq, w_set, w_drop, w_ret, w_sif, w_asg, w_gN, w_gT, w_gsnil, w_gscons, w_gdput, w_dput, isN_int, w_lput, w_par, w_aug, w_flds, w_flda, gives_rt, gives_nx, w_fnb, w_range1, w_range2, isS_lst, isS_rol, isS_tup, w_iseq, w_dnew, w_dc, w_mul, w_div, w_mod, w_tupP, w_dget2, w_srit, e_tupP, e_tupleL, e_tupleT, e_addPI, e_isN_non, e_isN_ptp, e_notN_non, e_notN_ptp, w_par3, w_ixptp, e_lenptp, isS_ptp, e_min2', w_for, w_iseq, e_add, e_addI, e_sub, e_cmp, e_eqI, e_neI, e_eqS, e_neS, e_eqB, e_neB, e_abs, e_int, e_max2, e_truB, e_truI, w_dget, w_ixref, w_ixlst, w_ixrol, w_ixtup, w_dref, isK_dct, isK_dctL, reduceCtorEq, false_implies, true_implies, Bool.false_eq_true, Bool.true_eq_false, e_lenlst, e_lenrol, e_lentup, w_lenref, w_ite, getS, setS, keyD, List.map_cons, List.map_nil, List.cons_append, List.nil_append, List.length_cons, List.length_nil, List.replicate, Nat.reduceSub, Nat.reduceAdd, Nat.reduceLeDiff, Nat.reduceLT, List.set_cons_zero, List.set_cons_succ, decide_eq_true_eq, decide_eq_false_iff_not, Bool.not_eq_true', Bool.not_eq_false', true_and, and_true, forall_const, e5, hb, hj, cacheF, e_fld3, List.length_map, ixN_nat hat, set_rows]
        unfold afterHit at q
        rw [e, if_pos ⟨rfl, hl⟩] at q
        exact q
    · unfold afterHit at q
      rw [e, if_neg (fun h => hl h.2), set_id hj] at q
      exact q
theorem fill_wp (t : TOk T) (v : Valid T rows) (h : CacheAt m b j T rows) (q : Q (.non, m.set j (.lst ((fillP T rows line).map rowD)))) : wp (f_Cache_fill [.ref b, .int line] m) Q := by
  have hS : 0 < T.S := by rcases t.s with h | h <;> omega
  have hw := t.w1
  have hat := atP_lt t v line
  have hrow := row_at t v line
  have h4 := row_len4 (line := line) t v
  obtain ⟨hb, hj⟩ := h
  unfold f_Cache_fill b_Cache_fill
  simp only [w_some, w_var, w_c, w_op, w_un, w_anil, w_acons, w_fn (f := fLen), w_fn (f := fInt), w_fn (f := fAbs), w_fn (f := fMax2), w_fn (f := fMin2), w_fn (f := fBool), w_fn (f := fTuple), w_fn (f := fDictM), w_fn (f := fTupP), w_fn (f := fDictP), w_fn (f := fSrTup), w_fn (f := fLenD), w_tup, w_lst, w_lstM, isB_bl, w_test, w_cand, w_cor, w_cnot, w_if, w_tru, w_and, w_or, w_not, w_chain, w_chain3, isR_ref, isI_ins, isD_dct, isL_lst, w_fld, w_lm, w_dm, w_disp, w_dnil, w_dcons, w_nil, w_retN, w_break, w_cont, nxt_nx, nxt_rt, nxt_bk, nxt_ct, w_seq, w_set, w_drop, w_ret, w_sif, w_asg, w_gN, w_gT, w_gsnil, w_gscons, w_gdput, w_dput, isN_int, w_lput, w_par, w_aug, w_flds, w_flda, gives_rt, gives_nx, w_fnb, w_range1, w_range2, isS_lst, isS_rol, isS_tup, w_iseq, w_dnew, w_dc, w_mul, w_div, w_mod, w_tupP, w_dget2, w_srit, e_tupP, e_tupleL, e_tupleT, e_addPI, e_isN_non, e_isN_ptp, e_notN_non, e_notN_ptp, w_par3, w_ixptp, e_lenptp, isS_ptp, e_min2', w_for, w_iseq, e_add, e_addI, e_sub, e_cmp, e_eqI, e_neI, e_eqS, e_neS, e_eqB, e_neB, e_abs, e_int, e_max2, e_truB, e_truI, w_dget, w_ixref, w_ixlst, w_ixrol, w_ixtup, w_dref, isK_dct, isK_dctL, reduceCtorEq, false_implies, true_implies, Bool.false_eq_true, Bool.true_eq_false, e_lenlst, e_lenrol, e_lentup, w_lenref, w_ite, getS, setS, keyD, List.map_cons, List.map_nil, List.cons_append, List.nil_append, List.length_cons, List.length_nil, List.replicate, Nat.reduceSub, Nat.reduceAdd, Nat.reduceLeDiff, Nat.reduceLT, List.set_cons_zero, List.set_cons_succ, decide_eq_true_eq, decide_eq_false_iff_not, Bool.not_eq_true', Bool.not_eq_false', true_and, and_true, forall_const, hb, hj, cacheF, e_fld0, e_fld3, hS, mod_at t, atIN, List.getElem?_map, hrow, Option.map_some, rowD, w_fn (f := fTuple), w_lc, List.length_map]
  refine ⟨by omega, wp.eq (loopC_map (f := D.int) (p := fun x => !decide (x = line)) (h := D.int) fun x hx => ?_) ?_⟩
  · simp only [w_gN, true_and]
    refine ⟨wp_of ?_, fun _ => wp_of ?_⟩
    · simp only [w_some, w_var, w_c, w_op, w_un, w_anil, w_acons, w_fn (f := fLen), w_fn (f := fInt), w_fn (f := fAbs), w_fn (f := fMax2), w_fn (f := fMin2), w_fn (f := fBool), w_fn (f := fTuple), w_fn (f := fDictM), w_fn (f := fTupP), w_fn (f := fDictP), w_fn (f := fSrTup), w_fn (f := fLenD), w_tup, w_lst, w_lstM, isB_bl, w_test, w_cand, w_cor, w_cnot, w_if, w_tru, w_and, w_or, w_not, w_chain, w_chain3, isR_ref, isI_ins, isD_dct, isL_lst, w_fld, w_lm, w_dm, w_disp, w_dnil, w_dcons, w_nil, w_retN, w_break, w_cont, nxt_nx, nxt_rt, nxt_bk, nxt_ct, w_seq, w_set, w_drop, w_ret, w_sif, w_asg, w_gN, w_gT, w_gsnil, w_gscons, w_gdput, w_dput, isN_int, w_lput, w_par, w_aug, w_flds, w_flda, gives_rt, gives_nx, w_fnb, w_range1, w_range2, isS_lst, isS_rol, isS_tup, w_iseq, w_dnew, w_dc, w_mul, w_div, w_mod, w_tupP, w_dget2, w_srit, e_tupP, e_tupleL, e_tupleT, e_addPI, e_isN_non, e_isN_ptp, e_notN_non, e_notN_ptp, w_par3, w_ixptp, e_lenptp, isS_ptp, e_min2', w_for, w_iseq, e_add, e_addI, e_sub, e_cmp, e_eqI, e_neI, e_eqS, e_neS, e_eqB, e_neB, e_abs, e_int, e_max2, e_truB, e_truI, w_dget, w_ixref, w_ixlst, w_ixrol, w_ixtup, w_dref, isK_dct, isK_dctL, reduceCtorEq, false_implies, true_implies, Bool.false_eq_true, Bool.true_eq_false, e_lenlst, e_lenrol, e_lentup, w_lenref, w_ite, getS, setS, keyD, List.map_cons, List.map_nil, List.cons_append, List.nil_append, List.length_cons, List.length_nil, List.replicate, Nat.reduceSub, Nat.reduceAdd, Nat.reduceLeDiff, Nat.reduceLT, List.set_cons_zero, List.set_cons_succ, decide_eq_true_eq, decide_eq_false_iff_not, Bool.not_eq_true', Bool.not_eq_false', true_and, and_true, forall_const, wipeS]
    · simp only [w_some, w_var, w_c, w_op, w_un, w_anil, w_acons, w_fn (f := fLen), w_fn (f := fInt), w_fn (f := fAbs), w_fn (f := fMax2), w_fn (f := fMin2), w_fn (f := fBool), w_fn (f := fTuple), w_fn (f := fDictM), w_fn (f := fTupP), w_fn (f := fDictP), w_fn (f := fSrTup), w_fn (f := fLenD), w_tup, w_lst, w_lstM, isB_bl, w_test, w_cand, w_cor, w_cnot, w_if, w_tru, w_and, w_or, w_not, w_chain, w_chain3, isR_ref, isI_ins, isD_dct, isL_lst, w_fld, w_lm, w_dm, w_disp, w_dnil, w_dcons, w_nil, w_retN, w_break, w_cont, nxt_nx, nxt_rt, nxt_bk, nxt_ct, w_seq, w_set, w_drop, w_ret, w_sif, w_asg, w_gN, w_gT, w_gsnil, w_gscons, w_gdput, w_dput, isN_int, w_lput, w_par, w_aug, w_flds, w_flda, gives_rt, gives_nx, w_fnb, w_range1, w_range2, isS_lst, isS_rol, isS_tup, w_iseq, w_dnew, w_dc, w_mul, w_div, w_mod, w_tupP, w_dget2, w_srit, e_tupP, e_tupleL, e_tupleT, e_addPI, e_isN_non, e_isN_ptp, e_notN_non, e_notN_ptp, w_par3, w_ixptp, e_lenptp, isS_ptp, e_min2', w_for, w_iseq, e_add, e_addI, e_sub, e_cmp, e_eqI, e_neI, e_eqS, e_neS, e_eqB, e_neB, e_abs, e_int, e_max2, e_truB, e_truI, w_dget, w_ixref, w_ixlst, w_ixrol, w_ixtup, w_dref, isK_dct, isK_dctL, reduceCtorEq, false_implies, true_implies, Bool.false_eq_true, Bool.true_eq_false, e_lenlst, e_lenrol, e_lentup, w_lenref, w_ite, getS, setS, keyD, List.map_cons, List.map_nil, List.cons_append, List.nil_append, List.length_cons, List.length_nil, List.replicate, Nat.reduceSub, Nat.reduceAdd, Nat.reduceLeDiff, Nat.reduceLT, List.set_cons_zero, List.set_cons_succ, decide_eq_true_eq, decide_eq_false_iff_not, Bool.not_eq_true', Bool.not_eq_false', true_and, and_true, forall_const, wipeS]
  · have hf := List.length_filter_le (fun x => !decide (x = line)) (rowP T rows line)
    have e5 : fAdd (.tup [.int line]) (.tup ((List.filter (fun x => !decide (x = line)) (rowP T rows line)).map D.int)) m = some (.tup ((mtf (rowP T rows line) line).map D.int), m) := by
      rw [e_addT (by simp; omega), mtf_map]
    simp only [w_some, w_var, w_c, w_op, w_un, w_anil, w_acons, w_fn (f := fLen), w_fn (f := fInt), w_fn (f := fAbs), w_fn (f := fMax2), w_fn (f := fMin2), w_fn (f := fBool), w_fn (f := fTuple), w_fn (f := fDictM), w_fn (f := fTupP), w_fn (f := fDictP), w_fn (f := fSrTup), w_fn (f := fLenD), w_tup, w_lst, w_lstM, isB_bl, w_test, w_cand, w_cor, w_cnot, w_if, w_tru, w_and, w_or, w_not, w_chain, w_chain3, isR_ref, isI_ins, isD_dct, isL_lst, w_fld, w_lm, w_dm, w_disp, w_dnil, w_dcons, w_nil, w_retN, w_break, w_cont, nxt_nx, nxt_rt, nxt_bk, nxt_ct, w_seq, w_set, w_drop, w_ret, w_sif, w_asg, w_gN, w_gT, w_gsnil, w_gscons, w_gdput, w_dput, isN_int, w_lput, w_par, w_aug, w_flds, w_flda, gives_rt, gives_nx, w_fnb, w_range1, w_range2, isS_lst, isS_rol, isS_tup, w_iseq, w_dnew, w_dc, w_mul, w_div, w_mod, w_tupP, w_dget2, w_srit, e_tupP, e_tupleL, e_tupleT, e_addPI, e_isN_non, e_isN_ptp, e_notN_non, e_notN_ptp, w_par3, w_ixptp, e_lenptp, isS_ptp, e_min2', w_for, w_iseq, e_add, e_addI, e_sub, e_cmp, e_eqI, e_neI, e_eqS, e_neS, e_eqB, e_neB, e_abs, e_int, e_max2, e_truB, e_truI, w_dget, w_ixref, w_ixlst, w_ixrol, w_ixtup, w_dref, isK_dct, isK_dctL, reduceCtorEq, false_implies, true_implies, Bool.false_eq_true, Bool.true_eq_false, e_lenlst, e_lenrol, e_lentup, w_lenref, w_ite, getS, setS, keyD, List.map_cons, List.map_nil, List.cons_append, List.nil_append, List.length_cons, List.length_nil, List.replicate, Nat.reduceSub, Nat.reduceAdd, Nat.reduceLeDiff, Nat.reduceLT, List.set_cons_zero, List.set_cons_succ, decide_eq_true_eq, decide_eq_false_iff_not, Bool.not_eq_true', Bool.not_eq_false', true_and, and_true, forall_const, w_sl, e5, hb, hj, cacheF, e_fld1, e_fld3, e_cut (show 0 ≤ T.W by omega), ← List.map_take, List.length_map, ixN_nat hat, set_rows]
    exact q
theorem lines_wp (h : CacheAt m b j T rows) (q : Q (.tup (rows.map rowD), m)) : wp (f_Cache_lines [.ref b] m) Q := by
  obtain ⟨hb, hj⟩ := h
  unfold f_Cache_lines b_Cache_lines
  simp only [w_some, w_var, w_c, w_op, w_un, w_anil, w_acons, w_fn (f := fLen), w_fn (f := fInt), w_fn (f := fAbs), w_fn (f := fMax2), w_fn (f := fMin2), w_fn (f := fBool), w_fn (f := fTuple), w_fn (f := fDictM), w_fn (f := fTupP), w_fn (f := fDictP), w_fn (f := fSrTup), w_fn (f := fLenD), w_tup, w_lst, w_lstM, isB_bl, w_test, w_cand, w_cor, w_cnot, w_if, w_tru, w_and, w_or, w_not, w_chain, w_chain3, isR_ref, isI_ins, isD_dct, isL_lst, w_fld, w_lm, w_dm, w_disp, w_dnil, w_dcons, w_nil, w_retN, w_break, w_cont, nxt_nx, nxt_rt, nxt_bk, nxt_ct, w_seq, w_set, w_drop, w_ret, w_sif, w_asg, w_gN, w_gT, w_gsnil, w_gscons, w_gdput, w_dput, isN_int, w_lput, w_par, w_aug, w_flds, w_flda, gives_rt, gives_nx, w_fnb, w_range1, w_range2, isS_lst, isS_rol, isS_tup, w_iseq, w_dnew, w_dc, w_mul, w_div, w_mod, w_tupP, w_dget2, w_srit, e_tupP, e_tupleL, e_tupleT, e_addPI, e_isN_non, e_isN_ptp, e_notN_non, e_notN_ptp, w_par3, w_ixptp, e_lenptp, isS_ptp, e_min2', w_for, w_iseq, e_add, e_addI, e_sub, e_cmp, e_eqI, e_neI, e_eqS, e_neS, e_eqB, e_neB, e_abs, e_int, e_max2, e_truB, e_truI, w_dget, w_ixref, w_ixlst, w_ixrol, w_ixtup, w_dref, isK_dct, isK_dctL, reduceCtorEq, false_implies, true_implies, Bool.false_eq_true, Bool.true_eq_false, e_lenlst, e_lenrol, e_lentup, w_lenref, w_ite, getS, setS, keyD, List.map_cons, List.map_nil, List.cons_append, List.nil_append, List.length_cons, List.length_nil, List.replicate, Nat.reduceSub, Nat.reduceAdd, Nat.reduceLeDiff, Nat.reduceLT, List.set_cons_zero, List.set_cons_succ, decide_eq_true_eq, decide_eq_false_iff_not, Bool.not_eq_true', Bool.not_eq_false', true_and, and_true, forall_const, hb, cacheF, e_fld3, e_tupleR hj]
  exact q
end
end K03

set_option Elab.async false
set_option maxRecDepth 100000
set_option linter.unusedSimpArgs false
set_option linter.unusedVariables false
namespace K03
open PySem L2 Mini

def dedD (row : List Int) (acc : List (Key × D)) : List (Key × D) := row.foldl (fun d x => putD d (.inl x) (.bl true)) acc
theorem ded_len : ∀ {row : List Int} {acc : List (Key × D)}, row.Nodup → (∀ x ∈ row, ∀ kv ∈ acc, kv.1 ≠ .inl x) → (dedD row acc).length = acc.length + row.length
  | [], acc, _, _ => rfl
  | x :: row, acc, hn, ha => by
    obtain ⟨hx, hn'⟩ := List.nodup_cons.mp hn
    have e : putD acc (.inl x) (.bl true) = acc ++ [(.inl x, .bl true)] := by
      unfold putD
      rw [if_neg]
      intro h
      obtain ⟨kv, hk, h2⟩ := List.any_eq_true.mp h
      exact ha x List.mem_cons_self kv hk (by simpa using h2)
    show (dedD row (putD acc (.inl x) (.bl true))).length = _
    rw [e, ded_len hn' fun y hy kv hk => ?_]
    · simp
      omega
    · rcases List.mem_append.mp hk with hk | hk
      · exact ha y (List.mem_cons_of_mem _ hy) kv hk
      · have : kv = (.inl x, .bl true) := by simpa using hk
        subst this
        intro h
        have : x = y := Sum.inl.inj h
        exact hx (this ▸ hy)
theorem loop_ded {sg : Sg} {m : M} {i : Nat} (hi : ∀ x : Int, getS (setS sg i (.int x)) i = some (.int x)) : ∀ {row : List Int} {acc : List (Key × D)}, loopDC (gN i) cYes (xVar i) (xC (.bl true)) sg (row.map D.int) acc m = some (dedD row acc, m)
  | [], _ => rfl
  | x :: row, acc => by
    simp only [List.map_cons, loopDC, gN, cYes, xVar, hi, xC, keyD]
    exact loop_ded hi
theorem e_lenD {m : M} {i : Nat} {kvs : List (Key × D)} (h : m[i]? = some (.dct kvs)) : fLenD [.ref i] m = some (.int kvs.length, m) := by
  unfold fLenD dctD
  simp only [h]
theorem any_ints {a e : XE} {vs : List Nat} {i : Nat} {sg : Sg} {m : M} {l : List Int} {g : Int → Bool} (ha : a sg m = some (.tup (l.map D.int), m)) (hl : l.length ≤ 100000)
    (w : ∀ x ∈ l, e (setS (wipeS sg vs) i (.int x)) m = some (.bl (g x), m)) :
    xFn fAny (aCons (xLc vs (iSeq a) (gN i) cYes e) aNil) sg m = some (.bl (l.any g), m) := by
  refine wp_of (w_fn.mpr (w_acons.mpr (w_lc.mpr (w_iseq.mpr ?_))))
  rw [ha, w_some]
  refine ⟨by simpa using hl, wp.eq (loopC_map (f := D.int) (p := fun _ => true) (h := fun p => .bl (g p)) fun p hp => ?_) ?_⟩
  · exact .eq (by rfl) ⟨rfl, rfl, fun _ => w p hp⟩
  · rw [w_anil, filter_yes]
    simp only [fAny, listD, seqD, blsD_map, w_some]
    simp
def rowBad (T : Told) (a : Int) (row : List Int) : Bool := decide (T.W < (row.length : Int)) || (!decide (((dedD row []).length : Int) = row.length)) || row.any fun l => !decide (l % T.S = a)
def rowB : XS := (sSeq (sIf (cOr (cTest (xOp fGt (xFn fLen (aCons (xVar 3) aNil)) (xOp fIx (xVar 0) (xC (.int 1))))) ((cTest (xOp fNe (xFn fLenD (aCons (xDc [4] (iSeq (xVar 3)) (gN 4) cYes (xVar 4) (xC (.bl true))) aNil)) (xFn fLen (aCons (xVar 3) aNil)))))) (sRet (xC (.bl false))) sNil)
  (sIf (cTru (xFn fAny (aCons (xLc [4] (iSeq (xVar 3)) (gN 4) cYes (xOp fNe (xOp fMod (xVar 4) (xOp fIx (xVar 0) (xC (.int 0)))) (xVar 2))) aNil))) (sRet (xC (.bl false))) sNil))
theorem start_shape : b_is_start = (sSeq (sIf (cTest (xOp fNe (xFn fLen (aCons (xVar 1) aNil)) (xOp fIx (xVar 0) (xC (.int 0))))) (sRet (xC (.bl false))) sNil)
  (sSeq (sFor (iEnum (aCons (xVar 1) aNil)) (gT 2 (gsCons (gN 2) (gsCons (gN 3) gsNil))) rowB)
  (sRet (xC (.bl true))))) := rfl
section
variable {T : Told} {line : Int} {m : M} {rows rest : Rows} {r0 : List Int} {k : Kn} {Q : D × M → Prop} {b j : Nat}
theorem rowB_wp {a : Int} {row : List Int} {R : D} {x4 : Option D} {Q : Fl × Sg × M → Prop} (hl : row.length ≤ 100) (hS : 0 < T.S) (bad : rowBad T a row = true → ∀ s G, Q (.rt (.bl false), s, m ++ G))
    (ok : rowBad T a row = false → ∀ x G, Q (.nx, [some (.tup [.int T.S, .int T.W, .str (polS T.lru)]), some R, some (.int a), some (rowD row), x], m ++ G)) :
    wp (rowB [some (.tup [.int T.S, .int T.W, .str (polS T.lru)]), some R, some (.int a), some (rowD row), x4] m) Q := by
  unfold rowBad at bad ok
  have hany : ∀ m2 : M, xFn fAny (aCons (xLc [4] (iSeq (xVar 3)) (gN 4) cYes (xOp fNe (xOp fMod (xVar 4) (xOp fIx (xVar 0) (xC (.int 0)))) (xVar 2))) aNil) [some (.tup [.int T.S, .int T.W, .str (polS T.lru)]), some R, some (.int a), some (rowD row), x4] m2 = some (.bl (row.any fun l => !decide (l % T.S = a)), m2) := fun m2 => by
    refine any_ints ?_ (by omega) fun x hx => wp_of ?_
    · refine wp_of ?_
      simp only [w_some, w_var, w_c, w_op, w_un, w_anil, w_acons, w_fn (f := fLen), w_fn (f := fInt), w_fn (f := fAbs), w_fn (f := fMax2), w_fn (f := fMin2), w_fn (f := fBool), w_fn (f := fTuple), w_fn (f := fDictM), w_fn (f := fTupP), w_fn (f := fDictP), w_fn (f := fSrTup), w_fn (f := fLenD), w_tup, w_lst, w_lstM, isB_bl, w_test, w_cand, w_cor, w_cnot, w_if, w_tru, w_and, w_or, w_not, w_chain, w_chain3, isR_ref, isI_ins, isD_dct, isL_lst, w_fld, w_lm, w_dm, w_disp, w_dnil, w_dcons, w_nil, w_retN, w_break, w_cont, nxt_nx, nxt_rt, nxt_bk, nxt_ct, w_seq, w_set, w_drop, w_ret, w_sif, w_asg, w_gN, w_gT, w_gsnil, w_gscons, w_gdput, w_dput, isN_int, w_lput, w_par, w_aug, w_flds, w_flda, gives_rt, gives_nx, w_fnb, w_range1, w_range2, isS_lst, isS_rol, isS_tup, w_iseq, w_dnew, w_dc, w_mul, w_div, w_mod, w_tupP, w_dget2, w_srit, e_tupP, e_tupleL, e_tupleT, e_addPI, e_isN_non, e_isN_ptp, e_notN_non, e_notN_ptp, w_par3, w_ixptp, e_lenptp, isS_ptp, e_min2', w_for, w_iseq, e_add, e_addI, e_sub, e_cmp, e_eqI, e_neI, e_eqS, e_neS, e_eqB, e_neB, e_abs, e_int, e_max2, e_truB, e_truI, w_dget, w_ixref, w_ixlst, w_ixrol, w_ixtup, w_dref, isK_dct, isK_dctL, reduceCtorEq, false_implies, true_implies, Bool.false_eq_true, Bool.true_eq_false, e_lenlst, e_lenrol, e_lentup, w_lenref, w_ite, getS, setS, keyD, List.map_cons, List.map_nil, List.cons_append, List.nil_append, List.length_cons, List.length_nil, List.replicate, Nat.reduceSub, Nat.reduceAdd, Nat.reduceLeDiff, Nat.reduceLT, List.set_cons_zero, List.set_cons_succ, decide_eq_true_eq, decide_eq_false_iff_not, Bool.not_eq_true', Bool.not_eq_false', true_and, and_true, forall_const, rowD]
    · simp only [w_some, w_var, w_c, w_op, w_un, w_anil, w_acons, w_fn (f := fLen), w_fn (f := fInt), w_fn (f := fAbs), w_fn (f := fMax2), w_fn (f := fMin2), w_fn (f := fBool), w_fn (f := fTuple), w_fn (f := fDictM), w_fn (f := fTupP), w_fn (f := fDictP), w_fn (f := fSrTup), w_fn (f := fLenD), w_tup, w_lst, w_lstM, isB_bl, w_test, w_cand, w_cor, w_cnot, w_if, w_tru, w_and, w_or, w_not, w_chain, w_chain3, isR_ref, isI_ins, isD_dct, isL_lst, w_fld, w_lm, w_dm, w_disp, w_dnil, w_dcons, w_nil, w_retN, w_break, w_cont, nxt_nx, nxt_rt, nxt_bk, nxt_ct, w_seq, w_set, w_drop, w_ret, w_sif, w_asg, w_gN, w_gT, w_gsnil, w_gscons, w_gdput, w_dput, isN_int, w_lput, w_par, w_aug, w_flds, w_flda, gives_rt, gives_nx, w_fnb, w_range1, w_range2, isS_lst, isS_rol, isS_tup, w_iseq, w_dnew, w_dc, w_mul, w_div, w_mod, w_tupP, w_dget2, w_srit, e_tupP, e_tupleL, e_tupleT, e_addPI, e_isN_non, e_isN_ptp, e_notN_non, e_notN_ptp, w_par3, w_ixptp, e_lenptp, isS_ptp, e_min2', w_for, w_iseq, e_add, e_addI, e_sub, e_cmp, e_eqI, e_neI, e_eqS, e_neS, e_eqB, e_neB, e_abs, e_int, e_max2, e_truB, e_truI, w_dget, w_ixref, w_ixlst, w_ixrol, w_ixtup, w_dref, isK_dct, isK_dctL, reduceCtorEq, false_implies, true_implies, Bool.false_eq_true, Bool.true_eq_false, e_lenlst, e_lenrol, e_lentup, w_lenref, w_ite, getS, setS, keyD, List.map_cons, List.map_nil, List.cons_append, List.nil_append, List.length_cons, List.length_nil, List.replicate, Nat.reduceSub, Nat.reduceAdd, Nat.reduceLeDiff, Nat.reduceLT, List.set_cons_zero, List.set_cons_succ, decide_eq_true_eq, decide_eq_false_iff_not, Bool.not_eq_true', Bool.not_eq_false', true_and, and_true, forall_const, wipeS, ix3_0, hS]
  unfold rowB
  simp only [w_some, w_var, w_c, w_op, w_un, w_anil, w_acons, w_fn (f := fLen), w_fn (f := fInt), w_fn (f := fAbs), w_fn (f := fMax2), w_fn (f := fMin2), w_fn (f := fBool), w_fn (f := fTuple), w_fn (f := fDictM), w_fn (f := fTupP), w_fn (f := fDictP), w_fn (f := fSrTup), w_fn (f := fLenD), w_tup, w_lst, w_lstM, isB_bl, w_test, w_cand, w_cor, w_cnot, w_if, w_tru, w_and, w_or, w_not, w_chain, w_chain3, isR_ref, isI_ins, isD_dct, isL_lst, w_fld, w_lm, w_dm, w_disp, w_dnil, w_dcons, w_nil, w_retN, w_break, w_cont, nxt_nx, nxt_rt, nxt_bk, nxt_ct, w_seq, w_set, w_drop, w_ret, w_sif, w_asg, w_gN, w_gT, w_gsnil, w_gscons, w_gdput, w_dput, isN_int, w_lput, w_par, w_aug, w_flds, w_flda, gives_rt, gives_nx, w_fnb, w_range1, w_range2, isS_lst, isS_rol, isS_tup, w_iseq, w_dnew, w_dc, w_mul, w_div, w_mod, w_tupP, w_dget2, w_srit, e_tupP, e_tupleL, e_tupleT, e_addPI, e_isN_non, e_isN_ptp, e_notN_non, e_notN_ptp, w_par3, w_ixptp, e_lenptp, isS_ptp, e_min2', w_for, w_iseq, e_add, e_addI, e_sub, e_cmp, e_eqI, e_neI, e_eqS, e_neS, e_eqB, e_neB, e_abs, e_int, e_max2, e_truB, e_truI, w_dget, w_ixref, w_ixlst, w_ixrol, w_ixtup, w_dref, isK_dct, isK_dctL, reduceCtorEq, false_implies, true_implies, Bool.false_eq_true, Bool.true_eq_false, e_lenlst, e_lenrol, e_lentup, w_lenref, w_ite, getS, setS, keyD, List.map_cons, List.map_nil, List.cons_append, List.nil_append, List.length_cons, List.length_nil, List.replicate, Nat.reduceSub, Nat.reduceAdd, Nat.reduceLeDiff, Nat.reduceLT, List.set_cons_zero, List.set_cons_succ, decide_eq_true_eq, decide_eq_false_iff_not, Bool.not_eq_true', Bool.not_eq_false', true_and, and_true, forall_const, rowD, ix3_1, List.length_map]
  refine ⟨fun h => ⟨by omega, ?_⟩, fun h => ?_⟩
  · refine wp.eq (loop_ded fun x => rfl) ?_
    simp only [w_some, w_var, w_c, w_op, w_un, w_anil, w_acons, w_fn (f := fLen), w_fn (f := fInt), w_fn (f := fAbs), w_fn (f := fMax2), w_fn (f := fMin2), w_fn (f := fBool), w_fn (f := fTuple), w_fn (f := fDictM), w_fn (f := fTupP), w_fn (f := fDictP), w_fn (f := fSrTup), w_fn (f := fLenD), w_tup, w_lst, w_lstM, isB_bl, w_test, w_cand, w_cor, w_cnot, w_if, w_tru, w_and, w_or, w_not, w_chain, w_chain3, isR_ref, isI_ins, isD_dct, isL_lst, w_fld, w_lm, w_dm, w_disp, w_dnil, w_dcons, w_nil, w_retN, w_break, w_cont, nxt_nx, nxt_rt, nxt_bk, nxt_ct, w_seq, w_set, w_drop, w_ret, w_sif, w_asg, w_gN, w_gT, w_gsnil, w_gscons, w_gdput, w_dput, isN_int, w_lput, w_par, w_aug, w_flds, w_flda, gives_rt, gives_nx, w_fnb, w_range1, w_range2, isS_lst, isS_rol, isS_tup, w_iseq, w_dnew, w_dc, w_mul, w_div, w_mod, w_tupP, w_dget2, w_srit, e_tupP, e_tupleL, e_tupleT, e_addPI, e_isN_non, e_isN_ptp, e_notN_non, e_notN_ptp, w_par3, w_ixptp, e_lenptp, isS_ptp, e_min2', w_for, w_iseq, e_add, e_addI, e_sub, e_cmp, e_eqI, e_neI, e_eqS, e_neS, e_eqB, e_neB, e_abs, e_int, e_max2, e_truB, e_truI, w_dget, w_ixref, w_ixlst, w_ixrol, w_ixtup, w_dref, isK_dct, isK_dctL, reduceCtorEq, false_implies, true_implies, Bool.false_eq_true, Bool.true_eq_false, e_lenlst, e_lenrol, e_lentup, w_lenref, w_ite, getS, setS, keyD, List.map_cons, List.map_nil, List.cons_append, List.nil_append, List.length_cons, List.length_nil, List.replicate, Nat.reduceSub, Nat.reduceAdd, Nat.reduceLeDiff, Nat.reduceLT, List.set_cons_zero, List.set_cons_succ, decide_eq_true_eq, decide_eq_false_iff_not, Bool.not_eq_true', Bool.not_eq_false', true_and, and_true, forall_const, e_lenD get_len, List.length_map]
    refine ⟨fun h2 => ?_, fun h2 => ?_⟩
    · exact bad (by simp [h2]) _ _
    · have := hany (m ++ [.dct (dedD row [])])
      unfold rowD at this
      refine wp.eq this ?_
      simp only [w_some, w_var, w_c, w_op, w_un, w_anil, w_acons, w_fn (f := fLen), w_fn (f := fInt), w_fn (f := fAbs), w_fn (f := fMax2), w_fn (f := fMin2), w_fn (f := fBool), w_fn (f := fTuple), w_fn (f := fDictM), w_fn (f := fTupP), w_fn (f := fDictP), w_fn (f := fSrTup), w_fn (f := fLenD), w_tup, w_lst, w_lstM, isB_bl, w_test, w_cand, w_cor, w_cnot, w_if, w_tru, w_and, w_or, w_not, w_chain, w_chain3, isR_ref, isI_ins, isD_dct, isL_lst, w_fld, w_lm, w_dm, w_disp, w_dnil, w_dcons, w_nil, w_retN, w_break, w_cont, nxt_nx, nxt_rt, nxt_bk, nxt_ct, w_seq, w_set, w_drop, w_ret, w_sif, w_asg, w_gN, w_gT, w_gsnil, w_gscons, w_gdput, w_dput, isN_int, w_lput, w_par, w_aug, w_flds, w_flda, gives_rt, gives_nx, w_fnb, w_range1, w_range2, isS_lst, isS_rol, isS_tup, w_iseq, w_dnew, w_dc, w_mul, w_div, w_mod, w_tupP, w_dget2, w_srit, e_tupP, e_tupleL, e_tupleT, e_addPI, e_isN_non, e_isN_ptp, e_notN_non, e_notN_ptp, w_par3, w_ixptp, e_lenptp, isS_ptp, e_min2', w_for, w_iseq, e_add, e_addI, e_sub, e_cmp, e_eqI, e_neI, e_eqS, e_neS, e_eqB, e_neB, e_abs, e_int, e_max2, e_truB, e_truI, w_dget, w_ixref, w_ixlst, w_ixrol, w_ixtup, w_dref, isK_dct, isK_dctL, reduceCtorEq, false_implies, true_implies, Bool.false_eq_true, Bool.true_eq_false, e_lenlst, e_lenrol, e_lentup, w_lenref, w_ite, getS, setS, keyD, List.map_cons, List.map_nil, List.cons_append, List.nil_append, List.length_cons, List.length_nil, List.replicate, Nat.reduceSub, Nat.reduceAdd, Nat.reduceLeDiff, Nat.reduceLT, List.set_cons_zero, List.set_cons_succ, decide_eq_true_eq, decide_eq_false_iff_not, Bool.not_eq_true', Bool.not_eq_false', true_and, and_true, forall_const]
      have h2' : (((dedD row []).length : Int) = row.length) := by omega
      refine ⟨fun h3 => bad (by rw [h3]; simp) _ _, fun h3 => ok (by rw [h3]; simp [h2']; omega) _ _⟩
  · have := bad (by simp [h]) 
    simpa using this _ []
theorem start_len (h : (rows.length : Int) ≠ T.S) (q : Q (.bl false, m)) : wp (f_is_start [toldD T, .tup (rows.map rowD)] m) Q := by
  unfold f_is_start b_is_start toldD
  simp only [w_some, w_var, w_c, w_op, w_un, w_anil, w_acons, w_fn (f := fLen), w_fn (f := fInt), w_fn (f := fAbs), w_fn (f := fMax2), w_fn (f := fMin2), w_fn (f := fBool), w_fn (f := fTuple), w_fn (f := fDictM), w_fn (f := fTupP), w_fn (f := fDictP), w_fn (f := fSrTup), w_fn (f := fLenD), w_tup, w_lst, w_lstM, isB_bl, w_test, w_cand, w_cor, w_cnot, w_if, w_tru, w_and, w_or, w_not, w_chain, w_chain3, isR_ref, isI_ins, isD_dct, isL_lst, w_fld, w_lm, w_dm, w_disp, w_dnil, w_dcons, w_nil, w_retN, w_break, w_cont, nxt_nx, nxt_rt, nxt_bk, nxt_ct, w_seq, w_set, w_drop, w_ret, w_sif, w_asg, w_gN, w_gT, w_gsnil, w_gscons, w_gdput, w_dput, isN_int, w_lput, w_par, w_aug, w_flds, w_flda, gives_rt, gives_nx, w_fnb, w_range1, w_range2, isS_lst, isS_rol, isS_tup, w_iseq, w_dnew, w_dc, w_mul, w_div, w_mod, w_tupP, w_dget2, w_srit, e_tupP, e_tupleL, e_tupleT, e_addPI, e_isN_non, e_isN_ptp, e_notN_non, e_notN_ptp, w_par3, w_ixptp, e_lenptp, isS_ptp, e_min2', w_for, w_iseq, e_add, e_addI, e_sub, e_cmp, e_eqI, e_neI, e_eqS, e_neS, e_eqB, e_neB, e_abs, e_int, e_max2, e_truB, e_truI, w_dget, w_ixref, w_ixlst, w_ixrol, w_ixtup, w_dref, isK_dct, isK_dctL, reduceCtorEq, false_implies, true_implies, Bool.false_eq_true, Bool.true_eq_false, e_lenlst, e_lenrol, e_lentup, w_lenref, w_ite, getS, setS, keyD, List.map_cons, List.map_nil, List.cons_append, List.nil_append, List.length_cons, List.length_nil, List.replicate, Nat.reduceSub, Nat.reduceAdd, Nat.reduceLeDiff, Nat.reduceLT, List.set_cons_zero, List.set_cons_succ, decide_eq_true_eq, decide_eq_false_iff_not, Bool.not_eq_true', Bool.not_eq_false', true_and, and_true, forall_const, ix3_0, List.length_map]
  exact ⟨fun _ => q, fun h2 => absurd h2 h⟩
theorem start_bad (hl : ((r0 :: rest).length : Int) = T.S) (hr : r0.length ≤ 100) (hS : 0 < T.S) (hb : rowBad T 0 r0 = true) (q : ∀ G, Q (.bl false, m ++ G)) : wp (f_is_start [toldD T, .tup ((r0 :: rest).map rowD)] m) Q := by
  unfold f_is_start toldD
  rw [start_shape]
  simp only [w_some, w_var, w_c, w_op, w_un, w_anil, w_acons, w_fn (f := fLen), w_fn (f := fInt), w_fn (f := fAbs), w_fn (f := fMax2), w_fn (f := fMin2), w_fn (f := fBool), w_fn (f := fTuple), w_fn (f := fDictM), w_fn (f := fTupP), w_fn (f := fDictP), w_fn (f := fSrTup), w_fn (f := fLenD), w_tup, w_lst, w_lstM, isB_bl, w_test, w_cand, w_cor, w_cnot, w_if, w_tru, w_and, w_or, w_not, w_chain, w_chain3, isR_ref, isI_ins, isD_dct, isL_lst, w_fld, w_lm, w_dm, w_disp, w_dnil, w_dcons, w_nil, w_retN, w_break, w_cont, nxt_nx, nxt_rt, nxt_bk, nxt_ct, w_seq, w_set, w_drop, w_ret, w_sif, w_asg, w_gN, w_gT, w_gsnil, w_gscons, w_gdput, w_dput, isN_int, w_lput, w_par, w_aug, w_flds, w_flda, gives_rt, gives_nx, w_fnb, w_range1, w_range2, isS_lst, isS_rol, isS_tup, w_iseq, w_dnew, w_dc, w_mul, w_div, w_mod, w_tupP, w_dget2, w_srit, e_tupP, e_tupleL, e_tupleT, e_addPI, e_isN_non, e_isN_ptp, e_notN_non, e_notN_ptp, w_par3, w_ixptp, e_lenptp, isS_ptp, e_min2', w_for, w_iseq, e_add, e_addI, e_sub, e_cmp, e_eqI, e_neI, e_eqS, e_neS, e_eqB, e_neB, e_abs, e_int, e_max2, e_truB, e_truI, w_dget, w_ixref, w_ixlst, w_ixrol, w_ixtup, w_dref, isK_dct, isK_dctL, reduceCtorEq, false_implies, true_implies, Bool.false_eq_true, Bool.true_eq_false, e_lenlst, e_lenrol, e_lentup, w_lenref, w_ite, getS, setS, keyD, List.map_cons, List.map_nil, List.cons_append, List.nil_append, List.length_cons, List.length_nil, List.replicate, Nat.reduceSub, Nat.reduceAdd, Nat.reduceLeDiff, Nat.reduceLT, List.set_cons_zero, List.set_cons_succ, decide_eq_true_eq, decide_eq_false_iff_not, Bool.not_eq_true', Bool.not_eq_false', true_and, and_true, forall_const, ix3_0, List.length_map, w_enum]
  refine ⟨fun h => absurd hl h, fun _ => ?_⟩
  have e : enumD (rowD r0 :: rest.map rowD) = .tup [.int 0, rowD r0] :: ((List.range rest.length).map fun (i : Nat) => .tup [.int ((i + 1 : Nat) : Int), (rest.map rowD).getD i .non]) := by
    unfold enumD
    simp only [List.map_cons, List.length_cons, List.length_map, List.range_succ_eq_map, List.map_map]
    rfl
  rw [e]
  have hw := rowB_wp (T := T) (m := m) (a := 0) (row := r0) (R := .tup (rowD r0 :: rest.map rowD)) (x4 := none) (Q := fun p => ∃ G, p.1 = .rt (.bl false) ∧ p.2.2 = m ++ G) hr hS (fun _ s G => ⟨G, rfl, rfl⟩) fun h => by rw [hb] at h; cases h
  obtain ⟨⟨fl, s, m1⟩, e1, G, h1, h2⟩ := hw
  simp only at h1 h2
  subst h1 h2
  have e2 : gT 2 (gsCons (gN 2) (gsCons (gN 3) gsNil)) (.tup [.int 0, rowD r0]) [some (.tup [.int T.S, .int T.W, .str (polS T.lru)]), some (.tup (rowD r0 :: rest.map rowD)), none, none, none] m = some ([some (.tup [.int T.S, .int T.W, .str (polS T.lru)]), some (.tup (rowD r0 :: rest.map rowD)), some (.int 0), some (rowD r0), none], m) := rfl
  unfold loopS
  rw [e2]
  simp only
  rw [e1]
  simp only [w_some, w_var, w_c, w_op, w_un, w_anil, w_acons, w_fn (f := fLen), w_fn (f := fInt), w_fn (f := fAbs), w_fn (f := fMax2), w_fn (f := fMin2), w_fn (f := fBool), w_fn (f := fTuple), w_fn (f := fDictM), w_fn (f := fTupP), w_fn (f := fDictP), w_fn (f := fSrTup), w_fn (f := fLenD), w_tup, w_lst, w_lstM, isB_bl, w_test, w_cand, w_cor, w_cnot, w_if, w_tru, w_and, w_or, w_not, w_chain, w_chain3, isR_ref, isI_ins, isD_dct, isL_lst, w_fld, w_lm, w_dm, w_disp, w_dnil, w_dcons, w_nil, w_retN, w_break, w_cont, nxt_nx, nxt_rt, nxt_bk, nxt_ct, w_seq, w_set, w_drop, w_ret, w_sif, w_asg, w_gN, w_gT, w_gsnil, w_gscons, w_gdput, w_dput, isN_int, w_lput, w_par, w_aug, w_flds, w_flda, gives_rt, gives_nx, w_fnb, w_range1, w_range2, isS_lst, isS_rol, isS_tup, w_iseq, w_dnew, w_dc, w_mul, w_div, w_mod, w_tupP, w_dget2, w_srit, e_tupP, e_tupleL, e_tupleT, e_addPI, e_isN_non, e_isN_ptp, e_notN_non, e_notN_ptp, w_par3, w_ixptp, e_lenptp, isS_ptp, e_min2', w_for, w_iseq, e_add, e_addI, e_sub, e_cmp, e_eqI, e_neI, e_eqS, e_neS, e_eqB, e_neB, e_abs, e_int, e_max2, e_truB, e_truI, w_dget, w_ixref, w_ixlst, w_ixrol, w_ixtup, w_dref, isK_dct, isK_dctL, reduceCtorEq, false_implies, true_implies, Bool.false_eq_true, Bool.true_eq_false, e_lenlst, e_lenrol, e_lentup, w_lenref, w_ite, getS, setS, keyD, List.map_cons, List.map_nil, List.cons_append, List.nil_append, List.length_cons, List.length_nil, List.replicate, Nat.reduceSub, Nat.reduceAdd, Nat.reduceLeDiff, Nat.reduceLT, List.set_cons_zero, List.set_cons_succ, decide_eq_true_eq, decide_eq_false_iff_not, Bool.not_eq_true', Bool.not_eq_false', true_and, and_true, forall_const]
  exact q G
theorem valid_ok (t : TOk T) (v : Valid T rows) {i : Nat} {row : List Int} (h : rows[i]? = some row) : rowBad T i row = false := by
  obtain ⟨h1, h2, h3⟩ := v.row i row h
  have hd := ded_len (acc := []) h1 (by simp)
  unfold rowBad
  rw [hd]
  simp only [List.length_nil, Nat.zero_add, decide_true, Bool.not_true, Bool.or_false, Bool.or_eq_false_iff, decide_eq_false_iff_not]
  refine ⟨by omega, ?_⟩
  rw [List.any_eq_false]
  intro l hl
  simp [h3 l hl]
theorem start_true (t : TOk T) (v : Valid T rows) (q : ∀ G, Q (.bl true, m ++ G)) : wp (f_is_start [toldD T, .tup (rows.map rowD)] m) Q := by
  have hS : 0 < T.S := by rcases t.s with h | h <;> omega
  have hlen := v.len
  have hc := rows_row t v
  unfold f_is_start toldD
  rw [start_shape]
  simp only [w_some, w_var, w_c, w_op, w_un, w_anil, w_acons, w_fn (f := fLen), w_fn (f := fInt), w_fn (f := fAbs), w_fn (f := fMax2), w_fn (f := fMin2), w_fn (f := fBool), w_fn (f := fTuple), w_fn (f := fDictM), w_fn (f := fTupP), w_fn (f := fDictP), w_fn (f := fSrTup), w_fn (f := fLenD), w_tup, w_lst, w_lstM, isB_bl, w_test, w_cand, w_cor, w_cnot, w_if, w_tru, w_and, w_or, w_not, w_chain, w_chain3, isR_ref, isI_ins, isD_dct, isL_lst, w_fld, w_lm, w_dm, w_disp, w_dnil, w_dcons, w_nil, w_retN, w_break, w_cont, nxt_nx, nxt_rt, nxt_bk, nxt_ct, w_seq, w_set, w_drop, w_ret, w_sif, w_asg, w_gN, w_gT, w_gsnil, w_gscons, w_gdput, w_dput, isN_int, w_lput, w_par, w_aug, w_flds, w_flda, gives_rt, gives_nx, w_fnb, w_range1, w_range2, isS_lst, isS_rol, isS_tup, w_iseq, w_dnew, w_dc, w_mul, w_div, w_mod, w_tupP, w_dget2, w_srit, e_tupP, e_tupleL, e_tupleT, e_addPI, e_isN_non, e_isN_ptp, e_notN_non, e_notN_ptp, w_par3, w_ixptp, e_lenptp, isS_ptp, e_min2', w_for, w_iseq, e_add, e_addI, e_sub, e_cmp, e_eqI, e_neI, e_eqS, e_neS, e_eqB, e_neB, e_abs, e_int, e_max2, e_truB, e_truI, w_dget, w_ixref, w_ixlst, w_ixrol, w_ixtup, w_dref, isK_dct, isK_dctL, reduceCtorEq, false_implies, true_implies, Bool.false_eq_true, Bool.true_eq_false, e_lenlst, e_lenrol, e_lentup, w_lenref, w_ite, getS, setS, keyD, List.map_cons, List.map_nil, List.cons_append, List.nil_append, List.length_cons, List.length_nil, List.replicate, Nat.reduceSub, Nat.reduceAdd, Nat.reduceLeDiff, Nat.reduceLT, List.set_cons_zero, List.set_cons_succ, decide_eq_true_eq, decide_eq_false_iff_not, Bool.not_eq_true', Bool.not_eq_false', true_and, and_true, forall_const, ix3_0, List.length_map, w_enum]
  refine ⟨fun h => absurd hlen h, fun _ => ?_⟩
  have e : enumD (rows.map rowD) = (List.range rows.length).map fun (i : Nat) => .tup [.int (i : Int), rowD (rows.getD i [])] := by
    unfold enumD
    rw [List.length_map]
    apply List.map_congr_left
    intro i hi
    have hi' : i < rows.length := by simpa using hi
    simp [hi']
  rw [e]
  refine wp_fold (l := List.range rows.length) (b0 := ()) (step := fun _ _ => ()) (fun _ sg m' => (∃ G, m' = m ++ G) ∧ ∃ x2 x3 x4, sg = [some (.tup [.int T.S, .int T.W, .str (polS T.lru)]), some (.tup (rows.map rowD)), x2, x3, x4]) ⟨⟨[], by simp⟩, _, _, _, rfl⟩ ?_ ?_
  · rintro _ i sg m' hi ⟨⟨G, rfl⟩, x2, x3, x4, rfl⟩
    have hi' : i < rows.length := by simpa using hi
    have hrow : rows[i]? = some (rows.getD i []) := by simp [hi']
    simp only [w_some, w_var, w_c, w_op, w_un, w_anil, w_acons, w_fn (f := fLen), w_fn (f := fInt), w_fn (f := fAbs), w_fn (f := fMax2), w_fn (f := fMin2), w_fn (f := fBool), w_fn (f := fTuple), w_fn (f := fDictM), w_fn (f := fTupP), w_fn (f := fDictP), w_fn (f := fSrTup), w_fn (f := fLenD), w_tup, w_lst, w_lstM, isB_bl, w_test, w_cand, w_cor, w_cnot, w_if, w_tru, w_and, w_or, w_not, w_chain, w_chain3, isR_ref, isI_ins, isD_dct, isL_lst, w_fld, w_lm, w_dm, w_disp, w_dnil, w_dcons, w_nil, w_retN, w_break, w_cont, nxt_nx, nxt_rt, nxt_bk, nxt_ct, w_seq, w_set, w_drop, w_ret, w_sif, w_asg, w_gN, w_gT, w_gsnil, w_gscons, w_gdput, w_dput, isN_int, w_lput, w_par, w_aug, w_flds, w_flda, gives_rt, gives_nx, w_fnb, w_range1, w_range2, isS_lst, isS_rol, isS_tup, w_iseq, w_dnew, w_dc, w_mul, w_div, w_mod, w_tupP, w_dget2, w_srit, e_tupP, e_tupleL, e_tupleT, e_addPI, e_isN_non, e_isN_ptp, e_notN_non, e_notN_ptp, w_par3, w_ixptp, e_lenptp, isS_ptp, e_min2', w_for, w_iseq, e_add, e_addI, e_sub, e_cmp, e_eqI, e_neI, e_eqS, e_neS, e_eqB, e_neB, e_abs, e_int, e_max2, e_truB, e_truI, w_dget, w_ixref, w_ixlst, w_ixrol, w_ixtup, w_dref, isK_dct, isK_dctL, reduceCtorEq, false_implies, true_implies, Bool.false_eq_true, Bool.true_eq_false, e_lenlst, e_lenrol, e_lentup, w_lenref, w_ite, getS, setS, keyD, List.map_cons, List.map_nil, List.cons_append, List.nil_append, List.length_cons, List.length_nil, List.replicate, Nat.reduceSub, Nat.reduceAdd, Nat.reduceLeDiff, Nat.reduceLT, List.set_cons_zero, List.set_cons_succ, decide_eq_true_eq, decide_eq_false_iff_not, Bool.not_eq_true', Bool.not_eq_false', true_and, and_true, forall_const]
    refine rowB_wp (hc _ (List.mem_of_getElem? hrow)) hS (fun h => ?_) fun _ x G2 => ⟨rfl, ⟨G ++ G2, by simp⟩, _, _, _, rfl⟩
    rw [valid_ok t v hrow] at h
    cases h
  · rintro sg _ ⟨⟨G, rfl⟩, x2, x3, x4, rfl⟩
    simp only [w_some, w_var, w_c, w_op, w_un, w_anil, w_acons, w_fn (f := fLen), w_fn (f := fInt), w_fn (f := fAbs), w_fn (f := fMax2), w_fn (f := fMin2), w_fn (f := fBool), w_fn (f := fTuple), w_fn (f := fDictM), w_fn (f := fTupP), w_fn (f := fDictP), w_fn (f := fSrTup), w_fn (f := fLenD), w_tup, w_lst, w_lstM, isB_bl, w_test, w_cand, w_cor, w_cnot, w_if, w_tru, w_and, w_or, w_not, w_chain, w_chain3, isR_ref, isI_ins, isD_dct, isL_lst, w_fld, w_lm, w_dm, w_disp, w_dnil, w_dcons, w_nil, w_retN, w_break, w_cont, nxt_nx, nxt_rt, nxt_bk, nxt_ct, w_seq, w_set, w_drop, w_ret, w_sif, w_asg, w_gN, w_gT, w_gsnil, w_gscons, w_gdput, w_dput, isN_int, w_lput, w_par, w_aug, w_flds, w_flda, gives_rt, gives_nx, w_fnb, w_range1, w_range2, isS_lst, isS_rol, isS_tup, w_iseq, w_dnew, w_dc, w_mul, w_div, w_mod, w_tupP, w_dget2, w_srit, e_tupP, e_tupleL, e_tupleT, e_addPI, e_isN_non, e_isN_ptp, e_notN_non, e_notN_ptp, w_par3, w_ixptp, e_lenptp, isS_ptp, e_min2', w_for, w_iseq, e_add, e_addI, e_sub, e_cmp, e_eqI, e_neI, e_eqS, e_neS, e_eqB, e_neB, e_abs, e_int, e_max2, e_truB, e_truI, w_dget, w_ixref, w_ixlst, w_ixrol, w_ixtup, w_dref, isK_dct, isK_dctL, reduceCtorEq, false_implies, true_implies, Bool.false_eq_true, Bool.true_eq_false, e_lenlst, e_lenrol, e_lentup, w_lenref, w_ite, getS, setS, keyD, List.map_cons, List.map_nil, List.cons_append, List.nil_append, List.length_cons, List.length_nil, List.replicate, Nat.reduceSub, Nat.reduceAdd, Nat.reduceLeDiff, Nat.reduceLT, List.set_cons_zero, List.set_cons_succ, decide_eq_true_eq, decide_eq_false_iff_not, Bool.not_eq_true', Bool.not_eq_false', true_and, and_true, forall_const]
    exact q G
theorem no_wp (t : TOk T) (q : Q (.tup (List.replicate T.S.toNat [D.tup []]).flatten, m)) : wp (f_no_lines [toldD T] m) Q := by
  have h1 : -1000 ≤ T.S ∧ T.S ≤ 1000 := by rcases t.s with h | h <;> omega
  unfold f_no_lines b_no_lines toldD
  simp only [w_some, w_var, w_c, w_op, w_un, w_anil, w_acons, w_fn (f := fLen), w_fn (f := fInt), w_fn (f := fAbs), w_fn (f := fMax2), w_fn (f := fMin2), w_fn (f := fBool), w_fn (f := fTuple), w_fn (f := fDictM), w_fn (f := fTupP), w_fn (f := fDictP), w_fn (f := fSrTup), w_fn (f := fLenD), w_tup, w_lst, w_lstM, isB_bl, w_test, w_cand, w_cor, w_cnot, w_if, w_tru, w_and, w_or, w_not, w_chain, w_chain3, isR_ref, isI_ins, isD_dct, isL_lst, w_fld, w_lm, w_dm, w_disp, w_dnil, w_dcons, w_nil, w_retN, w_break, w_cont, nxt_nx, nxt_rt, nxt_bk, nxt_ct, w_seq, w_set, w_drop, w_ret, w_sif, w_asg, w_gN, w_gT, w_gsnil, w_gscons, w_gdput, w_dput, isN_int, w_lput, w_par, w_aug, w_flds, w_flda, gives_rt, gives_nx, w_fnb, w_range1, w_range2, isS_lst, isS_rol, isS_tup, w_iseq, w_dnew, w_dc, w_mul, w_div, w_mod, w_tupP, w_dget2, w_srit, e_tupP, e_tupleL, e_tupleT, e_addPI, e_isN_non, e_isN_ptp, e_notN_non, e_notN_ptp, w_par3, w_ixptp, e_lenptp, isS_ptp, e_min2', w_for, w_iseq, e_add, e_addI, e_sub, e_cmp, e_eqI, e_neI, e_eqS, e_neS, e_eqB, e_neB, e_abs, e_int, e_max2, e_truB, e_truI, w_dget, w_ixref, w_ixlst, w_ixrol, w_ixtup, w_dref, isK_dct, isK_dctL, reduceCtorEq, false_implies, true_implies, Bool.false_eq_true, Bool.true_eq_false, e_lenlst, e_lenrol, e_lentup, w_lenref, w_ite, getS, setS, keyD, List.map_cons, List.map_nil, List.cons_append, List.nil_append, List.length_cons, List.length_nil, List.replicate, Nat.reduceSub, Nat.reduceAdd, Nat.reduceLeDiff, Nat.reduceLT, List.set_cons_zero, List.set_cons_succ, decide_eq_true_eq, decide_eq_false_iff_not, Bool.not_eq_true', Bool.not_eq_false', true_and, and_true, forall_const, ix3_0, fRep, h1.1, h1.2, decide_true, Bool.and_self, if_true]
  exact ⟨q, fun h => absurd True.intro h⟩
end
end K03

set_option Elab.async false
set_option maxRecDepth 100000
set_option linter.unusedSimpArgs false
set_option linter.unusedVariables false
namespace K03
open PySem L2 Mini

/-- what stood stands still, but for the tape -/
structure Fr (m m' : M) : Prop where
  tape : Tape m'
  len : m.length ≤ m'.length
  same : ∀ i, 0 ≠ i → i < m.length → m'[i]? = m[i]?
theorem Fr.refl {m : M} (h : Tape m) : Fr m m := ⟨h, Nat.le_refl _, fun _ _ _ => rfl⟩
theorem Fr.trans {m m1 m2 : M} (h : Fr m m1) (g : Fr m1 m2) : Fr m m2 := ⟨g.tape, Nat.le_trans h.len g.len, fun i h0 hi => (g.same i h0 (Nat.lt_of_lt_of_le hi h.len)).trans (h.same i h0 hi)⟩
theorem Fr.app {m : M} (h : Tape m) (G : M) : Fr m (m ++ G) := ⟨h.app G, by simp, fun i _ hi => List.getElem?_append_left hi⟩
theorem Fr.at {m m' : M} (h : Fr m m') {i : Nat} {o : O} (h0 : 0 ≠ i) (e : m[i]? = some o) : m'[i]? = some o := (h.same i h0 (lt_of_get e)).trans e
/-- a store behind what stood -/
theorem Fr.set {m m' : M} (h : Fr m m') (hm : 0 < m.length) {i : Nat} (hi : m.length ≤ i) (o : O) : Fr m (m'.set i o) := by
  refine ⟨h.tape.mono (get_set_ne (by omega) o), by simp; exact h.len, fun j hj hlt => ?_⟩
  rw [get_set_ne (by omega)]
  exact h.same j hj hlt
def R10 (rows : Rows) : Prop := ∀ row ∈ rows, ∀ l ∈ row, 0 ≤ l ∧ l < 10
structure rowJ (T : Told) (m0 : M) (a b : Nat) (rs : Rows) (n : Nat) (j : Nat) (sg : Sg) (m' : M) : Prop where
  fr : Fr m0 m'
  la : m'[a]? = some (.lst (rs.map rowD))
  row : ∃ r : List Int, m'[b]? = some (.lst (r.map D.int)) ∧ r.length ≤ j ∧ r.Nodup ∧ ∀ l ∈ r, l % T.S = (n : Int) ∧ 0 ≤ l ∧ l < 10
  sl : ∃ x6 x7, sg = [some (.ref 0), some (.tup [.int T.S, .int T.W, .str (polS T.lru)]), some (.int 5), some (.ref a), some (.int (n : Int)), some (.ref b), x6, x7]
structure rowI (T : Told) (m0 : M) (a : Nat) (n : Nat) (sg : Sg) (m' : M) : Prop where
  fr : Fr m0 m'
  rs : ∃ rs : Rows, m'[a]? = some (.lst (rs.map rowD)) ∧ rs.length = n ∧ (∀ (i : Nat) (row : List Int), rs[i]? = some row → row.Nodup ∧ (row.length : Int) ≤ T.W ∧ ∀ l ∈ row, l % T.S = i) ∧ R10 rs
  sl : ∃ x4 x5 x6 x7, sg = [some (.ref 0), some (.tup [.int T.S, .int T.W, .str (polS T.lru)]), some (.int 5), some (.ref a), x4, x5, x6, x7]
theorem wp_range {g : XG} {b : XS} {N : Nat} {sg : Sg} {m : M} {Q : Fl × Sg × M → Prop} (I : Nat → Sg → M → Prop) (h : I 0 sg m) (st : ∀ i sg m, i < N → I i sg m → wp (g (iD i) sg m) fun p => wp (b p.1 p.2) fun q => q.1 = .nx ∧ I (i + 1) q.2.1 q.2.2)
    (fin : ∀ sg m, I N sg m → Q (.nx, sg, m)) : wp (loopS g b ((List.range N).map iD) sg m) Q := by
  refine wp_loop I 0 h ?_ ?_
  · intro i d sg m hd hi
    rw [List.getElem?_map] at hd
    obtain ⟨j, hj, rfl⟩ := Option.map_eq_some_iff.mp hd
    obtain ⟨hlt, e⟩ := List.getElem?_eq_some_iff.mp hj
    have e' : i = j := by simpa using e
    subst e'
    rw [Nat.zero_add] at hi ⊢
    refine (st i sg m (by simpa using hlt) hi).mono fun p hp => hp.mono ?_
    rintro ⟨fl, s2, m2⟩ ⟨e3, h2⟩
    simp only at e3 h2
    subst e3
    exact h2
  · intro sg m hi
    rw [List.length_map, List.length_range, Nat.zero_add] at hi
    exact fin sg m hi
section
variable {T : Told} {m : M} {Q : D × M → Prop}
theorem take_fr {many : Int} (h : Tape m) (h1 : 0 < many) (h2 : many < 18446744073709551616) (q : ∀ r m', Fr m m' → m'.length = m.length → 0 ≤ r → r < many → Q (.int r, m')) : wp (f__law_take [.ref 0, .int many] m) Q :=
  take_t h h1 h2 fun r m' ht hs hl r0 r1 => q r m' ⟨ht, by omega, fun i h0 _ => hs i h0⟩ hl r0 r1
theorem rows_wp (t : TOk T) (ht : Tape m) (q : ∀ rows m', Valid T rows → R10 rows → Fr m m' → Q (.tup (rows.map rowD), m')) : wp (f__law_rows_of [.ref 0, toldD T, .int 5] m) Q := by
  have hS : T.S = 1 ∨ T.S = 2 := t.s
  have hw1 := t.w1
  have hw4 := t.w4
  have hm0 := ht.lt
  unfold f__law_rows_of b__law_rows_of toldD
  simp only [w_some, w_var, w_c, w_op, w_un, w_anil, w_acons, w_fn (f := fLen), w_fn (f := fInt), w_fn (f := fAbs), w_fn (f := fMax2), w_fn (f := fMin2), w_fn (f := fBool), w_fn (f := fTuple), w_fn (f := fDictM), w_fn (f := fTupP), w_fn (f := fDictP), w_fn (f := fSrTup), w_fn (f := fLenD), w_tup, w_lst, w_lstM, isB_bl, w_test, w_cand, w_cor, w_cnot, w_if, w_tru, w_and, w_or, w_not, w_chain, w_chain3, isR_ref, isI_ins, isD_dct, isL_lst, w_fld, w_lm, w_dm, w_disp, w_dnil, w_dcons, w_nil, w_retN, w_break, w_cont, nxt_nx, nxt_rt, nxt_bk, nxt_ct, w_seq, w_set, w_drop, w_ret, w_sif, w_asg, w_gN, w_gT, w_gsnil, w_gscons, w_gdput, w_dput, isN_int, w_lput, w_par, w_aug, w_flds, w_flda, gives_rt, gives_nx, w_fnb, w_range1, w_range2, isS_lst, isS_rol, isS_tup, w_iseq, w_dnew, w_dc, w_mul, w_div, w_mod, w_tupP, w_dget2, w_srit, e_tupP, e_tupleL, e_tupleT, e_addPI, e_isN_non, e_isN_ptp, e_notN_non, e_notN_ptp, w_par3, w_ixptp, e_lenptp, isS_ptp, e_min2', w_for, w_iseq, e_add, e_addI, e_sub, e_cmp, e_eqI, e_neI, e_eqS, e_neS, e_eqB, e_neB, e_abs, e_int, e_max2, e_truB, e_truI, w_dget, w_ixref, w_ixlst, w_ixrol, w_ixtup, w_dref, isK_dct, isK_dctL, reduceCtorEq, false_implies, true_implies, Bool.false_eq_true, Bool.true_eq_false, e_lenlst, e_lenrol, e_lentup, w_lenref, w_ite, getS, setS, keyD, List.map_cons, List.map_nil, List.cons_append, List.nil_append, List.length_cons, List.length_nil, List.replicate, Nat.reduceSub, Nat.reduceAdd, Nat.reduceLeDiff, Nat.reduceLT, List.set_cons_zero, List.set_cons_succ, decide_eq_true_eq, decide_eq_false_iff_not, Bool.not_eq_true', Bool.not_eq_false', true_and, and_true, forall_const, ix3_0]
  refine ⟨by omega, ?_⟩
  rw [show rangeD 0 T.S.toNat = (List.range T.S.toNat).map iD from rangeD_zero]
  refine wp_range (N := T.S.toNat) (rowI T m m.length) ⟨Fr.app ht _, ⟨[], get_len, rfl, fun i row h => by simp at h, fun row h => (nomatch h)⟩, _, _, _, _, rfl⟩ ?_ ?_
  · rintro n sg m1 hn ⟨hfr, ⟨rs, hrs, hlen, hv, h10⟩, x4, x5, x6, x7, rfl⟩
    have hne : m.length < m1.length := lt_of_get hrs
    have hfr2 : Fr m (m1 ++ [.lst []]) := hfr.trans (Fr.app hfr.tape _)
    simp only [w_some, w_var, w_c, w_op, w_un, w_anil, w_acons, w_fn (f := fLen), w_fn (f := fInt), w_fn (f := fAbs), w_fn (f := fMax2), w_fn (f := fMin2), w_fn (f := fBool), w_fn (f := fTuple), w_fn (f := fDictM), w_fn (f := fTupP), w_fn (f := fDictP), w_fn (f := fSrTup), w_fn (f := fLenD), w_tup, w_lst, w_lstM, isB_bl, w_test, w_cand, w_cor, w_cnot, w_if, w_tru, w_and, w_or, w_not, w_chain, w_chain3, isR_ref, isI_ins, isD_dct, isL_lst, w_fld, w_lm, w_dm, w_disp, w_dnil, w_dcons, w_nil, w_retN, w_break, w_cont, nxt_nx, nxt_rt, nxt_bk, nxt_ct, w_seq, w_set, w_drop, w_ret, w_sif, w_asg, w_gN, w_gT, w_gsnil, w_gscons, w_gdput, w_dput, isN_int, w_lput, w_par, w_aug, w_flds, w_flda, gives_rt, gives_nx, w_fnb, w_range1, w_range2, isS_lst, isS_rol, isS_tup, w_iseq, w_dnew, w_dc, w_mul, w_div, w_mod, w_tupP, w_dget2, w_srit, e_tupP, e_tupleL, e_tupleT, e_addPI, e_isN_non, e_isN_ptp, e_notN_non, e_notN_ptp, w_par3, w_ixptp, e_lenptp, isS_ptp, e_min2', w_for, w_iseq, e_add, e_addI, e_sub, e_cmp, e_eqI, e_neI, e_eqS, e_neS, e_eqB, e_neB, e_abs, e_int, e_max2, e_truB, e_truI, w_dget, w_ixref, w_ixlst, w_ixrol, w_ixtup, w_dref, isK_dct, isK_dctL, reduceCtorEq, false_implies, true_implies, Bool.false_eq_true, Bool.true_eq_false, e_lenlst, e_lenrol, e_lentup, w_lenref, w_ite, getS, setS, keyD, List.map_cons, List.map_nil, List.cons_append, List.nil_append, List.length_cons, List.length_nil, List.replicate, Nat.reduceSub, Nat.reduceAdd, Nat.reduceLeDiff, Nat.reduceLT, List.set_cons_zero, List.set_cons_succ, decide_eq_true_eq, decide_eq_false_iff_not, Bool.not_eq_true', Bool.not_eq_false', true_and, and_true, forall_const, ix3_1, iD]
    refine ⟨by omega, ?_⟩
    rw [show rangeD 0 T.W.toNat = (List.range T.W.toNat).map iD from rangeD_zero]
    refine wp_range (N := T.W.toNat) (rowJ T m m.length m1.length rs n) ⟨hfr2, get_app hrs _, ⟨[], get_len, by simp, List.nodup_nil, fun l h => (nomatch h)⟩, _, _, rfl⟩ ?_ ?_
    · rintro j sg m2 hj ⟨hf, hla, ⟨r, hr, hrl, hrn, hrr⟩, y6, y7, rfl⟩
      have hba := lt_of_get hr
      simp only [w_some, w_var, w_c, w_op, w_un, w_anil, w_acons, w_fn (f := fLen), w_fn (f := fInt), w_fn (f := fAbs), w_fn (f := fMax2), w_fn (f := fMin2), w_fn (f := fBool), w_fn (f := fTuple), w_fn (f := fDictM), w_fn (f := fTupP), w_fn (f := fDictP), w_fn (f := fSrTup), w_fn (f := fLenD), w_tup, w_lst, w_lstM, isB_bl, w_test, w_cand, w_cor, w_cnot, w_if, w_tru, w_and, w_or, w_not, w_chain, w_chain3, isR_ref, isI_ins, isD_dct, isL_lst, w_fld, w_lm, w_dm, w_disp, w_dnil, w_dcons, w_nil, w_retN, w_break, w_cont, nxt_nx, nxt_rt, nxt_bk, nxt_ct, w_seq, w_set, w_drop, w_ret, w_sif, w_asg, w_gN, w_gT, w_gsnil, w_gscons, w_gdput, w_dput, isN_int, w_lput, w_par, w_aug, w_flds, w_flda, gives_rt, gives_nx, w_fnb, w_range1, w_range2, isS_lst, isS_rol, isS_tup, w_iseq, w_dnew, w_dc, w_mul, w_div, w_mod, w_tupP, w_dget2, w_srit, e_tupP, e_tupleL, e_tupleT, e_addPI, e_isN_non, e_isN_ptp, e_notN_non, e_notN_ptp, w_par3, w_ixptp, e_lenptp, isS_ptp, e_min2', w_for, w_iseq, e_add, e_addI, e_sub, e_cmp, e_eqI, e_neI, e_eqS, e_neS, e_eqB, e_neB, e_abs, e_int, e_max2, e_truB, e_truI, w_dget, w_ixref, w_ixlst, w_ixrol, w_ixtup, w_dref, isK_dct, isK_dctL, reduceCtorEq, false_implies, true_implies, Bool.false_eq_true, Bool.true_eq_false, e_lenlst, e_lenrol, e_lentup, w_lenref, w_ite, getS, setS, keyD, List.map_cons, List.map_nil, List.cons_append, List.nil_append, List.length_cons, List.length_nil, List.replicate, Nat.reduceSub, Nat.reduceAdd, Nat.reduceLeDiff, Nat.reduceLT, List.set_cons_zero, List.set_cons_succ, decide_eq_true_eq, decide_eq_false_iff_not, Bool.not_eq_true', Bool.not_eq_false', true_and, and_true, forall_const, iD, ix3_0, w_fn (f := f__law_take)]
      refine take_fr hf.tape (by decide) (by decide) fun x m3 hf3 hl3 hx0 hx5 => ?_
      have hr3 := hf3.at (by omega) hr
      have hla3 := hf3.at (by omega) hla
      have small : smallI T.S = true := by rcases hS with h | h <;> rw [h] <;> decide
      have hline : ((n : Int) + T.S * x) % T.S = (n : Int) ∧ 0 ≤ (n : Int) + T.S * x ∧ (n : Int) + T.S * x < 10 := by
        have h1 : (n : Int) < T.S := by omega
        rw [Int.add_mul_emod_self_left]
        refine ⟨Int.emod_eq_of_lt (by omega) h1, ?_, ?_⟩ <;> rcases hS with h | h <;> rw [h] <;> omega
      simp only [w_some, w_var, w_c, w_op, w_un, w_anil, w_acons, w_fn (f := fLen), w_fn (f := fInt), w_fn (f := fAbs), w_fn (f := fMax2), w_fn (f := fMin2), w_fn (f := fBool), w_fn (f := fTuple), w_fn (f := fDictM), w_fn (f := fTupP), w_fn (f := fDictP), w_fn (f := fSrTup), w_fn (f := fLenD), w_tup, w_lst, w_lstM, isB_bl, w_test, w_cand, w_cor, w_cnot, w_if, w_tru, w_and, w_or, w_not, w_chain, w_chain3, isR_ref, isI_ins, isD_dct, isL_lst, w_fld, w_lm, w_dm, w_disp, w_dnil, w_dcons, w_nil, w_retN, w_break, w_cont, nxt_nx, nxt_rt, nxt_bk, nxt_ct, w_seq, w_set, w_drop, w_ret, w_sif, w_asg, w_gN, w_gT, w_gsnil, w_gscons, w_gdput, w_dput, isN_int, w_lput, w_par, w_aug, w_flds, w_flda, gives_rt, gives_nx, w_fnb, w_range1, w_range2, isS_lst, isS_rol, isS_tup, w_iseq, w_dnew, w_dc, w_mul, w_div, w_mod, w_tupP, w_dget2, w_srit, e_tupP, e_tupleL, e_tupleT, e_addPI, e_isN_non, e_isN_ptp, e_notN_non, e_notN_ptp, w_par3, w_ixptp, e_lenptp, isS_ptp, e_min2', w_for, w_iseq, e_add, e_addI, e_sub, e_cmp, e_eqI, e_neI, e_eqS, e_neS, e_eqB, e_neB, e_abs, e_int, e_max2, e_truB, e_truI, w_dget, w_ixref, w_ixlst, w_ixrol, w_ixtup, w_dref, isK_dct, isK_dctL, reduceCtorEq, false_implies, true_implies, Bool.false_eq_true, Bool.true_eq_false, e_lenlst, e_lenrol, e_lentup, w_lenref, w_ite, getS, setS, keyD, List.map_cons, List.map_nil, List.cons_append, List.nil_append, List.length_cons, List.length_nil, List.replicate, Nat.reduceSub, Nat.reduceAdd, Nat.reduceLeDiff, Nat.reduceLT, List.set_cons_zero, List.set_cons_succ, decide_eq_true_eq, decide_eq_false_iff_not, Bool.not_eq_true', Bool.not_eq_false', true_and, and_true, forall_const, small, e_notinR2 hr3]
      refine ⟨.inl trivial, fun hno => ?_, fun _ => ⟨hf.trans hf3, hla3, ⟨r, hr3, by omega, hrn, hrr⟩, _, _, rfl⟩⟩
      refine take_fr hf3.tape (by decide) (by decide) fun y m4 hf4 hl4 hy0 hy4 => ?_
      have hr4 := hf4.at (by omega) hr3
      have hla4 := hf4.at (by omega) hla3
      have hf5 := (hf.trans hf3).trans hf4
      simp only [w_some, w_var, w_c, w_op, w_un, w_anil, w_acons, w_fn (f := fLen), w_fn (f := fInt), w_fn (f := fAbs), w_fn (f := fMax2), w_fn (f := fMin2), w_fn (f := fBool), w_fn (f := fTuple), w_fn (f := fDictM), w_fn (f := fTupP), w_fn (f := fDictP), w_fn (f := fSrTup), w_fn (f := fLenD), w_tup, w_lst, w_lstM, isB_bl, w_test, w_cand, w_cor, w_cnot, w_if, w_tru, w_and, w_or, w_not, w_chain, w_chain3, isR_ref, isI_ins, isD_dct, isL_lst, w_fld, w_lm, w_dm, w_disp, w_dnil, w_dcons, w_nil, w_retN, w_break, w_cont, nxt_nx, nxt_rt, nxt_bk, nxt_ct, w_seq, w_set, w_drop, w_ret, w_sif, w_asg, w_gN, w_gT, w_gsnil, w_gscons, w_gdput, w_dput, isN_int, w_lput, w_par, w_aug, w_flds, w_flda, gives_rt, gives_nx, w_fnb, w_range1, w_range2, isS_lst, isS_rol, isS_tup, w_iseq, w_dnew, w_dc, w_mul, w_div, w_mod, w_tupP, w_dget2, w_srit, e_tupP, e_tupleL, e_tupleT, e_addPI, e_isN_non, e_isN_ptp, e_notN_non, e_notN_ptp, w_par3, w_ixptp, e_lenptp, isS_ptp, e_min2', w_for, w_iseq, e_add, e_addI, e_sub, e_cmp, e_eqI, e_neI, e_eqS, e_neS, e_eqB, e_neB, e_abs, e_int, e_max2, e_truB, e_truI, w_dget, w_ixref, w_ixlst, w_ixrol, w_ixtup, w_dref, isK_dct, isK_dctL, reduceCtorEq, false_implies, true_implies, Bool.false_eq_true, Bool.true_eq_false, e_lenlst, e_lenrol, e_lentup, w_lenref, w_ite, getS, setS, keyD, List.map_cons, List.map_nil, List.cons_append, List.nil_append, List.length_cons, List.length_nil, List.replicate, Nat.reduceSub, Nat.reduceAdd, Nat.reduceLeDiff, Nat.reduceLT, List.set_cons_zero, List.set_cons_succ, decide_eq_true_eq, decide_eq_false_iff_not, Bool.not_eq_true', Bool.not_eq_false', true_and, and_true, forall_const, isLst, hr4, mAppend, List.length_map]
      refine ⟨fun _ => ⟨fun _ => ?_, fun h => absurd (by omega) h⟩, fun _ => ⟨hf5, hla4, ⟨r, hr4, by omega, hrn, hrr⟩, _, _, rfl⟩⟩
      have hno' : ¬ ((n : Int) + T.S * x ∈ r) := by simpa using hno
      refine ⟨hf5.set hm0 (by omega) _, by rw [get_set_ne (by omega)]; exact hla4, ⟨r ++ [(n : Int) + T.S * x], ?_, by simp; omega, ?_, ?_⟩, _, _, rfl⟩
      · rw [get_set hr4]
        simp
      · rw [List.nodup_append]
        exact ⟨hrn, by simp, fun a ha c hc e => by
          have : c = (n : Int) + T.S * x := by simpa using hc
          exact hno' (this ▸ e ▸ ha)⟩
      · intro l hl
        rcases List.mem_append.mp hl with h | h
        · exact hrr l h
        · have : l = (n : Int) + T.S * x := by simpa using h
          subst this
          exact hline
    · rintro sg m2 ⟨hf, hla, ⟨r, hr, hrl, hrn, hrr⟩, y6, y7, rfl⟩
      simp only [w_some, w_var, w_c, w_op, w_un, w_anil, w_acons, w_fn (f := fLen), w_fn (f := fInt), w_fn (f := fAbs), w_fn (f := fMax2), w_fn (f := fMin2), w_fn (f := fBool), w_fn (f := fTuple), w_fn (f := fDictM), w_fn (f := fTupP), w_fn (f := fDictP), w_fn (f := fSrTup), w_fn (f := fLenD), w_tup, w_lst, w_lstM, isB_bl, w_test, w_cand, w_cor, w_cnot, w_if, w_tru, w_and, w_or, w_not, w_chain, w_chain3, isR_ref, isI_ins, isD_dct, isL_lst, w_fld, w_lm, w_dm, w_disp, w_dnil, w_dcons, w_nil, w_retN, w_break, w_cont, nxt_nx, nxt_rt, nxt_bk, nxt_ct, w_seq, w_set, w_drop, w_ret, w_sif, w_asg, w_gN, w_gT, w_gsnil, w_gscons, w_gdput, w_dput, isN_int, w_lput, w_par, w_aug, w_flds, w_flda, gives_rt, gives_nx, w_fnb, w_range1, w_range2, isS_lst, isS_rol, isS_tup, w_iseq, w_dnew, w_dc, w_mul, w_div, w_mod, w_tupP, w_dget2, w_srit, e_tupP, e_tupleL, e_tupleT, e_addPI, e_isN_non, e_isN_ptp, e_notN_non, e_notN_ptp, w_par3, w_ixptp, e_lenptp, isS_ptp, e_min2', w_for, w_iseq, e_add, e_addI, e_sub, e_cmp, e_eqI, e_neI, e_eqS, e_neS, e_eqB, e_neB, e_abs, e_int, e_max2, e_truB, e_truI, w_dget, w_ixref, w_ixlst, w_ixrol, w_ixtup, w_dref, isK_dct, isK_dctL, reduceCtorEq, false_implies, true_implies, Bool.false_eq_true, Bool.true_eq_false, e_lenlst, e_lenrol, e_lentup, w_lenref, w_ite, getS, setS, keyD, List.map_cons, List.map_nil, List.cons_append, List.nil_append, List.length_cons, List.length_nil, List.replicate, Nat.reduceSub, Nat.reduceAdd, Nat.reduceLeDiff, Nat.reduceLT, List.set_cons_zero, List.set_cons_succ, decide_eq_true_eq, decide_eq_false_iff_not, Bool.not_eq_true', Bool.not_eq_false', true_and, and_true, forall_const, isLst, hla, e_tupleR hr, mAppend, List.length_map]
      refine ⟨fun _ => ?_, fun h => absurd (by omega) h⟩
      refine ⟨hf.set hm0 (Nat.le_refl _) _, ⟨rs ++ [r], ?_, by simp [hlen], ?_, ?_⟩, _, _, _, _, rfl⟩
      · rw [get_set hla]
        simp [rowD]
      · intro i row hi
        by_cases h : i < rs.length
        · rw [List.getElem?_append_left h] at hi
          exact hv i row hi
        · have hi2 := (List.getElem?_eq_some_iff.mp hi).1
          have e : i = rs.length := by simp at hi2; omega
          subst e
          rw [List.getElem?_concat_length] at hi
          cases hi
          rw [hlen]
          exact ⟨hrn, by omega, fun l hl => (hrr l hl).1⟩
      · intro row hrow l hl
        rcases List.mem_append.mp hrow with h | h
        · exact h10 row h l hl
        · have : row = r := by simpa using h
          subst this
          exact (hrr l hl).2
  · rintro sg m' ⟨hfr, ⟨rs, hrs, hlen, hv, h10⟩, x4, x5, x6, x7, rfl⟩
    simp only [w_some, w_var, w_c, w_op, w_un, w_anil, w_acons, w_fn (f := fLen), w_fn (f := fInt), w_fn (f := fAbs), w_fn (f := fMax2), w_fn (f := fMin2), w_fn (f := fBool), w_fn (f := fTuple), w_fn (f := fDictM), w_fn (f := fTupP), w_fn (f := fDictP), w_fn (f := fSrTup), w_fn (f := fLenD), w_tup, w_lst, w_lstM, isB_bl, w_test, w_cand, w_cor, w_cnot, w_if, w_tru, w_and, w_or, w_not, w_chain, w_chain3, isR_ref, isI_ins, isD_dct, isL_lst, w_fld, w_lm, w_dm, w_disp, w_dnil, w_dcons, w_nil, w_retN, w_break, w_cont, nxt_nx, nxt_rt, nxt_bk, nxt_ct, w_seq, w_set, w_drop, w_ret, w_sif, w_asg, w_gN, w_gT, w_gsnil, w_gscons, w_gdput, w_dput, isN_int, w_lput, w_par, w_aug, w_flds, w_flda, gives_rt, gives_nx, w_fnb, w_range1, w_range2, isS_lst, isS_rol, isS_tup, w_iseq, w_dnew, w_dc, w_mul, w_div, w_mod, w_tupP, w_dget2, w_srit, e_tupP, e_tupleL, e_tupleT, e_addPI, e_isN_non, e_isN_ptp, e_notN_non, e_notN_ptp, w_par3, w_ixptp, e_lenptp, isS_ptp, e_min2', w_for, w_iseq, e_add, e_addI, e_sub, e_cmp, e_eqI, e_neI, e_eqS, e_neS, e_eqB, e_neB, e_abs, e_int, e_max2, e_truB, e_truI, w_dget, w_ixref, w_ixlst, w_ixrol, w_ixtup, w_dref, isK_dct, isK_dctL, reduceCtorEq, false_implies, true_implies, Bool.false_eq_true, Bool.true_eq_false, e_lenlst, e_lenrol, e_lentup, w_lenref, w_ite, getS, setS, keyD, List.map_cons, List.map_nil, List.cons_append, List.nil_append, List.length_cons, List.length_nil, List.replicate, Nat.reduceSub, Nat.reduceAdd, Nat.reduceLeDiff, Nat.reduceLT, List.set_cons_zero, List.set_cons_succ, decide_eq_true_eq, decide_eq_false_iff_not, Bool.not_eq_true', Bool.not_eq_false', true_and, and_true, forall_const, e_tupleR hrs]
    exact q rs m' ⟨by rw [hlen]; omega, hv⟩ h10 hfr
end
end K03

set_option Elab.async false
set_option maxRecDepth 100000
set_option linter.unusedSimpArgs false
set_option linter.unusedVariables false
namespace K03
open PySem L2 Mini

section
variable {T : Told} {line : Int} {m : M} {rows rows2 : Rows} {k one two : Kn} {Q : D × M → Prop} {b j : Nat} {R : D}
theorem lim_any : Lim ([], none) := ⟨fun l b h => (nomatch h), fun may h => (nomatch h)⟩
theorem lim_of (t : TOk T) (v : Valid T rows) (h : R10 rows) : Lim (ofCacheP T rows) := by
  have key : In10 (whereP rows) := fun l a hm => by
    obtain ⟨i, rfl, hi⟩ := (mem_where t v).mp hm
    exact h _ (List.mem_of_getElem? (row_at t v l)) l (List.mem_of_getElem? hi)
  refine ⟨fun l b hm => ?_, fun may e l b hm => ?_⟩
  · obtain ⟨⟨x, a⟩, h1, e⟩ := List.mem_map.mp (mem_srt.mp hm)
    cases e
    exact key x a h1
  · cases e
    exact key l b (mem_srt.mp hm)
theorem lim_used (h : Lim k) (hl : 0 ≤ line ∧ line < 10) : Lim (usedP T k line) := by
  refine ⟨fun l b hm => ?_, fun may e l b hm => ?_⟩
  · rcases mem_usedM.mp hm with ⟨rfl, _⟩ | ⟨b0, h0, _⟩
    · exact hl
    · exact h.must l b0 h0
  · obtain ⟨m0, e0, rfl⟩ := Option.map_eq_some_iff.mp e
    rcases mem_agedP.mp hm with ⟨rfl, _⟩ | ⟨b0, h0, _⟩
    · exact hl
    · exact h.may m0 e0 l b0 h0
theorem lim_touched (h : Lim k) (hl : 0 ≤ line ∧ line < 10) : Lim (touchedP T k line) := by
  unfold touchedP
  split
  · exact lim_used h hl
  · split
    · exact h
    · refine ⟨fun l b hm => ?_, h.may⟩
      rcases List.mem_append.mp (mem_srt.mp hm) with hm | hm
      · exact h.must l b hm
      · cases (List.mem_singleton.mp hm)
        exact hl
theorem lim_missed (h : Lim k) : Lim (missedP k line) := by
  refine ⟨h.must, fun may e l b hm => ?_⟩
  obtain ⟨m0, e0, rfl⟩ := Option.map_eq_some_iff.mp e
  exact h.may m0 e0 l b (List.mem_filter.mp hm).1
theorem mem_joinY {l v : Int} : ∀ {b a : Ps}, (l, v) ∈ joinY a b → (∃ w, (l, w) ∈ a) ∨ ∃ w, (l, w) ∈ b
  | [], a, h => .inl ⟨v, h⟩
  | p :: b, a, h => by
    have h' : (l, v) ∈ joinY (putP a p.1 (minI p.2 ((lookP a p.1).getD p.2))) b := h
    rcases mem_joinY h' with ⟨w, hw⟩ | ⟨w, hw⟩
    · have hk : l ∈ (putP a p.1 (minI p.2 ((lookP a p.1).getD p.2))).map (·.1) := List.mem_map.mpr ⟨_, hw, rfl⟩
      rw [keys_putP] at hk
      have : l ∈ a.map (·.1) ∨ l = p.1 := by
        split at hk
        · exact .inl hk
        · rcases List.mem_append.mp hk with hk | hk
          · exact .inl hk
          · exact .inr (by simpa using hk)
      rcases this with hk | hk
      · obtain ⟨⟨x, w⟩, hm, e⟩ := List.mem_map.mp hk
        exact .inl ⟨w, by rw [← e]; exact hm⟩
      · exact .inr ⟨p.2, by rw [hk]; exact List.mem_cons_self⟩
    · exact .inr ⟨w, List.mem_cons_of_mem _ hw⟩
theorem lim_join (h1 : Lim one) (h2 : Lim two) : Lim (joinP one two) := by
  refine ⟨fun l b hm => ?_, fun may e l b hm => ?_⟩
  · obtain ⟨x, hx, _⟩ := mem_joinM.mp hm
    exact h1.must l x hx
  · unfold joinP at e
    simp only at e
    split at e
    · rename_i ya yb ha hb
      cases e
      rcases mem_joinY (mem_srt.mp hm) with ⟨w, hw⟩ | ⟨w, hw⟩
      · exact h1.may ya ha l w hw
      · exact h2.may yb hb l w hw
    · cases e
theorem r10_fill (h : R10 rows) (hl : 0 ≤ line ∧ line < 10) : R10 (fillP T rows line) := by
  intro row hr l hm
  unfold fillP at hr
  rcases List.mem_or_eq_of_mem_set hr with hr | rfl
  · exact h row hr l hm
  · rcases mtf_mem (List.mem_of_mem_take hm) with rfl | hm
    · exact hl
    · unfold rowP at hm
      by_cases hi : atP T line < rows.length
      · have : rows.getD (atP T line) [] ∈ rows := by simp [hi]
        exact h _ this l hm
      · simp [List.getD, List.getElem?_eq_none (Nat.le_of_not_lt hi)] at hm
theorem r10_hit (t : TOk T) (v : Valid T rows) (h : R10 rows) (hl : 0 ≤ line ∧ line < 10) : R10 (afterHit T rows line) := by
  unfold afterHit
  split
  · rename_i c
    rw [hit_fill t v c.1]
    exact r10_fill h hl
  · exact h
theorem pos_S (t : TOk T) : 0 < T.S := by rcases t.s with h | h <;> omega
theorem used_fr (t : TOk T) (ht : Tape m) (g : Good k) (l : Lim k) (q : ∀ m', Fr m m' → Q (knD (usedP T k line), m')) : wp (f_filled [toldD T, knD k, .int line] m) Q := filled_wp (KB.of g l) (pos_S t) fun G => q _ (Fr.app ht G)
theorem touched_fr (t : TOk T) (ht : Tape m) (g : Good k) (l : Lim k) (q : ∀ m', Fr m m' → Q (knD (touchedP T k line), m')) : wp (f_touched [toldD T, knD k, .int line] m) Q := touched_wp (KB.of g l) (pos_S t) fun G => q _ (Fr.app ht G)
theorem missed_fr (ht : Tape m) (g : Good k) (l : Lim k) (q : ∀ m', Fr m m' → Q (knD (missedP k line), m')) : wp (f_missed [knD k, .int line] m) Q := missed_wp (KB.of g l) fun G => q _ (Fr.app ht G)
theorem joined_fr (ht : Tape m) (g1 : Good one) (l1 : Lim one) (g2 : Good two) (l2 : Lim two) (q : ∀ m', Fr m m' → Q (knD (joinP one two), m')) : wp (f_joined_known [knD one, knD two] m) Q := joined_wp (KB.of g1 l1) (KB.of g2 l2) fun G => q _ (Fr.app ht G)
theorem within_fr (ht : Tape m) (g1 : Good one) (l1 : Lim one) (g2 : Good two) (l2 : Lim two) (q : ∀ m', Fr m m' → Q (.bl (withinP one two), m')) : wp (f_is_known_within [knD one, knD two] m) Q := within_wp (KB.of g1 l1) (KB.of g2 l2) fun G => q _ (Fr.app ht G)
theorem of_fr (t : TOk T) (ht : Tape m) (v : Valid T rows) (q : ∀ m', Fr m m' → Q (knD (ofCacheP T rows), m')) : wp (f_of_cache [toldD T, .tup (rows.map rowD)] m) Q := of_wp (nk_where v) (rows_len t v) (rows_row t v) fun G => q _ (Fr.app ht G)
theorem holds_fr (t : TOk T) (ht : Tape m) (v : Valid T rows) (s : Sound T rows k) (l : Lim k) (hR : RowsAt R m rows) (q : ∀ m', Fr m m' → Q (.bl true, m')) : wp (f__law_holds [toldD T, knD k, R] m) Q := holds_wp hR (nk_where v) (rows_len t v) (rows_row t v) (KB.of s.good l) (holds_ok t v s) fun G => q _ (Fr.app ht G)
theorem start_fr (t : TOk T) (ht : Tape m) (v : Valid T rows) (q : ∀ m', Fr m m' → Q (.bl true, m')) : wp (f_is_start [toldD T, .tup (rows.map rowD)] m) Q := start_true t v fun G => q _ (Fr.app ht G)
theorem verd_fr (t : TOk T) (v : Valid T rows) (s : Sound T rows k) (l : Lim k) (q : ∀ bs : List Bool, inP T rows line ∈ bs → Q (.lst (bs.map D.bl), m)) : wp (f_verdicts [knD k, .int line] m) Q := verd_wp (KB.of s.good l) (q _ (verd_ok t v s))
end
end K03

set_option Elab.async false
set_option maxRecDepth 100000
namespace K03
open PySem L2 Mini
def hB0 : XS := (sIf (cOr (cTest (xOp fNe (xMeth 0 "has" f_Cache_has (xVar 5) (aCons (xVar 13) aNil)) (xVar 15))) ((cTest (xOp fNe (xMeth 0 "has" f_Cache_has (xVar 6) (aCons (xVar 13) aNil)) (xOp fIn (xVar 13) (xOp fIx (xVar 8) (xVar 14))))))) (sRet (xC (.bl false))) sNil)
def hB1 : XS := (sFor (iSeq (xTup (aCons (xVar 7) (aCons (xVar 8) aNil)))) (gN 16) (sIf (cAnd (cTest (xOp fIn (xVar 13) (xOp fIx (xVar 16) (xVar 14)))) ((cTest (xOp fEq (xOp fIx (xVar 2) (xC (.int 2))) (xC (.str "lru")))))) (sLPut (xOp fAdd (xTup (aCons (xVar 13) aNil)) (xFn fTuple (aCons (xLc [17] (iSeq (xOp fIx (xVar 16) (xVar 14))) (gN 17) (cTest (xOp fNe (xVar 17) (xVar 13))) (xVar 17)) aNil))) (xVar 16) (xVar 14)) sNil))
def hB2 : XS := (sSet 9 (xIf (cTru (xVar 15)) (xFn f_touched (aCons (xVar 2) (aCons (xVar 9) (aCons (xVar 13) aNil)))) (xFn f_missed (aCons (xVar 9) (aCons (xVar 13) aNil)))))
def hB3 : XS := (sSet 10 (xIf (cTru (xVar 15)) (xFn f_touched (aCons (xVar 2) (aCons (xVar 10) (aCons (xVar 13) aNil)))) (xFn f_missed (aCons (xVar 10) (aCons (xVar 13) aNil)))))
def hB4 : XS := (sIf (cTest (xOp fEq (xVar 15) (xOp fIn (xVar 13) (xOp fIx (xVar 8) (xVar 14))))) (sSet 11 (xIf (cTru (xVar 15)) (xFn f_touched (aCons (xVar 2) (aCons (xVar 11) (aCons (xVar 13) aNil)))) (xFn f_missed (aCons (xVar 11) (aCons (xVar 13) aNil))))) (sSet 11 (xFn f_joined_known (aCons (xVar 9) (aCons (xFn f_of_cache (aCons (xVar 2) (aCons (xFn fTuple (aCons (xVar 8) aNil)) aNil))) aNil)))))
def iB0 : XS := (sDrop (xMeth 0 "fill" f_Cache_fill (xVar 5) (aCons (xVar 13) aNil)))
def iB1 : XS := (sDrop (xMeth 0 "fill" f_Cache_fill (xVar 6) (aCons (xVar 13) aNil)))
def iB2 : XS := (sFor (iSeq (xTup (aCons (xVar 7) (aCons (xVar 8) aNil)))) (gN 16) (sLPut (xSl (xOp fAdd (xTup (aCons (xVar 13) aNil)) (xFn fTuple (aCons (xLc [17] (iSeq (xOp fIx (xVar 16) (xVar 14))) (gN 17) (cTest (xOp fNe (xVar 17) (xVar 13))) (xVar 17)) aNil))) pNone (pSome (xOp fIx (xVar 2) (xC (.int 1))))) (xVar 16) (xVar 14)))
def iB3 : XS := (sPar3 9 10 11 (aCons (xFn f_filled (aCons (xVar 2) (aCons (xVar 9) (aCons (xVar 13) aNil)))) (aCons (xFn f_filled (aCons (xVar 2) (aCons (xVar 10) (aCons (xVar 13) aNil)))) (aCons (xFn f_filled (aCons (xVar 2) (aCons (xVar 11) (aCons (xVar 13) aNil)))) aNil))))
def hitB : XS := (sSeq hB0 (sSeq hB1 (sSeq hB2 (sSeq hB3 hB4))))
def inB : XS := (sSeq iB0 (sSeq iB1 (sSeq iB2 iB3)))
def sB0 : XS := (sSet 13 (xFn f__law_take (aCons (xVar 1) (aCons (xC (.int 10)) aNil))))
def sB1 : XS := (sSet 14 (xOp fMod (xVar 13) (xOp fIx (xVar 2) (xC (.int 0)))))
def sB2 : XS := (sSet 15 (xOp fIn (xVar 13) (xOp fIx (xVar 7) (xVar 14))))
def sB3 : XS := (sIf (cOr (cTest (xOp fNotIn (xVar 15) (xFn f_verdicts (aCons (xVar 9) (aCons (xVar 13) aNil))))) (cOr (cTest (xOp fNotIn (xVar 15) (xFn f_verdicts (aCons (xVar 10) (aCons (xVar 13) aNil))))) (cOr (cTest (xOp fNotIn (xVar 15) (xFn f_verdicts (aCons (xVar 11) (aCons (xVar 13) aNil))))) ((cTest (xOp fNotIn (xOp fIn (xVar 13) (xOp fIx (xVar 8) (xVar 14))) (xFn f_verdicts (aCons (xVar 11) (aCons (xVar 13) aNil))))))))) (sRet (xC (.bl false))) sNil)
def sB4 : XS := (sIf (cTest (xOp fGt (xFn f__law_take (aCons (xVar 1) (aCons (xC (.int 3)) aNil))) (xC (.int 0)))) hitB inB)
def sB5 : XS := (sIf (cOr (cTest (xOp fNe (xMeth 0 "lines" f_Cache_lines (xVar 5) aNil) (xFn fTuple (aCons (xVar 7) aNil)))) (cOr (cNot (cTru (xFn f__law_holds (aCons (xVar 2) (aCons (xVar 9) (aCons (xVar 7) aNil)))))) (cOr (cNot (cTru (xFn f__law_holds (aCons (xVar 2) (aCons (xVar 10) (aCons (xVar 7) aNil)))))) (cOr (cNot (cTru (xFn f__law_holds (aCons (xVar 2) (aCons (xVar 11) (aCons (xVar 7) aNil)))))) ((cNot (cTru (xFn f__law_holds (aCons (xVar 2) (aCons (xVar 11) (aCons (xVar 8) aNil))))))))))) (sRet (xC (.bl false))) sNil)
def sB6 : XS := (sIf (cOr (cNot (cTru (xFn f_is_known_within (aCons (xVar 9) (aCons (xVar 9) aNil))))) (cOr (cNot (cTru (xFn f_is_known_within (aCons (xVar 9) (aCons (xFn f_joined_known (aCons (xVar 9) (aCons (xVar 10) aNil))) aNil))))) ((cNot (cTru (xFn f_is_known_within (aCons (xVar 10) (aCons (xFn f_joined_known (aCons (xVar 9) (aCons (xVar 10) aNil))) aNil)))))))) (sRet (xC (.bl false))) sNil)
def sB7 : XS := (sIf (cAnd (cTru (xFn f_is_known_within (aCons (xFn f_nothing aNil) (aCons (xVar 9) aNil)))) (cAnd (cTru (xFn fAny (aCons (xLcL [16] (xVar 7) (gN 16) cYes (xOp fNe (xVar 16) (xTup aNil))) aNil))) ((cTest (xOp fNe (xOp fIx (xVar 9) (xC (.int 0))) (xTup aNil)))))) (sRet (xC (.bl false))) sNil)
def stepB : XS := (sSeq sB0 (sSeq sB1 (sSeq sB2 (sSeq sB3 (sSeq sB4 (sSeq sB5 (sSeq sB6 sB7)))))))
def lB0 : XS := (sSet 1 (xFn f__law_tape (aCons (xVar 0) aNil)))
def lB1 : XS := (sSet 2 (xTup (aCons (xOp fAdd (xC (.int 1)) (xFn f__law_take (aCons (xVar 1) (aCons (xC (.int 2)) aNil)))) (aCons (xOp fAdd (xC (.int 1)) (xFn f__law_take (aCons (xVar 1) (aCons (xC (.int 4)) aNil)))) (aCons (xOp fIx (xLst (aCons (xC (.str "lru")) (aCons (xC (.str "fifo")) aNil))) (xFn f__law_take (aCons (xVar 1) (aCons (xC (.int 2)) aNil)))) aNil)))))
def lB2 : XS := (sSet 3 (xFn f__law_rows_of (aCons (xVar 1) (aCons (xVar 2) (aCons (xC (.int 5)) aNil)))))
def lB3 : XS := (sIf (cOr (cNot (cTru (xFn f_is_start (aCons (xVar 2) (aCons (xVar 3) aNil))))) (cOr (cTru (xFn f_is_start (aCons (xVar 2) (aCons (xOp fAdd (xVar 3) (xTup (aCons (xTup aNil) aNil))) aNil)))) (cOr (cTest (xOp fNe (xFn f_no_lines (aCons (xVar 2) aNil)) (xOp fRep (xTup (aCons (xTup aNil) aNil)) (xOp fIx (xVar 2) (xC (.int 0)))))) (cOr (cAnd (cTest (xOp fEq (xOp fIx (xVar 2) (xC (.int 0))) (xC (.int 2)))) ((cTru (xFn f_is_start (aCons (xVar 2) (aCons (xTup (aCons (xTup (aCons (xC (.int 1)) aNil)) (aCons (xTup aNil) aNil))) aNil)))))) ((cTru (xFn f_is_start (aCons (xVar 2) (aCons (xOp fAdd (xTup (aCons (xTup (aCons (xC (.int 0)) (aCons (xC (.int 0)) aNil))) aNil)) (xOp fRep (xTup (aCons (xTup aNil) aNil)) (xOp fSub (xOp fIx (xVar 2) (xC (.int 0))) (xC (.int 1))))) aNil))))))))) (sRet (xC (.bl false))) sNil)
def lB4 : XS := (sSet 4 (xFn f__law_rows_of (aCons (xVar 1) (aCons (xVar 2) (aCons (xC (.int 5)) aNil)))))
def lB5 : XS := (sAsg (xTup (aCons (xMake 0 f_Cache___init__ (aCons (xVar 2) (aCons (xVar 3) aNil))) (aCons (xMake 0 f_Cache___init__ (aCons (xVar 2) (aCons (xVar 4) aNil))) (aCons (xFn fListM (aCons (xVar 3) aNil)) (aCons (xFn fListM (aCons (xVar 4) aNil)) aNil))))) (gT 4 (gsCons (gN 5) (gsCons (gN 6) (gsCons (gN 7) (gsCons (gN 8) gsNil))))))
def lB6 : XS := (sPar3 9 10 11 (aCons (xFn f_of_cache (aCons (xVar 2) (aCons (xVar 3) aNil))) (aCons (xFn f_anything aNil) (aCons (xFn f_joined_known (aCons (xFn f_of_cache (aCons (xVar 2) (aCons (xVar 3) aNil))) (aCons (xFn f_of_cache (aCons (xVar 2) (aCons (xVar 4) aNil))) aNil))) aNil))))
def lB7 : XS := (sIf (cOr (cNot (cTru (xFn f__law_holds (aCons (xVar 2) (aCons (xVar 9) (aCons (xVar 3) aNil)))))) (cOr (cNot (cTru (xFn f_is_known_within (aCons (xVar 9) (aCons (xVar 10) aNil))))) (cOr (cNot (cTru (xFn f_is_known_within (aCons (xVar 9) (aCons (xVar 11) aNil))))) ((cNot (cTru (xFn f_is_known_within (aCons (xFn f_of_cache (aCons (xVar 2) (aCons (xVar 4) aNil))) (aCons (xVar 11) aNil))))))))) (sRet (xC (.bl false))) sNil)
def lB8 : XS := (sFor (iRange1 (aCons (xC (.int 14)) aNil)) (gN 12) stepB)
def lB9 : XS := (sRet (xC (.bl true)))
theorem law_shape : b_law = (sSeq lB0 (sSeq lB1 (sSeq lB2 (sSeq lB3 (sSeq lB4 (sSeq lB5 (sSeq lB6 (sSeq lB7 (sSeq lB8 lB9))))))))) := rfl
end K03

set_option Elab.async false
set_option maxRecDepth 100000
set_option linter.unusedSimpArgs false
set_option linter.unusedVariables false
namespace K03
open PySem L2 Mini

theorem plain_ints : ∀ l : List Int, plainDs (l.map D.int) = true
  | [] => rfl
  | _ :: l => by simp [plainDs, plainD, plain_ints l]
theorem toPys_ints : ∀ l : List Int, toPys (l.map D.int) = l.map PyData.int
  | [] => rfl
  | _ :: l => by simp [toPys, toPy, toPys_ints l]
def rowPy (row : List Int) : PyData := .tuple (row.map PyData.int)
theorem plain_rows : ∀ rows : Rows, plainDs (rows.map rowD) = true
  | [] => rfl
  | r :: rows => by simp [plainDs, plainD, rowD, plain_ints, plain_rows rows]
theorem toPys_rows : ∀ rows : Rows, toPys (rows.map rowD) = rows.map rowPy
  | [] => rfl
  | r :: rows => by simp [toPys, toPy, rowD, rowPy, toPys_ints, toPys_rows rows]
theorem lay_rows : ∀ rows : Rows, PyData.canLayAll0 (rows.map rowPy) = true
  | [] => by simp [PyData.canLayAll0]
  | r :: rows => by simp [PyData.canLayAll0, rowPy, PyData.canLay0, PySem.W.canLayAll0_ints, lay_rows rows]
theorem depth_rows : ∀ rows : Rows, PyData.depthAll (rows.map rowPy) ≤ 2
  | [] => by simp [PyData.depthAll]
  | r :: rows => by
    have h1 := PySem.W.depthAll_ints r
    have h2 := depth_rows rows
    have hd : PyData.depth (rowPy r) ≤ 2 := by simp only [rowPy, PyData.depth]; omega
    simp only [List.map_cons, PyData.depthAll]
    omega
theorem shaped_rows (rows : Rows) : SeqAt.shaped (.tuple (rows.map rowPy)) = true := by
  have h1 := depth_rows rows
  have h2 : PyData.depth (.tuple (rows.map rowPy)) ≤ 64 := by simp only [PyData.depth]; omega
  show (PyData.canLay0 (.tuple (rows.map rowPy)) && decide (PyData.depth (.tuple (rows.map rowPy)) ≤ 64)) = true
  rw [Bool.and_eq_true]
  exact ⟨by simp only [PyData.canLay0]; exact lay_rows rows, decide_eq_true h2⟩
theorem shaped_row (row : List Int) : SeqAt.shaped (rowPy row) = true := by
  have h1 := PySem.W.depthAll_ints row
  have h2 : PyData.depth (rowPy row) ≤ 64 := by simp only [rowPy, PyData.depth]; omega
  show (PyData.canLay0 (rowPy row) && decide (PyData.depth (rowPy row) ≤ 64)) = true
  rw [Bool.and_eq_true]
  exact ⟨by simp only [rowPy, PyData.canLay0]; exact PySem.W.canLayAll0_ints row, decide_eq_true h2⟩
theorem eqv_ints : ∀ l : List Int, PyData.eqvAll (l.map PyData.int) (l.map PyData.int) = true
  | [] => by simp [PyData.eqvAll]
  | x :: l => by simp [PyData.eqvAll, PyData.eqv, eqv_ints l]
theorem eqv_rows : ∀ rows : Rows, PyData.eqvAll (rows.map rowPy) (rows.map rowPy) = true
  | [] => by simp [PyData.eqvAll]
  | r :: rows => by
    have h := eqv_rows rows
    simp only [List.map_cons, PyData.eqvAll, rowPy, PyData.eqv, eqv_ints, Bool.true_and] at h ⊢
    exact h
theorem ne_rows {rows : Rows} {m : M} : fNe (.tup (rows.map rowD)) (.tup (rows.map rowD)) m = some (.bl false, m) := by
  have h1 : plainD (.tup (rows.map rowD)) = true := plain_rows rows
  have h2 : toPy (.tup (rows.map rowD)) = .tuple (rows.map rowPy) := by simp only [toPy, toPys_rows]
  unfold fNe eqD
  simp only [h1, h2, shaped_rows, Bool.and_self, if_true, PyData.eqv, eqv_rows]
  rfl
theorem ne_row {row : List Int} {m : M} : fNe (.tup (row.map D.int)) (.tup []) m = some (.bl (!row.isEmpty), m) := by
  have h1 : plainD (.tup (row.map D.int)) = true := plain_ints row
  have h2 : toPy (.tup (row.map D.int)) = rowPy row := by simp only [toPy, toPys_ints, rowPy]
  have h3 : plainD (.tup []) = true := rfl
  have h4 : toPy (.tup []) = rowPy [] := rfl
  unfold fNe eqD
  simp only [h1, h2, h3, h4, shaped_row, Bool.and_self, if_true]
  cases row <;> simp [rowPy, PyData.eqv, PyData.eqvAll]
theorem ne_nilP {m : M} : fNe (.ptp []) (.tup []) m = some (.bl false, m) := by
  have h1 : plainD (.ptp []) = true := rfl
  have h2 : toPy (.ptp []) = rowPy [] := rfl
  have h3 : plainD (.tup []) = true := rfl
  have h4 : toPy (.tup []) = rowPy [] := rfl
  unfold fNe eqD
  simp only [h1, h2, h3, h4, shaped_row, Bool.and_self, if_true]
  simp [rowPy, PyData.eqv, PyData.eqvAll]
theorem loopCL_rows {sg : Sg} {m : M} {i0 v : Nat} {rows : Rows} (hv : ∀ d, getS (setS sg v d) v = some d) (hm : m[i0]? = some (.lst (rows.map rowD))) : ∀ (f j : Nat), j ≤ rows.length → rows.length < f + j →
    loopCL (gN v) cYes (xOp fNe (xVar v) (xTup aNil)) sg i0 f j m = some ((rows.drop j).map (fun r => D.bl (!r.isEmpty)), m)
  | 0, j, h0, h => by omega
  | f + 1, j, h0, h => by
    unfold loopCL
    rw [hm]
    simp only [List.getElem?_map]
    cases hj : rows[j]? with
    | none =>
      rw [List.drop_eq_nil_of_le (List.getElem?_eq_none_iff.mp hj)]
      rfl
    | some r =>
      obtain ⟨hlt, e⟩ := List.getElem?_eq_some_iff.mp hj
      have ih := loopCL_rows hv hm f (j + 1) (by omega) (by omega)
      simp only [Option.map_some, gN, cYes]
      have e2 : xOp fNe (xVar v) (xTup aNil) (setS sg v (rowD r)) m = some (.bl (!r.isEmpty), m) := by
        unfold xOp xVar xTup aNil
        simp only [hv]
        exact ne_row
      rw [e2]
      simp only
      rw [ih]
      rw [List.drop_eq_getElem_cons hlt, e]
      rfl
end K03

set_option Elab.async false
set_option maxRecDepth 100000
set_option linter.unusedSimpArgs false
set_option linter.unusedVariables false
namespace K03
open PySem L2 Mini

structure St (m : M) (T : Told) (b : Nat) (C1 C2 A1 A2 : Rows) : Prop where
  tape : Tape m
  c1 : CacheAt m b (b + 1) T C1
  c2 : CacheAt m (b + 2) (b + 3) T C2
  la : m[b + 4]? = some (.lst (A1.map rowD))
  lc : m[b + 5]? = some (.lst (A2.map rowD))
  pos : 0 < b
section
variable {T : Told} {line : Int} {m m' : M} {rows R R1 R2 C1 C2 A1 A2 C : Rows} {k w u one two : Kn} {Q : D × M → Prop} {b j i : Nat}
theorem St.fr (h : St m T b C1 C2 A1 A2) (f : Fr m m') : St m' T b C1 C2 A1 A2 := by
  have := h.pos
  exact ⟨f.tape, ⟨f.at (by omega) h.c1.obj, f.at (by omega) h.c1.lst⟩, ⟨f.at (by omega) h.c2.obj, f.at (by omega) h.c2.lst⟩, f.at (by omega) h.la, f.at (by omega) h.lc, h.pos⟩
theorem St.s1 (h : St m T b C1 C2 A1 A2) (C : Rows) : St (m.set (b + 1) (.lst (C.map rowD))) T b C C2 A1 A2 := by
  have := h.pos
  exact ⟨h.tape.mono (get_set_ne (by omega) _), ⟨by rw [get_set_ne (by omega)]; exact h.c1.obj, get_set h.c1.lst _⟩, ⟨by rw [get_set_ne (by omega)]; exact h.c2.obj, by rw [get_set_ne (by omega)]; exact h.c2.lst⟩, by rw [get_set_ne (by omega)]; exact h.la, by rw [get_set_ne (by omega)]; exact h.lc, h.pos⟩
theorem St.s2 (h : St m T b C1 C2 A1 A2) (C : Rows) : St (m.set (b + 3) (.lst (C.map rowD))) T b C1 C A1 A2 := by
  have := h.pos
  exact ⟨h.tape.mono (get_set_ne (by omega) _), ⟨by rw [get_set_ne (by omega)]; exact h.c1.obj, by rw [get_set_ne (by omega)]; exact h.c1.lst⟩, ⟨by rw [get_set_ne (by omega)]; exact h.c2.obj, get_set h.c2.lst _⟩, by rw [get_set_ne (by omega)]; exact h.la, by rw [get_set_ne (by omega)]; exact h.lc, h.pos⟩
theorem St.s3 (h : St m T b C1 C2 A1 A2) (C : Rows) : St (m.set (b + 4) (.lst (C.map rowD))) T b C1 C2 C A2 := by
  have := h.pos
  exact ⟨h.tape.mono (get_set_ne (by omega) _), ⟨by rw [get_set_ne (by omega)]; exact h.c1.obj, by rw [get_set_ne (by omega)]; exact h.c1.lst⟩, ⟨by rw [get_set_ne (by omega)]; exact h.c2.obj, by rw [get_set_ne (by omega)]; exact h.c2.lst⟩, get_set h.la _, by rw [get_set_ne (by omega)]; exact h.lc, h.pos⟩
theorem St.s4 (h : St m T b C1 C2 A1 A2) (C : Rows) : St (m.set (b + 5) (.lst (C.map rowD))) T b C1 C2 A1 C := by
  have := h.pos
  exact ⟨h.tape.mono (get_set_ne (by omega) _), ⟨by rw [get_set_ne (by omega)]; exact h.c1.obj, by rw [get_set_ne (by omega)]; exact h.c1.lst⟩, ⟨by rw [get_set_ne (by omega)]; exact h.c2.obj, by rw [get_set_ne (by omega)]; exact h.c2.lst⟩, by rw [get_set_ne (by omega)]; exact h.la, get_set h.lc _, h.pos⟩
def sl (x0 x3 x4 : Option D) (T : Told) (b : Nat) (k w u : Kn) (x12 x13 x14 x15 x16 x17 : Option D) : Sg :=
  [x0, some (.ref 0), some (toldD T), x3, x4, some (.ref b), some (.ref (b + 2)), some (.ref (b + 4)), some (.ref (b + 5)), some (knD k), some (knD w), some (knD u), x12, x13, x14, x15, x16, x17]
theorem ix_rows (t : TOk T) (v : Valid T R) (h : m[i]? = some (.lst (R.map rowD))) : fIx (.ref i) (.int (line % T.S)) m = some (rowD (rowP T R line), m) := by
  refine wp_of (w_ixref.mpr ?_)
  rw [h, isL_lst, mod_at t, atIN, List.getElem?_map, row_at t v, Option.map_some, w_some]
theorem e_inRow : fIn (.int line) (rowD (rowP T R line)) m = some (.bl (inP T R line), m) := e_inT
/-- what is known, and what is there -/
structure Inv (m : M) (T : Told) (b : Nat) (R1 R2 : Rows) (k w u : Kn) : Prop where
  st : St m T b R1 R2 R1 R2
  v1 : Valid T R1
  v2 : Valid T R2
  r1 : R10 R1
  r2 : R10 R2
  sk : Sound T R1 k
  sw : Sound T R1 w
  s1 : Sound T R1 u
  s2 : Sound T R2 u
  lk : Lim k
  lw : Lim w
  lu : Lim u
theorem Inv.fr (h : Inv m T b R1 R2 k w u) (f : Fr m m') : Inv m' T b R1 R2 k w u := { h with st := h.st.fr f }
theorem s012 {x0 x3 x4 x12 x13 x14 x15 x16 x17 : Option D} {Q : Fl × Sg × M → Prop} {X : XS} (t : TOk T) (h : Inv m T b R1 R2 k w u)
    (q : ∀ line m', 0 ≤ line ∧ line < 10 → Inv m' T b R1 R2 k w u → wp (X (sl x0 x3 x4 T b k w u x12 (some (.int line)) (some (.int (atP T line : Int))) (some (.bl (inP T R1 line))) x16 x17) m') Q) : wp ((sSeq sB0 (sSeq sB1 (sSeq sB2 X))) (sl x0 x3 x4 T b k w u x12 x13 x14 x15 x16 x17) m) Q := by
  unfold sB0 sB1 sB2 sl
  simp only [w_some, w_var, w_c, w_op, w_un, w_anil, w_acons, w_fn (f := fLen), w_fn (f := fInt), w_fn (f := fAbs), w_fn (f := fMax2), w_fn (f := fMin2), w_fn (f := fBool), w_fn (f := fTuple), w_fn (f := fDictM), w_fn (f := fTupP), w_fn (f := fDictP), w_fn (f := fSrTup), w_fn (f := fLenD), w_tup, w_lst, w_lstM, isB_bl, w_test, w_cand, w_cor, w_cnot, w_if, w_tru, w_and, w_or, w_not, w_chain, w_chain3, isR_ref, isI_ins, isD_dct, isL_lst, w_fld, w_lm, w_dm, w_disp, w_dnil, w_dcons, w_nil, w_retN, w_break, w_cont, nxt_nx, nxt_rt, nxt_bk, nxt_ct, w_seq, w_set, w_drop, w_ret, w_sif, w_asg, w_gN, w_gT, w_gsnil, w_gscons, w_gdput, w_dput, isN_int, w_lput, w_par, w_aug, w_flds, w_flda, gives_rt, gives_nx, w_fnb, w_range1, w_range2, isS_lst, isS_rol, isS_tup, w_iseq, w_dnew, w_dc, w_mul, w_div, w_mod, w_tupP, w_dget2, w_srit, e_tupP, e_tupleL, e_tupleT, e_addPI, e_isN_non, e_isN_ptp, e_notN_non, e_notN_ptp, w_par3, w_ixptp, e_lenptp, isS_ptp, e_min2', w_for, w_iseq, e_add, e_addI, e_sub, e_cmp, e_eqI, e_neI, e_eqS, e_neS, e_eqB, e_neB, e_abs, e_int, e_max2, e_truB, e_truI, w_dget, w_ixref, w_ixlst, w_ixrol, w_ixtup, w_dref, isK_dct, isK_dctL, reduceCtorEq, false_implies, true_implies, Bool.false_eq_true, Bool.true_eq_false, e_lenlst, e_lenrol, e_lentup, w_lenref, w_ite, getS, setS, keyD, List.map_cons, List.map_nil, List.cons_append, List.nil_append, List.length_cons, List.length_nil, List.replicate, Nat.reduceSub, Nat.reduceAdd, Nat.reduceLeDiff, Nat.reduceLT, List.set_cons_zero, List.set_cons_succ, decide_eq_true_eq, decide_eq_false_iff_not, Bool.not_eq_true', Bool.not_eq_false', true_and, and_true, forall_const, w_fn (f := f__law_take)]
  refine take_fr h.st.tape (by decide) (by decide) fun line m1 hf _ h0 h1 => ?_
  have h' := h.fr hf
  simp only [w_some, w_var, w_c, w_op, w_un, w_anil, w_acons, w_fn (f := fLen), w_fn (f := fInt), w_fn (f := fAbs), w_fn (f := fMax2), w_fn (f := fMin2), w_fn (f := fBool), w_fn (f := fTuple), w_fn (f := fDictM), w_fn (f := fTupP), w_fn (f := fDictP), w_fn (f := fSrTup), w_fn (f := fLenD), w_tup, w_lst, w_lstM, isB_bl, w_test, w_cand, w_cor, w_cnot, w_if, w_tru, w_and, w_or, w_not, w_chain, w_chain3, isR_ref, isI_ins, isD_dct, isL_lst, w_fld, w_lm, w_dm, w_disp, w_dnil, w_dcons, w_nil, w_retN, w_break, w_cont, nxt_nx, nxt_rt, nxt_bk, nxt_ct, w_seq, w_set, w_drop, w_ret, w_sif, w_asg, w_gN, w_gT, w_gsnil, w_gscons, w_gdput, w_dput, isN_int, w_lput, w_par, w_aug, w_flds, w_flda, gives_rt, gives_nx, w_fnb, w_range1, w_range2, isS_lst, isS_rol, isS_tup, w_iseq, w_dnew, w_dc, w_mul, w_div, w_mod, w_tupP, w_dget2, w_srit, e_tupP, e_tupleL, e_tupleT, e_addPI, e_isN_non, e_isN_ptp, e_notN_non, e_notN_ptp, w_par3, w_ixptp, e_lenptp, isS_ptp, e_min2', w_for, w_iseq, e_add, e_addI, e_sub, e_cmp, e_eqI, e_neI, e_eqS, e_neS, e_eqB, e_neB, e_abs, e_int, e_max2, e_truB, e_truI, w_dget, w_ixref, w_ixlst, w_ixrol, w_ixtup, w_dref, isK_dct, isK_dctL, reduceCtorEq, false_implies, true_implies, Bool.false_eq_true, Bool.true_eq_false, e_lenlst, e_lenrol, e_lentup, w_lenref, w_ite, getS, setS, keyD, List.map_cons, List.map_nil, List.cons_append, List.nil_append, List.length_cons, List.length_nil, List.replicate, Nat.reduceSub, Nat.reduceAdd, Nat.reduceLeDiff, Nat.reduceLT, List.set_cons_zero, List.set_cons_succ, decide_eq_true_eq, decide_eq_false_iff_not, Bool.not_eq_true', Bool.not_eq_false', true_and, and_true, forall_const, toldD, ix3_0, pos_S t, mod_at t, h'.st.la, atIN, List.getElem?_map, row_at t h'.v1, Option.map_some, e_inRow]
  exact q line m1 ⟨h0, h1⟩ h'
theorem s3 {x0 x3 x4 x12 x16 x17 : Option D} {Q : Fl × Sg × M → Prop} (t : TOk T) (h : Inv m T b R1 R2 k w u)
    (q : Q (.nx, sl x0 x3 x4 T b k w u x12 (some (.int line)) (some (.int (atP T line : Int))) (some (.bl (inP T R1 line))) x16 x17, m)) : wp (sB3 (sl x0 x3 x4 T b k w u x12 (some (.int line)) (some (.int (atP T line : Int))) (some (.bl (inP T R1 line))) x16 x17) m) Q := by
  unfold sB3 sl
  simp only [w_some, w_var, w_c, w_op, w_un, w_anil, w_acons, w_fn (f := fLen), w_fn (f := fInt), w_fn (f := fAbs), w_fn (f := fMax2), w_fn (f := fMin2), w_fn (f := fBool), w_fn (f := fTuple), w_fn (f := fDictM), w_fn (f := fTupP), w_fn (f := fDictP), w_fn (f := fSrTup), w_fn (f := fLenD), w_tup, w_lst, w_lstM, isB_bl, w_test, w_cand, w_cor, w_cnot, w_if, w_tru, w_and, w_or, w_not, w_chain, w_chain3, isR_ref, isI_ins, isD_dct, isL_lst, w_fld, w_lm, w_dm, w_disp, w_dnil, w_dcons, w_nil, w_retN, w_break, w_cont, nxt_nx, nxt_rt, nxt_bk, nxt_ct, w_seq, w_set, w_drop, w_ret, w_sif, w_asg, w_gN, w_gT, w_gsnil, w_gscons, w_gdput, w_dput, isN_int, w_lput, w_par, w_aug, w_flds, w_flda, gives_rt, gives_nx, w_fnb, w_range1, w_range2, isS_lst, isS_rol, isS_tup, w_iseq, w_dnew, w_dc, w_mul, w_div, w_mod, w_tupP, w_dget2, w_srit, e_tupP, e_tupleL, e_tupleT, e_addPI, e_isN_non, e_isN_ptp, e_notN_non, e_notN_ptp, w_par3, w_ixptp, e_lenptp, isS_ptp, e_min2', w_for, w_iseq, e_add, e_addI, e_sub, e_cmp, e_eqI, e_neI, e_eqS, e_neS, e_eqB, e_neB, e_abs, e_int, e_max2, e_truB, e_truI, w_dget, w_ixref, w_ixlst, w_ixrol, w_ixtup, w_dref, isK_dct, isK_dctL, reduceCtorEq, false_implies, true_implies, Bool.false_eq_true, Bool.true_eq_false, e_lenlst, e_lenrol, e_lentup, w_lenref, w_ite, getS, setS, keyD, List.map_cons, List.map_nil, List.cons_append, List.nil_append, List.length_cons, List.length_nil, List.replicate, Nat.reduceSub, Nat.reduceAdd, Nat.reduceLeDiff, Nat.reduceLT, List.set_cons_zero, List.set_cons_succ, decide_eq_true_eq, decide_eq_false_iff_not, Bool.not_eq_true', Bool.not_eq_false', true_and, and_true, forall_const, w_fn (f := f_verdicts), h.st.lc, atIN, List.getElem?_map, row_at t h.v2, Option.map_some, e_inRow]
  refine verd_fr t h.v1 h.sk h.lk fun bs hb => ?_
  simp only [w_some, w_var, w_c, w_op, w_un, w_anil, w_acons, w_fn (f := fLen), w_fn (f := fInt), w_fn (f := fAbs), w_fn (f := fMax2), w_fn (f := fMin2), w_fn (f := fBool), w_fn (f := fTuple), w_fn (f := fDictM), w_fn (f := fTupP), w_fn (f := fDictP), w_fn (f := fSrTup), w_fn (f := fLenD), w_tup, w_lst, w_lstM, isB_bl, w_test, w_cand, w_cor, w_cnot, w_if, w_tru, w_and, w_or, w_not, w_chain, w_chain3, isR_ref, isI_ins, isD_dct, isL_lst, w_fld, w_lm, w_dm, w_disp, w_dnil, w_dcons, w_nil, w_retN, w_break, w_cont, nxt_nx, nxt_rt, nxt_bk, nxt_ct, w_seq, w_set, w_drop, w_ret, w_sif, w_asg, w_gN, w_gT, w_gsnil, w_gscons, w_gdput, w_dput, isN_int, w_lput, w_par, w_aug, w_flds, w_flda, gives_rt, gives_nx, w_fnb, w_range1, w_range2, isS_lst, isS_rol, isS_tup, w_iseq, w_dnew, w_dc, w_mul, w_div, w_mod, w_tupP, w_dget2, w_srit, e_tupP, e_tupleL, e_tupleT, e_addPI, e_isN_non, e_isN_ptp, e_notN_non, e_notN_ptp, w_par3, w_ixptp, e_lenptp, isS_ptp, e_min2', w_for, w_iseq, e_add, e_addI, e_sub, e_cmp, e_eqI, e_neI, e_eqS, e_neS, e_eqB, e_neB, e_abs, e_int, e_max2, e_truB, e_truI, w_dget, w_ixref, w_ixlst, w_ixrol, w_ixtup, w_dref, isK_dct, isK_dctL, reduceCtorEq, false_implies, true_implies, Bool.false_eq_true, Bool.true_eq_false, e_lenlst, e_lenrol, e_lentup, w_lenref, w_ite, getS, setS, keyD, List.map_cons, List.map_nil, List.cons_append, List.nil_append, List.length_cons, List.length_nil, List.replicate, Nat.reduceSub, Nat.reduceAdd, Nat.reduceLeDiff, Nat.reduceLT, List.set_cons_zero, List.set_cons_succ, decide_eq_true_eq, decide_eq_false_iff_not, Bool.not_eq_true', Bool.not_eq_false', true_and, and_true, forall_const, e_notinB, hb, decide_true, Bool.not_true, not_true_eq_false]
  refine verd_fr t h.v1 h.sw h.lw fun bs hb => ?_
  simp only [w_some, w_var, w_c, w_op, w_un, w_anil, w_acons, w_fn (f := fLen), w_fn (f := fInt), w_fn (f := fAbs), w_fn (f := fMax2), w_fn (f := fMin2), w_fn (f := fBool), w_fn (f := fTuple), w_fn (f := fDictM), w_fn (f := fTupP), w_fn (f := fDictP), w_fn (f := fSrTup), w_fn (f := fLenD), w_tup, w_lst, w_lstM, isB_bl, w_test, w_cand, w_cor, w_cnot, w_if, w_tru, w_and, w_or, w_not, w_chain, w_chain3, isR_ref, isI_ins, isD_dct, isL_lst, w_fld, w_lm, w_dm, w_disp, w_dnil, w_dcons, w_nil, w_retN, w_break, w_cont, nxt_nx, nxt_rt, nxt_bk, nxt_ct, w_seq, w_set, w_drop, w_ret, w_sif, w_asg, w_gN, w_gT, w_gsnil, w_gscons, w_gdput, w_dput, isN_int, w_lput, w_par, w_aug, w_flds, w_flda, gives_rt, gives_nx, w_fnb, w_range1, w_range2, isS_lst, isS_rol, isS_tup, w_iseq, w_dnew, w_dc, w_mul, w_div, w_mod, w_tupP, w_dget2, w_srit, e_tupP, e_tupleL, e_tupleT, e_addPI, e_isN_non, e_isN_ptp, e_notN_non, e_notN_ptp, w_par3, w_ixptp, e_lenptp, isS_ptp, e_min2', w_for, w_iseq, e_add, e_addI, e_sub, e_cmp, e_eqI, e_neI, e_eqS, e_neS, e_eqB, e_neB, e_abs, e_int, e_max2, e_truB, e_truI, w_dget, w_ixref, w_ixlst, w_ixrol, w_ixtup, w_dref, isK_dct, isK_dctL, reduceCtorEq, false_implies, true_implies, Bool.false_eq_true, Bool.true_eq_false, e_lenlst, e_lenrol, e_lentup, w_lenref, w_ite, getS, setS, keyD, List.map_cons, List.map_nil, List.cons_append, List.nil_append, List.length_cons, List.length_nil, List.replicate, Nat.reduceSub, Nat.reduceAdd, Nat.reduceLeDiff, Nat.reduceLT, List.set_cons_zero, List.set_cons_succ, decide_eq_true_eq, decide_eq_false_iff_not, Bool.not_eq_true', Bool.not_eq_false', true_and, and_true, forall_const, e_notinB, hb, decide_true, Bool.not_true, not_true_eq_false]
  refine verd_fr t h.v1 h.s1 h.lu fun bs hb => ?_
  simp only [w_some, w_var, w_c, w_op, w_un, w_anil, w_acons, w_fn (f := fLen), w_fn (f := fInt), w_fn (f := fAbs), w_fn (f := fMax2), w_fn (f := fMin2), w_fn (f := fBool), w_fn (f := fTuple), w_fn (f := fDictM), w_fn (f := fTupP), w_fn (f := fDictP), w_fn (f := fSrTup), w_fn (f := fLenD), w_tup, w_lst, w_lstM, isB_bl, w_test, w_cand, w_cor, w_cnot, w_if, w_tru, w_and, w_or, w_not, w_chain, w_chain3, isR_ref, isI_ins, isD_dct, isL_lst, w_fld, w_lm, w_dm, w_disp, w_dnil, w_dcons, w_nil, w_retN, w_break, w_cont, nxt_nx, nxt_rt, nxt_bk, nxt_ct, w_seq, w_set, w_drop, w_ret, w_sif, w_asg, w_gN, w_gT, w_gsnil, w_gscons, w_gdput, w_dput, isN_int, w_lput, w_par, w_aug, w_flds, w_flda, gives_rt, gives_nx, w_fnb, w_range1, w_range2, isS_lst, isS_rol, isS_tup, w_iseq, w_dnew, w_dc, w_mul, w_div, w_mod, w_tupP, w_dget2, w_srit, e_tupP, e_tupleL, e_tupleT, e_addPI, e_isN_non, e_isN_ptp, e_notN_non, e_notN_ptp, w_par3, w_ixptp, e_lenptp, isS_ptp, e_min2', w_for, w_iseq, e_add, e_addI, e_sub, e_cmp, e_eqI, e_neI, e_eqS, e_neS, e_eqB, e_neB, e_abs, e_int, e_max2, e_truB, e_truI, w_dget, w_ixref, w_ixlst, w_ixrol, w_ixtup, w_dref, isK_dct, isK_dctL, reduceCtorEq, false_implies, true_implies, Bool.false_eq_true, Bool.true_eq_false, e_lenlst, e_lenrol, e_lentup, w_lenref, w_ite, getS, setS, keyD, List.map_cons, List.map_nil, List.cons_append, List.nil_append, List.length_cons, List.length_nil, List.replicate, Nat.reduceSub, Nat.reduceAdd, Nat.reduceLeDiff, Nat.reduceLT, List.set_cons_zero, List.set_cons_succ, decide_eq_true_eq, decide_eq_false_iff_not, Bool.not_eq_true', Bool.not_eq_false', true_and, and_true, forall_const, e_notinB, hb, decide_true, Bool.not_true, not_true_eq_false, h.st.lc, atIN, List.getElem?_map, row_at t h.v2, Option.map_some, e_inRow]
  refine verd_fr t h.v2 h.s2 h.lu fun bs hb => ?_
  simp only [w_some, w_var, w_c, w_op, w_un, w_anil, w_acons, w_fn (f := fLen), w_fn (f := fInt), w_fn (f := fAbs), w_fn (f := fMax2), w_fn (f := fMin2), w_fn (f := fBool), w_fn (f := fTuple), w_fn (f := fDictM), w_fn (f := fTupP), w_fn (f := fDictP), w_fn (f := fSrTup), w_fn (f := fLenD), w_tup, w_lst, w_lstM, isB_bl, w_test, w_cand, w_cor, w_cnot, w_if, w_tru, w_and, w_or, w_not, w_chain, w_chain3, isR_ref, isI_ins, isD_dct, isL_lst, w_fld, w_lm, w_dm, w_disp, w_dnil, w_dcons, w_nil, w_retN, w_break, w_cont, nxt_nx, nxt_rt, nxt_bk, nxt_ct, w_seq, w_set, w_drop, w_ret, w_sif, w_asg, w_gN, w_gT, w_gsnil, w_gscons, w_gdput, w_dput, isN_int, w_lput, w_par, w_aug, w_flds, w_flda, gives_rt, gives_nx, w_fnb, w_range1, w_range2, isS_lst, isS_rol, isS_tup, w_iseq, w_dnew, w_dc, w_mul, w_div, w_mod, w_tupP, w_dget2, w_srit, e_tupP, e_tupleL, e_tupleT, e_addPI, e_isN_non, e_isN_ptp, e_notN_non, e_notN_ptp, w_par3, w_ixptp, e_lenptp, isS_ptp, e_min2', w_for, w_iseq, e_add, e_addI, e_sub, e_cmp, e_eqI, e_neI, e_eqS, e_neS, e_eqB, e_neB, e_abs, e_int, e_max2, e_truB, e_truI, w_dget, w_ixref, w_ixlst, w_ixrol, w_ixtup, w_dref, isK_dct, isK_dctL, reduceCtorEq, false_implies, true_implies, Bool.false_eq_true, Bool.true_eq_false, e_lenlst, e_lenrol, e_lentup, w_lenref, w_ite, getS, setS, keyD, List.map_cons, List.map_nil, List.cons_append, List.nil_append, List.length_cons, List.length_nil, List.replicate, Nat.reduceSub, Nat.reduceAdd, Nat.reduceLeDiff, Nat.reduceLT, List.set_cons_zero, List.set_cons_succ, decide_eq_true_eq, decide_eq_false_iff_not, Bool.not_eq_true', Bool.not_eq_false', true_and, and_true, forall_const, e_notinB, hb, decide_true, Bool.not_true, not_true_eq_false]
  exact q
theorem wp_two {g : XG} {bd : XS} {d1 d2 : D} {sg : Sg} {Q : Fl × Sg × M → Prop} (h : wp (g d1 sg m) fun p => wp (bd p.1 p.2) fun q => q.1 = .nx ∧ wp (g d2 q.2.1 q.2.2) fun p => wp (bd p.1 p.2) fun q => q.1 = .nx ∧ Q (.nx, q.2)) : wp (loopS g bd [d1, d2] sg m) Q := by
  obtain ⟨⟨s1, m1⟩, e1, ⟨f2, s2, m2⟩, e2, h2, ⟨s3, m3⟩, e3, ⟨f4, s4, m4⟩, e4, h4, q⟩ := h
  simp only at e2 h2 e3 e4 h4 q
  subst h2 h4
  simp only [loopS, e1, e2, e3, e4]
  exact w_some.mpr q
def hBd : XS := (sIf (cAnd (cTest (xOp fIn (xVar 13) (xOp fIx (xVar 16) (xVar 14)))) ((cTest (xOp fEq (xOp fIx (xVar 2) (xC (.int 2))) (xC (.str "lru")))))) (sLPut (xOp fAdd (xTup (aCons (xVar 13) aNil)) (xFn fTuple (aCons (xLc [17] (iSeq (xOp fIx (xVar 16) (xVar 14))) (gN 17) (cTest (xOp fNe (xVar 17) (xVar 13))) (xVar 17)) aNil))) (xVar 16) (xVar 14)) sNil)
def iBd : XS := (sLPut (xSl (xOp fAdd (xTup (aCons (xVar 13) aNil)) (xFn fTuple (aCons (xLc [17] (iSeq (xOp fIx (xVar 16) (xVar 14))) (gN 17) (cTest (xOp fNe (xVar 17) (xVar 13))) (xVar 17)) aNil))) pNone (pSome (xOp fIx (xVar 2) (xC (.int 1))))) (xVar 16) (xVar 14))
theorem hB1_shape : hB1 = (sFor (iSeq (xTup (aCons (xVar 7) (aCons (xVar 8) aNil)))) (gN 16) hBd) := rfl
theorem iB2_shape : iB2 = (sFor (iSeq (xTup (aCons (xVar 7) (aCons (xVar 8) aNil)))) (gN 16) iBd) := rfl
theorem mtf_cat (t : TOk T) (v : Valid T R) : fAdd (.tup [.int line]) (.tup ((List.filter (fun x => !decide (x = line)) (rowP T R line)).map D.int)) m = some (.tup ((mtf (rowP T R line) line).map D.int), m) := by
  have h4 := row_len4 (line := line) t v
  have hf := List.length_filter_le (fun x => !decide (x = line)) (rowP T R line)
  rw [e_addT (by simp; omega), mtf_map]
theorem hBd_wp {x0 x3 x4 x12 x15 x17 : Option D} {Q : Fl × Sg × M → Prop} (t : TOk T) (v : Valid T R) (h : m[i]? = some (.lst (R.map rowD)))
    (q : Q (.nx, sl x0 x3 x4 T b k w u x12 (some (.int line)) (some (.int (atP T line : Int))) x15 (some (.ref i)) x17, m.set i (.lst ((afterHit T R line).map rowD)))) : wp (hBd (sl x0 x3 x4 T b k w u x12 (some (.int line)) (some (.int (atP T line : Int))) x15 (some (.ref i)) x17) m) Q := by
  have h4 := row_len4 (line := line) t v
  have hat := atP_lt t v line
  unfold hBd sl
  simp only [w_some, w_var, w_c, w_op, w_un, w_anil, w_acons, w_fn (f := fLen), w_fn (f := fInt), w_fn (f := fAbs), w_fn (f := fMax2), w_fn (f := fMin2), w_fn (f := fBool), w_fn (f := fTuple), w_fn (f := fDictM), w_fn (f := fTupP), w_fn (f := fDictP), w_fn (f := fSrTup), w_fn (f := fLenD), w_tup, w_lst, w_lstM, isB_bl, w_test, w_cand, w_cor, w_cnot, w_if, w_tru, w_and, w_or, w_not, w_chain, w_chain3, isR_ref, isI_ins, isD_dct, isL_lst, w_fld, w_lm, w_dm, w_disp, w_dnil, w_dcons, w_nil, w_retN, w_break, w_cont, nxt_nx, nxt_rt, nxt_bk, nxt_ct, w_seq, w_set, w_drop, w_ret, w_sif, w_asg, w_gN, w_gT, w_gsnil, w_gscons, w_gdput, w_dput, isN_int, w_lput, w_par, w_aug, w_flds, w_flda, gives_rt, gives_nx, w_fnb, w_range1, w_range2, isS_lst, isS_rol, isS_tup, w_iseq, w_dnew, w_dc, w_mul, w_div, w_mod, w_tupP, w_dget2, w_srit, e_tupP, e_tupleL, e_tupleT, e_addPI, e_isN_non, e_isN_ptp, e_notN_non, e_notN_ptp, w_par3, w_ixptp, e_lenptp, isS_ptp, e_min2', w_for, w_iseq, e_add, e_addI, e_sub, e_cmp, e_eqI, e_neI, e_eqS, e_neS, e_eqB, e_neB, e_abs, e_int, e_max2, e_truB, e_truI, w_dget, w_ixref, w_ixlst, w_ixrol, w_ixtup, w_dref, isK_dct, isK_dctL, reduceCtorEq, false_implies, true_implies, Bool.false_eq_true, Bool.true_eq_false, e_lenlst, e_lenrol, e_lentup, w_lenref, w_ite, getS, setS, keyD, List.map_cons, List.map_nil, List.cons_append, List.nil_append, List.length_cons, List.length_nil, List.replicate, Nat.reduceSub, Nat.reduceAdd, Nat.reduceLeDiff, Nat.reduceLT, List.set_cons_zero, List.set_cons_succ, decide_eq_true_eq, decide_eq_false_iff_not, Bool.not_eq_true', Bool.not_eq_false', true_and, and_true, forall_const, h, atIN, List.getElem?_map, row_at t v, Option.map_some, e_inRow, toldD, ix3_2, pol_lru]
  unfold afterHit at q
  refine ⟨fun hi => ⟨fun hl => ?_, fun hl => ?_⟩, fun hi => ?_⟩
  · rw [if_pos ⟨hi, hl⟩] at q
    simp only [w_some, w_var, w_c, w_op, w_un, w_anil, w_acons, w_fn (f := fLen), w_fn (f := fInt), w_fn (f := fAbs), w_fn (f := fMax2), w_fn (f := fMin2), w_fn (f := fBool), w_fn (f := fTuple), w_fn (f := fDictM), w_fn (f := fTupP), w_fn (f := fDictP), w_fn (f := fSrTup), w_fn (f := fLenD), w_tup, w_lst, w_lstM, isB_bl, w_test, w_cand, w_cor, w_cnot, w_if, w_tru, w_and, w_or, w_not, w_chain, w_chain3, isR_ref, isI_ins, isD_dct, isL_lst, w_fld, w_lm, w_dm, w_disp, w_dnil, w_dcons, w_nil, w_retN, w_break, w_cont, nxt_nx, nxt_rt, nxt_bk, nxt_ct, w_seq, w_set, w_drop, w_ret, w_sif, w_asg, w_gN, w_gT, w_gsnil, w_gscons, w_gdput, w_dput, isN_int, w_lput, w_par, w_aug, w_flds, w_flda, gives_rt, gives_nx, w_fnb, w_range1, w_range2, isS_lst, isS_rol, isS_tup, w_iseq, w_dnew, w_dc, w_mul, w_div, w_mod, w_tupP, w_dget2, w_srit, e_tupP, e_tupleL, e_tupleT, e_addPI, e_isN_non, e_isN_ptp, e_notN_non, e_notN_ptp, w_par3, w_ixptp, e_lenptp, isS_ptp, e_min2', w_for, w_iseq, e_add, e_addI, e_sub, e_cmp, e_eqI, e_neI, e_eqS, e_neS, e_eqB, e_neB, e_abs, e_int, e_max2, e_truB, e_truI, w_dget, w_ixref, w_ixlst, w_ixrol, w_ixtup, w_dref, isK_dct, isK_dctL, reduceCtorEq, false_implies, true_implies, Bool.false_eq_true, Bool.true_eq_false, e_lenlst, e_lenrol, e_lentup, w_lenref, w_ite, getS, setS, keyD, List.map_cons, List.map_nil, List.cons_append, List.nil_append, List.length_cons, List.length_nil, List.replicate, Nat.reduceSub, Nat.reduceAdd, Nat.reduceLeDiff, Nat.reduceLT, List.set_cons_zero, List.set_cons_succ, decide_eq_true_eq, decide_eq_false_iff_not, Bool.not_eq_true', Bool.not_eq_false', true_and, and_true, forall_const, w_lc, h, atIN, List.getElem?_map, row_at t v, Option.map_some, rowD, List.length_map]
    refine ⟨by omega, wp.eq (loopC_map (f := D.int) (p := fun x => !decide (x = line)) (h := D.int) fun x hx => ?_) ?_⟩
    · simp only [w_gN, true_and]
      refine ⟨wp_of ?_, fun _ => wp_of ?_⟩
      · simp only [w_some, w_var, w_c, w_op, w_un, w_anil, w_acons, w_fn (f := fLen), w_fn (f := fInt), w_fn (f := fAbs), w_fn (f := fMax2), w_fn (f := fMin2), w_fn (f := fBool), w_fn (f := fTuple), w_fn (f := fDictM), w_fn (f := fTupP), w_fn (f := fDictP), w_fn (f := fSrTup), w_fn (f := fLenD), w_tup, w_lst, w_lstM, isB_bl, w_test, w_cand, w_cor, w_cnot, w_if, w_tru, w_and, w_or, w_not, w_chain, w_chain3, isR_ref, isI_ins, isD_dct, isL_lst, w_fld, w_lm, w_dm, w_disp, w_dnil, w_dcons, w_nil, w_retN, w_break, w_cont, nxt_nx, nxt_rt, nxt_bk, nxt_ct, w_seq, w_set, w_drop, w_ret, w_sif, w_asg, w_gN, w_gT, w_gsnil, w_gscons, w_gdput, w_dput, isN_int, w_lput, w_par, w_aug, w_flds, w_flda, gives_rt, gives_nx, w_fnb, w_range1, w_range2, isS_lst, isS_rol, isS_tup, w_iseq, w_dnew, w_dc, w_mul, w_div, w_mod, w_tupP, w_dget2, w_srit, e_tupP, e_tupleL, e_tupleT, e_addPI, e_isN_non, e_isN_ptp, e_notN_non, e_notN_ptp, w_par3, w_ixptp, e_lenptp, isS_ptp, e_min2', w_for, w_iseq, e_add, e_addI, e_sub, e_cmp, e_eqI, e_neI, e_eqS, e_neS, e_eqB, e_neB, e_abs, e_int, e_max2, e_truB, e_truI, w_dget, w_ixref, w_ixlst, w_ixrol, w_ixtup, w_dref, isK_dct, isK_dctL, reduceCtorEq, false_implies, true_implies, Bool.false_eq_true, Bool.true_eq_false, e_lenlst, e_lenrol, e_lentup, w_lenref, w_ite, getS, setS, keyD, List.map_cons, List.map_nil, List.cons_append, List.nil_append, List.length_cons, List.length_nil, List.replicate, Nat.reduceSub, Nat.reduceAdd, Nat.reduceLeDiff, Nat.reduceLT, List.set_cons_zero, List.set_cons_succ, decide_eq_true_eq, decide_eq_false_iff_not, Bool.not_eq_true', Bool.not_eq_false', true_and, and_true, forall_const, wipeS]
      · simp only [w_some, w_var, w_c, w_op, w_un, w_anil, w_acons, w_fn (f := fLen), w_fn (f := fInt), w_fn (f := fAbs), w_fn (f := fMax2), w_fn (f := fMin2), w_fn (f := fBool), w_fn (f := fTuple), w_fn (f := fDictM), w_fn (f := fTupP), w_fn (f := fDictP), w_fn (f := fSrTup), w_fn (f := fLenD), w_tup, w_lst, w_lstM, isB_bl, w_test, w_cand, w_cor, w_cnot, w_if, w_tru, w_and, w_or, w_not, w_chain, w_chain3, isR_ref, isI_ins, isD_dct, isL_lst, w_fld, w_lm, w_dm, w_disp, w_dnil, w_dcons, w_nil, w_retN, w_break, w_cont, nxt_nx, nxt_rt, nxt_bk, nxt_ct, w_seq, w_set, w_drop, w_ret, w_sif, w_asg, w_gN, w_gT, w_gsnil, w_gscons, w_gdput, w_dput, isN_int, w_lput, w_par, w_aug, w_flds, w_flda, gives_rt, gives_nx, w_fnb, w_range1, w_range2, isS_lst, isS_rol, isS_tup, w_iseq, w_dnew, w_dc, w_mul, w_div, w_mod, w_tupP, w_dget2, w_srit, e_tupP, e_tupleL, e_tupleT, e_addPI, e_isN_non, e_isN_ptp, e_notN_non, e_notN_ptp, w_par3, w_ixptp, e_lenptp, isS_ptp, e_min2', w_for, w_iseq, e_add, e_addI, e_sub, e_cmp, e_eqI, e_neI, e_eqS, e_neS, e_eqB, e_neB, e_abs, e_int, e_max2, e_truB, e_truI, w_dget, w_ixref, w_ixlst, w_ixrol, w_ixtup, w_dref, isK_dct, isK_dctL, reduceCtorEq, false_implies, true_implies, Bool.false_eq_true, Bool.true_eq_false, e_lenlst, e_lenrol, e_lentup, w_lenref, w_ite, getS, setS, keyD, List.map_cons, List.map_nil, List.cons_append, List.nil_append, List.length_cons, List.length_nil, List.replicate, Nat.reduceSub, Nat.reduceAdd, Nat.reduceLeDiff, Nat.reduceLT, List.set_cons_zero, List.set_cons_succ, decide_eq_true_eq, decide_eq_false_iff_not, Bool.not_eq_true', Bool.not_eq_false', true_and, and_true, forall_const, wipeS]
    · simp only [w_some, w_var, w_c, w_op, w_un, w_anil, w_acons, w_fn (f := fLen), w_fn (f := fInt), w_fn (f := fAbs), w_fn (f := fMax2), w_fn (f := fMin2), w_fn (f := fBool), w_fn (f := fTuple), w_fn (f := fDictM), w_fn (f := fTupP), w_fn (f := fDictP), w_fn (f := fSrTup), w_fn (f := fLenD), w_tup, w_lst, w_lstM, isB_bl, w_test, w_cand, w_cor, w_cnot, w_if, w_tru, w_and, w_or, w_not, w_chain, w_chain3, isR_ref, isI_ins, isD_dct, isL_lst, w_fld, w_lm, w_dm, w_disp, w_dnil, w_dcons, w_nil, w_retN, w_break, w_cont, nxt_nx, nxt_rt, nxt_bk, nxt_ct, w_seq, w_set, w_drop, w_ret, w_sif, w_asg, w_gN, w_gT, w_gsnil, w_gscons, w_gdput, w_dput, isN_int, w_lput, w_par, w_aug, w_flds, w_flda, gives_rt, gives_nx, w_fnb, w_range1, w_range2, isS_lst, isS_rol, isS_tup, w_iseq, w_dnew, w_dc, w_mul, w_div, w_mod, w_tupP, w_dget2, w_srit, e_tupP, e_tupleL, e_tupleT, e_addPI, e_isN_non, e_isN_ptp, e_notN_non, e_notN_ptp, w_par3, w_ixptp, e_lenptp, isS_ptp, e_min2', w_for, w_iseq, e_add, e_addI, e_sub, e_cmp, e_eqI, e_neI, e_eqS, e_neS, e_eqB, e_neB, e_abs, e_int, e_max2, e_truB, e_truI, w_dget, w_ixref, w_ixlst, w_ixrol, w_ixtup, w_dref, isK_dct, isK_dctL, reduceCtorEq, false_implies, true_implies, Bool.false_eq_true, Bool.true_eq_false, e_lenlst, e_lenrol, e_lentup, w_lenref, w_ite, getS, setS, keyD, List.map_cons, List.map_nil, List.cons_append, List.nil_append, List.length_cons, List.length_nil, List.replicate, Nat.reduceSub, Nat.reduceAdd, Nat.reduceLeDiff, Nat.reduceLT, List.set_cons_zero, List.set_cons_succ, decide_eq_true_eq, decide_eq_false_iff_not, Bool.not_eq_true', Bool.not_eq_false', true_and, and_true, forall_const, mtf_cat t v, h, List.length_map, ixN_nat hat, set_rows]
      exact q
  · rw [if_neg (fun c => hl c.2), set_id h] at q
    exact q
  · rw [if_neg (fun c => by rw [hi] at c; exact absurd c.1 (by decide)), set_id h] at q
    exact q
theorem iBd_wp {x0 x3 x4 x12 x15 x17 : Option D} {Q : Fl × Sg × M → Prop} (t : TOk T) (v : Valid T R) (h : m[i]? = some (.lst (R.map rowD)))
    (q : Q (.nx, sl x0 x3 x4 T b k w u x12 (some (.int line)) (some (.int (atP T line : Int))) x15 (some (.ref i)) x17, m.set i (.lst ((fillP T R line).map rowD)))) : wp (iBd (sl x0 x3 x4 T b k w u x12 (some (.int line)) (some (.int (atP T line : Int))) x15 (some (.ref i)) x17) m) Q := by
  have h4 := row_len4 (line := line) t v
  have hat := atP_lt t v line
  have hw := t.w1
  unfold iBd sl
  simp only [w_some, w_var, w_c, w_op, w_un, w_anil, w_acons, w_fn (f := fLen), w_fn (f := fInt), w_fn (f := fAbs), w_fn (f := fMax2), w_fn (f := fMin2), w_fn (f := fBool), w_fn (f := fTuple), w_fn (f := fDictM), w_fn (f := fTupP), w_fn (f := fDictP), w_fn (f := fSrTup), w_fn (f := fLenD), w_tup, w_lst, w_lstM, isB_bl, w_test, w_cand, w_cor, w_cnot, w_if, w_tru, w_and, w_or, w_not, w_chain, w_chain3, isR_ref, isI_ins, isD_dct, isL_lst, w_fld, w_lm, w_dm, w_disp, w_dnil, w_dcons, w_nil, w_retN, w_break, w_cont, nxt_nx, nxt_rt, nxt_bk, nxt_ct, w_seq, w_set, w_drop, w_ret, w_sif, w_asg, w_gN, w_gT, w_gsnil, w_gscons, w_gdput, w_dput, isN_int, w_lput, w_par, w_aug, w_flds, w_flda, gives_rt, gives_nx, w_fnb, w_range1, w_range2, isS_lst, isS_rol, isS_tup, w_iseq, w_dnew, w_dc, w_mul, w_div, w_mod, w_tupP, w_dget2, w_srit, e_tupP, e_tupleL, e_tupleT, e_addPI, e_isN_non, e_isN_ptp, e_notN_non, e_notN_ptp, w_par3, w_ixptp, e_lenptp, isS_ptp, e_min2', w_for, w_iseq, e_add, e_addI, e_sub, e_cmp, e_eqI, e_neI, e_eqS, e_neS, e_eqB, e_neB, e_abs, e_int, e_max2, e_truB, e_truI, w_dget, w_ixref, w_ixlst, w_ixrol, w_ixtup, w_dref, isK_dct, isK_dctL, reduceCtorEq, false_implies, true_implies, Bool.false_eq_true, Bool.true_eq_false, e_lenlst, e_lenrol, e_lentup, w_lenref, w_ite, getS, setS, keyD, List.map_cons, List.map_nil, List.cons_append, List.nil_append, List.length_cons, List.length_nil, List.replicate, Nat.reduceSub, Nat.reduceAdd, Nat.reduceLeDiff, Nat.reduceLT, List.set_cons_zero, List.set_cons_succ, decide_eq_true_eq, decide_eq_false_iff_not, Bool.not_eq_true', Bool.not_eq_false', true_and, and_true, forall_const, w_sl, w_lc, h, atIN, List.getElem?_map, row_at t v, Option.map_some, toldD, ix3_1, rowD, List.length_map]
  refine ⟨by omega, wp.eq (loopC_map (f := D.int) (p := fun x => !decide (x = line)) (h := D.int) fun x hx => ?_) ?_⟩
  · simp only [w_gN, true_and]
    refine ⟨wp_of ?_, fun _ => wp_of ?_⟩
    · simp only [w_some, w_var, w_c, w_op, w_un, w_anil, w_acons, w_fn (f := fLen), w_fn (f := fInt), w_fn (f := fAbs), w_fn (f := fMax2), w_fn (f := fMin2), w_fn (f := fBool), w_fn (f := fTuple), w_fn (f := fDictM), w_fn (f := fTupP), w_fn (f := fDictP), w_fn (f := fSrTup), w_fn (f := fLenD), w_tup, w_lst, w_lstM, isB_bl, w_test, w_cand, w_cor, w_cnot, w_if, w_tru, w_and, w_or, w_not, w_chain, w_chain3, isR_ref, isI_ins, isD_dct, isL_lst, w_fld, w_lm, w_dm, w_disp, w_dnil, w_dcons, w_nil, w_retN, w_break, w_cont, nxt_nx, nxt_rt, nxt_bk, nxt_ct, w_seq, w_set, w_drop, w_ret, w_sif, w_asg, w_gN, w_gT, w_gsnil, w_gscons, w_gdput, w_dput, isN_int, w_lput, w_par, w_aug, w_flds, w_flda, gives_rt, gives_nx, w_fnb, w_range1, w_range2, isS_lst, isS_rol, isS_tup, w_iseq, w_dnew, w_dc, w_mul, w_div, w_mod, w_tupP, w_dget2, w_srit, e_tupP, e_tupleL, e_tupleT, e_addPI, e_isN_non, e_isN_ptp, e_notN_non, e_notN_ptp, w_par3, w_ixptp, e_lenptp, isS_ptp, e_min2', w_for, w_iseq, e_add, e_addI, e_sub, e_cmp, e_eqI, e_neI, e_eqS, e_neS, e_eqB, e_neB, e_abs, e_int, e_max2, e_truB, e_truI, w_dget, w_ixref, w_ixlst, w_ixrol, w_ixtup, w_dref, isK_dct, isK_dctL, reduceCtorEq, false_implies, true_implies, Bool.false_eq_true, Bool.true_eq_false, e_lenlst, e_lenrol, e_lentup, w_lenref, w_ite, getS, setS, keyD, List.map_cons, List.map_nil, List.cons_append, List.nil_append, List.length_cons, List.length_nil, List.replicate, Nat.reduceSub, Nat.reduceAdd, Nat.reduceLeDiff, Nat.reduceLT, List.set_cons_zero, List.set_cons_succ, decide_eq_true_eq, decide_eq_false_iff_not, Bool.not_eq_true', Bool.not_eq_false', true_and, and_true, forall_const, wipeS]
    · simp only [w_some, w_var, w_c, w_op, w_un, w_anil, w_acons, w_fn (f := fLen), w_fn (f := fInt), w_fn (f := fAbs), w_fn (f := fMax2), w_fn (f := fMin2), w_fn (f := fBool), w_fn (f := fTuple), w_fn (f := fDictM), w_fn (f := fTupP), w_fn (f := fDictP), w_fn (f := fSrTup), w_fn (f := fLenD), w_tup, w_lst, w_lstM, isB_bl, w_test, w_cand, w_cor, w_cnot, w_if, w_tru, w_and, w_or, w_not, w_chain, w_chain3, isR_ref, isI_ins, isD_dct, isL_lst, w_fld, w_lm, w_dm, w_disp, w_dnil, w_dcons, w_nil, w_retN, w_break, w_cont, nxt_nx, nxt_rt, nxt_bk, nxt_ct, w_seq, w_set, w_drop, w_ret, w_sif, w_asg, w_gN, w_gT, w_gsnil, w_gscons, w_gdput, w_dput, isN_int, w_lput, w_par, w_aug, w_flds, w_flda, gives_rt, gives_nx, w_fnb, w_range1, w_range2, isS_lst, isS_rol, isS_tup, w_iseq, w_dnew, w_dc, w_mul, w_div, w_mod, w_tupP, w_dget2, w_srit, e_tupP, e_tupleL, e_tupleT, e_addPI, e_isN_non, e_isN_ptp, e_notN_non, e_notN_ptp, w_par3, w_ixptp, e_lenptp, isS_ptp, e_min2', w_for, w_iseq, e_add, e_addI, e_sub, e_cmp, e_eqI, e_neI, e_eqS, e_neS, e_eqB, e_neB, e_abs, e_int, e_max2, e_truB, e_truI, w_dget, w_ixref, w_ixlst, w_ixrol, w_ixtup, w_dref, isK_dct, isK_dctL, reduceCtorEq, false_implies, true_implies, Bool.false_eq_true, Bool.true_eq_false, e_lenlst, e_lenrol, e_lentup, w_lenref, w_ite, getS, setS, keyD, List.map_cons, List.map_nil, List.cons_append, List.nil_append, List.length_cons, List.length_nil, List.replicate, Nat.reduceSub, Nat.reduceAdd, Nat.reduceLeDiff, Nat.reduceLT, List.set_cons_zero, List.set_cons_succ, decide_eq_true_eq, decide_eq_false_iff_not, Bool.not_eq_true', Bool.not_eq_false', true_and, and_true, forall_const, wipeS]
  · simp only [w_some, w_var, w_c, w_op, w_un, w_anil, w_acons, w_fn (f := fLen), w_fn (f := fInt), w_fn (f := fAbs), w_fn (f := fMax2), w_fn (f := fMin2), w_fn (f := fBool), w_fn (f := fTuple), w_fn (f := fDictM), w_fn (f := fTupP), w_fn (f := fDictP), w_fn (f := fSrTup), w_fn (f := fLenD), w_tup, w_lst, w_lstM, isB_bl, w_test, w_cand, w_cor, w_cnot, w_if, w_tru, w_and, w_or, w_not, w_chain, w_chain3, isR_ref, isI_ins, isD_dct, isL_lst, w_fld, w_lm, w_dm, w_disp, w_dnil, w_dcons, w_nil, w_retN, w_break, w_cont, nxt_nx, nxt_rt, nxt_bk, nxt_ct, w_seq, w_set, w_drop, w_ret, w_sif, w_asg, w_gN, w_gT, w_gsnil, w_gscons, w_gdput, w_dput, isN_int, w_lput, w_par, w_aug, w_flds, w_flda, gives_rt, gives_nx, w_fnb, w_range1, w_range2, isS_lst, isS_rol, isS_tup, w_iseq, w_dnew, w_dc, w_mul, w_div, w_mod, w_tupP, w_dget2, w_srit, e_tupP, e_tupleL, e_tupleT, e_addPI, e_isN_non, e_isN_ptp, e_notN_non, e_notN_ptp, w_par3, w_ixptp, e_lenptp, isS_ptp, e_min2', w_for, w_iseq, e_add, e_addI, e_sub, e_cmp, e_eqI, e_neI, e_eqS, e_neS, e_eqB, e_neB, e_abs, e_int, e_max2, e_truB, e_truI, w_dget, w_ixref, w_ixlst, w_ixrol, w_ixtup, w_dref, isK_dct, isK_dctL, reduceCtorEq, false_implies, true_implies, Bool.false_eq_true, Bool.true_eq_false, e_lenlst, e_lenrol, e_lentup, w_lenref, w_ite, getS, setS, keyD, List.map_cons, List.map_nil, List.cons_append, List.nil_append, List.length_cons, List.length_nil, List.replicate, Nat.reduceSub, Nat.reduceAdd, Nat.reduceLeDiff, Nat.reduceLT, List.set_cons_zero, List.set_cons_succ, decide_eq_true_eq, decide_eq_false_iff_not, Bool.not_eq_true', Bool.not_eq_false', true_and, and_true, forall_const, mtf_cat t v, e_cut (show 0 ≤ T.W by omega), ← List.map_take, h, List.length_map, ixN_nat hat, set_rows]
    exact q
end
end K03

set_option Elab.async false
set_option maxRecDepth 100000
set_option linter.unusedSimpArgs false
set_option linter.unusedVariables false
namespace K03
open PySem L2 Mini

section
variable {T : Told} {line : Int} {m m' : M} {rows R R1 R2 C1 C2 A1 A2 C : Rows} {k w u one two : Kn} {b j i : Nat} {x0 x3 x4 x12 x13 x14 x15 x16 x17 : Option D} {Q : Fl × Sg × M → Prop}
theorem l_has : (cacheF T j).lookup ("has" : Str) = none := rfl
theorem l_fill : (cacheF T j).lookup ("fill" : Str) = none := rfl
theorem l_lines : (cacheF T j).lookup ("lines" : Str) = none := rfl
def nextK (T : Told) (R : Rows) (k : Kn) (line : Int) : Kn := if inP T R line = true then touchedP T k line else missedP k line
theorem sound_next (t : TOk T) (v : Valid T R) (s : Sound T R k) : Sound T (afterHit T R line) (nextK T R k line) := by
  unfold nextK
  cases h : inP T R line with
  | true => simp only [if_true]; exact sound_touched t v s h
  | false =>
    rw [after_missed h]
    simp only [Bool.false_eq_true, if_false]
    exact sound_missed t v s h
theorem lim_next (h : Lim k) (hl : 0 ≤ line ∧ line < 10) : Lim (nextK T R k line) := by
  unfold nextK
  split
  · exact lim_touched h hl
  · exact lim_missed h
theorem in_after (t : TOk T) (v : Valid T R) : inP T (afterHit T R line) line = inP T R line := by
  unfold afterHit
  split
  · rename_i h
    rw [h.1, hit_fill t v h.1]
    have h1 := t.w1
    have : line ∈ rowP T (fillP T R line) line := by
      rw [row_fill t v, if_pos rfl]
      have : T.W.toNat ≠ 0 := by omega
      obtain ⟨n, hn⟩ := Nat.exists_eq_succ_of_ne_zero this
      rw [hn]
      unfold mtf
      rw [List.take_succ_cons]
      exact List.mem_cons_self
    simpa [inP] using this
  · rfl
abbrev SL (T : Told) (x0 x3 x4 : Option D) (b : Nat) (k w u : Kn) (x12 : Option D) (line : Int) (x15 x16 x17 : Option D) : Sg := sl x0 x3 x4 T b k w u x12 (some (.int line)) (some (.int (atP T line : Int))) x15 x16 x17
theorem hB0_wp (t : TOk T) (v1 : Valid T R1) (v2 : Valid T R2) (h : St m T b R1 R2 R1 R2) (q : ∀ m', St m' T b (afterHit T R1 line) (afterHit T R2 line) R1 R2 → Q (.nx, SL T x0 x3 x4 b k w u x12 line (some (.bl (inP T R1 line))) x16 x17, m')) :
    wp (hB0 (SL T x0 x3 x4 b k w u x12 line (some (.bl (inP T R1 line))) x16 x17) m) Q := by
  unfold hB0 SL sl
  simp only [w_some, w_var, w_c, w_op, w_un, w_anil, w_acons, w_fn (f := fLen), w_fn (f := fInt), w_fn (f := fAbs), w_fn (f := fMax2), w_fn (f := fMin2), w_fn (f := fBool), w_fn (f := fTuple), w_fn (f := fDictM), w_fn (f := fTupP), w_fn (f := fDictP), w_fn (f := fSrTup), w_fn (f := fLenD), w_tup, w_lst, w_lstM, isB_bl, w_test, w_cand, w_cor, w_cnot, w_if, w_tru, w_and, w_or, w_not, w_chain, w_chain3, isR_ref, isI_ins, isD_dct, isL_lst, w_fld, w_lm, w_dm, w_disp, w_dnil, w_dcons, w_nil, w_retN, w_break, w_cont, nxt_nx, nxt_rt, nxt_bk, nxt_ct, w_seq, w_set, w_drop, w_ret, w_sif, w_asg, w_gN, w_gT, w_gsnil, w_gscons, w_gdput, w_dput, isN_int, w_lput, w_par, w_aug, w_flds, w_flda, gives_rt, gives_nx, w_fnb, w_range1, w_range2, isS_lst, isS_rol, isS_tup, w_iseq, w_dnew, w_dc, w_mul, w_div, w_mod, w_tupP, w_dget2, w_srit, e_tupP, e_tupleL, e_tupleT, e_addPI, e_isN_non, e_isN_ptp, e_notN_non, e_notN_ptp, w_par3, w_ixptp, e_lenptp, isS_ptp, e_min2', w_for, w_iseq, e_add, e_addI, e_sub, e_cmp, e_eqI, e_neI, e_eqS, e_neS, e_eqB, e_neB, e_abs, e_int, e_max2, e_truB, e_truI, w_dget, w_ixref, w_ixlst, w_ixrol, w_ixtup, w_dref, isK_dct, isK_dctL, reduceCtorEq, false_implies, true_implies, Bool.false_eq_true, Bool.true_eq_false, e_lenlst, e_lenrol, e_lentup, w_lenref, w_ite, getS, setS, keyD, List.map_cons, List.map_nil, List.cons_append, List.nil_append, List.length_cons, List.length_nil, List.replicate, Nat.reduceSub, Nat.reduceAdd, Nat.reduceLeDiff, Nat.reduceLT, List.set_cons_zero, List.set_cons_succ, decide_eq_true_eq, decide_eq_false_iff_not, Bool.not_eq_true', Bool.not_eq_false', true_and, and_true, forall_const, w_meth, h.c1.obj, l_has]
  refine has_wp t v1 h.c1 ?_
  have h2 := h.s1 (afterHit T R1 line)
  simp only [w_some, w_var, w_c, w_op, w_un, w_anil, w_acons, w_fn (f := fLen), w_fn (f := fInt), w_fn (f := fAbs), w_fn (f := fMax2), w_fn (f := fMin2), w_fn (f := fBool), w_fn (f := fTuple), w_fn (f := fDictM), w_fn (f := fTupP), w_fn (f := fDictP), w_fn (f := fSrTup), w_fn (f := fLenD), w_tup, w_lst, w_lstM, isB_bl, w_test, w_cand, w_cor, w_cnot, w_if, w_tru, w_and, w_or, w_not, w_chain, w_chain3, isR_ref, isI_ins, isD_dct, isL_lst, w_fld, w_lm, w_dm, w_disp, w_dnil, w_dcons, w_nil, w_retN, w_break, w_cont, nxt_nx, nxt_rt, nxt_bk, nxt_ct, w_seq, w_set, w_drop, w_ret, w_sif, w_asg, w_gN, w_gT, w_gsnil, w_gscons, w_gdput, w_dput, isN_int, w_lput, w_par, w_aug, w_flds, w_flda, gives_rt, gives_nx, w_fnb, w_range1, w_range2, isS_lst, isS_rol, isS_tup, w_iseq, w_dnew, w_dc, w_mul, w_div, w_mod, w_tupP, w_dget2, w_srit, e_tupP, e_tupleL, e_tupleT, e_addPI, e_isN_non, e_isN_ptp, e_notN_non, e_notN_ptp, w_par3, w_ixptp, e_lenptp, isS_ptp, e_min2', w_for, w_iseq, e_add, e_addI, e_sub, e_cmp, e_eqI, e_neI, e_eqS, e_neS, e_eqB, e_neB, e_abs, e_int, e_max2, e_truB, e_truI, w_dget, w_ixref, w_ixlst, w_ixrol, w_ixtup, w_dref, isK_dct, isK_dctL, reduceCtorEq, false_implies, true_implies, Bool.false_eq_true, Bool.true_eq_false, e_lenlst, e_lenrol, e_lentup, w_lenref, w_ite, getS, setS, keyD, List.map_cons, List.map_nil, List.cons_append, List.nil_append, List.length_cons, List.length_nil, List.replicate, Nat.reduceSub, Nat.reduceAdd, Nat.reduceLeDiff, Nat.reduceLT, List.set_cons_zero, List.set_cons_succ, decide_eq_true_eq, decide_eq_false_iff_not, Bool.not_eq_true', Bool.not_eq_false', true_and, and_true, forall_const, h2.c2.obj, l_has, eq_self, decide_true, Bool.not_true]
  refine has_wp t v2 h2.c2 ?_
  have h3 := h2.s2 (afterHit T R2 line)
  simp only [w_some, w_var, w_c, w_op, w_un, w_anil, w_acons, w_fn (f := fLen), w_fn (f := fInt), w_fn (f := fAbs), w_fn (f := fMax2), w_fn (f := fMin2), w_fn (f := fBool), w_fn (f := fTuple), w_fn (f := fDictM), w_fn (f := fTupP), w_fn (f := fDictP), w_fn (f := fSrTup), w_fn (f := fLenD), w_tup, w_lst, w_lstM, isB_bl, w_test, w_cand, w_cor, w_cnot, w_if, w_tru, w_and, w_or, w_not, w_chain, w_chain3, isR_ref, isI_ins, isD_dct, isL_lst, w_fld, w_lm, w_dm, w_disp, w_dnil, w_dcons, w_nil, w_retN, w_break, w_cont, nxt_nx, nxt_rt, nxt_bk, nxt_ct, w_seq, w_set, w_drop, w_ret, w_sif, w_asg, w_gN, w_gT, w_gsnil, w_gscons, w_gdput, w_dput, isN_int, w_lput, w_par, w_aug, w_flds, w_flda, gives_rt, gives_nx, w_fnb, w_range1, w_range2, isS_lst, isS_rol, isS_tup, w_iseq, w_dnew, w_dc, w_mul, w_div, w_mod, w_tupP, w_dget2, w_srit, e_tupP, e_tupleL, e_tupleT, e_addPI, e_isN_non, e_isN_ptp, e_notN_non, e_notN_ptp, w_par3, w_ixptp, e_lenptp, isS_ptp, e_min2', w_for, w_iseq, e_add, e_addI, e_sub, e_cmp, e_eqI, e_neI, e_eqS, e_neS, e_eqB, e_neB, e_abs, e_int, e_max2, e_truB, e_truI, w_dget, w_ixref, w_ixlst, w_ixrol, w_ixtup, w_dref, isK_dct, isK_dctL, reduceCtorEq, false_implies, true_implies, Bool.false_eq_true, Bool.true_eq_false, e_lenlst, e_lenrol, e_lentup, w_lenref, w_ite, getS, setS, keyD, List.map_cons, List.map_nil, List.cons_append, List.nil_append, List.length_cons, List.length_nil, List.replicate, Nat.reduceSub, Nat.reduceAdd, Nat.reduceLeDiff, Nat.reduceLT, List.set_cons_zero, List.set_cons_succ, decide_eq_true_eq, decide_eq_false_iff_not, Bool.not_eq_true', Bool.not_eq_false', true_and, and_true, forall_const, h3.lc, atIN, List.getElem?_map, row_at t v2, Option.map_some, e_inRow, eq_self, decide_true, Bool.not_true]
  exact q _ h3
theorem hB1_wp (t : TOk T) (v1 : Valid T R1) (v2 : Valid T R2) (h : St m T b C1 C2 R1 R2) (q : ∀ m' x16, St m' T b C1 C2 (afterHit T R1 line) (afterHit T R2 line) → Q (.nx, SL T x0 x3 x4 b k w u x12 line x15 x16 x17, m')) :
    wp (hB1 (SL T x0 x3 x4 b k w u x12 line x15 x16 x17) m) Q := by
  rw [hB1_shape]
  unfold SL sl
  simp only [w_some, w_var, w_c, w_op, w_un, w_anil, w_acons, w_fn (f := fLen), w_fn (f := fInt), w_fn (f := fAbs), w_fn (f := fMax2), w_fn (f := fMin2), w_fn (f := fBool), w_fn (f := fTuple), w_fn (f := fDictM), w_fn (f := fTupP), w_fn (f := fDictP), w_fn (f := fSrTup), w_fn (f := fLenD), w_tup, w_lst, w_lstM, isB_bl, w_test, w_cand, w_cor, w_cnot, w_if, w_tru, w_and, w_or, w_not, w_chain, w_chain3, isR_ref, isI_ins, isD_dct, isL_lst, w_fld, w_lm, w_dm, w_disp, w_dnil, w_dcons, w_nil, w_retN, w_break, w_cont, nxt_nx, nxt_rt, nxt_bk, nxt_ct, w_seq, w_set, w_drop, w_ret, w_sif, w_asg, w_gN, w_gT, w_gsnil, w_gscons, w_gdput, w_dput, isN_int, w_lput, w_par, w_aug, w_flds, w_flda, gives_rt, gives_nx, w_fnb, w_range1, w_range2, isS_lst, isS_rol, isS_tup, w_iseq, w_dnew, w_dc, w_mul, w_div, w_mod, w_tupP, w_dget2, w_srit, e_tupP, e_tupleL, e_tupleT, e_addPI, e_isN_non, e_isN_ptp, e_notN_non, e_notN_ptp, w_par3, w_ixptp, e_lenptp, isS_ptp, e_min2', w_for, w_iseq, e_add, e_addI, e_sub, e_cmp, e_eqI, e_neI, e_eqS, e_neS, e_eqB, e_neB, e_abs, e_int, e_max2, e_truB, e_truI, w_dget, w_ixref, w_ixlst, w_ixrol, w_ixtup, w_dref, isK_dct, isK_dctL, reduceCtorEq, false_implies, true_implies, Bool.false_eq_true, Bool.true_eq_false, e_lenlst, e_lenrol, e_lentup, w_lenref, w_ite, getS, setS, keyD, List.map_cons, List.map_nil, List.cons_append, List.nil_append, List.length_cons, List.length_nil, List.replicate, Nat.reduceSub, Nat.reduceAdd, Nat.reduceLeDiff, Nat.reduceLT, List.set_cons_zero, List.set_cons_succ, decide_eq_true_eq, decide_eq_false_iff_not, Bool.not_eq_true', Bool.not_eq_false', true_and, and_true, forall_const]
  refine wp_two ?_
  rw [w_gN]
  refine hBd_wp (i := b + 4) t v1 h.la ⟨rfl, ?_⟩
  have h2 := h.s3 (afterHit T R1 line)
  rw [w_gN]
  refine hBd_wp (i := b + 5) t v2 h2.lc ⟨rfl, ?_⟩
  exact q _ _ (h2.s4 (afterHit T R2 line))
theorem hB2_wp (t : TOk T) (ht : Tape m) (g : Good k) (l : Lim k) (q : ∀ m', Fr m m' → Q (.nx, SL T x0 x3 x4 b (nextK T R k line) w u x12 line (some (.bl (inP T R line))) x16 x17, m')) :
    wp (hB2 (SL T x0 x3 x4 b k w u x12 line (some (.bl (inP T R line))) x16 x17) m) Q := by
  unfold hB2 SL sl
  simp only [w_some, w_var, w_c, w_op, w_un, w_anil, w_acons, w_fn (f := fLen), w_fn (f := fInt), w_fn (f := fAbs), w_fn (f := fMax2), w_fn (f := fMin2), w_fn (f := fBool), w_fn (f := fTuple), w_fn (f := fDictM), w_fn (f := fTupP), w_fn (f := fDictP), w_fn (f := fSrTup), w_fn (f := fLenD), w_tup, w_lst, w_lstM, isB_bl, w_test, w_cand, w_cor, w_cnot, w_if, w_tru, w_and, w_or, w_not, w_chain, w_chain3, isR_ref, isI_ins, isD_dct, isL_lst, w_fld, w_lm, w_dm, w_disp, w_dnil, w_dcons, w_nil, w_retN, w_break, w_cont, nxt_nx, nxt_rt, nxt_bk, nxt_ct, w_seq, w_set, w_drop, w_ret, w_sif, w_asg, w_gN, w_gT, w_gsnil, w_gscons, w_gdput, w_dput, isN_int, w_lput, w_par, w_aug, w_flds, w_flda, gives_rt, gives_nx, w_fnb, w_range1, w_range2, isS_lst, isS_rol, isS_tup, w_iseq, w_dnew, w_dc, w_mul, w_div, w_mod, w_tupP, w_dget2, w_srit, e_tupP, e_tupleL, e_tupleT, e_addPI, e_isN_non, e_isN_ptp, e_notN_non, e_notN_ptp, w_par3, w_ixptp, e_lenptp, isS_ptp, e_min2', w_for, w_iseq, e_add, e_addI, e_sub, e_cmp, e_eqI, e_neI, e_eqS, e_neS, e_eqB, e_neB, e_abs, e_int, e_max2, e_truB, e_truI, w_dget, w_ixref, w_ixlst, w_ixrol, w_ixtup, w_dref, isK_dct, isK_dctL, reduceCtorEq, false_implies, true_implies, Bool.false_eq_true, Bool.true_eq_false, e_lenlst, e_lenrol, e_lentup, w_lenref, w_ite, getS, setS, keyD, List.map_cons, List.map_nil, List.cons_append, List.nil_append, List.length_cons, List.length_nil, List.replicate, Nat.reduceSub, Nat.reduceAdd, Nat.reduceLeDiff, Nat.reduceLT, List.set_cons_zero, List.set_cons_succ, decide_eq_true_eq, decide_eq_false_iff_not, Bool.not_eq_true', Bool.not_eq_false', true_and, and_true, forall_const, w_fn (f := f_touched), w_fn (f := f_missed)]
  unfold nextK at q
  refine ⟨fun h => touched_fr t ht g l fun m1 hf => ?_, fun h => missed_fr ht g l fun m1 hf => ?_⟩
  · rw [if_pos h] at q
    simp only [w_some, w_var, w_c, w_op, w_un, w_anil, w_acons, w_fn (f := fLen), w_fn (f := fInt), w_fn (f := fAbs), w_fn (f := fMax2), w_fn (f := fMin2), w_fn (f := fBool), w_fn (f := fTuple), w_fn (f := fDictM), w_fn (f := fTupP), w_fn (f := fDictP), w_fn (f := fSrTup), w_fn (f := fLenD), w_tup, w_lst, w_lstM, isB_bl, w_test, w_cand, w_cor, w_cnot, w_if, w_tru, w_and, w_or, w_not, w_chain, w_chain3, isR_ref, isI_ins, isD_dct, isL_lst, w_fld, w_lm, w_dm, w_disp, w_dnil, w_dcons, w_nil, w_retN, w_break, w_cont, nxt_nx, nxt_rt, nxt_bk, nxt_ct, w_seq, w_set, w_drop, w_ret, w_sif, w_asg, w_gN, w_gT, w_gsnil, w_gscons, w_gdput, w_dput, isN_int, w_lput, w_par, w_aug, w_flds, w_flda, gives_rt, gives_nx, w_fnb, w_range1, w_range2, isS_lst, isS_rol, isS_tup, w_iseq, w_dnew, w_dc, w_mul, w_div, w_mod, w_tupP, w_dget2, w_srit, e_tupP, e_tupleL, e_tupleT, e_addPI, e_isN_non, e_isN_ptp, e_notN_non, e_notN_ptp, w_par3, w_ixptp, e_lenptp, isS_ptp, e_min2', w_for, w_iseq, e_add, e_addI, e_sub, e_cmp, e_eqI, e_neI, e_eqS, e_neS, e_eqB, e_neB, e_abs, e_int, e_max2, e_truB, e_truI, w_dget, w_ixref, w_ixlst, w_ixrol, w_ixtup, w_dref, isK_dct, isK_dctL, reduceCtorEq, false_implies, true_implies, Bool.false_eq_true, Bool.true_eq_false, e_lenlst, e_lenrol, e_lentup, w_lenref, w_ite, getS, setS, keyD, List.map_cons, List.map_nil, List.cons_append, List.nil_append, List.length_cons, List.length_nil, List.replicate, Nat.reduceSub, Nat.reduceAdd, Nat.reduceLeDiff, Nat.reduceLT, List.set_cons_zero, List.set_cons_succ, decide_eq_true_eq, decide_eq_false_iff_not, Bool.not_eq_true', Bool.not_eq_false', true_and, and_true, forall_const]
    exact q m1 hf
  · rw [if_neg (by rw [h]; decide)] at q
    simp only [w_some, w_var, w_c, w_op, w_un, w_anil, w_acons, w_fn (f := fLen), w_fn (f := fInt), w_fn (f := fAbs), w_fn (f := fMax2), w_fn (f := fMin2), w_fn (f := fBool), w_fn (f := fTuple), w_fn (f := fDictM), w_fn (f := fTupP), w_fn (f := fDictP), w_fn (f := fSrTup), w_fn (f := fLenD), w_tup, w_lst, w_lstM, isB_bl, w_test, w_cand, w_cor, w_cnot, w_if, w_tru, w_and, w_or, w_not, w_chain, w_chain3, isR_ref, isI_ins, isD_dct, isL_lst, w_fld, w_lm, w_dm, w_disp, w_dnil, w_dcons, w_nil, w_retN, w_break, w_cont, nxt_nx, nxt_rt, nxt_bk, nxt_ct, w_seq, w_set, w_drop, w_ret, w_sif, w_asg, w_gN, w_gT, w_gsnil, w_gscons, w_gdput, w_dput, isN_int, w_lput, w_par, w_aug, w_flds, w_flda, gives_rt, gives_nx, w_fnb, w_range1, w_range2, isS_lst, isS_rol, isS_tup, w_iseq, w_dnew, w_dc, w_mul, w_div, w_mod, w_tupP, w_dget2, w_srit, e_tupP, e_tupleL, e_tupleT, e_addPI, e_isN_non, e_isN_ptp, e_notN_non, e_notN_ptp, w_par3, w_ixptp, e_lenptp, isS_ptp, e_min2', w_for, w_iseq, e_add, e_addI, e_sub, e_cmp, e_eqI, e_neI, e_eqS, e_neS, e_eqB, e_neB, e_abs, e_int, e_max2, e_truB, e_truI, w_dget, w_ixref, w_ixlst, w_ixrol, w_ixtup, w_dref, isK_dct, isK_dctL, reduceCtorEq, false_implies, true_implies, Bool.false_eq_true, Bool.true_eq_false, e_lenlst, e_lenrol, e_lentup, w_lenref, w_ite, getS, setS, keyD, List.map_cons, List.map_nil, List.cons_append, List.nil_append, List.length_cons, List.length_nil, List.replicate, Nat.reduceSub, Nat.reduceAdd, Nat.reduceLeDiff, Nat.reduceLT, List.set_cons_zero, List.set_cons_succ, decide_eq_true_eq, decide_eq_false_iff_not, Bool.not_eq_true', Bool.not_eq_false', true_and, and_true, forall_const]
    exact q m1 hf
theorem hB3_wp (t : TOk T) (ht : Tape m) (g : Good w) (l : Lim w) (q : ∀ m', Fr m m' → Q (.nx, SL T x0 x3 x4 b k (nextK T R w line) u x12 line (some (.bl (inP T R line))) x16 x17, m')) :
    wp (hB3 (SL T x0 x3 x4 b k w u x12 line (some (.bl (inP T R line))) x16 x17) m) Q := by
  unfold hB3 SL sl
  simp only [w_some, w_var, w_c, w_op, w_un, w_anil, w_acons, w_fn (f := fLen), w_fn (f := fInt), w_fn (f := fAbs), w_fn (f := fMax2), w_fn (f := fMin2), w_fn (f := fBool), w_fn (f := fTuple), w_fn (f := fDictM), w_fn (f := fTupP), w_fn (f := fDictP), w_fn (f := fSrTup), w_fn (f := fLenD), w_tup, w_lst, w_lstM, isB_bl, w_test, w_cand, w_cor, w_cnot, w_if, w_tru, w_and, w_or, w_not, w_chain, w_chain3, isR_ref, isI_ins, isD_dct, isL_lst, w_fld, w_lm, w_dm, w_disp, w_dnil, w_dcons, w_nil, w_retN, w_break, w_cont, nxt_nx, nxt_rt, nxt_bk, nxt_ct, w_seq, w_set, w_drop, w_ret, w_sif, w_asg, w_gN, w_gT, w_gsnil, w_gscons, w_gdput, w_dput, isN_int, w_lput, w_par, w_aug, w_flds, w_flda, gives_rt, gives_nx, w_fnb, w_range1, w_range2, isS_lst, isS_rol, isS_tup, w_iseq, w_dnew, w_dc, w_mul, w_div, w_mod, w_tupP, w_dget2, w_srit, e_tupP, e_tupleL, e_tupleT, e_addPI, e_isN_non, e_isN_ptp, e_notN_non, e_notN_ptp, w_par3, w_ixptp, e_lenptp, isS_ptp, e_min2', w_for, w_iseq, e_add, e_addI, e_sub, e_cmp, e_eqI, e_neI, e_eqS, e_neS, e_eqB, e_neB, e_abs, e_int, e_max2, e_truB, e_truI, w_dget, w_ixref, w_ixlst, w_ixrol, w_ixtup, w_dref, isK_dct, isK_dctL, reduceCtorEq, false_implies, true_implies, Bool.false_eq_true, Bool.true_eq_false, e_lenlst, e_lenrol, e_lentup, w_lenref, w_ite, getS, setS, keyD, List.map_cons, List.map_nil, List.cons_append, List.nil_append, List.length_cons, List.length_nil, List.replicate, Nat.reduceSub, Nat.reduceAdd, Nat.reduceLeDiff, Nat.reduceLT, List.set_cons_zero, List.set_cons_succ, decide_eq_true_eq, decide_eq_false_iff_not, Bool.not_eq_true', Bool.not_eq_false', true_and, and_true, forall_const, w_fn (f := f_touched), w_fn (f := f_missed)]
  unfold nextK at q
  refine ⟨fun h => touched_fr t ht g l fun m1 hf => ?_, fun h => missed_fr ht g l fun m1 hf => ?_⟩
  · rw [if_pos h] at q
    simp only [w_some, w_var, w_c, w_op, w_un, w_anil, w_acons, w_fn (f := fLen), w_fn (f := fInt), w_fn (f := fAbs), w_fn (f := fMax2), w_fn (f := fMin2), w_fn (f := fBool), w_fn (f := fTuple), w_fn (f := fDictM), w_fn (f := fTupP), w_fn (f := fDictP), w_fn (f := fSrTup), w_fn (f := fLenD), w_tup, w_lst, w_lstM, isB_bl, w_test, w_cand, w_cor, w_cnot, w_if, w_tru, w_and, w_or, w_not, w_chain, w_chain3, isR_ref, isI_ins, isD_dct, isL_lst, w_fld, w_lm, w_dm, w_disp, w_dnil, w_dcons, w_nil, w_retN, w_break, w_cont, nxt_nx, nxt_rt, nxt_bk, nxt_ct, w_seq, w_set, w_drop, w_ret, w_sif, w_asg, w_gN, w_gT, w_gsnil, w_gscons, w_gdput, w_dput, isN_int, w_lput, w_par, w_aug, w_flds, w_flda, gives_rt, gives_nx, w_fnb, w_range1, w_range2, isS_lst, isS_rol, isS_tup, w_iseq, w_dnew, w_dc, w_mul, w_div, w_mod, w_tupP, w_dget2, w_srit, e_tupP, e_tupleL, e_tupleT, e_addPI, e_isN_non, e_isN_ptp, e_notN_non, e_notN_ptp, w_par3, w_ixptp, e_lenptp, isS_ptp, e_min2', w_for, w_iseq, e_add, e_addI, e_sub, e_cmp, e_eqI, e_neI, e_eqS, e_neS, e_eqB, e_neB, e_abs, e_int, e_max2, e_truB, e_truI, w_dget, w_ixref, w_ixlst, w_ixrol, w_ixtup, w_dref, isK_dct, isK_dctL, reduceCtorEq, false_implies, true_implies, Bool.false_eq_true, Bool.true_eq_false, e_lenlst, e_lenrol, e_lentup, w_lenref, w_ite, getS, setS, keyD, List.map_cons, List.map_nil, List.cons_append, List.nil_append, List.length_cons, List.length_nil, List.replicate, Nat.reduceSub, Nat.reduceAdd, Nat.reduceLeDiff, Nat.reduceLT, List.set_cons_zero, List.set_cons_succ, decide_eq_true_eq, decide_eq_false_iff_not, Bool.not_eq_true', Bool.not_eq_false', true_and, and_true, forall_const]
    exact q m1 hf
  · rw [if_neg (by rw [h]; decide)] at q
    simp only [w_some, w_var, w_c, w_op, w_un, w_anil, w_acons, w_fn (f := fLen), w_fn (f := fInt), w_fn (f := fAbs), w_fn (f := fMax2), w_fn (f := fMin2), w_fn (f := fBool), w_fn (f := fTuple), w_fn (f := fDictM), w_fn (f := fTupP), w_fn (f := fDictP), w_fn (f := fSrTup), w_fn (f := fLenD), w_tup, w_lst, w_lstM, isB_bl, w_test, w_cand, w_cor, w_cnot, w_if, w_tru, w_and, w_or, w_not, w_chain, w_chain3, isR_ref, isI_ins, isD_dct, isL_lst, w_fld, w_lm, w_dm, w_disp, w_dnil, w_dcons, w_nil, w_retN, w_break, w_cont, nxt_nx, nxt_rt, nxt_bk, nxt_ct, w_seq, w_set, w_drop, w_ret, w_sif, w_asg, w_gN, w_gT, w_gsnil, w_gscons, w_gdput, w_dput, isN_int, w_lput, w_par, w_aug, w_flds, w_flda, gives_rt, gives_nx, w_fnb, w_range1, w_range2, isS_lst, isS_rol, isS_tup, w_iseq, w_dnew, w_dc, w_mul, w_div, w_mod, w_tupP, w_dget2, w_srit, e_tupP, e_tupleL, e_tupleT, e_addPI, e_isN_non, e_isN_ptp, e_notN_non, e_notN_ptp, w_par3, w_ixptp, e_lenptp, isS_ptp, e_min2', w_for, w_iseq, e_add, e_addI, e_sub, e_cmp, e_eqI, e_neI, e_eqS, e_neS, e_eqB, e_neB, e_abs, e_int, e_max2, e_truB, e_truI, w_dget, w_ixref, w_ixlst, w_ixrol, w_ixtup, w_dref, isK_dct, isK_dctL, reduceCtorEq, false_implies, true_implies, Bool.false_eq_true, Bool.true_eq_false, e_lenlst, e_lenrol, e_lentup, w_lenref, w_ite, getS, setS, keyD, List.map_cons, List.map_nil, List.cons_append, List.nil_append, List.length_cons, List.length_nil, List.replicate, Nat.reduceSub, Nat.reduceAdd, Nat.reduceLeDiff, Nat.reduceLT, List.set_cons_zero, List.set_cons_succ, decide_eq_true_eq, decide_eq_false_iff_not, Bool.not_eq_true', Bool.not_eq_false', true_and, and_true, forall_const]
    exact q m1 hf
theorem hB4_wp (t : TOk T) (v2 : Valid T C2) (h : St m T b C1 C2 C1 C2) (gu : Good u) (lu : Lim u) (gk : Good k) (lk : Lim k) (r2 : R10 C2)
    (qe : ∀ m', inP T R line = inP T C2 line → Fr m m' → Q (.nx, SL T x0 x3 x4 b k w (nextK T R u line) x12 line (some (.bl (inP T R line))) x16 x17, m'))
    (qn : ∀ m', Fr m m' → Q (.nx, SL T x0 x3 x4 b k w (joinP k (ofCacheP T C2)) x12 line (some (.bl (inP T R line))) x16 x17, m')) :
    wp (hB4 (SL T x0 x3 x4 b k w u x12 line (some (.bl (inP T R line))) x16 x17) m) Q := by
  unfold hB4 SL sl
  simp only [w_some, w_var, w_c, w_op, w_un, w_anil, w_acons, w_fn (f := fLen), w_fn (f := fInt), w_fn (f := fAbs), w_fn (f := fMax2), w_fn (f := fMin2), w_fn (f := fBool), w_fn (f := fTuple), w_fn (f := fDictM), w_fn (f := fTupP), w_fn (f := fDictP), w_fn (f := fSrTup), w_fn (f := fLenD), w_tup, w_lst, w_lstM, isB_bl, w_test, w_cand, w_cor, w_cnot, w_if, w_tru, w_and, w_or, w_not, w_chain, w_chain3, isR_ref, isI_ins, isD_dct, isL_lst, w_fld, w_lm, w_dm, w_disp, w_dnil, w_dcons, w_nil, w_retN, w_break, w_cont, nxt_nx, nxt_rt, nxt_bk, nxt_ct, w_seq, w_set, w_drop, w_ret, w_sif, w_asg, w_gN, w_gT, w_gsnil, w_gscons, w_gdput, w_dput, isN_int, w_lput, w_par, w_aug, w_flds, w_flda, gives_rt, gives_nx, w_fnb, w_range1, w_range2, isS_lst, isS_rol, isS_tup, w_iseq, w_dnew, w_dc, w_mul, w_div, w_mod, w_tupP, w_dget2, w_srit, e_tupP, e_tupleL, e_tupleT, e_addPI, e_isN_non, e_isN_ptp, e_notN_non, e_notN_ptp, w_par3, w_ixptp, e_lenptp, isS_ptp, e_min2', w_for, w_iseq, e_add, e_addI, e_sub, e_cmp, e_eqI, e_neI, e_eqS, e_neS, e_eqB, e_neB, e_abs, e_int, e_max2, e_truB, e_truI, w_dget, w_ixref, w_ixlst, w_ixrol, w_ixtup, w_dref, isK_dct, isK_dctL, reduceCtorEq, false_implies, true_implies, Bool.false_eq_true, Bool.true_eq_false, e_lenlst, e_lenrol, e_lentup, w_lenref, w_ite, getS, setS, keyD, List.map_cons, List.map_nil, List.cons_append, List.nil_append, List.length_cons, List.length_nil, List.replicate, Nat.reduceSub, Nat.reduceAdd, Nat.reduceLeDiff, Nat.reduceLT, List.set_cons_zero, List.set_cons_succ, decide_eq_true_eq, decide_eq_false_iff_not, Bool.not_eq_true', Bool.not_eq_false', true_and, and_true, forall_const, h.lc, atIN, List.getElem?_map, row_at t v2, Option.map_some, e_inRow, w_fn (f := f_touched), w_fn (f := f_missed), w_fn (f := f_joined_known), w_fn (f := f_of_cache), e_tupleR h.lc]
  unfold nextK at qe
  refine ⟨fun he => ⟨fun h1 => touched_fr t h.tape gu lu fun m1 hf => ?_, fun h1 => missed_fr h.tape gu lu fun m1 hf => ?_⟩, fun hne => ?_⟩
  · have := qe m1 he hf
    rw [if_pos h1] at this
    simp only [w_some, w_var, w_c, w_op, w_un, w_anil, w_acons, w_fn (f := fLen), w_fn (f := fInt), w_fn (f := fAbs), w_fn (f := fMax2), w_fn (f := fMin2), w_fn (f := fBool), w_fn (f := fTuple), w_fn (f := fDictM), w_fn (f := fTupP), w_fn (f := fDictP), w_fn (f := fSrTup), w_fn (f := fLenD), w_tup, w_lst, w_lstM, isB_bl, w_test, w_cand, w_cor, w_cnot, w_if, w_tru, w_and, w_or, w_not, w_chain, w_chain3, isR_ref, isI_ins, isD_dct, isL_lst, w_fld, w_lm, w_dm, w_disp, w_dnil, w_dcons, w_nil, w_retN, w_break, w_cont, nxt_nx, nxt_rt, nxt_bk, nxt_ct, w_seq, w_set, w_drop, w_ret, w_sif, w_asg, w_gN, w_gT, w_gsnil, w_gscons, w_gdput, w_dput, isN_int, w_lput, w_par, w_aug, w_flds, w_flda, gives_rt, gives_nx, w_fnb, w_range1, w_range2, isS_lst, isS_rol, isS_tup, w_iseq, w_dnew, w_dc, w_mul, w_div, w_mod, w_tupP, w_dget2, w_srit, e_tupP, e_tupleL, e_tupleT, e_addPI, e_isN_non, e_isN_ptp, e_notN_non, e_notN_ptp, w_par3, w_ixptp, e_lenptp, isS_ptp, e_min2', w_for, w_iseq, e_add, e_addI, e_sub, e_cmp, e_eqI, e_neI, e_eqS, e_neS, e_eqB, e_neB, e_abs, e_int, e_max2, e_truB, e_truI, w_dget, w_ixref, w_ixlst, w_ixrol, w_ixtup, w_dref, isK_dct, isK_dctL, reduceCtorEq, false_implies, true_implies, Bool.false_eq_true, Bool.true_eq_false, e_lenlst, e_lenrol, e_lentup, w_lenref, w_ite, getS, setS, keyD, List.map_cons, List.map_nil, List.cons_append, List.nil_append, List.length_cons, List.length_nil, List.replicate, Nat.reduceSub, Nat.reduceAdd, Nat.reduceLeDiff, Nat.reduceLT, List.set_cons_zero, List.set_cons_succ, decide_eq_true_eq, decide_eq_false_iff_not, Bool.not_eq_true', Bool.not_eq_false', true_and, and_true, forall_const]
    exact this
  · have := qe m1 he hf
    rw [if_neg (by rw [h1]; decide)] at this
    simp only [w_some, w_var, w_c, w_op, w_un, w_anil, w_acons, w_fn (f := fLen), w_fn (f := fInt), w_fn (f := fAbs), w_fn (f := fMax2), w_fn (f := fMin2), w_fn (f := fBool), w_fn (f := fTuple), w_fn (f := fDictM), w_fn (f := fTupP), w_fn (f := fDictP), w_fn (f := fSrTup), w_fn (f := fLenD), w_tup, w_lst, w_lstM, isB_bl, w_test, w_cand, w_cor, w_cnot, w_if, w_tru, w_and, w_or, w_not, w_chain, w_chain3, isR_ref, isI_ins, isD_dct, isL_lst, w_fld, w_lm, w_dm, w_disp, w_dnil, w_dcons, w_nil, w_retN, w_break, w_cont, nxt_nx, nxt_rt, nxt_bk, nxt_ct, w_seq, w_set, w_drop, w_ret, w_sif, w_asg, w_gN, w_gT, w_gsnil, w_gscons, w_gdput, w_dput, isN_int, w_lput, w_par, w_aug, w_flds, w_flda, gives_rt, gives_nx, w_fnb, w_range1, w_range2, isS_lst, isS_rol, isS_tup, w_iseq, w_dnew, w_dc, w_mul, w_div, w_mod, w_tupP, w_dget2, w_srit, e_tupP, e_tupleL, e_tupleT, e_addPI, e_isN_non, e_isN_ptp, e_notN_non, e_notN_ptp, w_par3, w_ixptp, e_lenptp, isS_ptp, e_min2', w_for, w_iseq, e_add, e_addI, e_sub, e_cmp, e_eqI, e_neI, e_eqS, e_neS, e_eqB, e_neB, e_abs, e_int, e_max2, e_truB, e_truI, w_dget, w_ixref, w_ixlst, w_ixrol, w_ixtup, w_dref, isK_dct, isK_dctL, reduceCtorEq, false_implies, true_implies, Bool.false_eq_true, Bool.true_eq_false, e_lenlst, e_lenrol, e_lentup, w_lenref, w_ite, getS, setS, keyD, List.map_cons, List.map_nil, List.cons_append, List.nil_append, List.length_cons, List.length_nil, List.replicate, Nat.reduceSub, Nat.reduceAdd, Nat.reduceLeDiff, Nat.reduceLT, List.set_cons_zero, List.set_cons_succ, decide_eq_true_eq, decide_eq_false_iff_not, Bool.not_eq_true', Bool.not_eq_false', true_and, and_true, forall_const]
    exact this
  · refine of_fr t h.tape v2 fun m1 hf => ?_
    simp only [w_some, w_var, w_c, w_op, w_un, w_anil, w_acons, w_fn (f := fLen), w_fn (f := fInt), w_fn (f := fAbs), w_fn (f := fMax2), w_fn (f := fMin2), w_fn (f := fBool), w_fn (f := fTuple), w_fn (f := fDictM), w_fn (f := fTupP), w_fn (f := fDictP), w_fn (f := fSrTup), w_fn (f := fLenD), w_tup, w_lst, w_lstM, isB_bl, w_test, w_cand, w_cor, w_cnot, w_if, w_tru, w_and, w_or, w_not, w_chain, w_chain3, isR_ref, isI_ins, isD_dct, isL_lst, w_fld, w_lm, w_dm, w_disp, w_dnil, w_dcons, w_nil, w_retN, w_break, w_cont, nxt_nx, nxt_rt, nxt_bk, nxt_ct, w_seq, w_set, w_drop, w_ret, w_sif, w_asg, w_gN, w_gT, w_gsnil, w_gscons, w_gdput, w_dput, isN_int, w_lput, w_par, w_aug, w_flds, w_flda, gives_rt, gives_nx, w_fnb, w_range1, w_range2, isS_lst, isS_rol, isS_tup, w_iseq, w_dnew, w_dc, w_mul, w_div, w_mod, w_tupP, w_dget2, w_srit, e_tupP, e_tupleL, e_tupleT, e_addPI, e_isN_non, e_isN_ptp, e_notN_non, e_notN_ptp, w_par3, w_ixptp, e_lenptp, isS_ptp, e_min2', w_for, w_iseq, e_add, e_addI, e_sub, e_cmp, e_eqI, e_neI, e_eqS, e_neS, e_eqB, e_neB, e_abs, e_int, e_max2, e_truB, e_truI, w_dget, w_ixref, w_ixlst, w_ixrol, w_ixtup, w_dref, isK_dct, isK_dctL, reduceCtorEq, false_implies, true_implies, Bool.false_eq_true, Bool.true_eq_false, e_lenlst, e_lenrol, e_lentup, w_lenref, w_ite, getS, setS, keyD, List.map_cons, List.map_nil, List.cons_append, List.nil_append, List.length_cons, List.length_nil, List.replicate, Nat.reduceSub, Nat.reduceAdd, Nat.reduceLeDiff, Nat.reduceLT, List.set_cons_zero, List.set_cons_succ, decide_eq_true_eq, decide_eq_false_iff_not, Bool.not_eq_true', Bool.not_eq_false', true_and, and_true, forall_const]
    refine joined_fr hf.tape gk lk (sound_of t v2).good (lim_of t v2 r2) fun m2 hf2 => ?_
    simp only [w_some, w_var, w_c, w_op, w_un, w_anil, w_acons, w_fn (f := fLen), w_fn (f := fInt), w_fn (f := fAbs), w_fn (f := fMax2), w_fn (f := fMin2), w_fn (f := fBool), w_fn (f := fTuple), w_fn (f := fDictM), w_fn (f := fTupP), w_fn (f := fDictP), w_fn (f := fSrTup), w_fn (f := fLenD), w_tup, w_lst, w_lstM, isB_bl, w_test, w_cand, w_cor, w_cnot, w_if, w_tru, w_and, w_or, w_not, w_chain, w_chain3, isR_ref, isI_ins, isD_dct, isL_lst, w_fld, w_lm, w_dm, w_disp, w_dnil, w_dcons, w_nil, w_retN, w_break, w_cont, nxt_nx, nxt_rt, nxt_bk, nxt_ct, w_seq, w_set, w_drop, w_ret, w_sif, w_asg, w_gN, w_gT, w_gsnil, w_gscons, w_gdput, w_dput, isN_int, w_lput, w_par, w_aug, w_flds, w_flda, gives_rt, gives_nx, w_fnb, w_range1, w_range2, isS_lst, isS_rol, isS_tup, w_iseq, w_dnew, w_dc, w_mul, w_div, w_mod, w_tupP, w_dget2, w_srit, e_tupP, e_tupleL, e_tupleT, e_addPI, e_isN_non, e_isN_ptp, e_notN_non, e_notN_ptp, w_par3, w_ixptp, e_lenptp, isS_ptp, e_min2', w_for, w_iseq, e_add, e_addI, e_sub, e_cmp, e_eqI, e_neI, e_eqS, e_neS, e_eqB, e_neB, e_abs, e_int, e_max2, e_truB, e_truI, w_dget, w_ixref, w_ixlst, w_ixrol, w_ixtup, w_dref, isK_dct, isK_dctL, reduceCtorEq, false_implies, true_implies, Bool.false_eq_true, Bool.true_eq_false, e_lenlst, e_lenrol, e_lentup, w_lenref, w_ite, getS, setS, keyD, List.map_cons, List.map_nil, List.cons_append, List.nil_append, List.length_cons, List.length_nil, List.replicate, Nat.reduceSub, Nat.reduceAdd, Nat.reduceLeDiff, Nat.reduceLT, List.set_cons_zero, List.set_cons_succ, decide_eq_true_eq, decide_eq_false_iff_not, Bool.not_eq_true', Bool.not_eq_false', true_and, and_true, forall_const]
    exact qn m2 (hf.trans hf2)
theorem hit_wp (t : TOk T) (h : Inv m T b R1 R2 k w u) (hl : 0 ≤ line ∧ line < 10) (q : ∀ k' w' u' x16 m', Inv m' T b (afterHit T R1 line) (afterHit T R2 line) k' w' u' → Q (.nx, SL T x0 x3 x4 b k' w' u' x12 line (some (.bl (inP T R1 line))) x16 x17, m')) :
    wp (hitB (SL T x0 x3 x4 b k w u x12 line (some (.bl (inP T R1 line))) x16 x17) m) Q := by
  have v1' := valid_hit (line := line) t h.v1
  have v2' := valid_hit (line := line) t h.v2
  have k1 := sound_next (line := line) t h.v1 h.sk
  have k2 := sound_next (line := line) t h.v1 h.sw
  have k3 := sound_next (line := line) t h.v1 h.s1
  have k4 := sound_next (line := line) t h.v2 h.s2
  have r1' := r10_hit t h.v1 h.r1 hl
  have r2' := r10_hit t h.v2 h.r2 hl
  have l1 := lim_next (T := T) (R := R1) h.lk hl
  have l2 := lim_next (T := T) (R := R1) h.lw hl
  have l3 := lim_next (T := T) (R := R1) h.lu hl
  unfold hitB
  rw [w_seq]
  refine hB0_wp t h.v1 h.v2 h.st fun m1 h1 => ?_
  rw [nxt_nx, w_seq]
  refine hB1_wp t h.v1 h.v2 h1 fun m2 x16 h2 => ?_
  rw [nxt_nx, w_seq]
  refine hB2_wp t h2.tape h.sk.good h.lk fun m3 hf3 => ?_
  have h3 := h2.fr hf3
  rw [nxt_nx, w_seq]
  refine hB3_wp t h3.tape h.sw.good h.lw fun m4 hf4 => ?_
  have h4 := h3.fr hf4
  rw [nxt_nx]
  refine hB4_wp t v2' h4 h.s1.good h.lu k1.good l1 r2' (fun m5 he hf5 => ?_) fun m5 hf5 => ?_
  · refine q _ _ _ _ _ ⟨h4.fr hf5, v1', v2', r1', r2', k1, k2, k3, ?_, l1, l2, l3⟩
    rw [in_after t h.v2] at he
    have e : nextK T R1 u line = nextK T R2 u line := by unfold nextK; rw [he]
    rw [e]
    exact k4
  · exact q _ _ _ _ _ ⟨h4.fr hf5, v1', v2', r1', r2', k1, k2, sound_join1 k1 (sound_of t v2').good, sound_join2 (sound_of t v2') k1.good, l1, l2, lim_join l1 (lim_of t v2' r2')⟩
theorem in_wp (t : TOk T) (h : Inv m T b R1 R2 k w u) (hl : 0 ≤ line ∧ line < 10) (q : ∀ k' w' u' x16 m', Inv m' T b (fillP T R1 line) (fillP T R2 line) k' w' u' → Q (.nx, SL T x0 x3 x4 b k' w' u' x12 line x15 x16 x17, m')) :
    wp (inB (SL T x0 x3 x4 b k w u x12 line x15 x16 x17) m) Q := by
  have v1' := valid_fill (line := line) t h.v1
  have v2' := valid_fill (line := line) t h.v2
  have k1 := sound_used (line := line) t h.v1 h.sk
  have k2 := sound_used (line := line) t h.v1 h.sw
  have k3 := sound_used (line := line) t h.v1 h.s1
  have k4 := sound_used (line := line) t h.v2 h.s2
  have r1' := r10_fill (T := T) h.r1 hl
  have r2' := r10_fill (T := T) h.r2 hl
  unfold inB
  rw [w_seq]
  unfold iB0 SL sl
  simp only [w_some, w_var, w_c, w_op, w_un, w_anil, w_acons, w_fn (f := fLen), w_fn (f := fInt), w_fn (f := fAbs), w_fn (f := fMax2), w_fn (f := fMin2), w_fn (f := fBool), w_fn (f := fTuple), w_fn (f := fDictM), w_fn (f := fTupP), w_fn (f := fDictP), w_fn (f := fSrTup), w_fn (f := fLenD), w_tup, w_lst, w_lstM, isB_bl, w_test, w_cand, w_cor, w_cnot, w_if, w_tru, w_and, w_or, w_not, w_chain, w_chain3, isR_ref, isI_ins, isD_dct, isL_lst, w_fld, w_lm, w_dm, w_disp, w_dnil, w_dcons, w_nil, w_retN, w_break, w_cont, nxt_nx, nxt_rt, nxt_bk, nxt_ct, w_seq, w_set, w_drop, w_ret, w_sif, w_asg, w_gN, w_gT, w_gsnil, w_gscons, w_gdput, w_dput, isN_int, w_lput, w_par, w_aug, w_flds, w_flda, gives_rt, gives_nx, w_fnb, w_range1, w_range2, isS_lst, isS_rol, isS_tup, w_iseq, w_dnew, w_dc, w_mul, w_div, w_mod, w_tupP, w_dget2, w_srit, e_tupP, e_tupleL, e_tupleT, e_addPI, e_isN_non, e_isN_ptp, e_notN_non, e_notN_ptp, w_par3, w_ixptp, e_lenptp, isS_ptp, e_min2', w_for, w_iseq, e_add, e_addI, e_sub, e_cmp, e_eqI, e_neI, e_eqS, e_neS, e_eqB, e_neB, e_abs, e_int, e_max2, e_truB, e_truI, w_dget, w_ixref, w_ixlst, w_ixrol, w_ixtup, w_dref, isK_dct, isK_dctL, reduceCtorEq, false_implies, true_implies, Bool.false_eq_true, Bool.true_eq_false, e_lenlst, e_lenrol, e_lentup, w_lenref, w_ite, getS, setS, keyD, List.map_cons, List.map_nil, List.cons_append, List.nil_append, List.length_cons, List.length_nil, List.replicate, Nat.reduceSub, Nat.reduceAdd, Nat.reduceLeDiff, Nat.reduceLT, List.set_cons_zero, List.set_cons_succ, decide_eq_true_eq, decide_eq_false_iff_not, Bool.not_eq_true', Bool.not_eq_false', true_and, and_true, forall_const, w_meth, h.st.c1.obj, l_fill]
  refine fill_wp t h.v1 h.st.c1 ?_
  have h1 := h.st.s1 (fillP T R1 line)
  unfold iB1
  simp only [w_some, w_var, w_c, w_op, w_un, w_anil, w_acons, w_fn (f := fLen), w_fn (f := fInt), w_fn (f := fAbs), w_fn (f := fMax2), w_fn (f := fMin2), w_fn (f := fBool), w_fn (f := fTuple), w_fn (f := fDictM), w_fn (f := fTupP), w_fn (f := fDictP), w_fn (f := fSrTup), w_fn (f := fLenD), w_tup, w_lst, w_lstM, isB_bl, w_test, w_cand, w_cor, w_cnot, w_if, w_tru, w_and, w_or, w_not, w_chain, w_chain3, isR_ref, isI_ins, isD_dct, isL_lst, w_fld, w_lm, w_dm, w_disp, w_dnil, w_dcons, w_nil, w_retN, w_break, w_cont, nxt_nx, nxt_rt, nxt_bk, nxt_ct, w_seq, w_set, w_drop, w_ret, w_sif, w_asg, w_gN, w_gT, w_gsnil, w_gscons, w_gdput, w_dput, isN_int, w_lput, w_par, w_aug, w_flds, w_flda, gives_rt, gives_nx, w_fnb, w_range1, w_range2, isS_lst, isS_rol, isS_tup, w_iseq, w_dnew, w_dc, w_mul, w_div, w_mod, w_tupP, w_dget2, w_srit, e_tupP, e_tupleL, e_tupleT, e_addPI, e_isN_non, e_isN_ptp, e_notN_non, e_notN_ptp, w_par3, w_ixptp, e_lenptp, isS_ptp, e_min2', w_for, w_iseq, e_add, e_addI, e_sub, e_cmp, e_eqI, e_neI, e_eqS, e_neS, e_eqB, e_neB, e_abs, e_int, e_max2, e_truB, e_truI, w_dget, w_ixref, w_ixlst, w_ixrol, w_ixtup, w_dref, isK_dct, isK_dctL, reduceCtorEq, false_implies, true_implies, Bool.false_eq_true, Bool.true_eq_false, e_lenlst, e_lenrol, e_lentup, w_lenref, w_ite, getS, setS, keyD, List.map_cons, List.map_nil, List.cons_append, List.nil_append, List.length_cons, List.length_nil, List.replicate, Nat.reduceSub, Nat.reduceAdd, Nat.reduceLeDiff, Nat.reduceLT, List.set_cons_zero, List.set_cons_succ, decide_eq_true_eq, decide_eq_false_iff_not, Bool.not_eq_true', Bool.not_eq_false', true_and, and_true, forall_const, w_meth, h1.c2.obj, l_fill]
  refine fill_wp t h.v2 h1.c2 ?_
  have h2 := h1.s2 (fillP T R2 line)
  simp only [w_some, w_var, w_c, w_op, w_un, w_anil, w_acons, w_fn (f := fLen), w_fn (f := fInt), w_fn (f := fAbs), w_fn (f := fMax2), w_fn (f := fMin2), w_fn (f := fBool), w_fn (f := fTuple), w_fn (f := fDictM), w_fn (f := fTupP), w_fn (f := fDictP), w_fn (f := fSrTup), w_fn (f := fLenD), w_tup, w_lst, w_lstM, isB_bl, w_test, w_cand, w_cor, w_cnot, w_if, w_tru, w_and, w_or, w_not, w_chain, w_chain3, isR_ref, isI_ins, isD_dct, isL_lst, w_fld, w_lm, w_dm, w_disp, w_dnil, w_dcons, w_nil, w_retN, w_break, w_cont, nxt_nx, nxt_rt, nxt_bk, nxt_ct, w_seq, w_set, w_drop, w_ret, w_sif, w_asg, w_gN, w_gT, w_gsnil, w_gscons, w_gdput, w_dput, isN_int, w_lput, w_par, w_aug, w_flds, w_flda, gives_rt, gives_nx, w_fnb, w_range1, w_range2, isS_lst, isS_rol, isS_tup, w_iseq, w_dnew, w_dc, w_mul, w_div, w_mod, w_tupP, w_dget2, w_srit, e_tupP, e_tupleL, e_tupleT, e_addPI, e_isN_non, e_isN_ptp, e_notN_non, e_notN_ptp, w_par3, w_ixptp, e_lenptp, isS_ptp, e_min2', w_for, w_iseq, e_add, e_addI, e_sub, e_cmp, e_eqI, e_neI, e_eqS, e_neS, e_eqB, e_neB, e_abs, e_int, e_max2, e_truB, e_truI, w_dget, w_ixref, w_ixlst, w_ixrol, w_ixtup, w_dref, isK_dct, isK_dctL, reduceCtorEq, false_implies, true_implies, Bool.false_eq_true, Bool.true_eq_false, e_lenlst, e_lenrol, e_lentup, w_lenref, w_ite, getS, setS, keyD, List.map_cons, List.map_nil, List.cons_append, List.nil_append, List.length_cons, List.length_nil, List.replicate, Nat.reduceSub, Nat.reduceAdd, Nat.reduceLeDiff, Nat.reduceLT, List.set_cons_zero, List.set_cons_succ, decide_eq_true_eq, decide_eq_false_iff_not, Bool.not_eq_true', Bool.not_eq_false', true_and, and_true, forall_const]
  rw [iB2_shape]
  simp only [w_some, w_var, w_c, w_op, w_un, w_anil, w_acons, w_fn (f := fLen), w_fn (f := fInt), w_fn (f := fAbs), w_fn (f := fMax2), w_fn (f := fMin2), w_fn (f := fBool), w_fn (f := fTuple), w_fn (f := fDictM), w_fn (f := fTupP), w_fn (f := fDictP), w_fn (f := fSrTup), w_fn (f := fLenD), w_tup, w_lst, w_lstM, isB_bl, w_test, w_cand, w_cor, w_cnot, w_if, w_tru, w_and, w_or, w_not, w_chain, w_chain3, isR_ref, isI_ins, isD_dct, isL_lst, w_fld, w_lm, w_dm, w_disp, w_dnil, w_dcons, w_nil, w_retN, w_break, w_cont, nxt_nx, nxt_rt, nxt_bk, nxt_ct, w_seq, w_set, w_drop, w_ret, w_sif, w_asg, w_gN, w_gT, w_gsnil, w_gscons, w_gdput, w_dput, isN_int, w_lput, w_par, w_aug, w_flds, w_flda, gives_rt, gives_nx, w_fnb, w_range1, w_range2, isS_lst, isS_rol, isS_tup, w_iseq, w_dnew, w_dc, w_mul, w_div, w_mod, w_tupP, w_dget2, w_srit, e_tupP, e_tupleL, e_tupleT, e_addPI, e_isN_non, e_isN_ptp, e_notN_non, e_notN_ptp, w_par3, w_ixptp, e_lenptp, isS_ptp, e_min2', w_for, w_iseq, e_add, e_addI, e_sub, e_cmp, e_eqI, e_neI, e_eqS, e_neS, e_eqB, e_neB, e_abs, e_int, e_max2, e_truB, e_truI, w_dget, w_ixref, w_ixlst, w_ixrol, w_ixtup, w_dref, isK_dct, isK_dctL, reduceCtorEq, false_implies, true_implies, Bool.false_eq_true, Bool.true_eq_false, e_lenlst, e_lenrol, e_lentup, w_lenref, w_ite, getS, setS, keyD, List.map_cons, List.map_nil, List.cons_append, List.nil_append, List.length_cons, List.length_nil, List.replicate, Nat.reduceSub, Nat.reduceAdd, Nat.reduceLeDiff, Nat.reduceLT, List.set_cons_zero, List.set_cons_succ, decide_eq_true_eq, decide_eq_false_iff_not, Bool.not_eq_true', Bool.not_eq_false', true_and, and_true, forall_const]
  refine wp_two ?_
  rw [w_gN]
  refine iBd_wp (i := b + 4) t h.v1 h2.la ⟨rfl, ?_⟩
  have h3 := h2.s3 (fillP T R1 line)
  rw [w_gN]
  refine iBd_wp (i := b + 5) t h.v2 h3.lc ⟨rfl, ?_⟩
  have h4 := h3.s4 (fillP T R2 line)
  unfold iB3 sl
  simp only [w_some, w_var, w_c, w_op, w_un, w_anil, w_acons, w_fn (f := fLen), w_fn (f := fInt), w_fn (f := fAbs), w_fn (f := fMax2), w_fn (f := fMin2), w_fn (f := fBool), w_fn (f := fTuple), w_fn (f := fDictM), w_fn (f := fTupP), w_fn (f := fDictP), w_fn (f := fSrTup), w_fn (f := fLenD), w_tup, w_lst, w_lstM, isB_bl, w_test, w_cand, w_cor, w_cnot, w_if, w_tru, w_and, w_or, w_not, w_chain, w_chain3, isR_ref, isI_ins, isD_dct, isL_lst, w_fld, w_lm, w_dm, w_disp, w_dnil, w_dcons, w_nil, w_retN, w_break, w_cont, nxt_nx, nxt_rt, nxt_bk, nxt_ct, w_seq, w_set, w_drop, w_ret, w_sif, w_asg, w_gN, w_gT, w_gsnil, w_gscons, w_gdput, w_dput, isN_int, w_lput, w_par, w_aug, w_flds, w_flda, gives_rt, gives_nx, w_fnb, w_range1, w_range2, isS_lst, isS_rol, isS_tup, w_iseq, w_dnew, w_dc, w_mul, w_div, w_mod, w_tupP, w_dget2, w_srit, e_tupP, e_tupleL, e_tupleT, e_addPI, e_isN_non, e_isN_ptp, e_notN_non, e_notN_ptp, w_par3, w_ixptp, e_lenptp, isS_ptp, e_min2', w_for, w_iseq, e_add, e_addI, e_sub, e_cmp, e_eqI, e_neI, e_eqS, e_neS, e_eqB, e_neB, e_abs, e_int, e_max2, e_truB, e_truI, w_dget, w_ixref, w_ixlst, w_ixrol, w_ixtup, w_dref, isK_dct, isK_dctL, reduceCtorEq, false_implies, true_implies, Bool.false_eq_true, Bool.true_eq_false, e_lenlst, e_lenrol, e_lentup, w_lenref, w_ite, getS, setS, keyD, List.map_cons, List.map_nil, List.cons_append, List.nil_append, List.length_cons, List.length_nil, List.replicate, Nat.reduceSub, Nat.reduceAdd, Nat.reduceLeDiff, Nat.reduceLT, List.set_cons_zero, List.set_cons_succ, decide_eq_true_eq, decide_eq_false_iff_not, Bool.not_eq_true', Bool.not_eq_false', true_and, and_true, forall_const, w_fn (f := f_filled)]
  refine used_fr t h4.tape h.sk.good h.lk fun m5 hf5 => ?_
  simp only [w_some, w_var, w_c, w_op, w_un, w_anil, w_acons, w_fn (f := fLen), w_fn (f := fInt), w_fn (f := fAbs), w_fn (f := fMax2), w_fn (f := fMin2), w_fn (f := fBool), w_fn (f := fTuple), w_fn (f := fDictM), w_fn (f := fTupP), w_fn (f := fDictP), w_fn (f := fSrTup), w_fn (f := fLenD), w_tup, w_lst, w_lstM, isB_bl, w_test, w_cand, w_cor, w_cnot, w_if, w_tru, w_and, w_or, w_not, w_chain, w_chain3, isR_ref, isI_ins, isD_dct, isL_lst, w_fld, w_lm, w_dm, w_disp, w_dnil, w_dcons, w_nil, w_retN, w_break, w_cont, nxt_nx, nxt_rt, nxt_bk, nxt_ct, w_seq, w_set, w_drop, w_ret, w_sif, w_asg, w_gN, w_gT, w_gsnil, w_gscons, w_gdput, w_dput, isN_int, w_lput, w_par, w_aug, w_flds, w_flda, gives_rt, gives_nx, w_fnb, w_range1, w_range2, isS_lst, isS_rol, isS_tup, w_iseq, w_dnew, w_dc, w_mul, w_div, w_mod, w_tupP, w_dget2, w_srit, e_tupP, e_tupleL, e_tupleT, e_addPI, e_isN_non, e_isN_ptp, e_notN_non, e_notN_ptp, w_par3, w_ixptp, e_lenptp, isS_ptp, e_min2', w_for, w_iseq, e_add, e_addI, e_sub, e_cmp, e_eqI, e_neI, e_eqS, e_neS, e_eqB, e_neB, e_abs, e_int, e_max2, e_truB, e_truI, w_dget, w_ixref, w_ixlst, w_ixrol, w_ixtup, w_dref, isK_dct, isK_dctL, reduceCtorEq, false_implies, true_implies, Bool.false_eq_true, Bool.true_eq_false, e_lenlst, e_lenrol, e_lentup, w_lenref, w_ite, getS, setS, keyD, List.map_cons, List.map_nil, List.cons_append, List.nil_append, List.length_cons, List.length_nil, List.replicate, Nat.reduceSub, Nat.reduceAdd, Nat.reduceLeDiff, Nat.reduceLT, List.set_cons_zero, List.set_cons_succ, decide_eq_true_eq, decide_eq_false_iff_not, Bool.not_eq_true', Bool.not_eq_false', true_and, and_true, forall_const]
  refine used_fr t hf5.tape h.sw.good h.lw fun m6 hf6 => ?_
  simp only [w_some, w_var, w_c, w_op, w_un, w_anil, w_acons, w_fn (f := fLen), w_fn (f := fInt), w_fn (f := fAbs), w_fn (f := fMax2), w_fn (f := fMin2), w_fn (f := fBool), w_fn (f := fTuple), w_fn (f := fDictM), w_fn (f := fTupP), w_fn (f := fDictP), w_fn (f := fSrTup), w_fn (f := fLenD), w_tup, w_lst, w_lstM, isB_bl, w_test, w_cand, w_cor, w_cnot, w_if, w_tru, w_and, w_or, w_not, w_chain, w_chain3, isR_ref, isI_ins, isD_dct, isL_lst, w_fld, w_lm, w_dm, w_disp, w_dnil, w_dcons, w_nil, w_retN, w_break, w_cont, nxt_nx, nxt_rt, nxt_bk, nxt_ct, w_seq, w_set, w_drop, w_ret, w_sif, w_asg, w_gN, w_gT, w_gsnil, w_gscons, w_gdput, w_dput, isN_int, w_lput, w_par, w_aug, w_flds, w_flda, gives_rt, gives_nx, w_fnb, w_range1, w_range2, isS_lst, isS_rol, isS_tup, w_iseq, w_dnew, w_dc, w_mul, w_div, w_mod, w_tupP, w_dget2, w_srit, e_tupP, e_tupleL, e_tupleT, e_addPI, e_isN_non, e_isN_ptp, e_notN_non, e_notN_ptp, w_par3, w_ixptp, e_lenptp, isS_ptp, e_min2', w_for, w_iseq, e_add, e_addI, e_sub, e_cmp, e_eqI, e_neI, e_eqS, e_neS, e_eqB, e_neB, e_abs, e_int, e_max2, e_truB, e_truI, w_dget, w_ixref, w_ixlst, w_ixrol, w_ixtup, w_dref, isK_dct, isK_dctL, reduceCtorEq, false_implies, true_implies, Bool.false_eq_true, Bool.true_eq_false, e_lenlst, e_lenrol, e_lentup, w_lenref, w_ite, getS, setS, keyD, List.map_cons, List.map_nil, List.cons_append, List.nil_append, List.length_cons, List.length_nil, List.replicate, Nat.reduceSub, Nat.reduceAdd, Nat.reduceLeDiff, Nat.reduceLT, List.set_cons_zero, List.set_cons_succ, decide_eq_true_eq, decide_eq_false_iff_not, Bool.not_eq_true', Bool.not_eq_false', true_and, and_true, forall_const]
  refine used_fr t hf6.tape h.s1.good h.lu fun m7 hf7 => ?_
  simp only [w_some, w_var, w_c, w_op, w_un, w_anil, w_acons, w_fn (f := fLen), w_fn (f := fInt), w_fn (f := fAbs), w_fn (f := fMax2), w_fn (f := fMin2), w_fn (f := fBool), w_fn (f := fTuple), w_fn (f := fDictM), w_fn (f := fTupP), w_fn (f := fDictP), w_fn (f := fSrTup), w_fn (f := fLenD), w_tup, w_lst, w_lstM, isB_bl, w_test, w_cand, w_cor, w_cnot, w_if, w_tru, w_and, w_or, w_not, w_chain, w_chain3, isR_ref, isI_ins, isD_dct, isL_lst, w_fld, w_lm, w_dm, w_disp, w_dnil, w_dcons, w_nil, w_retN, w_break, w_cont, nxt_nx, nxt_rt, nxt_bk, nxt_ct, w_seq, w_set, w_drop, w_ret, w_sif, w_asg, w_gN, w_gT, w_gsnil, w_gscons, w_gdput, w_dput, isN_int, w_lput, w_par, w_aug, w_flds, w_flda, gives_rt, gives_nx, w_fnb, w_range1, w_range2, isS_lst, isS_rol, isS_tup, w_iseq, w_dnew, w_dc, w_mul, w_div, w_mod, w_tupP, w_dget2, w_srit, e_tupP, e_tupleL, e_tupleT, e_addPI, e_isN_non, e_isN_ptp, e_notN_non, e_notN_ptp, w_par3, w_ixptp, e_lenptp, isS_ptp, e_min2', w_for, w_iseq, e_add, e_addI, e_sub, e_cmp, e_eqI, e_neI, e_eqS, e_neS, e_eqB, e_neB, e_abs, e_int, e_max2, e_truB, e_truI, w_dget, w_ixref, w_ixlst, w_ixrol, w_ixtup, w_dref, isK_dct, isK_dctL, reduceCtorEq, false_implies, true_implies, Bool.false_eq_true, Bool.true_eq_false, e_lenlst, e_lenrol, e_lentup, w_lenref, w_ite, getS, setS, keyD, List.map_cons, List.map_nil, List.cons_append, List.nil_append, List.length_cons, List.length_nil, List.replicate, Nat.reduceSub, Nat.reduceAdd, Nat.reduceLeDiff, Nat.reduceLT, List.set_cons_zero, List.set_cons_succ, decide_eq_true_eq, decide_eq_false_iff_not, Bool.not_eq_true', Bool.not_eq_false', true_and, and_true, forall_const]
  exact q _ _ _ _ _ ⟨((h4.fr hf5).fr hf6).fr hf7, v1', v2', r1', r2', k1, k2, k3, k4, lim_used h.lk hl, lim_used h.lw hl, lim_used h.lu hl⟩
theorem sB5_wp (t : TOk T) (h : Inv m T b R1 R2 k w u) (q : ∀ m', Fr m m' → Q (.nx, SL T x0 x3 x4 b k w u x12 line x15 x16 x17, m')) : wp (sB5 (SL T x0 x3 x4 b k w u x12 line x15 x16 x17) m) Q := by
  unfold sB5 SL sl
  simp only [w_some, w_var, w_c, w_op, w_un, w_anil, w_acons, w_fn (f := fLen), w_fn (f := fInt), w_fn (f := fAbs), w_fn (f := fMax2), w_fn (f := fMin2), w_fn (f := fBool), w_fn (f := fTuple), w_fn (f := fDictM), w_fn (f := fTupP), w_fn (f := fDictP), w_fn (f := fSrTup), w_fn (f := fLenD), w_tup, w_lst, w_lstM, isB_bl, w_test, w_cand, w_cor, w_cnot, w_if, w_tru, w_and, w_or, w_not, w_chain, w_chain3, isR_ref, isI_ins, isD_dct, isL_lst, w_fld, w_lm, w_dm, w_disp, w_dnil, w_dcons, w_nil, w_retN, w_break, w_cont, nxt_nx, nxt_rt, nxt_bk, nxt_ct, w_seq, w_set, w_drop, w_ret, w_sif, w_asg, w_gN, w_gT, w_gsnil, w_gscons, w_gdput, w_dput, isN_int, w_lput, w_par, w_aug, w_flds, w_flda, gives_rt, gives_nx, w_fnb, w_range1, w_range2, isS_lst, isS_rol, isS_tup, w_iseq, w_dnew, w_dc, w_mul, w_div, w_mod, w_tupP, w_dget2, w_srit, e_tupP, e_tupleL, e_tupleT, e_addPI, e_isN_non, e_isN_ptp, e_notN_non, e_notN_ptp, w_par3, w_ixptp, e_lenptp, isS_ptp, e_min2', w_for, w_iseq, e_add, e_addI, e_sub, e_cmp, e_eqI, e_neI, e_eqS, e_neS, e_eqB, e_neB, e_abs, e_int, e_max2, e_truB, e_truI, w_dget, w_ixref, w_ixlst, w_ixrol, w_ixtup, w_dref, isK_dct, isK_dctL, reduceCtorEq, false_implies, true_implies, Bool.false_eq_true, Bool.true_eq_false, e_lenlst, e_lenrol, e_lentup, w_lenref, w_ite, getS, setS, keyD, List.map_cons, List.map_nil, List.cons_append, List.nil_append, List.length_cons, List.length_nil, List.replicate, Nat.reduceSub, Nat.reduceAdd, Nat.reduceLeDiff, Nat.reduceLT, List.set_cons_zero, List.set_cons_succ, decide_eq_true_eq, decide_eq_false_iff_not, Bool.not_eq_true', Bool.not_eq_false', true_and, and_true, forall_const, w_meth, h.st.c1.obj, l_lines]
  refine lines_wp h.st.c1 ?_
  simp only [w_some, w_var, w_c, w_op, w_un, w_anil, w_acons, w_fn (f := fLen), w_fn (f := fInt), w_fn (f := fAbs), w_fn (f := fMax2), w_fn (f := fMin2), w_fn (f := fBool), w_fn (f := fTuple), w_fn (f := fDictM), w_fn (f := fTupP), w_fn (f := fDictP), w_fn (f := fSrTup), w_fn (f := fLenD), w_tup, w_lst, w_lstM, isB_bl, w_test, w_cand, w_cor, w_cnot, w_if, w_tru, w_and, w_or, w_not, w_chain, w_chain3, isR_ref, isI_ins, isD_dct, isL_lst, w_fld, w_lm, w_dm, w_disp, w_dnil, w_dcons, w_nil, w_retN, w_break, w_cont, nxt_nx, nxt_rt, nxt_bk, nxt_ct, w_seq, w_set, w_drop, w_ret, w_sif, w_asg, w_gN, w_gT, w_gsnil, w_gscons, w_gdput, w_dput, isN_int, w_lput, w_par, w_aug, w_flds, w_flda, gives_rt, gives_nx, w_fnb, w_range1, w_range2, isS_lst, isS_rol, isS_tup, w_iseq, w_dnew, w_dc, w_mul, w_div, w_mod, w_tupP, w_dget2, w_srit, e_tupP, e_tupleL, e_tupleT, e_addPI, e_isN_non, e_isN_ptp, e_notN_non, e_notN_ptp, w_par3, w_ixptp, e_lenptp, isS_ptp, e_min2', w_for, w_iseq, e_add, e_addI, e_sub, e_cmp, e_eqI, e_neI, e_eqS, e_neS, e_eqB, e_neB, e_abs, e_int, e_max2, e_truB, e_truI, w_dget, w_ixref, w_ixlst, w_ixrol, w_ixtup, w_dref, isK_dct, isK_dctL, reduceCtorEq, false_implies, true_implies, Bool.false_eq_true, Bool.true_eq_false, e_lenlst, e_lenrol, e_lentup, w_lenref, w_ite, getS, setS, keyD, List.map_cons, List.map_nil, List.cons_append, List.nil_append, List.length_cons, List.length_nil, List.replicate, Nat.reduceSub, Nat.reduceAdd, Nat.reduceLeDiff, Nat.reduceLT, List.set_cons_zero, List.set_cons_succ, decide_eq_true_eq, decide_eq_false_iff_not, Bool.not_eq_true', Bool.not_eq_false', true_and, and_true, forall_const, e_tupleR h.st.la, ne_rows, w_fn (f := f__law_holds)]
  refine holds_fr t h.st.tape h.v1 h.sk h.lk (.inr ⟨_, rfl, h.st.la⟩) fun m1 f1 => ?_
  have h1 := h.fr f1
  simp only [w_some, w_var, w_c, w_op, w_un, w_anil, w_acons, w_fn (f := fLen), w_fn (f := fInt), w_fn (f := fAbs), w_fn (f := fMax2), w_fn (f := fMin2), w_fn (f := fBool), w_fn (f := fTuple), w_fn (f := fDictM), w_fn (f := fTupP), w_fn (f := fDictP), w_fn (f := fSrTup), w_fn (f := fLenD), w_tup, w_lst, w_lstM, isB_bl, w_test, w_cand, w_cor, w_cnot, w_if, w_tru, w_and, w_or, w_not, w_chain, w_chain3, isR_ref, isI_ins, isD_dct, isL_lst, w_fld, w_lm, w_dm, w_disp, w_dnil, w_dcons, w_nil, w_retN, w_break, w_cont, nxt_nx, nxt_rt, nxt_bk, nxt_ct, w_seq, w_set, w_drop, w_ret, w_sif, w_asg, w_gN, w_gT, w_gsnil, w_gscons, w_gdput, w_dput, isN_int, w_lput, w_par, w_aug, w_flds, w_flda, gives_rt, gives_nx, w_fnb, w_range1, w_range2, isS_lst, isS_rol, isS_tup, w_iseq, w_dnew, w_dc, w_mul, w_div, w_mod, w_tupP, w_dget2, w_srit, e_tupP, e_tupleL, e_tupleT, e_addPI, e_isN_non, e_isN_ptp, e_notN_non, e_notN_ptp, w_par3, w_ixptp, e_lenptp, isS_ptp, e_min2', w_for, w_iseq, e_add, e_addI, e_sub, e_cmp, e_eqI, e_neI, e_eqS, e_neS, e_eqB, e_neB, e_abs, e_int, e_max2, e_truB, e_truI, w_dget, w_ixref, w_ixlst, w_ixrol, w_ixtup, w_dref, isK_dct, isK_dctL, reduceCtorEq, false_implies, true_implies, Bool.false_eq_true, Bool.true_eq_false, e_lenlst, e_lenrol, e_lentup, w_lenref, w_ite, getS, setS, keyD, List.map_cons, List.map_nil, List.cons_append, List.nil_append, List.length_cons, List.length_nil, List.replicate, Nat.reduceSub, Nat.reduceAdd, Nat.reduceLeDiff, Nat.reduceLT, List.set_cons_zero, List.set_cons_succ, decide_eq_true_eq, decide_eq_false_iff_not, Bool.not_eq_true', Bool.not_eq_false', true_and, and_true, forall_const, Bool.not_true]
  refine holds_fr t h1.st.tape h.v1 h.sw h.lw (.inr ⟨_, rfl, h1.st.la⟩) fun m2 f2 => ?_
  have h2 := h1.fr f2
  simp only [w_some, w_var, w_c, w_op, w_un, w_anil, w_acons, w_fn (f := fLen), w_fn (f := fInt), w_fn (f := fAbs), w_fn (f := fMax2), w_fn (f := fMin2), w_fn (f := fBool), w_fn (f := fTuple), w_fn (f := fDictM), w_fn (f := fTupP), w_fn (f := fDictP), w_fn (f := fSrTup), w_fn (f := fLenD), w_tup, w_lst, w_lstM, isB_bl, w_test, w_cand, w_cor, w_cnot, w_if, w_tru, w_and, w_or, w_not, w_chain, w_chain3, isR_ref, isI_ins, isD_dct, isL_lst, w_fld, w_lm, w_dm, w_disp, w_dnil, w_dcons, w_nil, w_retN, w_break, w_cont, nxt_nx, nxt_rt, nxt_bk, nxt_ct, w_seq, w_set, w_drop, w_ret, w_sif, w_asg, w_gN, w_gT, w_gsnil, w_gscons, w_gdput, w_dput, isN_int, w_lput, w_par, w_aug, w_flds, w_flda, gives_rt, gives_nx, w_fnb, w_range1, w_range2, isS_lst, isS_rol, isS_tup, w_iseq, w_dnew, w_dc, w_mul, w_div, w_mod, w_tupP, w_dget2, w_srit, e_tupP, e_tupleL, e_tupleT, e_addPI, e_isN_non, e_isN_ptp, e_notN_non, e_notN_ptp, w_par3, w_ixptp, e_lenptp, isS_ptp, e_min2', w_for, w_iseq, e_add, e_addI, e_sub, e_cmp, e_eqI, e_neI, e_eqS, e_neS, e_eqB, e_neB, e_abs, e_int, e_max2, e_truB, e_truI, w_dget, w_ixref, w_ixlst, w_ixrol, w_ixtup, w_dref, isK_dct, isK_dctL, reduceCtorEq, false_implies, true_implies, Bool.false_eq_true, Bool.true_eq_false, e_lenlst, e_lenrol, e_lentup, w_lenref, w_ite, getS, setS, keyD, List.map_cons, List.map_nil, List.cons_append, List.nil_append, List.length_cons, List.length_nil, List.replicate, Nat.reduceSub, Nat.reduceAdd, Nat.reduceLeDiff, Nat.reduceLT, List.set_cons_zero, List.set_cons_succ, decide_eq_true_eq, decide_eq_false_iff_not, Bool.not_eq_true', Bool.not_eq_false', true_and, and_true, forall_const, Bool.not_true]
  refine holds_fr t h2.st.tape h.v1 h.s1 h.lu (.inr ⟨_, rfl, h2.st.la⟩) fun m3 f3 => ?_
  have h3 := h2.fr f3
  simp only [w_some, w_var, w_c, w_op, w_un, w_anil, w_acons, w_fn (f := fLen), w_fn (f := fInt), w_fn (f := fAbs), w_fn (f := fMax2), w_fn (f := fMin2), w_fn (f := fBool), w_fn (f := fTuple), w_fn (f := fDictM), w_fn (f := fTupP), w_fn (f := fDictP), w_fn (f := fSrTup), w_fn (f := fLenD), w_tup, w_lst, w_lstM, isB_bl, w_test, w_cand, w_cor, w_cnot, w_if, w_tru, w_and, w_or, w_not, w_chain, w_chain3, isR_ref, isI_ins, isD_dct, isL_lst, w_fld, w_lm, w_dm, w_disp, w_dnil, w_dcons, w_nil, w_retN, w_break, w_cont, nxt_nx, nxt_rt, nxt_bk, nxt_ct, w_seq, w_set, w_drop, w_ret, w_sif, w_asg, w_gN, w_gT, w_gsnil, w_gscons, w_gdput, w_dput, isN_int, w_lput, w_par, w_aug, w_flds, w_flda, gives_rt, gives_nx, w_fnb, w_range1, w_range2, isS_lst, isS_rol, isS_tup, w_iseq, w_dnew, w_dc, w_mul, w_div, w_mod, w_tupP, w_dget2, w_srit, e_tupP, e_tupleL, e_tupleT, e_addPI, e_isN_non, e_isN_ptp, e_notN_non, e_notN_ptp, w_par3, w_ixptp, e_lenptp, isS_ptp, e_min2', w_for, w_iseq, e_add, e_addI, e_sub, e_cmp, e_eqI, e_neI, e_eqS, e_neS, e_eqB, e_neB, e_abs, e_int, e_max2, e_truB, e_truI, w_dget, w_ixref, w_ixlst, w_ixrol, w_ixtup, w_dref, isK_dct, isK_dctL, reduceCtorEq, false_implies, true_implies, Bool.false_eq_true, Bool.true_eq_false, e_lenlst, e_lenrol, e_lentup, w_lenref, w_ite, getS, setS, keyD, List.map_cons, List.map_nil, List.cons_append, List.nil_append, List.length_cons, List.length_nil, List.replicate, Nat.reduceSub, Nat.reduceAdd, Nat.reduceLeDiff, Nat.reduceLT, List.set_cons_zero, List.set_cons_succ, decide_eq_true_eq, decide_eq_false_iff_not, Bool.not_eq_true', Bool.not_eq_false', true_and, and_true, forall_const, Bool.not_true]
  refine holds_fr t h3.st.tape h.v2 h.s2 h.lu (.inr ⟨_, rfl, h3.st.lc⟩) fun m4 f4 => ?_
  simp only [w_some, w_var, w_c, w_op, w_un, w_anil, w_acons, w_fn (f := fLen), w_fn (f := fInt), w_fn (f := fAbs), w_fn (f := fMax2), w_fn (f := fMin2), w_fn (f := fBool), w_fn (f := fTuple), w_fn (f := fDictM), w_fn (f := fTupP), w_fn (f := fDictP), w_fn (f := fSrTup), w_fn (f := fLenD), w_tup, w_lst, w_lstM, isB_bl, w_test, w_cand, w_cor, w_cnot, w_if, w_tru, w_and, w_or, w_not, w_chain, w_chain3, isR_ref, isI_ins, isD_dct, isL_lst, w_fld, w_lm, w_dm, w_disp, w_dnil, w_dcons, w_nil, w_retN, w_break, w_cont, nxt_nx, nxt_rt, nxt_bk, nxt_ct, w_seq, w_set, w_drop, w_ret, w_sif, w_asg, w_gN, w_gT, w_gsnil, w_gscons, w_gdput, w_dput, isN_int, w_lput, w_par, w_aug, w_flds, w_flda, gives_rt, gives_nx, w_fnb, w_range1, w_range2, isS_lst, isS_rol, isS_tup, w_iseq, w_dnew, w_dc, w_mul, w_div, w_mod, w_tupP, w_dget2, w_srit, e_tupP, e_tupleL, e_tupleT, e_addPI, e_isN_non, e_isN_ptp, e_notN_non, e_notN_ptp, w_par3, w_ixptp, e_lenptp, isS_ptp, e_min2', w_for, w_iseq, e_add, e_addI, e_sub, e_cmp, e_eqI, e_neI, e_eqS, e_neS, e_eqB, e_neB, e_abs, e_int, e_max2, e_truB, e_truI, w_dget, w_ixref, w_ixlst, w_ixrol, w_ixtup, w_dref, isK_dct, isK_dctL, reduceCtorEq, false_implies, true_implies, Bool.false_eq_true, Bool.true_eq_false, e_lenlst, e_lenrol, e_lentup, w_lenref, w_ite, getS, setS, keyD, List.map_cons, List.map_nil, List.cons_append, List.nil_append, List.length_cons, List.length_nil, List.replicate, Nat.reduceSub, Nat.reduceAdd, Nat.reduceLeDiff, Nat.reduceLT, List.set_cons_zero, List.set_cons_succ, decide_eq_true_eq, decide_eq_false_iff_not, Bool.not_eq_true', Bool.not_eq_false', true_and, and_true, forall_const, Bool.not_true]
  exact q m4 (((f1.trans f2).trans f3).trans f4)
theorem sB6_wp (t : TOk T) (h : Inv m T b R1 R2 k w u) (q : ∀ m', Fr m m' → Q (.nx, SL T x0 x3 x4 b k w u x12 line x15 x16 x17, m')) : wp (sB6 (SL T x0 x3 x4 b k w u x12 line x15 x16 x17) m) Q := by
  have gk := h.sk.good
  have gw := h.sw.good
  have gj := good_join gk gw
  have lj := lim_join h.lk h.lw
  unfold sB6 SL sl
  simp only [w_some, w_var, w_c, w_op, w_un, w_anil, w_acons, w_fn (f := fLen), w_fn (f := fInt), w_fn (f := fAbs), w_fn (f := fMax2), w_fn (f := fMin2), w_fn (f := fBool), w_fn (f := fTuple), w_fn (f := fDictM), w_fn (f := fTupP), w_fn (f := fDictP), w_fn (f := fSrTup), w_fn (f := fLenD), w_tup, w_lst, w_lstM, isB_bl, w_test, w_cand, w_cor, w_cnot, w_if, w_tru, w_and, w_or, w_not, w_chain, w_chain3, isR_ref, isI_ins, isD_dct, isL_lst, w_fld, w_lm, w_dm, w_disp, w_dnil, w_dcons, w_nil, w_retN, w_break, w_cont, nxt_nx, nxt_rt, nxt_bk, nxt_ct, w_seq, w_set, w_drop, w_ret, w_sif, w_asg, w_gN, w_gT, w_gsnil, w_gscons, w_gdput, w_dput, isN_int, w_lput, w_par, w_aug, w_flds, w_flda, gives_rt, gives_nx, w_fnb, w_range1, w_range2, isS_lst, isS_rol, isS_tup, w_iseq, w_dnew, w_dc, w_mul, w_div, w_mod, w_tupP, w_dget2, w_srit, e_tupP, e_tupleL, e_tupleT, e_addPI, e_isN_non, e_isN_ptp, e_notN_non, e_notN_ptp, w_par3, w_ixptp, e_lenptp, isS_ptp, e_min2', w_for, w_iseq, e_add, e_addI, e_sub, e_cmp, e_eqI, e_neI, e_eqS, e_neS, e_eqB, e_neB, e_abs, e_int, e_max2, e_truB, e_truI, w_dget, w_ixref, w_ixlst, w_ixrol, w_ixtup, w_dref, isK_dct, isK_dctL, reduceCtorEq, false_implies, true_implies, Bool.false_eq_true, Bool.true_eq_false, e_lenlst, e_lenrol, e_lentup, w_lenref, w_ite, getS, setS, keyD, List.map_cons, List.map_nil, List.cons_append, List.nil_append, List.length_cons, List.length_nil, List.replicate, Nat.reduceSub, Nat.reduceAdd, Nat.reduceLeDiff, Nat.reduceLT, List.set_cons_zero, List.set_cons_succ, decide_eq_true_eq, decide_eq_false_iff_not, Bool.not_eq_true', Bool.not_eq_false', true_and, and_true, forall_const, w_fn (f := f_is_known_within), w_fn (f := f_joined_known)]
  refine within_fr h.st.tape gk h.lk gk h.lk fun m1 f1 => ?_
  simp only [w_some, w_var, w_c, w_op, w_un, w_anil, w_acons, w_fn (f := fLen), w_fn (f := fInt), w_fn (f := fAbs), w_fn (f := fMax2), w_fn (f := fMin2), w_fn (f := fBool), w_fn (f := fTuple), w_fn (f := fDictM), w_fn (f := fTupP), w_fn (f := fDictP), w_fn (f := fSrTup), w_fn (f := fLenD), w_tup, w_lst, w_lstM, isB_bl, w_test, w_cand, w_cor, w_cnot, w_if, w_tru, w_and, w_or, w_not, w_chain, w_chain3, isR_ref, isI_ins, isD_dct, isL_lst, w_fld, w_lm, w_dm, w_disp, w_dnil, w_dcons, w_nil, w_retN, w_break, w_cont, nxt_nx, nxt_rt, nxt_bk, nxt_ct, w_seq, w_set, w_drop, w_ret, w_sif, w_asg, w_gN, w_gT, w_gsnil, w_gscons, w_gdput, w_dput, isN_int, w_lput, w_par, w_aug, w_flds, w_flda, gives_rt, gives_nx, w_fnb, w_range1, w_range2, isS_lst, isS_rol, isS_tup, w_iseq, w_dnew, w_dc, w_mul, w_div, w_mod, w_tupP, w_dget2, w_srit, e_tupP, e_tupleL, e_tupleT, e_addPI, e_isN_non, e_isN_ptp, e_notN_non, e_notN_ptp, w_par3, w_ixptp, e_lenptp, isS_ptp, e_min2', w_for, w_iseq, e_add, e_addI, e_sub, e_cmp, e_eqI, e_neI, e_eqS, e_neS, e_eqB, e_neB, e_abs, e_int, e_max2, e_truB, e_truI, w_dget, w_ixref, w_ixlst, w_ixrol, w_ixtup, w_dref, isK_dct, isK_dctL, reduceCtorEq, false_implies, true_implies, Bool.false_eq_true, Bool.true_eq_false, e_lenlst, e_lenrol, e_lentup, w_lenref, w_ite, getS, setS, keyD, List.map_cons, List.map_nil, List.cons_append, List.nil_append, List.length_cons, List.length_nil, List.replicate, Nat.reduceSub, Nat.reduceAdd, Nat.reduceLeDiff, Nat.reduceLT, List.set_cons_zero, List.set_cons_succ, decide_eq_true_eq, decide_eq_false_iff_not, Bool.not_eq_true', Bool.not_eq_false', true_and, and_true, forall_const, within_refl gk, Bool.not_true]
  refine joined_fr f1.tape gk h.lk gw h.lw fun m2 f2 => ?_
  simp only [w_some, w_var, w_c, w_op, w_un, w_anil, w_acons, w_fn (f := fLen), w_fn (f := fInt), w_fn (f := fAbs), w_fn (f := fMax2), w_fn (f := fMin2), w_fn (f := fBool), w_fn (f := fTuple), w_fn (f := fDictM), w_fn (f := fTupP), w_fn (f := fDictP), w_fn (f := fSrTup), w_fn (f := fLenD), w_tup, w_lst, w_lstM, isB_bl, w_test, w_cand, w_cor, w_cnot, w_if, w_tru, w_and, w_or, w_not, w_chain, w_chain3, isR_ref, isI_ins, isD_dct, isL_lst, w_fld, w_lm, w_dm, w_disp, w_dnil, w_dcons, w_nil, w_retN, w_break, w_cont, nxt_nx, nxt_rt, nxt_bk, nxt_ct, w_seq, w_set, w_drop, w_ret, w_sif, w_asg, w_gN, w_gT, w_gsnil, w_gscons, w_gdput, w_dput, isN_int, w_lput, w_par, w_aug, w_flds, w_flda, gives_rt, gives_nx, w_fnb, w_range1, w_range2, isS_lst, isS_rol, isS_tup, w_iseq, w_dnew, w_dc, w_mul, w_div, w_mod, w_tupP, w_dget2, w_srit, e_tupP, e_tupleL, e_tupleT, e_addPI, e_isN_non, e_isN_ptp, e_notN_non, e_notN_ptp, w_par3, w_ixptp, e_lenptp, isS_ptp, e_min2', w_for, w_iseq, e_add, e_addI, e_sub, e_cmp, e_eqI, e_neI, e_eqS, e_neS, e_eqB, e_neB, e_abs, e_int, e_max2, e_truB, e_truI, w_dget, w_ixref, w_ixlst, w_ixrol, w_ixtup, w_dref, isK_dct, isK_dctL, reduceCtorEq, false_implies, true_implies, Bool.false_eq_true, Bool.true_eq_false, e_lenlst, e_lenrol, e_lentup, w_lenref, w_ite, getS, setS, keyD, List.map_cons, List.map_nil, List.cons_append, List.nil_append, List.length_cons, List.length_nil, List.replicate, Nat.reduceSub, Nat.reduceAdd, Nat.reduceLeDiff, Nat.reduceLT, List.set_cons_zero, List.set_cons_succ, decide_eq_true_eq, decide_eq_false_iff_not, Bool.not_eq_true', Bool.not_eq_false', true_and, and_true, forall_const]
  refine within_fr f2.tape gk h.lk gj lj fun m3 f3 => ?_
  simp only [w_some, w_var, w_c, w_op, w_un, w_anil, w_acons, w_fn (f := fLen), w_fn (f := fInt), w_fn (f := fAbs), w_fn (f := fMax2), w_fn (f := fMin2), w_fn (f := fBool), w_fn (f := fTuple), w_fn (f := fDictM), w_fn (f := fTupP), w_fn (f := fDictP), w_fn (f := fSrTup), w_fn (f := fLenD), w_tup, w_lst, w_lstM, isB_bl, w_test, w_cand, w_cor, w_cnot, w_if, w_tru, w_and, w_or, w_not, w_chain, w_chain3, isR_ref, isI_ins, isD_dct, isL_lst, w_fld, w_lm, w_dm, w_disp, w_dnil, w_dcons, w_nil, w_retN, w_break, w_cont, nxt_nx, nxt_rt, nxt_bk, nxt_ct, w_seq, w_set, w_drop, w_ret, w_sif, w_asg, w_gN, w_gT, w_gsnil, w_gscons, w_gdput, w_dput, isN_int, w_lput, w_par, w_aug, w_flds, w_flda, gives_rt, gives_nx, w_fnb, w_range1, w_range2, isS_lst, isS_rol, isS_tup, w_iseq, w_dnew, w_dc, w_mul, w_div, w_mod, w_tupP, w_dget2, w_srit, e_tupP, e_tupleL, e_tupleT, e_addPI, e_isN_non, e_isN_ptp, e_notN_non, e_notN_ptp, w_par3, w_ixptp, e_lenptp, isS_ptp, e_min2', w_for, w_iseq, e_add, e_addI, e_sub, e_cmp, e_eqI, e_neI, e_eqS, e_neS, e_eqB, e_neB, e_abs, e_int, e_max2, e_truB, e_truI, w_dget, w_ixref, w_ixlst, w_ixrol, w_ixtup, w_dref, isK_dct, isK_dctL, reduceCtorEq, false_implies, true_implies, Bool.false_eq_true, Bool.true_eq_false, e_lenlst, e_lenrol, e_lentup, w_lenref, w_ite, getS, setS, keyD, List.map_cons, List.map_nil, List.cons_append, List.nil_append, List.length_cons, List.length_nil, List.replicate, Nat.reduceSub, Nat.reduceAdd, Nat.reduceLeDiff, Nat.reduceLT, List.set_cons_zero, List.set_cons_succ, decide_eq_true_eq, decide_eq_false_iff_not, Bool.not_eq_true', Bool.not_eq_false', true_and, and_true, forall_const, within_1 gk gw, Bool.not_true]
  refine joined_fr f3.tape gk h.lk gw h.lw fun m4 f4 => ?_
  simp only [w_some, w_var, w_c, w_op, w_un, w_anil, w_acons, w_fn (f := fLen), w_fn (f := fInt), w_fn (f := fAbs), w_fn (f := fMax2), w_fn (f := fMin2), w_fn (f := fBool), w_fn (f := fTuple), w_fn (f := fDictM), w_fn (f := fTupP), w_fn (f := fDictP), w_fn (f := fSrTup), w_fn (f := fLenD), w_tup, w_lst, w_lstM, isB_bl, w_test, w_cand, w_cor, w_cnot, w_if, w_tru, w_and, w_or, w_not, w_chain, w_chain3, isR_ref, isI_ins, isD_dct, isL_lst, w_fld, w_lm, w_dm, w_disp, w_dnil, w_dcons, w_nil, w_retN, w_break, w_cont, nxt_nx, nxt_rt, nxt_bk, nxt_ct, w_seq, w_set, w_drop, w_ret, w_sif, w_asg, w_gN, w_gT, w_gsnil, w_gscons, w_gdput, w_dput, isN_int, w_lput, w_par, w_aug, w_flds, w_flda, gives_rt, gives_nx, w_fnb, w_range1, w_range2, isS_lst, isS_rol, isS_tup, w_iseq, w_dnew, w_dc, w_mul, w_div, w_mod, w_tupP, w_dget2, w_srit, e_tupP, e_tupleL, e_tupleT, e_addPI, e_isN_non, e_isN_ptp, e_notN_non, e_notN_ptp, w_par3, w_ixptp, e_lenptp, isS_ptp, e_min2', w_for, w_iseq, e_add, e_addI, e_sub, e_cmp, e_eqI, e_neI, e_eqS, e_neS, e_eqB, e_neB, e_abs, e_int, e_max2, e_truB, e_truI, w_dget, w_ixref, w_ixlst, w_ixrol, w_ixtup, w_dref, isK_dct, isK_dctL, reduceCtorEq, false_implies, true_implies, Bool.false_eq_true, Bool.true_eq_false, e_lenlst, e_lenrol, e_lentup, w_lenref, w_ite, getS, setS, keyD, List.map_cons, List.map_nil, List.cons_append, List.nil_append, List.length_cons, List.length_nil, List.replicate, Nat.reduceSub, Nat.reduceAdd, Nat.reduceLeDiff, Nat.reduceLT, List.set_cons_zero, List.set_cons_succ, decide_eq_true_eq, decide_eq_false_iff_not, Bool.not_eq_true', Bool.not_eq_false', true_and, and_true, forall_const]
  refine within_fr f4.tape gw h.lw gj lj fun m5 f5 => ?_
  simp only [w_some, w_var, w_c, w_op, w_un, w_anil, w_acons, w_fn (f := fLen), w_fn (f := fInt), w_fn (f := fAbs), w_fn (f := fMax2), w_fn (f := fMin2), w_fn (f := fBool), w_fn (f := fTuple), w_fn (f := fDictM), w_fn (f := fTupP), w_fn (f := fDictP), w_fn (f := fSrTup), w_fn (f := fLenD), w_tup, w_lst, w_lstM, isB_bl, w_test, w_cand, w_cor, w_cnot, w_if, w_tru, w_and, w_or, w_not, w_chain, w_chain3, isR_ref, isI_ins, isD_dct, isL_lst, w_fld, w_lm, w_dm, w_disp, w_dnil, w_dcons, w_nil, w_retN, w_break, w_cont, nxt_nx, nxt_rt, nxt_bk, nxt_ct, w_seq, w_set, w_drop, w_ret, w_sif, w_asg, w_gN, w_gT, w_gsnil, w_gscons, w_gdput, w_dput, isN_int, w_lput, w_par, w_aug, w_flds, w_flda, gives_rt, gives_nx, w_fnb, w_range1, w_range2, isS_lst, isS_rol, isS_tup, w_iseq, w_dnew, w_dc, w_mul, w_div, w_mod, w_tupP, w_dget2, w_srit, e_tupP, e_tupleL, e_tupleT, e_addPI, e_isN_non, e_isN_ptp, e_notN_non, e_notN_ptp, w_par3, w_ixptp, e_lenptp, isS_ptp, e_min2', w_for, w_iseq, e_add, e_addI, e_sub, e_cmp, e_eqI, e_neI, e_eqS, e_neS, e_eqB, e_neB, e_abs, e_int, e_max2, e_truB, e_truI, w_dget, w_ixref, w_ixlst, w_ixrol, w_ixtup, w_dref, isK_dct, isK_dctL, reduceCtorEq, false_implies, true_implies, Bool.false_eq_true, Bool.true_eq_false, e_lenlst, e_lenrol, e_lentup, w_lenref, w_ite, getS, setS, keyD, List.map_cons, List.map_nil, List.cons_append, List.nil_append, List.length_cons, List.length_nil, List.replicate, Nat.reduceSub, Nat.reduceAdd, Nat.reduceLeDiff, Nat.reduceLT, List.set_cons_zero, List.set_cons_succ, decide_eq_true_eq, decide_eq_false_iff_not, Bool.not_eq_true', Bool.not_eq_false', true_and, and_true, forall_const, within_2 gk gw, Bool.not_true]
  exact q m5 ((((f1.trans f2).trans f3).trans f4).trans f5)
theorem any_rows {Q : D × M → Prop} {sg : Sg} {a : XE} (ha : a sg m = some (.ref i, m)) (hv : ∀ d, getS (setS (wipeS sg [16]) 16 d) 16 = some d) (hm : m[i]? = some (.lst (R.map rowD))) (hl : R.length ≤ 100) (q : ∀ x, Q (.bl x, m)) :
    wp (xFn fAny (aCons (xLcL [16] a (gN 16) cYes (xOp fNe (xVar 16) (xTup aNil))) aNil) sg m) Q := by
  rw [w_fn, w_acons]
  have e := loopCL_rows (sg := wipeS sg [16]) (v := 16) hv hm 100000 0 (by omega) (by omega)
  have e2 : xLcL [16] a (gN 16) cYes (xOp fNe (xVar 16) (xTup aNil)) sg m = some (.lst (R.map fun r => D.bl (!r.isEmpty)), m) := by
    unfold xLcL
    rw [ha]
    simp only [hm]
    rw [e]
    rfl
  rw [e2, w_some, w_anil]
  simp only [fAny, listD, seqD, blsD_map, w_some]
  exact q _
theorem sB7_wp (t : TOk T) (h : Inv m T b R1 R2 k w u) (q : ∀ m', Fr m m' → Q (.nx, SL T x0 x3 x4 b k w u x12 line x15 x16 x17, m')) : wp (sB7 (SL T x0 x3 x4 b k w u x12 line x15 x16 x17) m) Q := by
  have hlen := rows_len t h.v1
  unfold sB7 SL sl
  simp only [w_some, w_var, w_c, w_op, w_un, w_anil, w_acons, w_fn (f := fLen), w_fn (f := fInt), w_fn (f := fAbs), w_fn (f := fMax2), w_fn (f := fMin2), w_fn (f := fBool), w_fn (f := fTuple), w_fn (f := fDictM), w_fn (f := fTupP), w_fn (f := fDictP), w_fn (f := fSrTup), w_fn (f := fLenD), w_tup, w_lst, w_lstM, isB_bl, w_test, w_cand, w_cor, w_cnot, w_if, w_tru, w_and, w_or, w_not, w_chain, w_chain3, isR_ref, isI_ins, isD_dct, isL_lst, w_fld, w_lm, w_dm, w_disp, w_dnil, w_dcons, w_nil, w_retN, w_break, w_cont, nxt_nx, nxt_rt, nxt_bk, nxt_ct, w_seq, w_set, w_drop, w_ret, w_sif, w_asg, w_gN, w_gT, w_gsnil, w_gscons, w_gdput, w_dput, isN_int, w_lput, w_par, w_aug, w_flds, w_flda, gives_rt, gives_nx, w_fnb, w_range1, w_range2, isS_lst, isS_rol, isS_tup, w_iseq, w_dnew, w_dc, w_mul, w_div, w_mod, w_tupP, w_dget2, w_srit, e_tupP, e_tupleL, e_tupleT, e_addPI, e_isN_non, e_isN_ptp, e_notN_non, e_notN_ptp, w_par3, w_ixptp, e_lenptp, isS_ptp, e_min2', w_for, w_iseq, e_add, e_addI, e_sub, e_cmp, e_eqI, e_neI, e_eqS, e_neS, e_eqB, e_neB, e_abs, e_int, e_max2, e_truB, e_truI, w_dget, w_ixref, w_ixlst, w_ixrol, w_ixtup, w_dref, isK_dct, isK_dctL, reduceCtorEq, false_implies, true_implies, Bool.false_eq_true, Bool.true_eq_false, e_lenlst, e_lenrol, e_lentup, w_lenref, w_ite, getS, setS, keyD, List.map_cons, List.map_nil, List.cons_append, List.nil_append, List.length_cons, List.length_nil, List.replicate, Nat.reduceSub, Nat.reduceAdd, Nat.reduceLeDiff, Nat.reduceLT, List.set_cons_zero, List.set_cons_succ, decide_eq_true_eq, decide_eq_false_iff_not, Bool.not_eq_true', Bool.not_eq_false', true_and, and_true, forall_const, w_fn (f := f_is_known_within), w_fn (f := f_nothing)]
  refine nothing_wp ?_
  simp only [w_some, w_var, w_c, w_op, w_un, w_anil, w_acons, w_fn (f := fLen), w_fn (f := fInt), w_fn (f := fAbs), w_fn (f := fMax2), w_fn (f := fMin2), w_fn (f := fBool), w_fn (f := fTuple), w_fn (f := fDictM), w_fn (f := fTupP), w_fn (f := fDictP), w_fn (f := fSrTup), w_fn (f := fLenD), w_tup, w_lst, w_lstM, isB_bl, w_test, w_cand, w_cor, w_cnot, w_if, w_tru, w_and, w_or, w_not, w_chain, w_chain3, isR_ref, isI_ins, isD_dct, isL_lst, w_fld, w_lm, w_dm, w_disp, w_dnil, w_dcons, w_nil, w_retN, w_break, w_cont, nxt_nx, nxt_rt, nxt_bk, nxt_ct, w_seq, w_set, w_drop, w_ret, w_sif, w_asg, w_gN, w_gT, w_gsnil, w_gscons, w_gdput, w_dput, isN_int, w_lput, w_par, w_aug, w_flds, w_flda, gives_rt, gives_nx, w_fnb, w_range1, w_range2, isS_lst, isS_rol, isS_tup, w_iseq, w_dnew, w_dc, w_mul, w_div, w_mod, w_tupP, w_dget2, w_srit, e_tupP, e_tupleL, e_tupleT, e_addPI, e_isN_non, e_isN_ptp, e_notN_non, e_notN_ptp, w_par3, w_ixptp, e_lenptp, isS_ptp, e_min2', w_for, w_iseq, e_add, e_addI, e_sub, e_cmp, e_eqI, e_neI, e_eqS, e_neS, e_eqB, e_neB, e_abs, e_int, e_max2, e_truB, e_truI, w_dget, w_ixref, w_ixlst, w_ixrol, w_ixtup, w_dref, isK_dct, isK_dctL, reduceCtorEq, false_implies, true_implies, Bool.false_eq_true, Bool.true_eq_false, e_lenlst, e_lenrol, e_lentup, w_lenref, w_ite, getS, setS, keyD, List.map_cons, List.map_nil, List.cons_append, List.nil_append, List.length_cons, List.length_nil, List.replicate, Nat.reduceSub, Nat.reduceAdd, Nat.reduceLeDiff, Nat.reduceLT, List.set_cons_zero, List.set_cons_succ, decide_eq_true_eq, decide_eq_false_iff_not, Bool.not_eq_true', Bool.not_eq_false', true_and, and_true, forall_const]
  refine within_fr h.st.tape ⟨List.nodup_nil, fun l b h => (nomatch h), fun may e => by cases e; exact List.nodup_nil⟩ ⟨fun l b h => (nomatch h), fun may e => by cases e; exact fun l b h => (nomatch h)⟩ h.sk.good h.lk fun m1 f1 => ?_
  simp only [w_some, w_var, w_c, w_op, w_un, w_anil, w_acons, w_fn (f := fLen), w_fn (f := fInt), w_fn (f := fAbs), w_fn (f := fMax2), w_fn (f := fMin2), w_fn (f := fBool), w_fn (f := fTuple), w_fn (f := fDictM), w_fn (f := fTupP), w_fn (f := fDictP), w_fn (f := fSrTup), w_fn (f := fLenD), w_tup, w_lst, w_lstM, isB_bl, w_test, w_cand, w_cor, w_cnot, w_if, w_tru, w_and, w_or, w_not, w_chain, w_chain3, isR_ref, isI_ins, isD_dct, isL_lst, w_fld, w_lm, w_dm, w_disp, w_dnil, w_dcons, w_nil, w_retN, w_break, w_cont, nxt_nx, nxt_rt, nxt_bk, nxt_ct, w_seq, w_set, w_drop, w_ret, w_sif, w_asg, w_gN, w_gT, w_gsnil, w_gscons, w_gdput, w_dput, isN_int, w_lput, w_par, w_aug, w_flds, w_flda, gives_rt, gives_nx, w_fnb, w_range1, w_range2, isS_lst, isS_rol, isS_tup, w_iseq, w_dnew, w_dc, w_mul, w_div, w_mod, w_tupP, w_dget2, w_srit, e_tupP, e_tupleL, e_tupleT, e_addPI, e_isN_non, e_isN_ptp, e_notN_non, e_notN_ptp, w_par3, w_ixptp, e_lenptp, isS_ptp, e_min2', w_for, w_iseq, e_add, e_addI, e_sub, e_cmp, e_eqI, e_neI, e_eqS, e_neS, e_eqB, e_neB, e_abs, e_int, e_max2, e_truB, e_truI, w_dget, w_ixref, w_ixlst, w_ixrol, w_ixtup, w_dref, isK_dct, isK_dctL, reduceCtorEq, false_implies, true_implies, Bool.false_eq_true, Bool.true_eq_false, e_lenlst, e_lenrol, e_lentup, w_lenref, w_ite, getS, setS, keyD, List.map_cons, List.map_nil, List.cons_append, List.nil_append, List.length_cons, List.length_nil, List.replicate, Nat.reduceSub, Nat.reduceAdd, Nat.reduceLeDiff, Nat.reduceLT, List.set_cons_zero, List.set_cons_succ, decide_eq_true_eq, decide_eq_false_iff_not, Bool.not_eq_true', Bool.not_eq_false', true_and, and_true, forall_const]
  refine ⟨fun hw => ?_, fun _ => q m1 f1⟩
  have hk := within_nothing hw
  refine any_rows (i := b + 4) (R := R1) (wp_of (by simp only [w_some, w_var, w_c, w_op, w_un, w_anil, w_acons, w_fn (f := fLen), w_fn (f := fInt), w_fn (f := fAbs), w_fn (f := fMax2), w_fn (f := fMin2), w_fn (f := fBool), w_fn (f := fTuple), w_fn (f := fDictM), w_fn (f := fTupP), w_fn (f := fDictP), w_fn (f := fSrTup), w_fn (f := fLenD), w_tup, w_lst, w_lstM, isB_bl, w_test, w_cand, w_cor, w_cnot, w_if, w_tru, w_and, w_or, w_not, w_chain, w_chain3, isR_ref, isI_ins, isD_dct, isL_lst, w_fld, w_lm, w_dm, w_disp, w_dnil, w_dcons, w_nil, w_retN, w_break, w_cont, nxt_nx, nxt_rt, nxt_bk, nxt_ct, w_seq, w_set, w_drop, w_ret, w_sif, w_asg, w_gN, w_gT, w_gsnil, w_gscons, w_gdput, w_dput, isN_int, w_lput, w_par, w_aug, w_flds, w_flda, gives_rt, gives_nx, w_fnb, w_range1, w_range2, isS_lst, isS_rol, isS_tup, w_iseq, w_dnew, w_dc, w_mul, w_div, w_mod, w_tupP, w_dget2, w_srit, e_tupP, e_tupleL, e_tupleT, e_addPI, e_isN_non, e_isN_ptp, e_notN_non, e_notN_ptp, w_par3, w_ixptp, e_lenptp, isS_ptp, e_min2', w_for, w_iseq, e_add, e_addI, e_sub, e_cmp, e_eqI, e_neI, e_eqS, e_neS, e_eqB, e_neB, e_abs, e_int, e_max2, e_truB, e_truI, w_dget, w_ixref, w_ixlst, w_ixrol, w_ixtup, w_dref, isK_dct, isK_dctL, reduceCtorEq, false_implies, true_implies, Bool.false_eq_true, Bool.true_eq_false, e_lenlst, e_lenrol, e_lentup, w_lenref, w_ite, getS, setS, keyD, List.map_cons, List.map_nil, List.cons_append, List.nil_append, List.length_cons, List.length_nil, List.replicate, Nat.reduceSub, Nat.reduceAdd, Nat.reduceLeDiff, Nat.reduceLT, List.set_cons_zero, List.set_cons_succ, decide_eq_true_eq, decide_eq_false_iff_not, Bool.not_eq_true', Bool.not_eq_false', true_and, and_true, forall_const])) (fun d => rfl) (h.fr f1).st.la hlen fun x => ?_
  simp only [w_some, w_var, w_c, w_op, w_un, w_anil, w_acons, w_fn (f := fLen), w_fn (f := fInt), w_fn (f := fAbs), w_fn (f := fMax2), w_fn (f := fMin2), w_fn (f := fBool), w_fn (f := fTuple), w_fn (f := fDictM), w_fn (f := fTupP), w_fn (f := fDictP), w_fn (f := fSrTup), w_fn (f := fLenD), w_tup, w_lst, w_lstM, isB_bl, w_test, w_cand, w_cor, w_cnot, w_if, w_tru, w_and, w_or, w_not, w_chain, w_chain3, isR_ref, isI_ins, isD_dct, isL_lst, w_fld, w_lm, w_dm, w_disp, w_dnil, w_dcons, w_nil, w_retN, w_break, w_cont, nxt_nx, nxt_rt, nxt_bk, nxt_ct, w_seq, w_set, w_drop, w_ret, w_sif, w_asg, w_gN, w_gT, w_gsnil, w_gscons, w_gdput, w_dput, isN_int, w_lput, w_par, w_aug, w_flds, w_flda, gives_rt, gives_nx, w_fnb, w_range1, w_range2, isS_lst, isS_rol, isS_tup, w_iseq, w_dnew, w_dc, w_mul, w_div, w_mod, w_tupP, w_dget2, w_srit, e_tupP, e_tupleL, e_tupleT, e_addPI, e_isN_non, e_isN_ptp, e_notN_non, e_notN_ptp, w_par3, w_ixptp, e_lenptp, isS_ptp, e_min2', w_for, w_iseq, e_add, e_addI, e_sub, e_cmp, e_eqI, e_neI, e_eqS, e_neS, e_eqB, e_neB, e_abs, e_int, e_max2, e_truB, e_truI, w_dget, w_ixref, w_ixlst, w_ixrol, w_ixtup, w_dref, isK_dct, isK_dctL, reduceCtorEq, false_implies, true_implies, Bool.false_eq_true, Bool.true_eq_false, e_lenlst, e_lenrol, e_lentup, w_lenref, w_ite, getS, setS, keyD, List.map_cons, List.map_nil, List.cons_append, List.nil_append, List.length_cons, List.length_nil, List.replicate, Nat.reduceSub, Nat.reduceAdd, Nat.reduceLeDiff, Nat.reduceLT, List.set_cons_zero, List.set_cons_succ, decide_eq_true_eq, decide_eq_false_iff_not, Bool.not_eq_true', Bool.not_eq_false', true_and, and_true, forall_const]
  refine ⟨fun _ => ?_, fun _ => q m1 f1⟩
  unfold knD
  simp only [w_some, w_var, w_c, w_op, w_un, w_anil, w_acons, w_fn (f := fLen), w_fn (f := fInt), w_fn (f := fAbs), w_fn (f := fMax2), w_fn (f := fMin2), w_fn (f := fBool), w_fn (f := fTuple), w_fn (f := fDictM), w_fn (f := fTupP), w_fn (f := fDictP), w_fn (f := fSrTup), w_fn (f := fLenD), w_tup, w_lst, w_lstM, isB_bl, w_test, w_cand, w_cor, w_cnot, w_if, w_tru, w_and, w_or, w_not, w_chain, w_chain3, isR_ref, isI_ins, isD_dct, isL_lst, w_fld, w_lm, w_dm, w_disp, w_dnil, w_dcons, w_nil, w_retN, w_break, w_cont, nxt_nx, nxt_rt, nxt_bk, nxt_ct, w_seq, w_set, w_drop, w_ret, w_sif, w_asg, w_gN, w_gT, w_gsnil, w_gscons, w_gdput, w_dput, isN_int, w_lput, w_par, w_aug, w_flds, w_flda, gives_rt, gives_nx, w_fnb, w_range1, w_range2, isS_lst, isS_rol, isS_tup, w_iseq, w_dnew, w_dc, w_mul, w_div, w_mod, w_tupP, w_dget2, w_srit, e_tupP, e_tupleL, e_tupleT, e_addPI, e_isN_non, e_isN_ptp, e_notN_non, e_notN_ptp, w_par3, w_ixptp, e_lenptp, isS_ptp, e_min2', w_for, w_iseq, e_add, e_addI, e_sub, e_cmp, e_eqI, e_neI, e_eqS, e_neS, e_eqB, e_neB, e_abs, e_int, e_max2, e_truB, e_truI, w_dget, w_ixref, w_ixlst, w_ixrol, w_ixtup, w_dref, isK_dct, isK_dctL, reduceCtorEq, false_implies, true_implies, Bool.false_eq_true, Bool.true_eq_false, e_lenlst, e_lenrol, e_lentup, w_lenref, w_ite, getS, setS, keyD, List.map_cons, List.map_nil, List.cons_append, List.nil_append, List.length_cons, List.length_nil, List.replicate, Nat.reduceSub, Nat.reduceAdd, Nat.reduceLeDiff, Nat.reduceLT, List.set_cons_zero, List.set_cons_succ, decide_eq_true_eq, decide_eq_false_iff_not, Bool.not_eq_true', Bool.not_eq_false', true_and, and_true, forall_const, ix2_0, hk, List.map_nil, ne_nilP]
  have := q m1 f1
  unfold SL sl knD at this
  simp only [hk, List.map_nil] at this
  exact this
theorem step_wp (t : TOk T) (h : Inv m T b R1 R2 k w u) (q : ∀ R1' R2' k' w' u' x13 x14 x15 x16 m', Inv m' T b R1' R2' k' w' u' → Q (.nx, sl x0 x3 x4 T b k' w' u' x12 x13 x14 x15 x16 x17, m')) : wp (stepB (sl x0 x3 x4 T b k w u x12 x13 x14 x15 x16 x17) m) Q := by
  unfold stepB
  refine s012 t h fun line m1 hl h1 => ?_
  rw [w_seq]
  refine s3 t h1 ?_
  rw [nxt_nx, w_seq]
  have rest : ∀ R1' R2' k' w' u' y16 m', Inv m' T b R1' R2' k' w' u' → wp ((sSeq sB5 (sSeq sB6 sB7)) (SL T x0 x3 x4 b k' w' u' x12 line (some (.bl (inP T R1 line))) y16 x17) m') Q := by
    intro R1' R2' k' w' u' y16 m' hi
    rw [w_seq]
    refine sB5_wp t hi fun m2 f2 => ?_
    rw [nxt_nx, w_seq]
    refine sB6_wp t (hi.fr f2) fun m3 f3 => ?_
    rw [nxt_nx]
    refine sB7_wp t ((hi.fr f2).fr f3) fun m4 f4 => ?_
    exact q _ _ _ _ _ _ _ _ _ _ (((hi.fr f2).fr f3).fr f4)
  unfold sB4 sl
  simp only [w_some, w_var, w_c, w_op, w_un, w_anil, w_acons, w_fn (f := fLen), w_fn (f := fInt), w_fn (f := fAbs), w_fn (f := fMax2), w_fn (f := fMin2), w_fn (f := fBool), w_fn (f := fTuple), w_fn (f := fDictM), w_fn (f := fTupP), w_fn (f := fDictP), w_fn (f := fSrTup), w_fn (f := fLenD), w_tup, w_lst, w_lstM, isB_bl, w_test, w_cand, w_cor, w_cnot, w_if, w_tru, w_and, w_or, w_not, w_chain, w_chain3, isR_ref, isI_ins, isD_dct, isL_lst, w_fld, w_lm, w_dm, w_disp, w_dnil, w_dcons, w_nil, w_retN, w_break, w_cont, nxt_nx, nxt_rt, nxt_bk, nxt_ct, w_seq, w_set, w_drop, w_ret, w_sif, w_asg, w_gN, w_gT, w_gsnil, w_gscons, w_gdput, w_dput, isN_int, w_lput, w_par, w_aug, w_flds, w_flda, gives_rt, gives_nx, w_fnb, w_range1, w_range2, isS_lst, isS_rol, isS_tup, w_iseq, w_dnew, w_dc, w_mul, w_div, w_mod, w_tupP, w_dget2, w_srit, e_tupP, e_tupleL, e_tupleT, e_addPI, e_isN_non, e_isN_ptp, e_notN_non, e_notN_ptp, w_par3, w_ixptp, e_lenptp, isS_ptp, e_min2', w_for, w_iseq, e_add, e_addI, e_sub, e_cmp, e_eqI, e_neI, e_eqS, e_neS, e_eqB, e_neB, e_abs, e_int, e_max2, e_truB, e_truI, w_dget, w_ixref, w_ixlst, w_ixrol, w_ixtup, w_dref, isK_dct, isK_dctL, reduceCtorEq, false_implies, true_implies, Bool.false_eq_true, Bool.true_eq_false, e_lenlst, e_lenrol, e_lentup, w_lenref, w_ite, getS, setS, keyD, List.map_cons, List.map_nil, List.cons_append, List.nil_append, List.length_cons, List.length_nil, List.replicate, Nat.reduceSub, Nat.reduceAdd, Nat.reduceLeDiff, Nat.reduceLT, List.set_cons_zero, List.set_cons_succ, decide_eq_true_eq, decide_eq_false_iff_not, Bool.not_eq_true', Bool.not_eq_false', true_and, and_true, forall_const, w_fn (f := f__law_take)]
  refine take_fr h1.st.tape (by decide) (by decide) fun r m2 f2 _ _ _ => ?_
  have h2 := h1.fr f2
  simp only [w_some, w_var, w_c, w_op, w_un, w_anil, w_acons, w_fn (f := fLen), w_fn (f := fInt), w_fn (f := fAbs), w_fn (f := fMax2), w_fn (f := fMin2), w_fn (f := fBool), w_fn (f := fTuple), w_fn (f := fDictM), w_fn (f := fTupP), w_fn (f := fDictP), w_fn (f := fSrTup), w_fn (f := fLenD), w_tup, w_lst, w_lstM, isB_bl, w_test, w_cand, w_cor, w_cnot, w_if, w_tru, w_and, w_or, w_not, w_chain, w_chain3, isR_ref, isI_ins, isD_dct, isL_lst, w_fld, w_lm, w_dm, w_disp, w_dnil, w_dcons, w_nil, w_retN, w_break, w_cont, nxt_nx, nxt_rt, nxt_bk, nxt_ct, w_seq, w_set, w_drop, w_ret, w_sif, w_asg, w_gN, w_gT, w_gsnil, w_gscons, w_gdput, w_dput, isN_int, w_lput, w_par, w_aug, w_flds, w_flda, gives_rt, gives_nx, w_fnb, w_range1, w_range2, isS_lst, isS_rol, isS_tup, w_iseq, w_dnew, w_dc, w_mul, w_div, w_mod, w_tupP, w_dget2, w_srit, e_tupP, e_tupleL, e_tupleT, e_addPI, e_isN_non, e_isN_ptp, e_notN_non, e_notN_ptp, w_par3, w_ixptp, e_lenptp, isS_ptp, e_min2', w_for, w_iseq, e_add, e_addI, e_sub, e_cmp, e_eqI, e_neI, e_eqS, e_neS, e_eqB, e_neB, e_abs, e_int, e_max2, e_truB, e_truI, w_dget, w_ixref, w_ixlst, w_ixrol, w_ixtup, w_dref, isK_dct, isK_dctL, reduceCtorEq, false_implies, true_implies, Bool.false_eq_true, Bool.true_eq_false, e_lenlst, e_lenrol, e_lentup, w_lenref, w_ite, getS, setS, keyD, List.map_cons, List.map_nil, List.cons_append, List.nil_append, List.length_cons, List.length_nil, List.replicate, Nat.reduceSub, Nat.reduceAdd, Nat.reduceLeDiff, Nat.reduceLT, List.set_cons_zero, List.set_cons_succ, decide_eq_true_eq, decide_eq_false_iff_not, Bool.not_eq_true', Bool.not_eq_false', true_and, and_true, forall_const]
  refine ⟨fun _ => hit_wp t h2 hl fun k' w' u' y16 m3 h3 => ?_, fun _ => in_wp t h2 hl fun k' w' u' y16 m3 h3 => ?_⟩
  · rw [nxt_nx]
    have := rest _ _ _ _ _ y16 _ h3
    simp only [w_seq] at this
    exact this
  · rw [nxt_nx]
    have := rest _ _ _ _ _ y16 _ h3
    simp only [w_seq] at this
    exact this
end
end K03

set_option Elab.async false
set_option maxRecDepth 100000
set_option linter.unusedSimpArgs false
set_option linter.unusedVariables false
namespace K03
open PySem L2 Mini

section
variable {T : Told} {m m' : M} {R R1 R2 : Rows} {k w u : Kn} {b j i : Nat} {Q : Fl × Sg × M → Prop}
abbrev Z (ns : List Int) (T : Told) (x3 x4 x5 x6 x7 x8 x9 x10 x11 : Option D) : Sg := [some (.rol (ns.map D.int)), some (.ref 0), some (toldD T), x3, x4, x5, x6, x7, x8, x9, x10, x11, none, none, none, none, none, none]
theorem lB1_wp {ns : List Int} (ht : Tape m) (q : ∀ T m', TOk T → Fr m m' → Q (.nx, Z ns T none none none none none none none none none, m')) :
    wp (lB1 [some (.rol (ns.map D.int)), some (.ref 0), none, none, none, none, none, none, none, none, none, none, none, none, none, none, none, none] m) Q := by
  unfold lB1
  simp only [w_some, w_var, w_c, w_op, w_un, w_anil, w_acons, w_fn (f := fLen), w_fn (f := fInt), w_fn (f := fAbs), w_fn (f := fMax2), w_fn (f := fMin2), w_fn (f := fBool), w_fn (f := fTuple), w_fn (f := fDictM), w_fn (f := fTupP), w_fn (f := fDictP), w_fn (f := fSrTup), w_fn (f := fLenD), w_tup, w_lst, w_lstM, isB_bl, w_test, w_cand, w_cor, w_cnot, w_if, w_tru, w_and, w_or, w_not, w_chain, w_chain3, isR_ref, isI_ins, isD_dct, isL_lst, w_fld, w_lm, w_dm, w_disp, w_dnil, w_dcons, w_nil, w_retN, w_break, w_cont, nxt_nx, nxt_rt, nxt_bk, nxt_ct, w_seq, w_set, w_drop, w_ret, w_sif, w_asg, w_gN, w_gT, w_gsnil, w_gscons, w_gdput, w_dput, isN_int, w_lput, w_par, w_aug, w_flds, w_flda, gives_rt, gives_nx, w_fnb, w_range1, w_range2, isS_lst, isS_rol, isS_tup, w_iseq, w_dnew, w_dc, w_mul, w_div, w_mod, w_tupP, w_dget2, w_srit, e_tupP, e_tupleL, e_tupleT, e_addPI, e_isN_non, e_isN_ptp, e_notN_non, e_notN_ptp, w_par3, w_ixptp, e_lenptp, isS_ptp, e_min2', w_for, w_iseq, e_add, e_addI, e_sub, e_cmp, e_eqI, e_neI, e_eqS, e_neS, e_eqB, e_neB, e_abs, e_int, e_max2, e_truB, e_truI, w_dget, w_ixref, w_ixlst, w_ixrol, w_ixtup, w_dref, isK_dct, isK_dctL, reduceCtorEq, false_implies, true_implies, Bool.false_eq_true, Bool.true_eq_false, e_lenlst, e_lenrol, e_lentup, w_lenref, w_ite, getS, setS, keyD, List.map_cons, List.map_nil, List.cons_append, List.nil_append, List.length_cons, List.length_nil, List.replicate, Nat.reduceSub, Nat.reduceAdd, Nat.reduceLeDiff, Nat.reduceLT, List.set_cons_zero, List.set_cons_succ, decide_eq_true_eq, decide_eq_false_iff_not, Bool.not_eq_true', Bool.not_eq_false', true_and, and_true, forall_const, w_fn (f := f__law_take)]
  refine take_fr ht (by decide) (by decide) fun r1 m1 f1 _ h10 h11 => ?_
  simp only [w_some, w_var, w_c, w_op, w_un, w_anil, w_acons, w_fn (f := fLen), w_fn (f := fInt), w_fn (f := fAbs), w_fn (f := fMax2), w_fn (f := fMin2), w_fn (f := fBool), w_fn (f := fTuple), w_fn (f := fDictM), w_fn (f := fTupP), w_fn (f := fDictP), w_fn (f := fSrTup), w_fn (f := fLenD), w_tup, w_lst, w_lstM, isB_bl, w_test, w_cand, w_cor, w_cnot, w_if, w_tru, w_and, w_or, w_not, w_chain, w_chain3, isR_ref, isI_ins, isD_dct, isL_lst, w_fld, w_lm, w_dm, w_disp, w_dnil, w_dcons, w_nil, w_retN, w_break, w_cont, nxt_nx, nxt_rt, nxt_bk, nxt_ct, w_seq, w_set, w_drop, w_ret, w_sif, w_asg, w_gN, w_gT, w_gsnil, w_gscons, w_gdput, w_dput, isN_int, w_lput, w_par, w_aug, w_flds, w_flda, gives_rt, gives_nx, w_fnb, w_range1, w_range2, isS_lst, isS_rol, isS_tup, w_iseq, w_dnew, w_dc, w_mul, w_div, w_mod, w_tupP, w_dget2, w_srit, e_tupP, e_tupleL, e_tupleT, e_addPI, e_isN_non, e_isN_ptp, e_notN_non, e_notN_ptp, w_par3, w_ixptp, e_lenptp, isS_ptp, e_min2', w_for, w_iseq, e_add, e_addI, e_sub, e_cmp, e_eqI, e_neI, e_eqS, e_neS, e_eqB, e_neB, e_abs, e_int, e_max2, e_truB, e_truI, w_dget, w_ixref, w_ixlst, w_ixrol, w_ixtup, w_dref, isK_dct, isK_dctL, reduceCtorEq, false_implies, true_implies, Bool.false_eq_true, Bool.true_eq_false, e_lenlst, e_lenrol, e_lentup, w_lenref, w_ite, getS, setS, keyD, List.map_cons, List.map_nil, List.cons_append, List.nil_append, List.length_cons, List.length_nil, List.replicate, Nat.reduceSub, Nat.reduceAdd, Nat.reduceLeDiff, Nat.reduceLT, List.set_cons_zero, List.set_cons_succ, decide_eq_true_eq, decide_eq_false_iff_not, Bool.not_eq_true', Bool.not_eq_false', true_and, and_true, forall_const]
  refine take_fr f1.tape (by decide) (by decide) fun r2 m2 f2 _ h20 h21 => ?_
  simp only [w_some, w_var, w_c, w_op, w_un, w_anil, w_acons, w_fn (f := fLen), w_fn (f := fInt), w_fn (f := fAbs), w_fn (f := fMax2), w_fn (f := fMin2), w_fn (f := fBool), w_fn (f := fTuple), w_fn (f := fDictM), w_fn (f := fTupP), w_fn (f := fDictP), w_fn (f := fSrTup), w_fn (f := fLenD), w_tup, w_lst, w_lstM, isB_bl, w_test, w_cand, w_cor, w_cnot, w_if, w_tru, w_and, w_or, w_not, w_chain, w_chain3, isR_ref, isI_ins, isD_dct, isL_lst, w_fld, w_lm, w_dm, w_disp, w_dnil, w_dcons, w_nil, w_retN, w_break, w_cont, nxt_nx, nxt_rt, nxt_bk, nxt_ct, w_seq, w_set, w_drop, w_ret, w_sif, w_asg, w_gN, w_gT, w_gsnil, w_gscons, w_gdput, w_dput, isN_int, w_lput, w_par, w_aug, w_flds, w_flda, gives_rt, gives_nx, w_fnb, w_range1, w_range2, isS_lst, isS_rol, isS_tup, w_iseq, w_dnew, w_dc, w_mul, w_div, w_mod, w_tupP, w_dget2, w_srit, e_tupP, e_tupleL, e_tupleT, e_addPI, e_isN_non, e_isN_ptp, e_notN_non, e_notN_ptp, w_par3, w_ixptp, e_lenptp, isS_ptp, e_min2', w_for, w_iseq, e_add, e_addI, e_sub, e_cmp, e_eqI, e_neI, e_eqS, e_neS, e_eqB, e_neB, e_abs, e_int, e_max2, e_truB, e_truI, w_dget, w_ixref, w_ixlst, w_ixrol, w_ixtup, w_dref, isK_dct, isK_dctL, reduceCtorEq, false_implies, true_implies, Bool.false_eq_true, Bool.true_eq_false, e_lenlst, e_lenrol, e_lentup, w_lenref, w_ite, getS, setS, keyD, List.map_cons, List.map_nil, List.cons_append, List.nil_append, List.length_cons, List.length_nil, List.replicate, Nat.reduceSub, Nat.reduceAdd, Nat.reduceLeDiff, Nat.reduceLT, List.set_cons_zero, List.set_cons_succ, decide_eq_true_eq, decide_eq_false_iff_not, Bool.not_eq_true', Bool.not_eq_false', true_and, and_true, forall_const]
  refine take_fr f2.tape (by decide) (by decide) fun r3 m3 f3 _ h30 h31 => ?_
  have hf := (f1.trans f2).trans f3
  have e : r3 = 0 ∨ r3 = 1 := by omega
  rcases e with rfl | rfl
  · simp only [w_some, w_var, w_c, w_op, w_un, w_anil, w_acons, w_fn (f := fLen), w_fn (f := fInt), w_fn (f := fAbs), w_fn (f := fMax2), w_fn (f := fMin2), w_fn (f := fBool), w_fn (f := fTuple), w_fn (f := fDictM), w_fn (f := fTupP), w_fn (f := fDictP), w_fn (f := fSrTup), w_fn (f := fLenD), w_tup, w_lst, w_lstM, isB_bl, w_test, w_cand, w_cor, w_cnot, w_if, w_tru, w_and, w_or, w_not, w_chain, w_chain3, isR_ref, isI_ins, isD_dct, isL_lst, w_fld, w_lm, w_dm, w_disp, w_dnil, w_dcons, w_nil, w_retN, w_break, w_cont, nxt_nx, nxt_rt, nxt_bk, nxt_ct, w_seq, w_set, w_drop, w_ret, w_sif, w_asg, w_gN, w_gT, w_gsnil, w_gscons, w_gdput, w_dput, isN_int, w_lput, w_par, w_aug, w_flds, w_flda, gives_rt, gives_nx, w_fnb, w_range1, w_range2, isS_lst, isS_rol, isS_tup, w_iseq, w_dnew, w_dc, w_mul, w_div, w_mod, w_tupP, w_dget2, w_srit, e_tupP, e_tupleL, e_tupleT, e_addPI, e_isN_non, e_isN_ptp, e_notN_non, e_notN_ptp, w_par3, w_ixptp, e_lenptp, isS_ptp, e_min2', w_for, w_iseq, e_add, e_addI, e_sub, e_cmp, e_eqI, e_neI, e_eqS, e_neS, e_eqB, e_neB, e_abs, e_int, e_max2, e_truB, e_truI, w_dget, w_ixref, w_ixlst, w_ixrol, w_ixtup, w_dref, isK_dct, isK_dctL, reduceCtorEq, false_implies, true_implies, Bool.false_eq_true, Bool.true_eq_false, e_lenlst, e_lenrol, e_lentup, w_lenref, w_ite, getS, setS, keyD, List.map_cons, List.map_nil, List.cons_append, List.nil_append, List.length_cons, List.length_nil, List.replicate, Nat.reduceSub, Nat.reduceAdd, Nat.reduceLeDiff, Nat.reduceLT, List.set_cons_zero, List.set_cons_succ, decide_eq_true_eq, decide_eq_false_iff_not, Bool.not_eq_true', Bool.not_eq_false', true_and, and_true, forall_const, ix2_0]
    exact q ⟨1 + r1, 1 + r2, true⟩ m3 ⟨by show 1 + r1 = 1 ∨ 1 + r1 = 2; omega, by show 1 ≤ 1 + r2; omega, by show 1 + r2 ≤ 4; omega⟩ hf
  · simp only [w_some, w_var, w_c, w_op, w_un, w_anil, w_acons, w_fn (f := fLen), w_fn (f := fInt), w_fn (f := fAbs), w_fn (f := fMax2), w_fn (f := fMin2), w_fn (f := fBool), w_fn (f := fTuple), w_fn (f := fDictM), w_fn (f := fTupP), w_fn (f := fDictP), w_fn (f := fSrTup), w_fn (f := fLenD), w_tup, w_lst, w_lstM, isB_bl, w_test, w_cand, w_cor, w_cnot, w_if, w_tru, w_and, w_or, w_not, w_chain, w_chain3, isR_ref, isI_ins, isD_dct, isL_lst, w_fld, w_lm, w_dm, w_disp, w_dnil, w_dcons, w_nil, w_retN, w_break, w_cont, nxt_nx, nxt_rt, nxt_bk, nxt_ct, w_seq, w_set, w_drop, w_ret, w_sif, w_asg, w_gN, w_gT, w_gsnil, w_gscons, w_gdput, w_dput, isN_int, w_lput, w_par, w_aug, w_flds, w_flda, gives_rt, gives_nx, w_fnb, w_range1, w_range2, isS_lst, isS_rol, isS_tup, w_iseq, w_dnew, w_dc, w_mul, w_div, w_mod, w_tupP, w_dget2, w_srit, e_tupP, e_tupleL, e_tupleT, e_addPI, e_isN_non, e_isN_ptp, e_notN_non, e_notN_ptp, w_par3, w_ixptp, e_lenptp, isS_ptp, e_min2', w_for, w_iseq, e_add, e_addI, e_sub, e_cmp, e_eqI, e_neI, e_eqS, e_neS, e_eqB, e_neB, e_abs, e_int, e_max2, e_truB, e_truI, w_dget, w_ixref, w_ixlst, w_ixrol, w_ixtup, w_dref, isK_dct, isK_dctL, reduceCtorEq, false_implies, true_implies, Bool.false_eq_true, Bool.true_eq_false, e_lenlst, e_lenrol, e_lentup, w_lenref, w_ite, getS, setS, keyD, List.map_cons, List.map_nil, List.cons_append, List.nil_append, List.length_cons, List.length_nil, List.replicate, Nat.reduceSub, Nat.reduceAdd, Nat.reduceLeDiff, Nat.reduceLT, List.set_cons_zero, List.set_cons_succ, decide_eq_true_eq, decide_eq_false_iff_not, Bool.not_eq_true', Bool.not_eq_false', true_and, and_true, forall_const, ix2_1]
    exact q ⟨1 + r1, 1 + r2, false⟩ m3 ⟨by show 1 + r1 = 1 ∨ 1 + r1 = 2; omega, by show 1 ≤ 1 + r2; omega, by show 1 + r2 ≤ 4; omega⟩ hf
theorem cat_nil (hl : R.length ≤ 100) : fAdd (.tup (R.map rowD)) (.tup [.tup []]) m = some (.tup ((R ++ [[]]).map rowD), m) := by
  rw [e_addT (by simp; omega)]
  simp [rowD]
theorem e_rep (k : Int) (h : -1000 ≤ k ∧ k ≤ 1000) : fRep (.tup [.tup []]) (.int k) m = some (.tup ((List.replicate k.toNat ([] : List Int)).map rowD), m) := by
  simp only [fRep, h.1, h.2, decide_true, Bool.and_self, List.length_cons, List.length_nil, if_true]
  have e : (List.replicate k.toNat [D.tup []]).flatten = (List.replicate k.toNat ([] : List Int)).map rowD := by
    rw [List.map_replicate]
    simp [rowD]
  rw [e]
  rfl
theorem no_fr {Q : D × M → Prop} (t : TOk T) (q : Q (.tup ((List.replicate T.S.toNat ([] : List Int)).map rowD), m)) : wp (f_no_lines [toldD T] m) Q := by
  have h1 : -1000 ≤ T.S ∧ T.S ≤ 1000 := by rcases t.s with h | h <;> omega
  unfold f_no_lines b_no_lines toldD
  simp only [w_some, w_var, w_c, w_op, w_un, w_anil, w_acons, w_fn (f := fLen), w_fn (f := fInt), w_fn (f := fAbs), w_fn (f := fMax2), w_fn (f := fMin2), w_fn (f := fBool), w_fn (f := fTuple), w_fn (f := fDictM), w_fn (f := fTupP), w_fn (f := fDictP), w_fn (f := fSrTup), w_fn (f := fLenD), w_tup, w_lst, w_lstM, isB_bl, w_test, w_cand, w_cor, w_cnot, w_if, w_tru, w_and, w_or, w_not, w_chain, w_chain3, isR_ref, isI_ins, isD_dct, isL_lst, w_fld, w_lm, w_dm, w_disp, w_dnil, w_dcons, w_nil, w_retN, w_break, w_cont, nxt_nx, nxt_rt, nxt_bk, nxt_ct, w_seq, w_set, w_drop, w_ret, w_sif, w_asg, w_gN, w_gT, w_gsnil, w_gscons, w_gdput, w_dput, isN_int, w_lput, w_par, w_aug, w_flds, w_flda, gives_rt, gives_nx, w_fnb, w_range1, w_range2, isS_lst, isS_rol, isS_tup, w_iseq, w_dnew, w_dc, w_mul, w_div, w_mod, w_tupP, w_dget2, w_srit, e_tupP, e_tupleL, e_tupleT, e_addPI, e_isN_non, e_isN_ptp, e_notN_non, e_notN_ptp, w_par3, w_ixptp, e_lenptp, isS_ptp, e_min2', w_for, w_iseq, e_add, e_addI, e_sub, e_cmp, e_eqI, e_neI, e_eqS, e_neS, e_eqB, e_neB, e_abs, e_int, e_max2, e_truB, e_truI, w_dget, w_ixref, w_ixlst, w_ixrol, w_ixtup, w_dref, isK_dct, isK_dctL, reduceCtorEq, false_implies, true_implies, Bool.false_eq_true, Bool.true_eq_false, e_lenlst, e_lenrol, e_lentup, w_lenref, w_ite, getS, setS, keyD, List.map_cons, List.map_nil, List.cons_append, List.nil_append, List.length_cons, List.length_nil, List.replicate, Nat.reduceSub, Nat.reduceAdd, Nat.reduceLeDiff, Nat.reduceLT, List.set_cons_zero, List.set_cons_succ, decide_eq_true_eq, decide_eq_false_iff_not, Bool.not_eq_true', Bool.not_eq_false', true_and, and_true, forall_const, ix3_0, e_rep _ h1]
  exact q
theorem lB3_wp {ns : List Int} (t : TOk T) (ht : Tape m) (v : Valid T R) (q : ∀ m', Fr m m' → Q (.nx, Z ns T (some (.tup (R.map rowD))) none none none none none none none none, m')) :
    wp (lB3 (Z ns T (some (.tup (R.map rowD))) none none none none none none none none) m) Q := by
  have hS := pos_S t
  have hlen := rows_len t v
  have h1 : -1000 ≤ T.S ∧ T.S ≤ 1000 := by rcases t.s with h | h <;> omega
  have h2 : -1000 ≤ T.S - 1 ∧ T.S - 1 ≤ 1000 := by omega
  unfold lB3 Z
  simp only [w_some, w_var, w_c, w_op, w_un, w_anil, w_acons, w_fn (f := fLen), w_fn (f := fInt), w_fn (f := fAbs), w_fn (f := fMax2), w_fn (f := fMin2), w_fn (f := fBool), w_fn (f := fTuple), w_fn (f := fDictM), w_fn (f := fTupP), w_fn (f := fDictP), w_fn (f := fSrTup), w_fn (f := fLenD), w_tup, w_lst, w_lstM, isB_bl, w_test, w_cand, w_cor, w_cnot, w_if, w_tru, w_and, w_or, w_not, w_chain, w_chain3, isR_ref, isI_ins, isD_dct, isL_lst, w_fld, w_lm, w_dm, w_disp, w_dnil, w_dcons, w_nil, w_retN, w_break, w_cont, nxt_nx, nxt_rt, nxt_bk, nxt_ct, w_seq, w_set, w_drop, w_ret, w_sif, w_asg, w_gN, w_gT, w_gsnil, w_gscons, w_gdput, w_dput, isN_int, w_lput, w_par, w_aug, w_flds, w_flda, gives_rt, gives_nx, w_fnb, w_range1, w_range2, isS_lst, isS_rol, isS_tup, w_iseq, w_dnew, w_dc, w_mul, w_div, w_mod, w_tupP, w_dget2, w_srit, e_tupP, e_tupleL, e_tupleT, e_addPI, e_isN_non, e_isN_ptp, e_notN_non, e_notN_ptp, w_par3, w_ixptp, e_lenptp, isS_ptp, e_min2', w_for, w_iseq, e_add, e_addI, e_sub, e_cmp, e_eqI, e_neI, e_eqS, e_neS, e_eqB, e_neB, e_abs, e_int, e_max2, e_truB, e_truI, w_dget, w_ixref, w_ixlst, w_ixrol, w_ixtup, w_dref, isK_dct, isK_dctL, reduceCtorEq, false_implies, true_implies, Bool.false_eq_true, Bool.true_eq_false, e_lenlst, e_lenrol, e_lentup, w_lenref, w_ite, getS, setS, keyD, List.map_cons, List.map_nil, List.cons_append, List.nil_append, List.length_cons, List.length_nil, List.replicate, Nat.reduceSub, Nat.reduceAdd, Nat.reduceLeDiff, Nat.reduceLT, List.set_cons_zero, List.set_cons_succ, decide_eq_true_eq, decide_eq_false_iff_not, Bool.not_eq_true', Bool.not_eq_false', true_and, and_true, forall_const, w_fn (f := f_is_start), w_fn (f := f_no_lines)]
  refine start_fr t ht v fun m1 f1 => ?_
  simp only [w_some, w_var, w_c, w_op, w_un, w_anil, w_acons, w_fn (f := fLen), w_fn (f := fInt), w_fn (f := fAbs), w_fn (f := fMax2), w_fn (f := fMin2), w_fn (f := fBool), w_fn (f := fTuple), w_fn (f := fDictM), w_fn (f := fTupP), w_fn (f := fDictP), w_fn (f := fSrTup), w_fn (f := fLenD), w_tup, w_lst, w_lstM, isB_bl, w_test, w_cand, w_cor, w_cnot, w_if, w_tru, w_and, w_or, w_not, w_chain, w_chain3, isR_ref, isI_ins, isD_dct, isL_lst, w_fld, w_lm, w_dm, w_disp, w_dnil, w_dcons, w_nil, w_retN, w_break, w_cont, nxt_nx, nxt_rt, nxt_bk, nxt_ct, w_seq, w_set, w_drop, w_ret, w_sif, w_asg, w_gN, w_gT, w_gsnil, w_gscons, w_gdput, w_dput, isN_int, w_lput, w_par, w_aug, w_flds, w_flda, gives_rt, gives_nx, w_fnb, w_range1, w_range2, isS_lst, isS_rol, isS_tup, w_iseq, w_dnew, w_dc, w_mul, w_div, w_mod, w_tupP, w_dget2, w_srit, e_tupP, e_tupleL, e_tupleT, e_addPI, e_isN_non, e_isN_ptp, e_notN_non, e_notN_ptp, w_par3, w_ixptp, e_lenptp, isS_ptp, e_min2', w_for, w_iseq, e_add, e_addI, e_sub, e_cmp, e_eqI, e_neI, e_eqS, e_neS, e_eqB, e_neB, e_abs, e_int, e_max2, e_truB, e_truI, w_dget, w_ixref, w_ixlst, w_ixrol, w_ixtup, w_dref, isK_dct, isK_dctL, reduceCtorEq, false_implies, true_implies, Bool.false_eq_true, Bool.true_eq_false, e_lenlst, e_lenrol, e_lentup, w_lenref, w_ite, getS, setS, keyD, List.map_cons, List.map_nil, List.cons_append, List.nil_append, List.length_cons, List.length_nil, List.replicate, Nat.reduceSub, Nat.reduceAdd, Nat.reduceLeDiff, Nat.reduceLT, List.set_cons_zero, List.set_cons_succ, decide_eq_true_eq, decide_eq_false_iff_not, Bool.not_eq_true', Bool.not_eq_false', true_and, and_true, forall_const, Bool.not_true, cat_nil hlen]
  refine start_len (by have := v.len; simp; omega) ?_
  simp only [w_some, w_var, w_c, w_op, w_un, w_anil, w_acons, w_fn (f := fLen), w_fn (f := fInt), w_fn (f := fAbs), w_fn (f := fMax2), w_fn (f := fMin2), w_fn (f := fBool), w_fn (f := fTuple), w_fn (f := fDictM), w_fn (f := fTupP), w_fn (f := fDictP), w_fn (f := fSrTup), w_fn (f := fLenD), w_tup, w_lst, w_lstM, isB_bl, w_test, w_cand, w_cor, w_cnot, w_if, w_tru, w_and, w_or, w_not, w_chain, w_chain3, isR_ref, isI_ins, isD_dct, isL_lst, w_fld, w_lm, w_dm, w_disp, w_dnil, w_dcons, w_nil, w_retN, w_break, w_cont, nxt_nx, nxt_rt, nxt_bk, nxt_ct, w_seq, w_set, w_drop, w_ret, w_sif, w_asg, w_gN, w_gT, w_gsnil, w_gscons, w_gdput, w_dput, isN_int, w_lput, w_par, w_aug, w_flds, w_flda, gives_rt, gives_nx, w_fnb, w_range1, w_range2, isS_lst, isS_rol, isS_tup, w_iseq, w_dnew, w_dc, w_mul, w_div, w_mod, w_tupP, w_dget2, w_srit, e_tupP, e_tupleL, e_tupleT, e_addPI, e_isN_non, e_isN_ptp, e_notN_non, e_notN_ptp, w_par3, w_ixptp, e_lenptp, isS_ptp, e_min2', w_for, w_iseq, e_add, e_addI, e_sub, e_cmp, e_eqI, e_neI, e_eqS, e_neS, e_eqB, e_neB, e_abs, e_int, e_max2, e_truB, e_truI, w_dget, w_ixref, w_ixlst, w_ixrol, w_ixtup, w_dref, isK_dct, isK_dctL, reduceCtorEq, false_implies, true_implies, Bool.false_eq_true, Bool.true_eq_false, e_lenlst, e_lenrol, e_lentup, w_lenref, w_ite, getS, setS, keyD, List.map_cons, List.map_nil, List.cons_append, List.nil_append, List.length_cons, List.length_nil, List.replicate, Nat.reduceSub, Nat.reduceAdd, Nat.reduceLeDiff, Nat.reduceLT, List.set_cons_zero, List.set_cons_succ, decide_eq_true_eq, decide_eq_false_iff_not, Bool.not_eq_true', Bool.not_eq_false', true_and, and_true, forall_const]
  refine no_fr t ?_
  unfold toldD
  simp only [w_some, w_var, w_c, w_op, w_un, w_anil, w_acons, w_fn (f := fLen), w_fn (f := fInt), w_fn (f := fAbs), w_fn (f := fMax2), w_fn (f := fMin2), w_fn (f := fBool), w_fn (f := fTuple), w_fn (f := fDictM), w_fn (f := fTupP), w_fn (f := fDictP), w_fn (f := fSrTup), w_fn (f := fLenD), w_tup, w_lst, w_lstM, isB_bl, w_test, w_cand, w_cor, w_cnot, w_if, w_tru, w_and, w_or, w_not, w_chain, w_chain3, isR_ref, isI_ins, isD_dct, isL_lst, w_fld, w_lm, w_dm, w_disp, w_dnil, w_dcons, w_nil, w_retN, w_break, w_cont, nxt_nx, nxt_rt, nxt_bk, nxt_ct, w_seq, w_set, w_drop, w_ret, w_sif, w_asg, w_gN, w_gT, w_gsnil, w_gscons, w_gdput, w_dput, isN_int, w_lput, w_par, w_aug, w_flds, w_flda, gives_rt, gives_nx, w_fnb, w_range1, w_range2, isS_lst, isS_rol, isS_tup, w_iseq, w_dnew, w_dc, w_mul, w_div, w_mod, w_tupP, w_dget2, w_srit, e_tupP, e_tupleL, e_tupleT, e_addPI, e_isN_non, e_isN_ptp, e_notN_non, e_notN_ptp, w_par3, w_ixptp, e_lenptp, isS_ptp, e_min2', w_for, w_iseq, e_add, e_addI, e_sub, e_cmp, e_eqI, e_neI, e_eqS, e_neS, e_eqB, e_neB, e_abs, e_int, e_max2, e_truB, e_truI, w_dget, w_ixref, w_ixlst, w_ixrol, w_ixtup, w_dref, isK_dct, isK_dctL, reduceCtorEq, false_implies, true_implies, Bool.false_eq_true, Bool.true_eq_false, e_lenlst, e_lenrol, e_lentup, w_lenref, w_ite, getS, setS, keyD, List.map_cons, List.map_nil, List.cons_append, List.nil_append, List.length_cons, List.length_nil, List.replicate, Nat.reduceSub, Nat.reduceAdd, Nat.reduceLeDiff, Nat.reduceLT, List.set_cons_zero, List.set_cons_succ, decide_eq_true_eq, decide_eq_false_iff_not, Bool.not_eq_true', Bool.not_eq_false', true_and, and_true, forall_const, ix3_0, e_rep _ h1, ne_rows]
  have fin : ∀ m1, Fr m m1 → wp (fAdd (.tup [.tup [.int 0, .int 0]]) (.tup ((List.replicate (T.S - 1).toNat ([] : List Int)).map rowD)) m1) fun q' => wp (f_is_start [toldD T, q'.1] q'.2) fun p => wp (truD p.1 p.2) fun c => (c = true → Q (.rt (.bl false), Z ns T (some (.tup (R.map rowD))) none none none none none none none none, p.2)) ∧ (c = false → Q (.nx, Z ns T (some (.tup (R.map rowD))) none none none none none none none none, p.2)) := by
    intro m1 f1
    rw [e_addT (by simp; omega), w_some]
    have e : [D.tup [.int 0, .int 0]] ++ (List.replicate (T.S - 1).toNat ([] : List Int)).map rowD = ([0, 0] :: List.replicate (T.S - 1).toNat ([] : List Int)).map rowD := rfl
    rw [e]
    refine start_bad (by simp; omega) (by decide) hS (by simp [rowBad, dedD, putD]) fun G => ?_
    simp only [w_some, w_var, w_c, w_op, w_un, w_anil, w_acons, w_fn (f := fLen), w_fn (f := fInt), w_fn (f := fAbs), w_fn (f := fMax2), w_fn (f := fMin2), w_fn (f := fBool), w_fn (f := fTuple), w_fn (f := fDictM), w_fn (f := fTupP), w_fn (f := fDictP), w_fn (f := fSrTup), w_fn (f := fLenD), w_tup, w_lst, w_lstM, isB_bl, w_test, w_cand, w_cor, w_cnot, w_if, w_tru, w_and, w_or, w_not, w_chain, w_chain3, isR_ref, isI_ins, isD_dct, isL_lst, w_fld, w_lm, w_dm, w_disp, w_dnil, w_dcons, w_nil, w_retN, w_break, w_cont, nxt_nx, nxt_rt, nxt_bk, nxt_ct, w_seq, w_set, w_drop, w_ret, w_sif, w_asg, w_gN, w_gT, w_gsnil, w_gscons, w_gdput, w_dput, isN_int, w_lput, w_par, w_aug, w_flds, w_flda, gives_rt, gives_nx, w_fnb, w_range1, w_range2, isS_lst, isS_rol, isS_tup, w_iseq, w_dnew, w_dc, w_mul, w_div, w_mod, w_tupP, w_dget2, w_srit, e_tupP, e_tupleL, e_tupleT, e_addPI, e_isN_non, e_isN_ptp, e_notN_non, e_notN_ptp, w_par3, w_ixptp, e_lenptp, isS_ptp, e_min2', w_for, w_iseq, e_add, e_addI, e_sub, e_cmp, e_eqI, e_neI, e_eqS, e_neS, e_eqB, e_neB, e_abs, e_int, e_max2, e_truB, e_truI, w_dget, w_ixref, w_ixlst, w_ixrol, w_ixtup, w_dref, isK_dct, isK_dctL, reduceCtorEq, false_implies, true_implies, Bool.false_eq_true, Bool.true_eq_false, e_lenlst, e_lenrol, e_lentup, w_lenref, w_ite, getS, setS, keyD, List.map_cons, List.map_nil, List.cons_append, List.nil_append, List.length_cons, List.length_nil, List.replicate, Nat.reduceSub, Nat.reduceAdd, Nat.reduceLeDiff, Nat.reduceLT, List.set_cons_zero, List.set_cons_succ, decide_eq_true_eq, decide_eq_false_iff_not, Bool.not_eq_true', Bool.not_eq_false', true_and, and_true, forall_const]
    exact q _ (f1.trans (Fr.app f1.tape G))
  refine ⟨fun h2s => ?_, fun _ => ?_⟩
  · refine start_bad (T := T) (r0 := [1]) (rest := [[]]) (by simp; omega) (by decide) hS (by simp [rowBad, h2s]) fun G => ?_
    simp only [w_some, w_var, w_c, w_op, w_un, w_anil, w_acons, w_fn (f := fLen), w_fn (f := fInt), w_fn (f := fAbs), w_fn (f := fMax2), w_fn (f := fMin2), w_fn (f := fBool), w_fn (f := fTuple), w_fn (f := fDictM), w_fn (f := fTupP), w_fn (f := fDictP), w_fn (f := fSrTup), w_fn (f := fLenD), w_tup, w_lst, w_lstM, isB_bl, w_test, w_cand, w_cor, w_cnot, w_if, w_tru, w_and, w_or, w_not, w_chain, w_chain3, isR_ref, isI_ins, isD_dct, isL_lst, w_fld, w_lm, w_dm, w_disp, w_dnil, w_dcons, w_nil, w_retN, w_break, w_cont, nxt_nx, nxt_rt, nxt_bk, nxt_ct, w_seq, w_set, w_drop, w_ret, w_sif, w_asg, w_gN, w_gT, w_gsnil, w_gscons, w_gdput, w_dput, isN_int, w_lput, w_par, w_aug, w_flds, w_flda, gives_rt, gives_nx, w_fnb, w_range1, w_range2, isS_lst, isS_rol, isS_tup, w_iseq, w_dnew, w_dc, w_mul, w_div, w_mod, w_tupP, w_dget2, w_srit, e_tupP, e_tupleL, e_tupleT, e_addPI, e_isN_non, e_isN_ptp, e_notN_non, e_notN_ptp, w_par3, w_ixptp, e_lenptp, isS_ptp, e_min2', w_for, w_iseq, e_add, e_addI, e_sub, e_cmp, e_eqI, e_neI, e_eqS, e_neS, e_eqB, e_neB, e_abs, e_int, e_max2, e_truB, e_truI, w_dget, w_ixref, w_ixlst, w_ixrol, w_ixtup, w_dref, isK_dct, isK_dctL, reduceCtorEq, false_implies, true_implies, Bool.false_eq_true, Bool.true_eq_false, e_lenlst, e_lenrol, e_lentup, w_lenref, w_ite, getS, setS, keyD, List.map_cons, List.map_nil, List.cons_append, List.nil_append, List.length_cons, List.length_nil, List.replicate, Nat.reduceSub, Nat.reduceAdd, Nat.reduceLeDiff, Nat.reduceLT, List.set_cons_zero, List.set_cons_succ, decide_eq_true_eq, decide_eq_false_iff_not, Bool.not_eq_true', Bool.not_eq_false', true_and, and_true, forall_const, e_rep _ h2]
    exact fin _ (f1.trans (Fr.app f1.tape G))
  · simp only [w_some, w_var, w_c, w_op, w_un, w_anil, w_acons, w_fn (f := fLen), w_fn (f := fInt), w_fn (f := fAbs), w_fn (f := fMax2), w_fn (f := fMin2), w_fn (f := fBool), w_fn (f := fTuple), w_fn (f := fDictM), w_fn (f := fTupP), w_fn (f := fDictP), w_fn (f := fSrTup), w_fn (f := fLenD), w_tup, w_lst, w_lstM, isB_bl, w_test, w_cand, w_cor, w_cnot, w_if, w_tru, w_and, w_or, w_not, w_chain, w_chain3, isR_ref, isI_ins, isD_dct, isL_lst, w_fld, w_lm, w_dm, w_disp, w_dnil, w_dcons, w_nil, w_retN, w_break, w_cont, nxt_nx, nxt_rt, nxt_bk, nxt_ct, w_seq, w_set, w_drop, w_ret, w_sif, w_asg, w_gN, w_gT, w_gsnil, w_gscons, w_gdput, w_dput, isN_int, w_lput, w_par, w_aug, w_flds, w_flda, gives_rt, gives_nx, w_fnb, w_range1, w_range2, isS_lst, isS_rol, isS_tup, w_iseq, w_dnew, w_dc, w_mul, w_div, w_mod, w_tupP, w_dget2, w_srit, e_tupP, e_tupleL, e_tupleT, e_addPI, e_isN_non, e_isN_ptp, e_notN_non, e_notN_ptp, w_par3, w_ixptp, e_lenptp, isS_ptp, e_min2', w_for, w_iseq, e_add, e_addI, e_sub, e_cmp, e_eqI, e_neI, e_eqS, e_neS, e_eqB, e_neB, e_abs, e_int, e_max2, e_truB, e_truI, w_dget, w_ixref, w_ixlst, w_ixrol, w_ixtup, w_dref, isK_dct, isK_dctL, reduceCtorEq, false_implies, true_implies, Bool.false_eq_true, Bool.true_eq_false, e_lenlst, e_lenrol, e_lentup, w_lenref, w_ite, getS, setS, keyD, List.map_cons, List.map_nil, List.cons_append, List.nil_append, List.length_cons, List.length_nil, List.replicate, Nat.reduceSub, Nat.reduceAdd, Nat.reduceLeDiff, Nat.reduceLT, List.set_cons_zero, List.set_cons_succ, decide_eq_true_eq, decide_eq_false_iff_not, Bool.not_eq_true', Bool.not_eq_false', true_and, and_true, forall_const, e_rep _ h2]
    exact fin m1 f1
theorem e_listM {xs : List D} : fListM [.tup xs] m = some (.ref m.length, m ++ [.lst xs]) := rfl
theorem lB5_wp {ns : List Int} (t : TOk T) (ht : Tape m) (v1 : Valid T R1) (v2 : Valid T R2) (q : ∀ b m', St m' T b R1 R2 R1 R2 → Q (.nx, Z ns T (some (.tup (R1.map rowD))) (some (.tup (R2.map rowD))) (some (.ref b)) (some (.ref (b + 2))) (some (.ref (b + 4))) (some (.ref (b + 5))) none none none, m')) :
    wp (lB5 (Z ns T (some (.tup (R1.map rowD))) (some (.tup (R2.map rowD))) none none none none none none none) m) Q := by
  unfold lB5 Z
  simp only [w_some, w_var, w_c, w_op, w_un, w_anil, w_acons, w_fn (f := fLen), w_fn (f := fInt), w_fn (f := fAbs), w_fn (f := fMax2), w_fn (f := fMin2), w_fn (f := fBool), w_fn (f := fTuple), w_fn (f := fDictM), w_fn (f := fTupP), w_fn (f := fDictP), w_fn (f := fSrTup), w_fn (f := fLenD), w_tup, w_lst, w_lstM, isB_bl, w_test, w_cand, w_cor, w_cnot, w_if, w_tru, w_and, w_or, w_not, w_chain, w_chain3, isR_ref, isI_ins, isD_dct, isL_lst, w_fld, w_lm, w_dm, w_disp, w_dnil, w_dcons, w_nil, w_retN, w_break, w_cont, nxt_nx, nxt_rt, nxt_bk, nxt_ct, w_seq, w_set, w_drop, w_ret, w_sif, w_asg, w_gN, w_gT, w_gsnil, w_gscons, w_gdput, w_dput, isN_int, w_lput, w_par, w_aug, w_flds, w_flda, gives_rt, gives_nx, w_fnb, w_range1, w_range2, isS_lst, isS_rol, isS_tup, w_iseq, w_dnew, w_dc, w_mul, w_div, w_mod, w_tupP, w_dget2, w_srit, e_tupP, e_tupleL, e_tupleT, e_addPI, e_isN_non, e_isN_ptp, e_notN_non, e_notN_ptp, w_par3, w_ixptp, e_lenptp, isS_ptp, e_min2', w_for, w_iseq, e_add, e_addI, e_sub, e_cmp, e_eqI, e_neI, e_eqS, e_neS, e_eqB, e_neB, e_abs, e_int, e_max2, e_truB, e_truI, w_dget, w_ixref, w_ixlst, w_ixrol, w_ixtup, w_dref, isK_dct, isK_dctL, reduceCtorEq, false_implies, true_implies, Bool.false_eq_true, Bool.true_eq_false, e_lenlst, e_lenrol, e_lentup, w_lenref, w_ite, getS, setS, keyD, List.map_cons, List.map_nil, List.cons_append, List.nil_append, List.length_cons, List.length_nil, List.replicate, Nat.reduceSub, Nat.reduceAdd, Nat.reduceLeDiff, Nat.reduceLT, List.set_cons_zero, List.set_cons_succ, decide_eq_true_eq, decide_eq_false_iff_not, Bool.not_eq_true', Bool.not_eq_false', true_and, and_true, forall_const, w_fn (f := fListM)]
  refine make_wp (T := T) (rows := R1) (wp_of (by simp only [w_some, w_var, w_c, w_op, w_un, w_anil, w_acons, w_fn (f := fLen), w_fn (f := fInt), w_fn (f := fAbs), w_fn (f := fMax2), w_fn (f := fMin2), w_fn (f := fBool), w_fn (f := fTuple), w_fn (f := fDictM), w_fn (f := fTupP), w_fn (f := fDictP), w_fn (f := fSrTup), w_fn (f := fLenD), w_tup, w_lst, w_lstM, isB_bl, w_test, w_cand, w_cor, w_cnot, w_if, w_tru, w_and, w_or, w_not, w_chain, w_chain3, isR_ref, isI_ins, isD_dct, isL_lst, w_fld, w_lm, w_dm, w_disp, w_dnil, w_dcons, w_nil, w_retN, w_break, w_cont, nxt_nx, nxt_rt, nxt_bk, nxt_ct, w_seq, w_set, w_drop, w_ret, w_sif, w_asg, w_gN, w_gT, w_gsnil, w_gscons, w_gdput, w_dput, isN_int, w_lput, w_par, w_aug, w_flds, w_flda, gives_rt, gives_nx, w_fnb, w_range1, w_range2, isS_lst, isS_rol, isS_tup, w_iseq, w_dnew, w_dc, w_mul, w_div, w_mod, w_tupP, w_dget2, w_srit, e_tupP, e_tupleL, e_tupleT, e_addPI, e_isN_non, e_isN_ptp, e_notN_non, e_notN_ptp, w_par3, w_ixptp, e_lenptp, isS_ptp, e_min2', w_for, w_iseq, e_add, e_addI, e_sub, e_cmp, e_eqI, e_neI, e_eqS, e_neS, e_eqB, e_neB, e_abs, e_int, e_max2, e_truB, e_truI, w_dget, w_ixref, w_ixlst, w_ixrol, w_ixtup, w_dref, isK_dct, isK_dctL, reduceCtorEq, false_implies, true_implies, Bool.false_eq_true, Bool.true_eq_false, e_lenlst, e_lenrol, e_lentup, w_lenref, w_ite, getS, setS, keyD, List.map_cons, List.map_nil, List.cons_append, List.nil_append, List.length_cons, List.length_nil, List.replicate, Nat.reduceSub, Nat.reduceAdd, Nat.reduceLeDiff, Nat.reduceLT, List.set_cons_zero, List.set_cons_succ, decide_eq_true_eq, decide_eq_false_iff_not, Bool.not_eq_true', Bool.not_eq_false', true_and, and_true, forall_const])) (rows_len t v1) ?_
  simp only
  refine make_wp (T := T) (rows := R2) (wp_of (by simp only [w_some, w_var, w_c, w_op, w_un, w_anil, w_acons, w_fn (f := fLen), w_fn (f := fInt), w_fn (f := fAbs), w_fn (f := fMax2), w_fn (f := fMin2), w_fn (f := fBool), w_fn (f := fTuple), w_fn (f := fDictM), w_fn (f := fTupP), w_fn (f := fDictP), w_fn (f := fSrTup), w_fn (f := fLenD), w_tup, w_lst, w_lstM, isB_bl, w_test, w_cand, w_cor, w_cnot, w_if, w_tru, w_and, w_or, w_not, w_chain, w_chain3, isR_ref, isI_ins, isD_dct, isL_lst, w_fld, w_lm, w_dm, w_disp, w_dnil, w_dcons, w_nil, w_retN, w_break, w_cont, nxt_nx, nxt_rt, nxt_bk, nxt_ct, w_seq, w_set, w_drop, w_ret, w_sif, w_asg, w_gN, w_gT, w_gsnil, w_gscons, w_gdput, w_dput, isN_int, w_lput, w_par, w_aug, w_flds, w_flda, gives_rt, gives_nx, w_fnb, w_range1, w_range2, isS_lst, isS_rol, isS_tup, w_iseq, w_dnew, w_dc, w_mul, w_div, w_mod, w_tupP, w_dget2, w_srit, e_tupP, e_tupleL, e_tupleT, e_addPI, e_isN_non, e_isN_ptp, e_notN_non, e_notN_ptp, w_par3, w_ixptp, e_lenptp, isS_ptp, e_min2', w_for, w_iseq, e_add, e_addI, e_sub, e_cmp, e_eqI, e_neI, e_eqS, e_neS, e_eqB, e_neB, e_abs, e_int, e_max2, e_truB, e_truI, w_dget, w_ixref, w_ixlst, w_ixrol, w_ixtup, w_dref, isK_dct, isK_dctL, reduceCtorEq, false_implies, true_implies, Bool.false_eq_true, Bool.true_eq_false, e_lenlst, e_lenrol, e_lentup, w_lenref, w_ite, getS, setS, keyD, List.map_cons, List.map_nil, List.cons_append, List.nil_append, List.length_cons, List.length_nil, List.replicate, Nat.reduceSub, Nat.reduceAdd, Nat.reduceLeDiff, Nat.reduceLT, List.set_cons_zero, List.set_cons_succ, decide_eq_true_eq, decide_eq_false_iff_not, Bool.not_eq_true', Bool.not_eq_false', true_and, and_true, forall_const])) (rows_len t v2) ?_
  simp only [w_some, w_var, w_c, w_op, w_un, w_anil, w_acons, w_fn (f := fLen), w_fn (f := fInt), w_fn (f := fAbs), w_fn (f := fMax2), w_fn (f := fMin2), w_fn (f := fBool), w_fn (f := fTuple), w_fn (f := fDictM), w_fn (f := fTupP), w_fn (f := fDictP), w_fn (f := fSrTup), w_fn (f := fLenD), w_tup, w_lst, w_lstM, isB_bl, w_test, w_cand, w_cor, w_cnot, w_if, w_tru, w_and, w_or, w_not, w_chain, w_chain3, isR_ref, isI_ins, isD_dct, isL_lst, w_fld, w_lm, w_dm, w_disp, w_dnil, w_dcons, w_nil, w_retN, w_break, w_cont, nxt_nx, nxt_rt, nxt_bk, nxt_ct, w_seq, w_set, w_drop, w_ret, w_sif, w_asg, w_gN, w_gT, w_gsnil, w_gscons, w_gdput, w_dput, isN_int, w_lput, w_par, w_aug, w_flds, w_flda, gives_rt, gives_nx, w_fnb, w_range1, w_range2, isS_lst, isS_rol, isS_tup, w_iseq, w_dnew, w_dc, w_mul, w_div, w_mod, w_tupP, w_dget2, w_srit, e_tupP, e_tupleL, e_tupleT, e_addPI, e_isN_non, e_isN_ptp, e_notN_non, e_notN_ptp, w_par3, w_ixptp, e_lenptp, isS_ptp, e_min2', w_for, w_iseq, e_add, e_addI, e_sub, e_cmp, e_eqI, e_neI, e_eqS, e_neS, e_eqB, e_neB, e_abs, e_int, e_max2, e_truB, e_truI, w_dget, w_ixref, w_ixlst, w_ixrol, w_ixtup, w_dref, isK_dct, isK_dctL, reduceCtorEq, false_implies, true_implies, Bool.false_eq_true, Bool.true_eq_false, e_lenlst, e_lenrol, e_lentup, w_lenref, w_ite, getS, setS, keyD, List.map_cons, List.map_nil, List.cons_append, List.nil_append, List.length_cons, List.length_nil, List.replicate, Nat.reduceSub, Nat.reduceAdd, Nat.reduceLeDiff, Nat.reduceLT, List.set_cons_zero, List.set_cons_succ, decide_eq_true_eq, decide_eq_false_iff_not, Bool.not_eq_true', Bool.not_eq_false', true_and, and_true, forall_const, e_listM, len_app1]
  refine q m.length _ ⟨?_, ⟨?_, ?_⟩, ⟨?_, ?_⟩, ?_, ?_, ht.lt⟩
  · exact (((((ht.app _).app _).app _).app _).app _).app _
  · simp
  · simp
  · simp
  · simp
  · simp
  · simp
theorem lB6_wp {ns : List Int} {x5 x6 x7 x8 : Option D} (t : TOk T) (ht : Tape m) (v1 : Valid T R1) (v2 : Valid T R2) (r1 : R10 R1) (r2 : R10 R2)
    (q : ∀ m', Fr m m' → Q (.nx, Z ns T (some (.tup (R1.map rowD))) (some (.tup (R2.map rowD))) x5 x6 x7 x8 (some (knD (ofCacheP T R1))) (some (knD ([], none))) (some (knD (joinP (ofCacheP T R1) (ofCacheP T R2)))), m')) :
    wp (lB6 (Z ns T (some (.tup (R1.map rowD))) (some (.tup (R2.map rowD))) x5 x6 x7 x8 none none none) m) Q := by
  unfold lB6 Z
  simp only [w_some, w_var, w_c, w_op, w_un, w_anil, w_acons, w_fn (f := fLen), w_fn (f := fInt), w_fn (f := fAbs), w_fn (f := fMax2), w_fn (f := fMin2), w_fn (f := fBool), w_fn (f := fTuple), w_fn (f := fDictM), w_fn (f := fTupP), w_fn (f := fDictP), w_fn (f := fSrTup), w_fn (f := fLenD), w_tup, w_lst, w_lstM, isB_bl, w_test, w_cand, w_cor, w_cnot, w_if, w_tru, w_and, w_or, w_not, w_chain, w_chain3, isR_ref, isI_ins, isD_dct, isL_lst, w_fld, w_lm, w_dm, w_disp, w_dnil, w_dcons, w_nil, w_retN, w_break, w_cont, nxt_nx, nxt_rt, nxt_bk, nxt_ct, w_seq, w_set, w_drop, w_ret, w_sif, w_asg, w_gN, w_gT, w_gsnil, w_gscons, w_gdput, w_dput, isN_int, w_lput, w_par, w_aug, w_flds, w_flda, gives_rt, gives_nx, w_fnb, w_range1, w_range2, isS_lst, isS_rol, isS_tup, w_iseq, w_dnew, w_dc, w_mul, w_div, w_mod, w_tupP, w_dget2, w_srit, e_tupP, e_tupleL, e_tupleT, e_addPI, e_isN_non, e_isN_ptp, e_notN_non, e_notN_ptp, w_par3, w_ixptp, e_lenptp, isS_ptp, e_min2', w_for, w_iseq, e_add, e_addI, e_sub, e_cmp, e_eqI, e_neI, e_eqS, e_neS, e_eqB, e_neB, e_abs, e_int, e_max2, e_truB, e_truI, w_dget, w_ixref, w_ixlst, w_ixrol, w_ixtup, w_dref, isK_dct, isK_dctL, reduceCtorEq, false_implies, true_implies, Bool.false_eq_true, Bool.true_eq_false, e_lenlst, e_lenrol, e_lentup, w_lenref, w_ite, getS, setS, keyD, List.map_cons, List.map_nil, List.cons_append, List.nil_append, List.length_cons, List.length_nil, List.replicate, Nat.reduceSub, Nat.reduceAdd, Nat.reduceLeDiff, Nat.reduceLT, List.set_cons_zero, List.set_cons_succ, decide_eq_true_eq, decide_eq_false_iff_not, Bool.not_eq_true', Bool.not_eq_false', true_and, and_true, forall_const, w_fn (f := f_of_cache), w_fn (f := f_anything), w_fn (f := f_joined_known)]
  refine of_fr t ht v1 fun m1 f1 => ?_
  refine any_wp ?_
  simp only [w_some, w_var, w_c, w_op, w_un, w_anil, w_acons, w_fn (f := fLen), w_fn (f := fInt), w_fn (f := fAbs), w_fn (f := fMax2), w_fn (f := fMin2), w_fn (f := fBool), w_fn (f := fTuple), w_fn (f := fDictM), w_fn (f := fTupP), w_fn (f := fDictP), w_fn (f := fSrTup), w_fn (f := fLenD), w_tup, w_lst, w_lstM, isB_bl, w_test, w_cand, w_cor, w_cnot, w_if, w_tru, w_and, w_or, w_not, w_chain, w_chain3, isR_ref, isI_ins, isD_dct, isL_lst, w_fld, w_lm, w_dm, w_disp, w_dnil, w_dcons, w_nil, w_retN, w_break, w_cont, nxt_nx, nxt_rt, nxt_bk, nxt_ct, w_seq, w_set, w_drop, w_ret, w_sif, w_asg, w_gN, w_gT, w_gsnil, w_gscons, w_gdput, w_dput, isN_int, w_lput, w_par, w_aug, w_flds, w_flda, gives_rt, gives_nx, w_fnb, w_range1, w_range2, isS_lst, isS_rol, isS_tup, w_iseq, w_dnew, w_dc, w_mul, w_div, w_mod, w_tupP, w_dget2, w_srit, e_tupP, e_tupleL, e_tupleT, e_addPI, e_isN_non, e_isN_ptp, e_notN_non, e_notN_ptp, w_par3, w_ixptp, e_lenptp, isS_ptp, e_min2', w_for, w_iseq, e_add, e_addI, e_sub, e_cmp, e_eqI, e_neI, e_eqS, e_neS, e_eqB, e_neB, e_abs, e_int, e_max2, e_truB, e_truI, w_dget, w_ixref, w_ixlst, w_ixrol, w_ixtup, w_dref, isK_dct, isK_dctL, reduceCtorEq, false_implies, true_implies, Bool.false_eq_true, Bool.true_eq_false, e_lenlst, e_lenrol, e_lentup, w_lenref, w_ite, getS, setS, keyD, List.map_cons, List.map_nil, List.cons_append, List.nil_append, List.length_cons, List.length_nil, List.replicate, Nat.reduceSub, Nat.reduceAdd, Nat.reduceLeDiff, Nat.reduceLT, List.set_cons_zero, List.set_cons_succ, decide_eq_true_eq, decide_eq_false_iff_not, Bool.not_eq_true', Bool.not_eq_false', true_and, and_true, forall_const]
  refine of_fr t f1.tape v1 fun m2 f2 => ?_
  simp only [w_some, w_var, w_c, w_op, w_un, w_anil, w_acons, w_fn (f := fLen), w_fn (f := fInt), w_fn (f := fAbs), w_fn (f := fMax2), w_fn (f := fMin2), w_fn (f := fBool), w_fn (f := fTuple), w_fn (f := fDictM), w_fn (f := fTupP), w_fn (f := fDictP), w_fn (f := fSrTup), w_fn (f := fLenD), w_tup, w_lst, w_lstM, isB_bl, w_test, w_cand, w_cor, w_cnot, w_if, w_tru, w_and, w_or, w_not, w_chain, w_chain3, isR_ref, isI_ins, isD_dct, isL_lst, w_fld, w_lm, w_dm, w_disp, w_dnil, w_dcons, w_nil, w_retN, w_break, w_cont, nxt_nx, nxt_rt, nxt_bk, nxt_ct, w_seq, w_set, w_drop, w_ret, w_sif, w_asg, w_gN, w_gT, w_gsnil, w_gscons, w_gdput, w_dput, isN_int, w_lput, w_par, w_aug, w_flds, w_flda, gives_rt, gives_nx, w_fnb, w_range1, w_range2, isS_lst, isS_rol, isS_tup, w_iseq, w_dnew, w_dc, w_mul, w_div, w_mod, w_tupP, w_dget2, w_srit, e_tupP, e_tupleL, e_tupleT, e_addPI, e_isN_non, e_isN_ptp, e_notN_non, e_notN_ptp, w_par3, w_ixptp, e_lenptp, isS_ptp, e_min2', w_for, w_iseq, e_add, e_addI, e_sub, e_cmp, e_eqI, e_neI, e_eqS, e_neS, e_eqB, e_neB, e_abs, e_int, e_max2, e_truB, e_truI, w_dget, w_ixref, w_ixlst, w_ixrol, w_ixtup, w_dref, isK_dct, isK_dctL, reduceCtorEq, false_implies, true_implies, Bool.false_eq_true, Bool.true_eq_false, e_lenlst, e_lenrol, e_lentup, w_lenref, w_ite, getS, setS, keyD, List.map_cons, List.map_nil, List.cons_append, List.nil_append, List.length_cons, List.length_nil, List.replicate, Nat.reduceSub, Nat.reduceAdd, Nat.reduceLeDiff, Nat.reduceLT, List.set_cons_zero, List.set_cons_succ, decide_eq_true_eq, decide_eq_false_iff_not, Bool.not_eq_true', Bool.not_eq_false', true_and, and_true, forall_const]
  refine of_fr t f2.tape v2 fun m3 f3 => ?_
  simp only [w_some, w_var, w_c, w_op, w_un, w_anil, w_acons, w_fn (f := fLen), w_fn (f := fInt), w_fn (f := fAbs), w_fn (f := fMax2), w_fn (f := fMin2), w_fn (f := fBool), w_fn (f := fTuple), w_fn (f := fDictM), w_fn (f := fTupP), w_fn (f := fDictP), w_fn (f := fSrTup), w_fn (f := fLenD), w_tup, w_lst, w_lstM, isB_bl, w_test, w_cand, w_cor, w_cnot, w_if, w_tru, w_and, w_or, w_not, w_chain, w_chain3, isR_ref, isI_ins, isD_dct, isL_lst, w_fld, w_lm, w_dm, w_disp, w_dnil, w_dcons, w_nil, w_retN, w_break, w_cont, nxt_nx, nxt_rt, nxt_bk, nxt_ct, w_seq, w_set, w_drop, w_ret, w_sif, w_asg, w_gN, w_gT, w_gsnil, w_gscons, w_gdput, w_dput, isN_int, w_lput, w_par, w_aug, w_flds, w_flda, gives_rt, gives_nx, w_fnb, w_range1, w_range2, isS_lst, isS_rol, isS_tup, w_iseq, w_dnew, w_dc, w_mul, w_div, w_mod, w_tupP, w_dget2, w_srit, e_tupP, e_tupleL, e_tupleT, e_addPI, e_isN_non, e_isN_ptp, e_notN_non, e_notN_ptp, w_par3, w_ixptp, e_lenptp, isS_ptp, e_min2', w_for, w_iseq, e_add, e_addI, e_sub, e_cmp, e_eqI, e_neI, e_eqS, e_neS, e_eqB, e_neB, e_abs, e_int, e_max2, e_truB, e_truI, w_dget, w_ixref, w_ixlst, w_ixrol, w_ixtup, w_dref, isK_dct, isK_dctL, reduceCtorEq, false_implies, true_implies, Bool.false_eq_true, Bool.true_eq_false, e_lenlst, e_lenrol, e_lentup, w_lenref, w_ite, getS, setS, keyD, List.map_cons, List.map_nil, List.cons_append, List.nil_append, List.length_cons, List.length_nil, List.replicate, Nat.reduceSub, Nat.reduceAdd, Nat.reduceLeDiff, Nat.reduceLT, List.set_cons_zero, List.set_cons_succ, decide_eq_true_eq, decide_eq_false_iff_not, Bool.not_eq_true', Bool.not_eq_false', true_and, and_true, forall_const]
  refine joined_fr f3.tape (sound_of t v1).good (lim_of t v1 r1) (sound_of t v2).good (lim_of t v2 r2) fun m4 f4 => ?_
  simp only [w_some, w_var, w_c, w_op, w_un, w_anil, w_acons, w_fn (f := fLen), w_fn (f := fInt), w_fn (f := fAbs), w_fn (f := fMax2), w_fn (f := fMin2), w_fn (f := fBool), w_fn (f := fTuple), w_fn (f := fDictM), w_fn (f := fTupP), w_fn (f := fDictP), w_fn (f := fSrTup), w_fn (f := fLenD), w_tup, w_lst, w_lstM, isB_bl, w_test, w_cand, w_cor, w_cnot, w_if, w_tru, w_and, w_or, w_not, w_chain, w_chain3, isR_ref, isI_ins, isD_dct, isL_lst, w_fld, w_lm, w_dm, w_disp, w_dnil, w_dcons, w_nil, w_retN, w_break, w_cont, nxt_nx, nxt_rt, nxt_bk, nxt_ct, w_seq, w_set, w_drop, w_ret, w_sif, w_asg, w_gN, w_gT, w_gsnil, w_gscons, w_gdput, w_dput, isN_int, w_lput, w_par, w_aug, w_flds, w_flda, gives_rt, gives_nx, w_fnb, w_range1, w_range2, isS_lst, isS_rol, isS_tup, w_iseq, w_dnew, w_dc, w_mul, w_div, w_mod, w_tupP, w_dget2, w_srit, e_tupP, e_tupleL, e_tupleT, e_addPI, e_isN_non, e_isN_ptp, e_notN_non, e_notN_ptp, w_par3, w_ixptp, e_lenptp, isS_ptp, e_min2', w_for, w_iseq, e_add, e_addI, e_sub, e_cmp, e_eqI, e_neI, e_eqS, e_neS, e_eqB, e_neB, e_abs, e_int, e_max2, e_truB, e_truI, w_dget, w_ixref, w_ixlst, w_ixrol, w_ixtup, w_dref, isK_dct, isK_dctL, reduceCtorEq, false_implies, true_implies, Bool.false_eq_true, Bool.true_eq_false, e_lenlst, e_lenrol, e_lentup, w_lenref, w_ite, getS, setS, keyD, List.map_cons, List.map_nil, List.cons_append, List.nil_append, List.length_cons, List.length_nil, List.replicate, Nat.reduceSub, Nat.reduceAdd, Nat.reduceLeDiff, Nat.reduceLT, List.set_cons_zero, List.set_cons_succ, decide_eq_true_eq, decide_eq_false_iff_not, Bool.not_eq_true', Bool.not_eq_false', true_and, and_true, forall_const]
  exact q m4 (((f1.trans f2).trans f3).trans f4)
theorem lB7_wp {ns : List Int} {x5 x6 x7 x8 : Option D} (t : TOk T) (ht : Tape m) (v1 : Valid T R1) (v2 : Valid T R2) (r1 : R10 R1) (r2 : R10 R2)
    (q : ∀ m', Fr m m' → Q (.nx, Z ns T (some (.tup (R1.map rowD))) (some (.tup (R2.map rowD))) x5 x6 x7 x8 (some (knD (ofCacheP T R1))) (some (knD ([], none))) (some (knD (joinP (ofCacheP T R1) (ofCacheP T R2)))), m')) :
    wp (lB7 (Z ns T (some (.tup (R1.map rowD))) (some (.tup (R2.map rowD))) x5 x6 x7 x8 (some (knD (ofCacheP T R1))) (some (knD ([], none))) (some (knD (joinP (ofCacheP T R1) (ofCacheP T R2))))) m) Q := by
  have g1 := (sound_of t v1).good
  have g2 := (sound_of t v2).good
  have l1 := lim_of t v1 r1
  have l2 := lim_of t v2 r2
  unfold lB7 Z
  simp only [w_some, w_var, w_c, w_op, w_un, w_anil, w_acons, w_fn (f := fLen), w_fn (f := fInt), w_fn (f := fAbs), w_fn (f := fMax2), w_fn (f := fMin2), w_fn (f := fBool), w_fn (f := fTuple), w_fn (f := fDictM), w_fn (f := fTupP), w_fn (f := fDictP), w_fn (f := fSrTup), w_fn (f := fLenD), w_tup, w_lst, w_lstM, isB_bl, w_test, w_cand, w_cor, w_cnot, w_if, w_tru, w_and, w_or, w_not, w_chain, w_chain3, isR_ref, isI_ins, isD_dct, isL_lst, w_fld, w_lm, w_dm, w_disp, w_dnil, w_dcons, w_nil, w_retN, w_break, w_cont, nxt_nx, nxt_rt, nxt_bk, nxt_ct, w_seq, w_set, w_drop, w_ret, w_sif, w_asg, w_gN, w_gT, w_gsnil, w_gscons, w_gdput, w_dput, isN_int, w_lput, w_par, w_aug, w_flds, w_flda, gives_rt, gives_nx, w_fnb, w_range1, w_range2, isS_lst, isS_rol, isS_tup, w_iseq, w_dnew, w_dc, w_mul, w_div, w_mod, w_tupP, w_dget2, w_srit, e_tupP, e_tupleL, e_tupleT, e_addPI, e_isN_non, e_isN_ptp, e_notN_non, e_notN_ptp, w_par3, w_ixptp, e_lenptp, isS_ptp, e_min2', w_for, w_iseq, e_add, e_addI, e_sub, e_cmp, e_eqI, e_neI, e_eqS, e_neS, e_eqB, e_neB, e_abs, e_int, e_max2, e_truB, e_truI, w_dget, w_ixref, w_ixlst, w_ixrol, w_ixtup, w_dref, isK_dct, isK_dctL, reduceCtorEq, false_implies, true_implies, Bool.false_eq_true, Bool.true_eq_false, e_lenlst, e_lenrol, e_lentup, w_lenref, w_ite, getS, setS, keyD, List.map_cons, List.map_nil, List.cons_append, List.nil_append, List.length_cons, List.length_nil, List.replicate, Nat.reduceSub, Nat.reduceAdd, Nat.reduceLeDiff, Nat.reduceLT, List.set_cons_zero, List.set_cons_succ, decide_eq_true_eq, decide_eq_false_iff_not, Bool.not_eq_true', Bool.not_eq_false', true_and, and_true, forall_const, w_fn (f := f_of_cache), w_fn (f := f_is_known_within), w_fn (f := f__law_holds)]
  refine holds_fr t ht v1 (sound_of t v1) l1 (.inl rfl) fun m1 f1 => ?_
  simp only [w_some, w_var, w_c, w_op, w_un, w_anil, w_acons, w_fn (f := fLen), w_fn (f := fInt), w_fn (f := fAbs), w_fn (f := fMax2), w_fn (f := fMin2), w_fn (f := fBool), w_fn (f := fTuple), w_fn (f := fDictM), w_fn (f := fTupP), w_fn (f := fDictP), w_fn (f := fSrTup), w_fn (f := fLenD), w_tup, w_lst, w_lstM, isB_bl, w_test, w_cand, w_cor, w_cnot, w_if, w_tru, w_and, w_or, w_not, w_chain, w_chain3, isR_ref, isI_ins, isD_dct, isL_lst, w_fld, w_lm, w_dm, w_disp, w_dnil, w_dcons, w_nil, w_retN, w_break, w_cont, nxt_nx, nxt_rt, nxt_bk, nxt_ct, w_seq, w_set, w_drop, w_ret, w_sif, w_asg, w_gN, w_gT, w_gsnil, w_gscons, w_gdput, w_dput, isN_int, w_lput, w_par, w_aug, w_flds, w_flda, gives_rt, gives_nx, w_fnb, w_range1, w_range2, isS_lst, isS_rol, isS_tup, w_iseq, w_dnew, w_dc, w_mul, w_div, w_mod, w_tupP, w_dget2, w_srit, e_tupP, e_tupleL, e_tupleT, e_addPI, e_isN_non, e_isN_ptp, e_notN_non, e_notN_ptp, w_par3, w_ixptp, e_lenptp, isS_ptp, e_min2', w_for, w_iseq, e_add, e_addI, e_sub, e_cmp, e_eqI, e_neI, e_eqS, e_neS, e_eqB, e_neB, e_abs, e_int, e_max2, e_truB, e_truI, w_dget, w_ixref, w_ixlst, w_ixrol, w_ixtup, w_dref, isK_dct, isK_dctL, reduceCtorEq, false_implies, true_implies, Bool.false_eq_true, Bool.true_eq_false, e_lenlst, e_lenrol, e_lentup, w_lenref, w_ite, getS, setS, keyD, List.map_cons, List.map_nil, List.cons_append, List.nil_append, List.length_cons, List.length_nil, List.replicate, Nat.reduceSub, Nat.reduceAdd, Nat.reduceLeDiff, Nat.reduceLT, List.set_cons_zero, List.set_cons_succ, decide_eq_true_eq, decide_eq_false_iff_not, Bool.not_eq_true', Bool.not_eq_false', true_and, and_true, forall_const, Bool.not_true]
  refine within_fr f1.tape g1 l1 (sound_any (T := T) (rows := R1)).good lim_any fun m2 f2 => ?_
  simp only [w_some, w_var, w_c, w_op, w_un, w_anil, w_acons, w_fn (f := fLen), w_fn (f := fInt), w_fn (f := fAbs), w_fn (f := fMax2), w_fn (f := fMin2), w_fn (f := fBool), w_fn (f := fTuple), w_fn (f := fDictM), w_fn (f := fTupP), w_fn (f := fDictP), w_fn (f := fSrTup), w_fn (f := fLenD), w_tup, w_lst, w_lstM, isB_bl, w_test, w_cand, w_cor, w_cnot, w_if, w_tru, w_and, w_or, w_not, w_chain, w_chain3, isR_ref, isI_ins, isD_dct, isL_lst, w_fld, w_lm, w_dm, w_disp, w_dnil, w_dcons, w_nil, w_retN, w_break, w_cont, nxt_nx, nxt_rt, nxt_bk, nxt_ct, w_seq, w_set, w_drop, w_ret, w_sif, w_asg, w_gN, w_gT, w_gsnil, w_gscons, w_gdput, w_dput, isN_int, w_lput, w_par, w_aug, w_flds, w_flda, gives_rt, gives_nx, w_fnb, w_range1, w_range2, isS_lst, isS_rol, isS_tup, w_iseq, w_dnew, w_dc, w_mul, w_div, w_mod, w_tupP, w_dget2, w_srit, e_tupP, e_tupleL, e_tupleT, e_addPI, e_isN_non, e_isN_ptp, e_notN_non, e_notN_ptp, w_par3, w_ixptp, e_lenptp, isS_ptp, e_min2', w_for, w_iseq, e_add, e_addI, e_sub, e_cmp, e_eqI, e_neI, e_eqS, e_neS, e_eqB, e_neB, e_abs, e_int, e_max2, e_truB, e_truI, w_dget, w_ixref, w_ixlst, w_ixrol, w_ixtup, w_dref, isK_dct, isK_dctL, reduceCtorEq, false_implies, true_implies, Bool.false_eq_true, Bool.true_eq_false, e_lenlst, e_lenrol, e_lentup, w_lenref, w_ite, getS, setS, keyD, List.map_cons, List.map_nil, List.cons_append, List.nil_append, List.length_cons, List.length_nil, List.replicate, Nat.reduceSub, Nat.reduceAdd, Nat.reduceLeDiff, Nat.reduceLT, List.set_cons_zero, List.set_cons_succ, decide_eq_true_eq, decide_eq_false_iff_not, Bool.not_eq_true', Bool.not_eq_false', true_and, and_true, forall_const, within_any, Bool.not_true]
  refine within_fr f2.tape g1 l1 (good_join g1 g2) (lim_join l1 l2) fun m3 f3 => ?_
  simp only [w_some, w_var, w_c, w_op, w_un, w_anil, w_acons, w_fn (f := fLen), w_fn (f := fInt), w_fn (f := fAbs), w_fn (f := fMax2), w_fn (f := fMin2), w_fn (f := fBool), w_fn (f := fTuple), w_fn (f := fDictM), w_fn (f := fTupP), w_fn (f := fDictP), w_fn (f := fSrTup), w_fn (f := fLenD), w_tup, w_lst, w_lstM, isB_bl, w_test, w_cand, w_cor, w_cnot, w_if, w_tru, w_and, w_or, w_not, w_chain, w_chain3, isR_ref, isI_ins, isD_dct, isL_lst, w_fld, w_lm, w_dm, w_disp, w_dnil, w_dcons, w_nil, w_retN, w_break, w_cont, nxt_nx, nxt_rt, nxt_bk, nxt_ct, w_seq, w_set, w_drop, w_ret, w_sif, w_asg, w_gN, w_gT, w_gsnil, w_gscons, w_gdput, w_dput, isN_int, w_lput, w_par, w_aug, w_flds, w_flda, gives_rt, gives_nx, w_fnb, w_range1, w_range2, isS_lst, isS_rol, isS_tup, w_iseq, w_dnew, w_dc, w_mul, w_div, w_mod, w_tupP, w_dget2, w_srit, e_tupP, e_tupleL, e_tupleT, e_addPI, e_isN_non, e_isN_ptp, e_notN_non, e_notN_ptp, w_par3, w_ixptp, e_lenptp, isS_ptp, e_min2', w_for, w_iseq, e_add, e_addI, e_sub, e_cmp, e_eqI, e_neI, e_eqS, e_neS, e_eqB, e_neB, e_abs, e_int, e_max2, e_truB, e_truI, w_dget, w_ixref, w_ixlst, w_ixrol, w_ixtup, w_dref, isK_dct, isK_dctL, reduceCtorEq, false_implies, true_implies, Bool.false_eq_true, Bool.true_eq_false, e_lenlst, e_lenrol, e_lentup, w_lenref, w_ite, getS, setS, keyD, List.map_cons, List.map_nil, List.cons_append, List.nil_append, List.length_cons, List.length_nil, List.replicate, Nat.reduceSub, Nat.reduceAdd, Nat.reduceLeDiff, Nat.reduceLT, List.set_cons_zero, List.set_cons_succ, decide_eq_true_eq, decide_eq_false_iff_not, Bool.not_eq_true', Bool.not_eq_false', true_and, and_true, forall_const, within_1 g1 g2, Bool.not_true]
  refine of_fr t f3.tape v2 fun m4 f4 => ?_
  simp only [w_some, w_var, w_c, w_op, w_un, w_anil, w_acons, w_fn (f := fLen), w_fn (f := fInt), w_fn (f := fAbs), w_fn (f := fMax2), w_fn (f := fMin2), w_fn (f := fBool), w_fn (f := fTuple), w_fn (f := fDictM), w_fn (f := fTupP), w_fn (f := fDictP), w_fn (f := fSrTup), w_fn (f := fLenD), w_tup, w_lst, w_lstM, isB_bl, w_test, w_cand, w_cor, w_cnot, w_if, w_tru, w_and, w_or, w_not, w_chain, w_chain3, isR_ref, isI_ins, isD_dct, isL_lst, w_fld, w_lm, w_dm, w_disp, w_dnil, w_dcons, w_nil, w_retN, w_break, w_cont, nxt_nx, nxt_rt, nxt_bk, nxt_ct, w_seq, w_set, w_drop, w_ret, w_sif, w_asg, w_gN, w_gT, w_gsnil, w_gscons, w_gdput, w_dput, isN_int, w_lput, w_par, w_aug, w_flds, w_flda, gives_rt, gives_nx, w_fnb, w_range1, w_range2, isS_lst, isS_rol, isS_tup, w_iseq, w_dnew, w_dc, w_mul, w_div, w_mod, w_tupP, w_dget2, w_srit, e_tupP, e_tupleL, e_tupleT, e_addPI, e_isN_non, e_isN_ptp, e_notN_non, e_notN_ptp, w_par3, w_ixptp, e_lenptp, isS_ptp, e_min2', w_for, w_iseq, e_add, e_addI, e_sub, e_cmp, e_eqI, e_neI, e_eqS, e_neS, e_eqB, e_neB, e_abs, e_int, e_max2, e_truB, e_truI, w_dget, w_ixref, w_ixlst, w_ixrol, w_ixtup, w_dref, isK_dct, isK_dctL, reduceCtorEq, false_implies, true_implies, Bool.false_eq_true, Bool.true_eq_false, e_lenlst, e_lenrol, e_lentup, w_lenref, w_ite, getS, setS, keyD, List.map_cons, List.map_nil, List.cons_append, List.nil_append, List.length_cons, List.length_nil, List.replicate, Nat.reduceSub, Nat.reduceAdd, Nat.reduceLeDiff, Nat.reduceLT, List.set_cons_zero, List.set_cons_succ, decide_eq_true_eq, decide_eq_false_iff_not, Bool.not_eq_true', Bool.not_eq_false', true_and, and_true, forall_const]
  refine within_fr f4.tape g2 l2 (good_join g1 g2) (lim_join l1 l2) fun m5 f5 => ?_
  simp only [w_some, w_var, w_c, w_op, w_un, w_anil, w_acons, w_fn (f := fLen), w_fn (f := fInt), w_fn (f := fAbs), w_fn (f := fMax2), w_fn (f := fMin2), w_fn (f := fBool), w_fn (f := fTuple), w_fn (f := fDictM), w_fn (f := fTupP), w_fn (f := fDictP), w_fn (f := fSrTup), w_fn (f := fLenD), w_tup, w_lst, w_lstM, isB_bl, w_test, w_cand, w_cor, w_cnot, w_if, w_tru, w_and, w_or, w_not, w_chain, w_chain3, isR_ref, isI_ins, isD_dct, isL_lst, w_fld, w_lm, w_dm, w_disp, w_dnil, w_dcons, w_nil, w_retN, w_break, w_cont, nxt_nx, nxt_rt, nxt_bk, nxt_ct, w_seq, w_set, w_drop, w_ret, w_sif, w_asg, w_gN, w_gT, w_gsnil, w_gscons, w_gdput, w_dput, isN_int, w_lput, w_par, w_aug, w_flds, w_flda, gives_rt, gives_nx, w_fnb, w_range1, w_range2, isS_lst, isS_rol, isS_tup, w_iseq, w_dnew, w_dc, w_mul, w_div, w_mod, w_tupP, w_dget2, w_srit, e_tupP, e_tupleL, e_tupleT, e_addPI, e_isN_non, e_isN_ptp, e_notN_non, e_notN_ptp, w_par3, w_ixptp, e_lenptp, isS_ptp, e_min2', w_for, w_iseq, e_add, e_addI, e_sub, e_cmp, e_eqI, e_neI, e_eqS, e_neS, e_eqB, e_neB, e_abs, e_int, e_max2, e_truB, e_truI, w_dget, w_ixref, w_ixlst, w_ixrol, w_ixtup, w_dref, isK_dct, isK_dctL, reduceCtorEq, false_implies, true_implies, Bool.false_eq_true, Bool.true_eq_false, e_lenlst, e_lenrol, e_lentup, w_lenref, w_ite, getS, setS, keyD, List.map_cons, List.map_nil, List.cons_append, List.nil_append, List.length_cons, List.length_nil, List.replicate, Nat.reduceSub, Nat.reduceAdd, Nat.reduceLeDiff, Nat.reduceLT, List.set_cons_zero, List.set_cons_succ, decide_eq_true_eq, decide_eq_false_iff_not, Bool.not_eq_true', Bool.not_eq_false', true_and, and_true, forall_const, within_2 g1 g2, Bool.not_true]
  exact q m5 ((((f1.trans f2).trans f3).trans f4).trans f5)
end
theorem law_true (ns : List Int) (hl : ns.length ≤ 63) : ∃ m', f_law [.rol (ns.map D.int)] [] = some (.bl true, m') := by
  suffices hh : wp (f_law [.rol (ns.map D.int)] []) fun p => p.1 = .bl true by
    obtain ⟨⟨d, m'⟩, e, rfl⟩ := hh
    exact ⟨m', e⟩
  obtain ⟨T0, e0, ha0⟩ := tape_eq hl
  unfold f_law
  rw [law_shape, w_fnb]
  refine ⟨rfl, ?_⟩
  rw [w_seq]
  unfold lB0
  simp only [w_set, w_fn (f := f__law_tape), w_acons, w_anil, w_var, List.map_cons, List.map_nil, List.cons_append, List.nil_append, getS, w_some, e0, nxt_nx, List.length_cons, List.length_nil, List.replicate, Nat.reduceSub, Nat.reduceAdd, setS, List.set_cons_zero, List.set_cons_succ]
  have ht : Tape [.dct (tapeD T0)] := ⟨T0, by omega, rfl⟩
  rw [w_seq]
  refine lB1_wp ht fun T m1 t f1 => ?_
  rw [nxt_nx, w_seq]
  unfold lB2
  simp only [w_set, w_fn (f := f__law_rows_of), w_acons, w_anil, w_var, w_c, getS, w_some]
  refine rows_wp t f1.tape fun R1 m2 v1 r1 f2 => ?_
  simp only [nxt_nx, setS, List.set_cons_zero, List.set_cons_succ]
  rw [w_seq]
  refine lB3_wp t f2.tape v1 fun m3 f3 => ?_
  rw [nxt_nx, w_seq]
  unfold lB4
  simp only [w_set, w_fn (f := f__law_rows_of), w_acons, w_anil, w_var, w_c, getS, w_some]
  refine rows_wp t f3.tape fun R2 m4 v2 r2 f4 => ?_
  simp only [nxt_nx, setS, List.set_cons_zero, List.set_cons_succ]
  rw [w_seq]
  refine lB5_wp t f4.tape v1 v2 fun b m5 h5 => ?_
  rw [nxt_nx, w_seq]
  refine lB6_wp t h5.tape v1 v2 r1 r2 fun m6 f6 => ?_
  have h6 := h5.fr f6
  rw [nxt_nx, w_seq]
  refine lB7_wp t h6.tape v1 v2 r1 r2 fun m7 f7 => ?_
  have h7 := h6.fr f7
  rw [nxt_nx, w_seq]
  unfold lB8
  rw [w_for, w_range1]
  simp only [w_c, isN_int]
  refine ⟨by decide, ?_⟩
  rw [show rangeD 0 (14 : Int).toNat = (List.range 14).map iD from rangeD_zero]
  have s1 := sound_of t v1
  have s2 := sound_of t v2
  have l1 := lim_of t v1 r1
  have l2 := lim_of t v2 r2
  refine wp_range (N := 14) (fun _ sg m => ∃ R1' R2' k w u x12 x13 x14 x15 x16, Inv m T b R1' R2' k w u ∧ sg = sl (some (.rol (ns.map D.int))) (some (.tup (R1.map rowD))) (some (.tup (R2.map rowD))) T b k w u x12 x13 x14 x15 x16 none) ?_ ?_ ?_
  · exact ⟨R1, R2, _, _, _, _, _, _, _, _, ⟨h7, v1, v2, r1, r2, s1, sound_any, sound_join1 s1 s2.good, sound_join2 s2 s1.good, l1, lim_any, lim_join l1 l2⟩, rfl⟩
  · rintro n sg m hn ⟨R1', R2', k, w, u, x12, x13, x14, x15, x16, h, rfl⟩
    rw [w_gN]
    refine step_wp t h fun R1'' R2'' k' w' u' y13 y14 y15 y16 m' h' => ⟨rfl, ?_⟩
    exact ⟨R1'', R2'', k', w', u', _, y13, y14, y15, y16, h', rfl⟩
  · rintro sg m -
    rw [nxt_nx]
    unfold lB9
    simp only [w_ret, w_c, gives_rt]
end K03

set_option Elab.async false
set_option maxRecDepth 100000
set_option maxHeartbeats 4000000
namespace K03
open PySem L2 Mini
def spL (K : PySem.W.Frag) : Sp := fun vs H Q _ => ∃ (a : Addr) (ns : List Int), vs = [.ref a] ∧ SqL K H a (ns.map V.int) ∧ ns.length ≤ 63 ∧ ∀ H', Q (.bl true) H'
theorem spL_to {K : PySem.W.Frag} {cm : Nat → Addr} : ∀ vs H Q E, spL K vs H Q E → spM K cm 1 f_law vs H Q E := by
  rintro vs H Q E ⟨a, ns, rfl, hS, hl, k⟩
  obtain ⟨m', e⟩ := law_true ns hl
  refine ⟨⟨[], []⟩, [], [.rol (ns.map D.int)], .bl true, m', rfl, .cons (.rol ?_ (rds_ints ns)) .nil, ⟨rfl, List.nodup_nil, (fun _ h => nomatch h), (fun _ h => nomatch h), (fun i o h => by simp at h)⟩, e, fun ρ' v H' _ _ r => ?_⟩
  · rcases hS with h | h
    · exact .inl ⟨⟨(fun h => nomatch h), (fun h => nomatch h)⟩, h⟩
    · exact .inr h
  · cases r
    exact k H'
theorem all_mk {l : PySem.W.OpenLaw} {w : World} {K : PySem.W.Frag} {h : Heap} {mg : Str → Option Value} {fa : Addr} (X : K.In h) (G : h.Ns mainGlobals mg) (hfa : mg "law" = some (.ref fa))
    {C0 : Addr} {f0 : Addr} {oc0 kV0 dc0 pm0 cd0 ct0 : Value} {od0 an0 : Option Addr} {sl0 : Array (Option Value)} {f1 : Addr} {oc1 kV1 dc1 pm1 cd1 ct1 : Value} {od1 an1 : Option Addr} {sl1 : Array (Option Value)} {f2 : Addr} {oc2 kV2 dc2 pm2 cd2 ct2 : Value} {od2 an2 : Option Addr} {sl2 : Array (Option Value)} {f3 : Addr} {oc3 kV3 dc3 pm3 cd3 ct3 : Value} {od3 an3 : Option Addr} {sl3 : Array (Option Value)} {f4 : Addr} {oc4 kV4 dc4 pm4 cd4 ct4 : Value} {od4 an4 : Option Addr} {sl4 : Array (Option Value)} {f5 : Addr} {oc5 kV5 dc5 pm5 cd5 ct5 : Value} {od5 an5 : Option Addr} {sl5 : Array (Option Value)} {f6 : Addr} {oc6 kV6 dc6 pm6 cd6 ct6 : Value} {od6 an6 : Option Addr} {sl6 : Array (Option Value)} {f7 : Addr} {oc7 kV7 dc7 pm7 cd7 ct7 : Value} {od7 an7 : Option Addr} {sl7 : Array (Option Value)} {f8 : Addr} {oc8 kV8 dc8 pm8 cd8 ct8 : Value} {od8 an8 : Option Addr} {sl8 : Array (Option Value)} {f9 : Addr} {oc9 kV9 dc9 pm9 cd9 ct9 : Value} {od9 an9 : Option Addr} {sl9 : Array (Option Value)} {f10 : Addr} {oc10 kV10 dc10 pm10 cd10 ct10 : Value} {od10 an10 : Option Addr} {sl10 : Array (Option Value)} {f11 : Addr} {oc11 kV11 dc11 pm11 cd11 ct11 : Value} {od11 an11 : Option Addr} {sl11 : Array (Option Value)} {f12 : Addr} {oc12 kV12 dc12 pm12 cd12 ct12 : Value} {od12 an12 : Option Addr} {sl12 : Array (Option Value)} {f13 : Addr} {oc13 kV13 dc13 pm13 cd13 ct13 : Value} {od13 an13 : Option Addr} {sl13 : Array (Option Value)} {f14 : Addr} {oc14 kV14 dc14 pm14 cd14 ct14 : Value} {od14 an14 : Option Addr} {sl14 : Array (Option Value)} {f15 : Addr} {oc15 kV15 dc15 pm15 cd15 ct15 : Value} {od15 an15 : Option Addr} {sl15 : Array (Option Value)} {f16 : Addr} {oc16 kV16 dc16 pm16 cd16 ct16 : Value} {od16 an16 : Option Addr} {sl16 : Array (Option Value)} {f17 : Addr} {oc17 kV17 dc17 pm17 cd17 ct17 : Value} {od17 an17 : Option Addr} {sl17 : Array (Option Value)} {f18 : Addr} {oc18 kV18 dc18 pm18 cd18 ct18 : Value} {od18 an18 : Option Addr} {sl18 : Array (Option Value)} {f19 : Addr} {oc19 kV19 dc19 pm19 cd19 ct19 : Value} {od19 an19 : Option Addr} {sl19 : Array (Option Value)} {f20 : Addr} {oc20 kV20 dc20 pm20 cd20 ct20 : Value} {od20 an20 : Option Addr} {sl20 : Array (Option Value)} {f21 : Addr} {oc21 kV21 dc21 pm21 cd21 ct21 : Value} {od21 an21 : Option Addr} {sl21 : Array (Option Value)} {f22 : Addr} {oc22 kV22 dc22 pm22 cd22 ct22 : Value} {od22 an22 : Option Addr} {sl22 : Array (Option Value)}
    (aC0 : PySem.W.nsIn K mainGlobals "Cache" = some (some (.ref C0)))
    (pg0 : PySem.W.plainGet K C0 Str.empty = true)
    (hd0 : PySem.W.hasDictIn K C0 = true)
    (po0 : PySem.W.plainOver K C0 = true)
    (sa0 : PySem.W.findIn K (.ref C0) "__setattr__" = some (some (.builtin "object.__setattr__")))
    (mk0 : PySem.W.makesIn K C0 = true)
    (kc0 : PySem.W.keepIn K (.ref C0) = true)
    (nA0 : PySem.W.findIn K (.ref C0) "policy" = some none)
    (nA1 : PySem.W.findIn K (.ref C0) "rows" = some none)
    (nA2 : PySem.W.findIn K (.ref C0) "sets" = some none)
    (nA3 : PySem.W.findIn K (.ref C0) "ways" = some none)
    (a0 : PySem.W.nsIn K mainGlobals "anything" = some (some (.ref f0)))
    (l0 : K.lookup f0 = some ⟨oc0, od0, .func (PySem.W.fnOf "anything" "anything" (defArgs st_anything) (defBody st_anything) (defScope st_anything) .none kV0 dc0 pm0 an0 cd0 ct0), sl0⟩)
    (c0 : PySem.W.codeIn K cd0 "anything" = true)
    (k0 : PySem.W.keepIn K (.ref f0) = true)
    (a1 : PySem.W.nsIn K mainGlobals "nothing" = some (some (.ref f1)))
    (l1 : K.lookup f1 = some ⟨oc1, od1, .func (PySem.W.fnOf "nothing" "nothing" (defArgs st_nothing) (defBody st_nothing) (defScope st_nothing) .none kV1 dc1 pm1 an1 cd1 ct1), sl1⟩)
    (c1 : PySem.W.codeIn K cd1 "nothing" = true)
    (k1 : PySem.W.keepIn K (.ref f1) = true)
    (a2 : PySem.W.nsIn K mainGlobals "of_cache" = some (some (.ref f2)))
    (l2 : K.lookup f2 = some ⟨oc2, od2, .func (PySem.W.fnOf "of_cache" "of_cache" (defArgs st_of_cache) (defBody st_of_cache) (defScope st_of_cache) .none kV2 dc2 pm2 an2 cd2 ct2), sl2⟩)
    (c2 : PySem.W.codeIn K cd2 "of_cache" = true)
    (k2 : PySem.W.keepIn K (.ref f2) = true)
    (a3 : PySem.W.nsIn K mainGlobals "ways_sure" = some (some (.ref f3)))
    (l3 : K.lookup f3 = some ⟨oc3, od3, .func (PySem.W.fnOf "ways_sure" "ways_sure" (defArgs st_ways_sure) (defBody st_ways_sure) (defScope st_ways_sure) .none kV3 dc3 pm3 an3 cd3 ct3), sl3⟩)
    (c3 : PySem.W.codeIn K cd3 "ways_sure" = true)
    (k3 : PySem.W.keepIn K (.ref f3) = true)
    (a4 : PySem.W.nsIn K mainGlobals "verdicts" = some (some (.ref f4)))
    (l4 : K.lookup f4 = some ⟨oc4, od4, .func (PySem.W.fnOf "verdicts" "verdicts" (defArgs st_verdicts) (defBody st_verdicts) (defScope st_verdicts) .none kV4 dc4 pm4 an4 cd4 ct4), sl4⟩)
    (c4 : PySem.W.codeIn K cd4 "verdicts" = true)
    (k4 : PySem.W.keepIn K (.ref f4) = true)
    (a5 : PySem.W.nsIn K mainGlobals "aged" = some (some (.ref f5)))
    (l5 : K.lookup f5 = some ⟨oc5, od5, .func (PySem.W.fnOf "aged" "aged" (defArgs st_aged) (defBody st_aged) (defScope st_aged) .none kV5 dc5 pm5 an5 cd5 ct5), sl5⟩)
    (c5 : PySem.W.codeIn K cd5 "aged" = true)
    (k5 : PySem.W.keepIn K (.ref f5) = true)
    (a6 : PySem.W.nsIn K mainGlobals "used" = some (some (.ref f6)))
    (l6 : K.lookup f6 = some ⟨oc6, od6, .func (PySem.W.fnOf "used" "used" (defArgs st_used) (defBody st_used) (defScope st_used) .none kV6 dc6 pm6 an6 cd6 ct6), sl6⟩)
    (c6 : PySem.W.codeIn K cd6 "used" = true)
    (k6 : PySem.W.keepIn K (.ref f6) = true)
    (a7 : PySem.W.nsIn K mainGlobals "touched" = some (some (.ref f7)))
    (l7 : K.lookup f7 = some ⟨oc7, od7, .func (PySem.W.fnOf "touched" "touched" (defArgs st_touched) (defBody st_touched) (defScope st_touched) .none kV7 dc7 pm7 an7 cd7 ct7), sl7⟩)
    (c7 : PySem.W.codeIn K cd7 "touched" = true)
    (k7 : PySem.W.keepIn K (.ref f7) = true)
    (a8 : PySem.W.nsIn K mainGlobals "missed" = some (some (.ref f8)))
    (l8 : K.lookup f8 = some ⟨oc8, od8, .func (PySem.W.fnOf "missed" "missed" (defArgs st_missed) (defBody st_missed) (defScope st_missed) .none kV8 dc8 pm8 an8 cd8 ct8), sl8⟩)
    (c8 : PySem.W.codeIn K cd8 "missed" = true)
    (k8 : PySem.W.keepIn K (.ref f8) = true)
    (a9 : PySem.W.nsIn K mainGlobals "filled" = some (some (.ref f9)))
    (l9 : K.lookup f9 = some ⟨oc9, od9, .func (PySem.W.fnOf "filled" "filled" (defArgs st_filled) (defBody st_filled) (defScope st_filled) .none kV9 dc9 pm9 an9 cd9 ct9), sl9⟩)
    (c9 : PySem.W.codeIn K cd9 "filled" = true)
    (k9 : PySem.W.keepIn K (.ref f9) = true)
    (a10 : PySem.W.nsIn K mainGlobals "joined_known" = some (some (.ref f10)))
    (l10 : K.lookup f10 = some ⟨oc10, od10, .func (PySem.W.fnOf "joined_known" "joined_known" (defArgs st_joined_known) (defBody st_joined_known) (defScope st_joined_known) .none kV10 dc10 pm10 an10 cd10 ct10), sl10⟩)
    (c10 : PySem.W.codeIn K cd10 "joined_known" = true)
    (k10 : PySem.W.keepIn K (.ref f10) = true)
    (a11 : PySem.W.nsIn K mainGlobals "is_known_within" = some (some (.ref f11)))
    (l11 : K.lookup f11 = some ⟨oc11, od11, .func (PySem.W.fnOf "is_known_within" "is_known_within" (defArgs st_is_known_within) (defBody st_is_known_within) (defScope st_is_known_within) .none kV11 dc11 pm11 an11 cd11 ct11), sl11⟩)
    (c11 : PySem.W.codeIn K cd11 "is_known_within" = true)
    (k11 : PySem.W.keepIn K (.ref f11) = true)
    (a12 : PySem.W.findIn K (.ref C0) "__init__" = some (some (.ref f12)))
    (i12 : PySem.W.isFn K (.ref f12) = true)
    (l12 : K.lookup f12 = some ⟨oc12, od12, .func (PySem.W.fnOf "__init__" "Cache.__init__" (defArgs st_Cache___init__) (defBody st_Cache___init__) (defScope st_Cache___init__) .none kV12 dc12 pm12 an12 cd12 ct12), sl12⟩)
    (c12 : PySem.W.codeIn K cd12 "Cache.__init__" = true)
    (k12 : PySem.W.keepIn K (.ref f12) = true)
    (a13 : PySem.W.findIn K (.ref C0) "has" = some (some (.ref f13)))
    (i13 : PySem.W.isFn K (.ref f13) = true)
    (l13 : K.lookup f13 = some ⟨oc13, od13, .func (PySem.W.fnOf "has" "Cache.has" (defArgs st_Cache_has) (defBody st_Cache_has) (defScope st_Cache_has) .none kV13 dc13 pm13 an13 cd13 ct13), sl13⟩)
    (c13 : PySem.W.codeIn K cd13 "Cache.has" = true)
    (k13 : PySem.W.keepIn K (.ref f13) = true)
    (a14 : PySem.W.findIn K (.ref C0) "fill" = some (some (.ref f14)))
    (i14 : PySem.W.isFn K (.ref f14) = true)
    (l14 : K.lookup f14 = some ⟨oc14, od14, .func (PySem.W.fnOf "fill" "Cache.fill" (defArgs st_Cache_fill) (defBody st_Cache_fill) (defScope st_Cache_fill) .none kV14 dc14 pm14 an14 cd14 ct14), sl14⟩)
    (c14 : PySem.W.codeIn K cd14 "Cache.fill" = true)
    (k14 : PySem.W.keepIn K (.ref f14) = true)
    (a15 : PySem.W.findIn K (.ref C0) "lines" = some (some (.ref f15)))
    (i15 : PySem.W.isFn K (.ref f15) = true)
    (l15 : K.lookup f15 = some ⟨oc15, od15, .func (PySem.W.fnOf "lines" "Cache.lines" (defArgs st_Cache_lines) (defBody st_Cache_lines) (defScope st_Cache_lines) .none kV15 dc15 pm15 an15 cd15 ct15), sl15⟩)
    (c15 : PySem.W.codeIn K cd15 "Cache.lines" = true)
    (k15 : PySem.W.keepIn K (.ref f15) = true)
    (a16 : PySem.W.nsIn K mainGlobals "is_start" = some (some (.ref f16)))
    (l16 : K.lookup f16 = some ⟨oc16, od16, .func (PySem.W.fnOf "is_start" "is_start" (defArgs st_is_start) (defBody st_is_start) (defScope st_is_start) .none kV16 dc16 pm16 an16 cd16 ct16), sl16⟩)
    (c16 : PySem.W.codeIn K cd16 "is_start" = true)
    (k16 : PySem.W.keepIn K (.ref f16) = true)
    (a17 : PySem.W.nsIn K mainGlobals "no_lines" = some (some (.ref f17)))
    (l17 : K.lookup f17 = some ⟨oc17, od17, .func (PySem.W.fnOf "no_lines" "no_lines" (defArgs st_no_lines) (defBody st_no_lines) (defScope st_no_lines) .none kV17 dc17 pm17 an17 cd17 ct17), sl17⟩)
    (c17 : PySem.W.codeIn K cd17 "no_lines" = true)
    (k17 : PySem.W.keepIn K (.ref f17) = true)
    (a18 : PySem.W.nsIn K mainGlobals "_law_tape" = some (some (.ref f18)))
    (l18 : K.lookup f18 = some ⟨oc18, od18, .func (PySem.W.fnOf "_law_tape" "_law_tape" (defArgs st__law_tape) (defBody st__law_tape) (defScope st__law_tape) .none kV18 dc18 pm18 an18 cd18 ct18), sl18⟩)
    (c18 : PySem.W.codeIn K cd18 "_law_tape" = true)
    (k18 : PySem.W.keepIn K (.ref f18) = true)
    (a19 : PySem.W.nsIn K mainGlobals "_law_take" = some (some (.ref f19)))
    (l19 : K.lookup f19 = some ⟨oc19, od19, .func (PySem.W.fnOf "_law_take" "_law_take" (defArgs st__law_take) (defBody st__law_take) (defScope st__law_take) .none kV19 dc19 pm19 an19 cd19 ct19), sl19⟩)
    (c19 : PySem.W.codeIn K cd19 "_law_take" = true)
    (k19 : PySem.W.keepIn K (.ref f19) = true)
    (a20 : PySem.W.nsIn K mainGlobals "_law_rows_of" = some (some (.ref f20)))
    (l20 : K.lookup f20 = some ⟨oc20, od20, .func (PySem.W.fnOf "_law_rows_of" "_law_rows_of" (defArgs st__law_rows_of) (defBody st__law_rows_of) (defScope st__law_rows_of) .none kV20 dc20 pm20 an20 cd20 ct20), sl20⟩)
    (c20 : PySem.W.codeIn K cd20 "_law_rows_of" = true)
    (k20 : PySem.W.keepIn K (.ref f20) = true)
    (a21 : PySem.W.nsIn K mainGlobals "_law_holds" = some (some (.ref f21)))
    (l21 : K.lookup f21 = some ⟨oc21, od21, .func (PySem.W.fnOf "_law_holds" "_law_holds" (defArgs st__law_holds) (defBody st__law_holds) (defScope st__law_holds) .none kV21 dc21 pm21 an21 cd21 ct21), sl21⟩)
    (c21 : PySem.W.codeIn K cd21 "_law_holds" = true)
    (k21 : PySem.W.keepIn K (.ref f21) = true)
    (a22 : PySem.W.nsIn K mainGlobals "law" = some (some (.ref f22)))
    (l22 : K.lookup f22 = some ⟨oc22, od22, .func (PySem.W.fnOf "law" "law" (defArgs st_law) (defBody st_law) (defScope st_law) .none kV22 dc22 pm22 an22 cd22 ct22), sl22⟩)
    (c22 : PySem.W.codeIn K cd22 "law" = true)
    (k22 : PySem.W.keepIn K (.ref f22) = true)
    (z0 : PySem.W.nsIn K mainGlobals "abs" = some none)
    (z1 : PySem.W.nsIn K mainGlobals "all" = some none)
    (z2 : PySem.W.nsIn K mainGlobals "any" = some none)
    (z3 : PySem.W.nsIn K mainGlobals "dict" = some none)
    (z4 : PySem.W.nsIn K mainGlobals "enumerate" = some none)
    (z5 : PySem.W.nsIn K mainGlobals "int" = some none)
    (z6 : PySem.W.nsIn K mainGlobals "len" = some none)
    (z7 : PySem.W.nsIn K mainGlobals "list" = some none)
    (z8 : PySem.W.nsIn K mainGlobals "max" = some none)
    (z9 : PySem.W.nsIn K mainGlobals "min" = some none)
    (z10 : PySem.W.nsIn K mainGlobals "range" = some none)
    (z11 : PySem.W.nsIn K mainGlobals "sorted" = some none)
    (z12 : PySem.W.nsIn K mainGlobals "tuple" = some none) :
    ∃ fd : FuncData, (∀ (s : Shared) (v : Value), BindsTo s fd ⟨[v], []⟩ [("script", v)]) ∧ ∀ base : Heap, K.In base → base.Ns mainGlobals mg → FnOk l.prog w K mg base CX0 4 fa fd ["script"] (spL K) := by
  have e : f22 = fa := Value.ref.inj (Option.some.inj ((PySem.W.mg_of X G a22).symm.trans hfa))
  rw [← e]
  let cm : Nat → Addr := fun n => if n = 0 then C0 else 0
  let A : Nat → Addr := fun n => match n with | 0 => f0 | 1 => f1 | 2 => f2 | 3 => f3 | 4 => f4 | 5 => f5 | 6 => f6 | 7 => f7 | 8 => f8 | 9 => f9 | 10 => f10 | 11 => f11 | 12 => f12 | 13 => f13 | 14 => f14 | 15 => f15 | 16 => f16 | 17 => f17 | 18 => f18 | 19 => f19 | 20 => f20 | 21 => f21 | 22 => f22 | _ => 0
  let Fd : Nat → FuncData := fun n => match n with | 0 => PySem.W.fnOf "anything" "anything" (defArgs st_anything) (defBody st_anything) (defScope st_anything) .none kV0 dc0 pm0 an0 cd0 ct0 | 1 => PySem.W.fnOf "nothing" "nothing" (defArgs st_nothing) (defBody st_nothing) (defScope st_nothing) .none kV1 dc1 pm1 an1 cd1 ct1 | 2 => PySem.W.fnOf "of_cache" "of_cache" (defArgs st_of_cache) (defBody st_of_cache) (defScope st_of_cache) .none kV2 dc2 pm2 an2 cd2 ct2 | 3 => PySem.W.fnOf "ways_sure" "ways_sure" (defArgs st_ways_sure) (defBody st_ways_sure) (defScope st_ways_sure) .none kV3 dc3 pm3 an3 cd3 ct3 | 4 => PySem.W.fnOf "verdicts" "verdicts" (defArgs st_verdicts) (defBody st_verdicts) (defScope st_verdicts) .none kV4 dc4 pm4 an4 cd4 ct4 | 5 => PySem.W.fnOf "aged" "aged" (defArgs st_aged) (defBody st_aged) (defScope st_aged) .none kV5 dc5 pm5 an5 cd5 ct5 | 6 => PySem.W.fnOf "used" "used" (defArgs st_used) (defBody st_used) (defScope st_used) .none kV6 dc6 pm6 an6 cd6 ct6 | 7 => PySem.W.fnOf "touched" "touched" (defArgs st_touched) (defBody st_touched) (defScope st_touched) .none kV7 dc7 pm7 an7 cd7 ct7 | 8 => PySem.W.fnOf "missed" "missed" (defArgs st_missed) (defBody st_missed) (defScope st_missed) .none kV8 dc8 pm8 an8 cd8 ct8 | 9 => PySem.W.fnOf "filled" "filled" (defArgs st_filled) (defBody st_filled) (defScope st_filled) .none kV9 dc9 pm9 an9 cd9 ct9 | 10 => PySem.W.fnOf "joined_known" "joined_known" (defArgs st_joined_known) (defBody st_joined_known) (defScope st_joined_known) .none kV10 dc10 pm10 an10 cd10 ct10 | 11 => PySem.W.fnOf "is_known_within" "is_known_within" (defArgs st_is_known_within) (defBody st_is_known_within) (defScope st_is_known_within) .none kV11 dc11 pm11 an11 cd11 ct11 | 12 => PySem.W.fnOf "__init__" "Cache.__init__" (defArgs st_Cache___init__) (defBody st_Cache___init__) (defScope st_Cache___init__) .none kV12 dc12 pm12 an12 cd12 ct12 | 13 => PySem.W.fnOf "has" "Cache.has" (defArgs st_Cache_has) (defBody st_Cache_has) (defScope st_Cache_has) .none kV13 dc13 pm13 an13 cd13 ct13 | 14 => PySem.W.fnOf "fill" "Cache.fill" (defArgs st_Cache_fill) (defBody st_Cache_fill) (defScope st_Cache_fill) .none kV14 dc14 pm14 an14 cd14 ct14 | 15 => PySem.W.fnOf "lines" "Cache.lines" (defArgs st_Cache_lines) (defBody st_Cache_lines) (defScope st_Cache_lines) .none kV15 dc15 pm15 an15 cd15 ct15 | 16 => PySem.W.fnOf "is_start" "is_start" (defArgs st_is_start) (defBody st_is_start) (defScope st_is_start) .none kV16 dc16 pm16 an16 cd16 ct16 | 17 => PySem.W.fnOf "no_lines" "no_lines" (defArgs st_no_lines) (defBody st_no_lines) (defScope st_no_lines) .none kV17 dc17 pm17 an17 cd17 ct17 | 18 => PySem.W.fnOf "_law_tape" "_law_tape" (defArgs st__law_tape) (defBody st__law_tape) (defScope st__law_tape) .none kV18 dc18 pm18 an18 cd18 ct18 | 19 => PySem.W.fnOf "_law_take" "_law_take" (defArgs st__law_take) (defBody st__law_take) (defScope st__law_take) .none kV19 dc19 pm19 an19 cd19 ct19 | 20 => PySem.W.fnOf "_law_rows_of" "_law_rows_of" (defArgs st__law_rows_of) (defBody st__law_rows_of) (defScope st__law_rows_of) .none kV20 dc20 pm20 an20 cd20 ct20 | 21 => PySem.W.fnOf "_law_holds" "_law_holds" (defArgs st__law_holds) (defBody st__law_holds) (defScope st__law_holds) .none kV21 dc21 pm21 an21 cd21 ct21 | 22 => PySem.W.fnOf "law" "law" (defArgs st_law) (defBody st_law) (defScope st_law) .none kV22 dc22 pm22 an22 cd22 ct22 | _ => PySem.W.fnOf "law" "law" (defArgs st_law) (defBody st_law) (defScope st_law) .none kV22 dc22 pm22 an22 cd22 ct22
  have F0 : Fun K "anything" "anything" st_anything (A 0) (Fd 0) := fun_mk (st := st_anything) l0 c0 k0
  have F1 : Fun K "nothing" "nothing" st_nothing (A 1) (Fd 1) := fun_mk (st := st_nothing) l1 c1 k1
  have F2 : Fun K "of_cache" "of_cache" st_of_cache (A 2) (Fd 2) := fun_mk (st := st_of_cache) l2 c2 k2
  have F3 : Fun K "ways_sure" "ways_sure" st_ways_sure (A 3) (Fd 3) := fun_mk (st := st_ways_sure) l3 c3 k3
  have F4 : Fun K "verdicts" "verdicts" st_verdicts (A 4) (Fd 4) := fun_mk (st := st_verdicts) l4 c4 k4
  have F5 : Fun K "aged" "aged" st_aged (A 5) (Fd 5) := fun_mk (st := st_aged) l5 c5 k5
  have F6 : Fun K "used" "used" st_used (A 6) (Fd 6) := fun_mk (st := st_used) l6 c6 k6
  have F7 : Fun K "touched" "touched" st_touched (A 7) (Fd 7) := fun_mk (st := st_touched) l7 c7 k7
  have F8 : Fun K "missed" "missed" st_missed (A 8) (Fd 8) := fun_mk (st := st_missed) l8 c8 k8
  have F9 : Fun K "filled" "filled" st_filled (A 9) (Fd 9) := fun_mk (st := st_filled) l9 c9 k9
  have F10 : Fun K "joined_known" "joined_known" st_joined_known (A 10) (Fd 10) := fun_mk (st := st_joined_known) l10 c10 k10
  have F11 : Fun K "is_known_within" "is_known_within" st_is_known_within (A 11) (Fd 11) := fun_mk (st := st_is_known_within) l11 c11 k11
  have F12 : Fun K "__init__" "Cache.__init__" st_Cache___init__ (A 12) (Fd 12) := fun_mk (st := st_Cache___init__) l12 c12 k12
  have F13 : Fun K "has" "Cache.has" st_Cache_has (A 13) (Fd 13) := fun_mk (st := st_Cache_has) l13 c13 k13
  have F14 : Fun K "fill" "Cache.fill" st_Cache_fill (A 14) (Fd 14) := fun_mk (st := st_Cache_fill) l14 c14 k14
  have F15 : Fun K "lines" "Cache.lines" st_Cache_lines (A 15) (Fd 15) := fun_mk (st := st_Cache_lines) l15 c15 k15
  have F16 : Fun K "is_start" "is_start" st_is_start (A 16) (Fd 16) := fun_mk (st := st_is_start) l16 c16 k16
  have F17 : Fun K "no_lines" "no_lines" st_no_lines (A 17) (Fd 17) := fun_mk (st := st_no_lines) l17 c17 k17
  have F18 : Fun K "_law_tape" "_law_tape" st__law_tape (A 18) (Fd 18) := fun_mk (st := st__law_tape) l18 c18 k18
  have F19 : Fun K "_law_take" "_law_take" st__law_take (A 19) (Fd 19) := fun_mk (st := st__law_take) l19 c19 k19
  have F20 : Fun K "_law_rows_of" "_law_rows_of" st__law_rows_of (A 20) (Fd 20) := fun_mk (st := st__law_rows_of) l20 c20 k20
  have F21 : Fun K "_law_holds" "_law_holds" st__law_holds (A 21) (Fd 21) := fun_mk (st := st__law_holds) l21 c21 k21
  have F22 : Fun K "law" "law" st_law (A 22) (Fd 22) := fun_mk (st := st_law) l22 c22 k22
  have T : Txt K mg cm A Fd := {
    cl_Cache := ⟨pg0, hd0, po0, sa0⟩
    c_Cache := PySem.W.mg_of X G aC0
    na_Cache_policy := nA0
    na_Cache_rows := nA1
    na_Cache_sets := nA2
    na_Cache_ways := nA3
    F_anything := F0
    b_anything := F0.binds fun _ _ _ _ _ _ us hl => match us, hl with | [], _ => rfl
    m_anything := PySem.W.mg_of X G a0
    k_anything := k0
    F_nothing := F1
    b_nothing := F1.binds fun _ _ _ _ _ _ us hl => match us, hl with | [], _ => rfl
    m_nothing := PySem.W.mg_of X G a1
    k_nothing := k1
    F_of_cache := F2
    b_of_cache := F2.binds fun _ _ _ _ _ _ us hl => match us, hl with | [_, _], _ => rfl
    m_of_cache := PySem.W.mg_of X G a2
    k_of_cache := k2
    F_ways_sure := F3
    b_ways_sure := F3.binds fun _ _ _ _ _ _ us hl => match us, hl with | [_], _ => rfl
    m_ways_sure := PySem.W.mg_of X G a3
    k_ways_sure := k3
    F_verdicts := F4
    b_verdicts := F4.binds fun _ _ _ _ _ _ us hl => match us, hl with | [_, _], _ => rfl
    m_verdicts := PySem.W.mg_of X G a4
    k_verdicts := k4
    F_aged := F5
    b_aged := F5.binds fun _ _ _ _ _ _ us hl => match us, hl with | [_, _, _], _ => rfl
    m_aged := PySem.W.mg_of X G a5
    k_aged := k5
    F_used := F6
    b_used := F6.binds fun _ _ _ _ _ _ us hl => match us, hl with | [_, _, _], _ => rfl
    m_used := PySem.W.mg_of X G a6
    k_used := k6
    F_touched := F7
    b_touched := F7.binds fun _ _ _ _ _ _ us hl => match us, hl with | [_, _, _], _ => rfl
    m_touched := PySem.W.mg_of X G a7
    k_touched := k7
    F_missed := F8
    b_missed := F8.binds fun _ _ _ _ _ _ us hl => match us, hl with | [_, _], _ => rfl
    m_missed := PySem.W.mg_of X G a8
    k_missed := k8
    F_filled := F9
    b_filled := F9.binds fun _ _ _ _ _ _ us hl => match us, hl with | [_, _, _], _ => rfl
    m_filled := PySem.W.mg_of X G a9
    k_filled := k9
    F_joined_known := F10
    b_joined_known := F10.binds fun _ _ _ _ _ _ us hl => match us, hl with | [_, _], _ => rfl
    m_joined_known := PySem.W.mg_of X G a10
    k_joined_known := k10
    F_is_known_within := F11
    b_is_known_within := F11.binds fun _ _ _ _ _ _ us hl => match us, hl with | [_, _], _ => rfl
    m_is_known_within := PySem.W.mg_of X G a11
    k_is_known_within := k11
    F_Cache___init__ := F12
    b_Cache___init__ := F12.binds fun _ _ _ _ _ _ us hl => match us, hl with | [_, _, _], _ => rfl
    mk_Cache := ⟨mk0, a12, i12, kc0⟩
    F_Cache_has := F13
    b_Cache_has := F13.binds fun _ _ _ _ _ _ us hl => match us, hl with | [_, _], _ => rfl
    me_Cache_has := ⟨a13, i13, k13⟩
    F_Cache_fill := F14
    b_Cache_fill := F14.binds fun _ _ _ _ _ _ us hl => match us, hl with | [_, _], _ => rfl
    me_Cache_fill := ⟨a14, i14, k14⟩
    F_Cache_lines := F15
    b_Cache_lines := F15.binds fun _ _ _ _ _ _ us hl => match us, hl with | [_], _ => rfl
    me_Cache_lines := ⟨a15, i15, k15⟩
    F_is_start := F16
    b_is_start := F16.binds fun _ _ _ _ _ _ us hl => match us, hl with | [_, _], _ => rfl
    m_is_start := PySem.W.mg_of X G a16
    k_is_start := k16
    F_no_lines := F17
    b_no_lines := F17.binds fun _ _ _ _ _ _ us hl => match us, hl with | [_], _ => rfl
    m_no_lines := PySem.W.mg_of X G a17
    k_no_lines := k17
    F__law_tape := F18
    b__law_tape := F18.binds fun _ _ _ _ _ _ us hl => match us, hl with | [_], _ => rfl
    m__law_tape := PySem.W.mg_of X G a18
    k__law_tape := k18
    F__law_take := F19
    b__law_take := F19.binds fun _ _ _ _ _ _ us hl => match us, hl with | [_, _], _ => rfl
    m__law_take := PySem.W.mg_of X G a19
    k__law_take := k19
    F__law_rows_of := F20
    b__law_rows_of := F20.binds fun _ _ _ _ _ _ us hl => match us, hl with | [_, _, _], _ => rfl
    m__law_rows_of := PySem.W.mg_of X G a20
    k__law_rows_of := k20
    F__law_holds := F21
    b__law_holds := F21.binds fun _ _ _ _ _ _ us hl => match us, hl with | [_, _, _], _ => rfl
    m__law_holds := PySem.W.mg_of X G a21
    k__law_holds := k21
    F_law := F22
    b_law := F22.binds fun _ _ _ _ _ _ us hl => match us, hl with | [_], _ => rfl
    m_law := PySem.W.mg_of X G a22
    k_law := k22
    n_abs := PySem.W.mg_none_of X G z0
    n_all := PySem.W.mg_none_of X G z1
    n_any := PySem.W.mg_none_of X G z2
    n_dict := PySem.W.mg_none_of X G z3
    n_enumerate := PySem.W.mg_none_of X G z4
    n_int := PySem.W.mg_none_of X G z5
    n_len := PySem.W.mg_none_of X G z6
    n_list := PySem.W.mg_none_of X G z7
    n_max := PySem.W.mg_none_of X G z8
    n_min := PySem.W.mg_none_of X G z9
    n_range := PySem.W.mg_none_of X G z10
    n_sorted := PySem.W.mg_none_of X G z11
    n_tuple := PySem.W.mg_none_of X G z12 }
  refine ⟨Fd 22, fun s v => .of_eq rfl, fun base _ _ => ?_⟩
  have G_anything : FM l.prog w K mg base cm 1 (A 0) (Fd 0) P_anything f_anything := ok_anything T
  have G_nothing : FM l.prog w K mg base cm 1 (A 1) (Fd 1) P_nothing f_nothing := ok_nothing T
  have G_of_cache : FM l.prog w K mg base cm 1 (A 2) (Fd 2) P_of_cache f_of_cache := ok_of_cache T
  have G_ways_sure : FM l.prog w K mg base cm 1 (A 3) (Fd 3) P_ways_sure f_ways_sure := ok_ways_sure T
  have G_verdicts : FM l.prog w K mg base cm 1 (A 4) (Fd 4) P_verdicts f_verdicts := ok_verdicts T
  have G_aged : FM l.prog w K mg base cm 1 (A 5) (Fd 5) P_aged f_aged := ok_aged T
  have G_used : FM l.prog w K mg base cm 2 (A 6) (Fd 6) P_used f_used := ok_used T G_ways_sure G_aged
  have G_touched : FM l.prog w K mg base cm 3 (A 7) (Fd 7) P_touched f_touched := ok_touched T G_used
  have G_missed : FM l.prog w K mg base cm 1 (A 8) (Fd 8) P_missed f_missed := ok_missed T
  have G_filled : FM l.prog w K mg base cm 3 (A 9) (Fd 9) P_filled f_filled := ok_filled T G_used
  have G_joined_known : FM l.prog w K mg base cm 1 (A 10) (Fd 10) P_joined_known f_joined_known := ok_joined_known T
  have G_is_known_within : FM l.prog w K mg base cm 1 (A 11) (Fd 11) P_is_known_within f_is_known_within := ok_is_known_within T
  have G_Cache___init__ : FM l.prog w K mg base cm 1 (A 12) (Fd 12) P_Cache___init__ f_Cache___init__ := ok_Cache___init__ T
  have G_Cache_has : FM l.prog w K mg base cm 1 (A 13) (Fd 13) P_Cache_has f_Cache_has := ok_Cache_has T
  have G_Cache_fill : FM l.prog w K mg base cm 1 (A 14) (Fd 14) P_Cache_fill f_Cache_fill := ok_Cache_fill T
  have G_Cache_lines : FM l.prog w K mg base cm 1 (A 15) (Fd 15) P_Cache_lines f_Cache_lines := ok_Cache_lines T
  have G_is_start : FM l.prog w K mg base cm 1 (A 16) (Fd 16) P_is_start f_is_start := ok_is_start T
  have G_no_lines : FM l.prog w K mg base cm 1 (A 17) (Fd 17) P_no_lines f_no_lines := ok_no_lines T
  have G__law_tape : FM l.prog w K mg base cm 1 (A 18) (Fd 18) P__law_tape f__law_tape := ok__law_tape T
  have G__law_take : FM l.prog w K mg base cm 1 (A 19) (Fd 19) P__law_take f__law_take := ok__law_take T
  have G__law_rows_of : FM l.prog w K mg base cm 2 (A 20) (Fd 20) P__law_rows_of f__law_rows_of := ok__law_rows_of T G__law_take
  have G__law_holds : FM l.prog w K mg base cm 1 (A 21) (Fd 21) P__law_holds f__law_holds := ok__law_holds T
  have G_law : FM l.prog w K mg base cm 4 (A 22) (Fd 22) P_law f_law := ok_law T G_anything G_nothing G_of_cache G_verdicts G_touched G_missed G_filled G_joined_known G_is_known_within G_Cache___init__ G_Cache_has G_Cache_fill G_Cache_lines G_is_start G_no_lines G__law_tape G__law_take G__law_rows_of G__law_holds
  exact G_law.imp (fun vs H Q E h => spL_to vs H Q E h)
theorem walk {l : PySem.W.OpenLaw} {q : Program} {loose : List Str} {XP : (Str → Option Value) → Heap → Prop} {YP : World → Heap → Prop} {d : DefRec} {K : Params → PySem.W.Frag} (hn : l.most = some 63) (hdf : d.params.defaults = [])
    (hY : ∀ (w : World) (h : Heap), YP w h → (K w.params).In h)
    (F : ∀ (w : World) (mg : Str → Option Value) (fa : Addr) (h : Heap), (K w.params).In h → h.Ns mainGlobals mg → mg d.name = some (.ref fa) →
      ∃ fd : FuncData, (∀ (s : Shared) (u : Value), BindsTo s fd ⟨[u], []⟩ [("script", u)]) ∧ ∀ base : Heap, (K w.params).In base → base.Ns mainGlobals mg → FnOk l.prog w (K w.params) mg base CX0 4 fa fd ["script"] (spL (K w.params))) :
    PySem.W.WalkO q loose XP YP l.row.toRowW d [] (fun f vs => PySem.call f vs) :=
  L2.walk_of (n := 63) (k := 4) (x := "script") (CX := fun _ => CX0) (sp := fun w => spL (K w.params)) hn (by decide) hdf ⟨rfl, by decide, by decide⟩ hY F (fun _ _ a ns hl _ hS => ⟨a, ns, rfl, hS, hl, fun _ => rfl⟩) fun _ _ _ _ _ z => z
end K03
open PySem PySem.W PyProof.Rows in
set_option maxRecDepth 100000 in
set_option maxHeartbeats 0 in
theorem PySem.Challenge.cw_nocyclemore_k03_whole_caches_holds : PySem.Challenge.rw_nocyclemore_k03_whole_caches.Holds := by
  w_on; o_law; k_head; (case hw => w_witness2)
  k_fill
  refine K03.walk (l := PySem.Challenge.rw_nocyclemore_k03_whole_caches) rfl rfl (fun w h Y => PySem.W.kIn_of Y) ?F
  case F =>
    intro w mg fa h KX G hmg
    refine' K03.all_mk KX G hmg ?aC0 ?pg0 ?hd0 ?po0 ?sa0 ?mk0 ?kc0 ?nA0 ?nA1 ?nA2 ?nA3 ?a0 ?l0 ?c0 ?k0 ?a1 ?l1 ?c1 ?k1 ?a2 ?l2 ?c2 ?k2 ?a3 ?l3 ?c3 ?k3 ?a4 ?l4 ?c4 ?k4 ?a5 ?l5 ?c5 ?k5 ?a6 ?l6 ?c6 ?k6 ?a7 ?l7 ?c7 ?k7 ?a8 ?l8 ?c8 ?k8 ?a9 ?l9 ?c9 ?k9 ?a10 ?l10 ?c10 ?k10 ?a11 ?l11 ?c11 ?k11 ?a12 ?i12 ?l12 ?c12 ?k12 ?a13 ?i13 ?l13 ?c13 ?k13 ?a14 ?i14 ?l14 ?c14 ?k14 ?a15 ?i15 ?l15 ?c15 ?k15 ?a16 ?l16 ?c16 ?k16 ?a17 ?l17 ?c17 ?k17 ?a18 ?l18 ?c18 ?k18 ?a19 ?l19 ?c19 ?k19 ?a20 ?l20 ?c20 ?k20 ?a21 ?l21 ?c21 ?k21 ?a22 ?l22 ?c22 ?k22 ?z0 ?z1 ?z2 ?z3 ?z4 ?z5 ?z6 ?z7 ?z8 ?z9 ?z10 ?z11 ?z12
    (case aC0 => k_is)
    (case pg0 => k_is)
    (case hd0 => k_is)
    (case po0 => k_is)
    (case sa0 => k_is)
    (case mk0 => k_is)
    (case kc0 => k_is)
    (case nA0 => k_is)
    (case nA1 => k_is)
    (case nA2 => k_is)
    (case nA3 => k_is)
    (case a0 => k_is)
    (case l0 => k_is)
    (case c0 => k_is)
    (case k0 => k_is)
    (case a1 => k_is)
    (case l1 => k_is)
    (case c1 => k_is)
    (case k1 => k_is)
    (case a2 => k_is)
    (case l2 => k_is)
    (case c2 => k_is)
    (case k2 => k_is)
    (case a3 => k_is)
    (case l3 => k_is)
    (case c3 => k_is)
    (case k3 => k_is)
    (case a4 => k_is)
    (case l4 => k_is)
    (case c4 => k_is)
    (case k4 => k_is)
    (case a5 => k_is)
    (case l5 => k_is)
    (case c5 => k_is)
    (case k5 => k_is)
    (case a6 => k_is)
    (case l6 => k_is)
    (case c6 => k_is)
    (case k6 => k_is)
    (case a7 => k_is)
    (case l7 => k_is)
    (case c7 => k_is)
    (case k7 => k_is)
    (case a8 => k_is)
    (case l8 => k_is)
    (case c8 => k_is)
    (case k8 => k_is)
    (case a9 => k_is)
    (case l9 => k_is)
    (case c9 => k_is)
    (case k9 => k_is)
    (case a10 => k_is)
    (case l10 => k_is)
    (case c10 => k_is)
    (case k10 => k_is)
    (case a11 => k_is)
    (case l11 => k_is)
    (case c11 => k_is)
    (case k11 => k_is)
    (case a12 => k_is)
    (case i12 => k_is)
    (case l12 => k_is)
    (case c12 => k_is)
    (case k12 => k_is)
    (case a13 => k_is)
    (case i13 => k_is)
    (case l13 => k_is)
    (case c13 => k_is)
    (case k13 => k_is)
    (case a14 => k_is)
    (case i14 => k_is)
    (case l14 => k_is)
    (case c14 => k_is)
    (case k14 => k_is)
    (case a15 => k_is)
    (case i15 => k_is)
    (case l15 => k_is)
    (case c15 => k_is)
    (case k15 => k_is)
    (case a16 => k_is)
    (case l16 => k_is)
    (case c16 => k_is)
    (case k16 => k_is)
    (case a17 => k_is)
    (case l17 => k_is)
    (case c17 => k_is)
    (case k17 => k_is)
    (case a18 => k_is)
    (case l18 => k_is)
    (case c18 => k_is)
    (case k18 => k_is)
    (case a19 => k_is)
    (case l19 => k_is)
    (case c19 => k_is)
    (case k19 => k_is)
    (case a20 => k_is)
    (case l20 => k_is)
    (case c20 => k_is)
    (case k20 => k_is)
    (case a21 => k_is)
    (case l21 => k_is)
    (case c21 => k_is)
    (case k21 => k_is)
    (case a22 => k_is)
    (case l22 => k_is)
    (case c22 => k_is)
    (case k22 => k_is)
    (case z0 => k_is)
    (case z1 => k_is)
    (case z2 => k_is)
    (case z3 => k_is)
    (case z4 => k_is)
    (case z5 => k_is)
    (case z6 => k_is)
    (case z7 => k_is)
    (case z8 => k_is)
    (case z9 => k_is)
    (case z10 => k_is)
    (case z11 => k_is)
    (case z12 => k_is)

