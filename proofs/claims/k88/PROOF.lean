import PyProof.Rows.All
import Wide.All
import OpenK.AllK
import Wide.FinOn
import HandS.ForMost
import HandS.Exc
import HandS.ExcOwn
import HandS.WordsExc
import HandS.CallSlots
import HandS.Deep
import HandS.IsInst
import HandS.FStr
import HandS.Wide
import HandS.Lambda
import HandS.EndTab
import HandS.Star
import HandS.Flow
import HandS.RaiseMore
import KE.KExcIs
import PyProof.ReprRoads
import KE.GoesEnum
import HandS.ExcInit
import KE.KSuper
import KE.KExcSuper
import HandS.Ends
import KE.KNestM
import PySem.Challenge.RW_lastasked_k88_stories_written_and_read
import HandS.Text
set_option Elab.async false
set_option linter.all false
set_option maxRecDepth 100000
set_option maxHeartbeats 4000000
/-! # A small Python of data and a heap of lists: values, the relation to the layer's heap, readings by an evaluator -/
namespace MP
open PySem PySem.Spec L2

/-- a value: plain data, a tuple by its items, a list that never changes by its items, a place of the evaluator's heap -/
inductive D where
  | non
  | bl (b : Bool)
  | int (i : Int)
  | str (x : Str)
  | ty (n : String)
  | tup (xs : List D)
  | fl (xs : List D)
  | ref (l : Nat)
/-- an object of the evaluator's heap: a list, a dict by keys, a caught error (its class's name, its field's value) -/
inductive O where
  | lst (xs : List D)
  | dct (kvs : List (Key × D))
  | exc (c : Str) (v : D)
abbrev Ob := List O
abbrev Env' := List (Option D)

/-- an error that was caught, at a: of the class at C, its own dict at d -/
def ExD (C : Addr) (d : Addr) (a : Addr) : HO := .ext fun h => ∃ (oe : Obj) (vs : Array Value), h.get? a = some oe ∧ Zc (.ref C) (some d) oe ∧ oe.data = .fields vs

/-- where the classes of errors stand, what their field is called -/
structure Nm where
  ca : Str → Addr
  cf : Str → Str
  tb : List (Addr × Str)

/-- written tuples, lists -/
def KT (K : PySem.W.Frag) (a : Addr) (xs : List V) : Prop :=
  ∃ (o : Obj) (its : Array Value) (n : Nat), K.lookup a = some o ∧ o.cls = .type "tuple" ∧ o.data = .seq its n ∧ its.size ≤ sizeLine ∧ Vals xs its.toList
def KL (K : PySem.W.Frag) (a : Addr) (xs : List V) : Prop :=
  ∃ (o : Obj) (its : Array Value) (n : Nat), K.lookup a = some o ∧ o.cls = .type "list" ∧ o.dict = none ∧ o.data = .seq its n ∧ its.size ≤ sizeLine ∧ Vals xs its.toList
def TupAt (K : PySem.W.Frag) (H : Hp) (β : List Addr) (a : Addr) (xs : List V) : Prop := (Rd H a (.tup xs) ∧ a ∉ β) ∨ KT K a xs
def LstAt (K : PySem.W.Frag) (H : Hp) (β : List Addr) (a : Addr) (xs : List V) : Prop := ((∃ o, H a = some (.frz o (.lst xs))) ∧ a ∉ β) ∨ KL K a xs
theorem TupAt.sq {K : PySem.W.Frag} {H : Hp} {β : List Addr} {a : Addr} {xs : List V} (h : TupAt K H β a xs) : SqT K H a xs := by
  rcases h with ⟨h, _⟩ | h
  · exact .inl h
  · exact .inr h
theorem LstAt.sq {K : PySem.W.Frag} {H : Hp} {β : List Addr} {a : Addr} {xs : List V} (h : LstAt K H β a xs) : SqL K H a xs := by
  rcases h with ⟨h, _⟩ | h
  · exact .inl (.inr h)
  · exact .inr h

mutual
inductive RelD (K : PySem.W.Frag) (H : Hp) (β : List Addr) : V → D → Prop
  | non : RelD K H β .non .non
  | bl (b : Bool) : RelD K H β (.bl b) (.bl b)
  | int (i : Int) : RelD K H β (.int i) (.int i)
  | str (x : Str) : RelD K H β (.str x) (.str x)
  | ty (n : String) : RelD K H β (.ty n) (.ty n)
  | tup {a : Addr} {xs : List V} {ds : List D} : TupAt K H β a xs → RelDs K H β xs ds → RelD K H β (.ref a) (.tup ds)
  | fl {a : Addr} {xs : List V} {ds : List D} : LstAt K H β a xs → RelDs K H β xs ds → RelD K H β (.ref a) (.fl ds)
  | ref {l : Nat} {a : Addr} : β[l]? = some a → RelD K H β (.ref a) (.ref l)
inductive RelDs (K : PySem.W.Frag) (H : Hp) (β : List Addr) : List V → List D → Prop
  | nil : RelDs K H β [] []
  | cons {v : V} {vs : List V} {d : D} {ds : List D} : RelD K H β v d → RelDs K H β vs ds → RelDs K H β (v :: vs) (d :: ds)
end

/-- what was known stays: the places stand, what is no place of ours is as it was, new places were free -/
structure Ext (H : Hp) (β : List Addr) (H' : Hp) (β' : List Addr) : Prop where
  pre : β <+: β'
  new : ∀ a, a ∈ β' → a ∈ β ∨ H a = none ∨ ∃ ps, H a = some (.tbl ps)
  keep : ∀ a o, H a = some o → a ∉ β → (∀ ps, o ≠ .tbl ps) → H' a = some o
theorem Ext.refl (H : Hp) (β : List Addr) : Ext H β H β := ⟨List.prefix_refl β, fun _ h => .inl h, fun _ _ h _ _ => h⟩
theorem Ext.out {H H' : Hp} {β β' : List Addr} (e : Ext H β H' β') {a : Addr} {o : HO} (h : H a = some o) (n : a ∉ β) (t : ∀ ps, o ≠ .tbl ps := by intro _ z; exact nomatch z) : a ∉ β' := fun hx => by
  rcases e.new a hx with q | q | ⟨ps, q⟩
  · exact n q
  · rw [h] at q
    cases q
  · rw [h] at q
    exact t ps (Option.some.inj q)
theorem Ext.trans {H H1 H2 : Hp} {β β1 β2 : List Addr} (a : Ext H β H1 β1) (b : Ext H1 β1 H2 β2) : Ext H β H2 β2 := by
  refine ⟨a.pre.trans b.pre, fun x hx => ?_, fun x o e n t => b.keep x o (a.keep x o e n t) (a.out e n t) t⟩
  rcases b.new x hx with h | h
  · exact a.new x h
  · by_cases hb : x ∈ β
    · exact .inl hb
    · cases e : H x with
      | none => exact .inr (.inl rfl)
      | some o =>
        by_cases ht : ∃ ps, o = .tbl ps
        · obtain ⟨ps, rfl⟩ := ht
          exact .inr (.inr ⟨ps, rfl⟩)
        · exfalso
          have k := a.keep x o e hb fun ps z => ht ⟨ps, z⟩
          rcases h with h | ⟨ps, h⟩
          · rw [k] at h
            cases h
          · rw [k] at h
            exact ht ⟨ps, Option.some.inj h⟩
theorem pre_get {α : Type} {l m : List α} (p : l <+: m) {i : Nat} {x : α} (h : l[i]? = some x) : m[i]? = some x := by
  obtain ⟨t, rfl⟩ := p
  obtain ⟨hi, _⟩ := List.getElem?_eq_some_iff.mp h
  rw [List.getElem?_append_left hi]
  exact h
section
variable {K : PySem.W.Frag} {H H' : Hp} {β β' : List Addr}
theorem TupAt.ext (e : Ext H β H' β') {a : Addr} {xs : List V} (h : TupAt K H β a xs) : TupAt K H' β' a xs := by
  rcases h with ⟨h, n⟩ | h
  · rcases h with h | ⟨o, h⟩
    · exact .inl ⟨.inl (e.keep _ _ h n fun _ z => nomatch z), e.out h n⟩
    · exact .inl ⟨.inr ⟨o, e.keep _ _ h n fun _ z => nomatch z⟩, e.out h n⟩
  · exact .inr h
theorem LstAt.ext (e : Ext H β H' β') {a : Addr} {xs : List V} (h : LstAt K H β a xs) : LstAt K H' β' a xs := by
  rcases h with ⟨⟨o, h⟩, n⟩ | h
  · exact .inl ⟨⟨o, e.keep _ _ h n fun _ z => nomatch z⟩, e.out h n⟩
  · exact .inr h
mutual
theorem RelD.ext (e : Ext H β H' β') : ∀ (d : D) (v : V), RelD K H β v d → RelD K H' β' v d
  | .non, _, .non => .non
  | .bl _, _, .bl b => .bl b
  | .int _, _, .int i => .int i
  | .str _, _, .str x => .str x
  | .ty _, _, .ty n => .ty n
  | .tup ds, _, .tup h r => .tup (h.ext e) (RelDs.ext e ds _ r)
  | .fl ds, _, .fl h r => .fl (h.ext e) (RelDs.ext e ds _ r)
  | .ref _, _, .ref h => .ref (pre_get e.pre h)
theorem RelDs.ext (e : Ext H β H' β') : ∀ (ds : List D) (vs : List V), RelDs K H β vs ds → RelDs K H' β' vs ds
  | [], _, .nil => .nil
  | d :: ds, _, .cons h r => .cons (RelD.ext e d _ h) (RelDs.ext e ds _ r)
end
theorem RelD.go {v : V} {d : D} (h : RelD K H β v d) (e : Ext H β H' β') : RelD K H' β' v d := RelD.ext e d v h
theorem RelDs.go {vs : List V} {ds : List D} (h : RelDs K H β vs ds) (e : Ext H β H' β') : RelDs K H' β' vs ds := RelDs.ext e ds vs h
theorem RelDs.length : ∀ {vs : List V} {ds : List D}, RelDs K H β vs ds → vs.length = ds.length
  | _, _, .nil => rfl
  | _, _, .cons _ r => congrArg (· + 1) (RelDs.length r)
theorem RelDs.get : ∀ {vs : List V} {ds : List D} {i : Nat} {d : D}, RelDs K H β vs ds → ds[i]? = some d → ∃ v, vs[i]? = some v ∧ RelD K H β v d
  | _, _, _, _, .nil, e => by simp at e
  | _, _, 0, _, .cons r _, e => by
    simp at e
    subst e
    exact ⟨_, rfl, r⟩
  | _, _, i + 1, d, .cons _ t, e => by
    obtain ⟨v, h1, h2⟩ := RelDs.get (i := i) (d := d) t (by simpa using e)
    exact ⟨v, by simpa using h1, h2⟩
theorem RelDs.getV : ∀ {vs : List V} {ds : List D} {i : Nat} {v : V}, RelDs K H β vs ds → vs[i]? = some v → ∃ d, ds[i]? = some d ∧ RelD K H β v d
  | _, _, _, _, .nil, e => by simp at e
  | _, _, 0, _, .cons r _, e => by
    simp at e
    subst e
    exact ⟨_, rfl, r⟩
  | _, _, i + 1, v, .cons _ t, e => by
    obtain ⟨d, h1, h2⟩ := RelDs.getV (i := i) (v := v) t (by simpa using e)
    exact ⟨d, by simpa using h1, h2⟩
theorem RelDs.append : ∀ {vs ws : List V} {ds es : List D}, RelDs K H β vs ds → RelDs K H β ws es → RelDs K H β (vs ++ ws) (ds ++ es)
  | _, _, _, _, .nil, s => s
  | _, _, _, _, .cons r t, s => .cons r (RelDs.append t s)
theorem RelDs.set {v : V} {d : D} (q : RelD K H β v d) : ∀ {vs : List V} {ds : List D} (i : Nat), RelDs K H β vs ds → RelDs K H β (vs.set i v) (ds.set i d)
  | _, _, _, .nil => .nil
  | _, _, 0, .cons _ t => .cons q t
  | _, _, i + 1, .cons r t => .cons r (RelDs.set q i t)
theorem RelDs.take : ∀ {vs : List V} {ds : List D} (n : Nat), RelDs K H β vs ds → RelDs K H β (vs.take n) (ds.take n)
  | _, _, 0, _ => .nil
  | _, _, _ + 1, .nil => .nil
  | _, _, n + 1, .cons r t => .cons r (RelDs.take n t)
theorem RelDs.drop : ∀ {vs : List V} {ds : List D} (n : Nat), RelDs K H β vs ds → RelDs K H β (vs.drop n) (ds.drop n)
  | _, _, 0, r => r
  | _, _, _ + 1, .nil => .nil
  | _, _, n + 1, .cons _ t => RelDs.drop n t
end

/-- the object at a is what the evaluator has -/
def ORel (ν : Nm) (K : PySem.W.Frag) (H : Hp) (β : List Addr) (a : Addr) : O → Prop
  | .lst ds => ∃ xs, H a = some (.lst xs) ∧ RelDs K H β xs ds
  | .dct kvs => ∃ ys : List (Key × V), H a = some (.dK ys) ∧ ys.map (·.1) = kvs.map (·.1) ∧ RelDs K H β (ys.map (·.2)) (kvs.map (·.2))
  | .exc c v => ∃ (d : Addr) (x : V), H a = some (ExD (ν.ca c) d a) ∧ H d = some (.xd [(ν.cf c, x)]) ∧ d ∉ β ∧ RelD K H β x v
/-- the tables of code objects: those that are told, and no others -/
structure TbOk (ν : Nm) (H : Hp) : Prop where
  tabs : LamX.Tabs ν.tb H
theorem TbOk.put {ν : Nm} {H : Hp} {p : Addr} {o : HO} (t : TbOk ν H) (hp : H p = none) (ht : ∀ ps, o ≠ .tbl ps) : TbOk ν (upd H p o) := by
  refine ⟨t.tabs.ext fun b u e => ?_⟩
  rw [upd_ne (ne_of_none e hp)]
  exact e
theorem TbOk.write {ν : Nm} {H : Hp} {p : Addr} {o u : HO} (t : TbOk ν H) (hp : H p = some u) (h1 : ∀ ps, u ≠ .tbl ps) (h2 : ∀ φ, u ≠ .ext φ) (h3 : ∀ q v, u ≠ .frz q v) (ht : ∀ ps, o ≠ .tbl ps) : TbOk ν (upd H p o) := by
  refine ⟨fun q hq => ?_⟩
  · obtain ⟨ps, k1, k2, k3⟩ := t.tabs q hq
    have n1 : q.1 ≠ p := fun z => by
      rw [z, hp] at k1
      exact h1 _ (Option.some.inj k1)
    refine ⟨ps, by rw [upd_ne n1]; exact k1, k2, fun pos cv hc => ?_⟩
    obtain ⟨c, e1, e2⟩ := k3 pos cv hc
    have n2 : c ≠ p := fun z => by
      rw [z, hp] at e2
      exact h2 _ (Option.some.inj e2)
    exact ⟨c, e1, by rw [upd_ne n2]; exact e2⟩
structure HRel (ν : Nm) (K : PySem.W.Frag) (H : Hp) (β : List Addr) (h : Ob) : Prop where
  tb : TbOk ν H
  len : β.length = h.length
  nd : β.Nodup
  obj : ∀ (l : Nat) (a : Addr) (o : O), β[l]? = some a → h[l]? = some o → ORel ν K H β a o
section
variable {ν : Nm} {K : PySem.W.Frag} {H H' : Hp} {β β' : List Addr} {h : Ob}
theorem ORel.isAt {a : Addr} {o : O} (r : ORel ν K H β a o) : ∃ u, H a = some u := by
  cases o with
  | lst ds => obtain ⟨xs, e, _⟩ := r; exact ⟨_, e⟩
  | dct kvs => obtain ⟨ys, e, _⟩ := r; exact ⟨_, e⟩
  | exc c v => obtain ⟨d, x, e, _⟩ := r; exact ⟨_, e⟩
theorem HRel.there (R : HRel ν K H β h) {a : Addr} (ha : a ∈ β) : ∃ u, H a = some u := by
  obtain ⟨l, hl, e⟩ := List.getElem_of_mem ha
  have h1 : β[l]? = some a := by rw [List.getElem?_eq_getElem hl, e]
  have hh : l < h.length := by rw [← R.len]; exact hl
  exact (R.obj l a _ h1 (List.getElem?_eq_getElem hh)).isAt
theorem HRel.fresh (R : HRel ν K H β h) {p : Addr} (hp : H p = none) : p ∉ β := fun ha => by
  obtain ⟨u, e⟩ := R.there ha
  rw [e] at hp
  cases hp
theorem ORel.ext (e : Ext H β H' β') {a : Addr} {o : O} (he : H' a = H a) (r : ORel ν K H β a o) : ORel ν K H' β' a o := by
  cases o with
  | lst ds => obtain ⟨xs, q, r⟩ := r; exact ⟨xs, he.trans q, r.go e⟩
  | dct kvs => obtain ⟨ys, q, k, r⟩ := r; exact ⟨ys, he.trans q, k, r.go e⟩
  | exc c v => obtain ⟨d, x, q, q2, n, r⟩ := r; exact ⟨d, x, he.trans q, e.keep _ _ q2 n (fun _ z => nomatch z), e.out q2 n, r.go e⟩
/-- nothing of ours has changed -/
theorem HRel.same (R : HRel ν K H β h) (e : Ext H β H' β) (k : ∀ a, a ∈ β → H' a = H a) (t : TbOk ν H') : HRel ν K H' β h :=
  ⟨t, R.len, R.nd, fun l a o h1 h2 => (R.obj l a o h1 h2).ext e (k a (List.mem_of_getElem? h1))⟩
/-- a new object that is no place -/
theorem Ext.put {p : Addr} {o : HO} (hp : H p = none) (hn : p ∉ β) : Ext H β (upd H p o) β :=
  ⟨List.prefix_refl β, fun _ h => .inl h, fun a u e _ _ => by rw [upd_ne (ne_of_none e hp)]; exact e⟩
theorem HRel.put (R : HRel ν K H β h) {p : Addr} {o : HO} (hp : H p = none) (ht : ∀ ps, o ≠ .tbl ps := by intro _ z; exact nomatch z) : Ext H β (upd H p o) β ∧ HRel ν K (upd H p o) β h := by
  have e : Ext H β (upd H p o) β := Ext.put hp (R.fresh hp)
  exact ⟨e, R.same e (fun a ha => upd_ne fun z => R.fresh hp (z ▸ ha)) (R.tb.put hp ht)⟩
/-- a new place -/
theorem HRel.alloc (R : HRel ν K H β h) {p : Addr} {u : HO} {o : O} (hp : H p = none) (ho : Ext H β (upd H p u) (β ++ [p]) → ORel ν K (upd H p u) (β ++ [p]) p o) (ht : ∀ ps, u ≠ .tbl ps := by intro _ z; exact nomatch z) :
    Ext H β (upd H p u) (β ++ [p]) ∧ HRel ν K (upd H p u) (β ++ [p]) (h ++ [o]) := by
  have n := R.fresh hp
  have e : Ext H β (upd H p u) (β ++ [p]) := ⟨List.prefix_append _ _, fun a ha => by
    rcases List.mem_append.mp ha with z | z
    · exact .inl z
    · rw [List.mem_singleton.mp z]; exact .inr (.inl hp), fun a v q _ _ => by rw [upd_ne (ne_of_none q hp)]; exact q⟩
  refine ⟨e, ⟨R.tb.put hp ht, by simp [R.len], ?_, fun l a v h1 h2 => ?_⟩⟩
  · rw [List.nodup_append]
    refine ⟨R.nd, by simp, fun a ha b hb z => n ?_⟩
    rw [List.mem_singleton.mp hb] at z
    rw [← z]
    exact ha
  · by_cases hl : l < β.length
    · rw [List.getElem?_append_left hl] at h1
      rw [List.getElem?_append_left (by rw [← R.len]; exact hl)] at h2
      exact (R.obj l a v h1 h2).ext e (upd_ne fun z => n (z ▸ List.mem_of_getElem? h1))
    · rw [List.getElem?_append_right (by omega)] at h1
      rw [List.getElem?_append_right (by rw [← R.len]; omega)] at h2
      have z : l - β.length = 0 := by
        obtain ⟨q, _⟩ := List.getElem?_eq_some_iff.mp h1
        simp at q
        omega
      rw [z] at h1
      rw [← R.len, z] at h2
      simp at h1 h2
      subst h1 h2
      exact ho e
/-- a place is written -/
theorem HRel.write (R : HRel ν K H β h) {l : Nat} {a : Addr} {u : HO} {o : O} (hl : β[l]? = some a) {u0 : HO} (h0 : H a = some u0) (ho : Ext H β (upd H a u) β → ORel ν K (upd H a u) β a o) (hx : ∀ φ, u0 ≠ .ext φ := by intro _ z; exact nomatch z) (h1 : ∀ ps, u0 ≠ .tbl ps := by intro _ z; exact nomatch z) (h3 : ∀ q v, u0 ≠ .frz q v := by intro _ _ z; exact nomatch z) (ht : ∀ ps, u ≠ .tbl ps := by intro _ z; exact nomatch z) :
    Ext H β (upd H a u) β ∧ HRel ν K (upd H a u) β (h.set l o) := by
  have e : Ext H β (upd H a u) β := ⟨List.prefix_refl β, fun _ q => .inl q, fun b v q n _ => by
    have ne : b ≠ a := fun z => n (by rw [z]; exact List.mem_of_getElem? hl)
    rw [upd_ne ne]; exact q⟩
  refine ⟨e, ⟨R.tb.write h0 h1 hx h3 ht, by simp [R.len], R.nd, fun m b v h1 h2 => ?_⟩⟩
  by_cases hm : m = l
  · subst hm
    rw [hl] at h1
    cases h1
    have q : m < h.length := by
      obtain ⟨z, _⟩ := List.getElem?_eq_some_iff.mp hl
      rw [← R.len]
      exact z
    rw [List.getElem?_set_self q] at h2
    cases h2
    exact ho e
  · rw [List.getElem?_set_ne (Ne.symm hm)] at h2
    refine (R.obj m b v h1 h2).ext e (upd_ne fun z => hm ?_)
    subst z
    obtain ⟨i1, g1⟩ := List.getElem?_eq_some_iff.mp h1
    obtain ⟨i2, g2⟩ := List.getElem?_eq_some_iff.mp hl
    exact (List.getElem?_inj i1 R.nd).mp (h1.trans hl.symm)
end

/-! ### slots -/
structure SRel (K : PySem.W.Frag) (H : Hp) (β : List Addr) (σ : St) (ρ : Env') : Prop where
  len : σ.length = ρ.length
  get : ∀ (i : Nat) (d : D), ρ[i]? = some (some d) → ∃ v, σ[i]? = some (some v) ∧ RelD K H β v d
section
variable {K : PySem.W.Frag} {H H' : Hp} {β β' : List Addr} {σ : St} {ρ : Env'}
theorem SRel.go (S : SRel K H β σ ρ) (e : Ext H β H' β') : SRel K H' β' σ ρ := ⟨S.len, fun i d h => by
  obtain ⟨v, h1, h2⟩ := S.get i d h
  exact ⟨v, h1, h2.go e⟩⟩
theorem SRel.set (S : SRel K H β σ ρ) {v : V} {d : D} (r : RelD K H β v d) (i : Nat) : SRel K H β (σ.set i (some v)) (ρ.set i (some d)) := by
  refine ⟨by simp [S.len], fun j e h => ?_⟩
  by_cases hj : i = j
  · subst hj
    by_cases hi : i < ρ.length
    · rw [List.getElem?_set_self hi] at h
      cases h
      exact ⟨v, List.getElem?_set_self (by rw [S.len]; exact hi), r⟩
    · rw [List.getElem?_eq_none (by simpa using hi)] at h
      cases h
  · rw [List.getElem?_set_ne hj] at h ⊢
    exact S.get j e h
theorem SRel.unset (S : SRel K H β σ ρ) (i : Nat) : SRel K H β (σ.set i none) (ρ.set i none) := by
  refine ⟨by simp [S.len], fun j e h => ?_⟩
  by_cases hj : i = j
  · subst hj
    by_cases hi : i < ρ.length
    · rw [List.getElem?_set_self hi] at h
      cases h
    · rw [List.getElem?_eq_none (by simpa using hi)] at h
      cases h
  · rw [List.getElem?_set_ne hj] at h ⊢
    exact S.get j e h
end

/-! ### what an evaluation comes to -/
inductive R (α : Type) where
  | ok (a : α) (h : Ob)
  | exc (c : Str) (v : D) (h : Ob)
  | bad
abbrev M (α : Type) := Ob → R α
def M.ret {α : Type} (a : α) : M α := fun h => .ok a h
def M.fail {α : Type} : M α := fun _ => .bad
def M.bind {α γ : Type} (m : M α) (k : α → M γ) : M γ := fun h => match m h with
  | .ok a h' => k a h'
  | .exc c v h' => .exc c v h'
  | .bad => .bad
instance : Monad M where
  pure := M.ret
  bind := M.bind
def Pst (ν : Nm) (K : PySem.W.Frag) (W : WX) (σ : St) (H : Hp) (β : List Addr) {α : Type} (Qd : α → Hp → List Addr → Prop) : R α → Prop
  | .ok a h' => ∀ H' β', Ext H β H' β' → HRel ν K H' β' h' → Qd a H' β'
  | .exc c d h' => ∀ v dd H' β', Ext H β H' β' → HRel ν K H' β' h' → RelD K H' β' v d → H' dd = some (.xd [(ν.cf c, v)]) → dd ∉ β' → W (.ref (ν.ca c)) (some dd) σ H'
  | .bad => False
def qE (K : PySem.W.Frag) (Q : VK) : D → Hp → List Addr → Prop := fun d H' β' => ∀ v, RelD K H' β' v d → Q v H'
def qT (Q : Bool → Hp → Prop) : Bool → Hp → List Addr → Prop := fun b H' _ => Q b H'
def qA (K : PySem.W.Frag) (Q : List V → Hp → Prop) : List D → Hp → List Addr → Prop := fun ds H' β' => ∀ vs, RelDs K H' β' vs ds → Q vs H'
/-- readings by an evaluation -/
def tM (ν : Nm) (K : PySem.W.Frag) (W : WX) (f : Env' → M D) : TE := fun σ H Q => ∃ β h ρ, HRel ν K H β h ∧ SRel K H β σ ρ ∧ Pst ν K W σ H β (qE K Q) (f ρ h)
def tMT (ν : Nm) (K : PySem.W.Frag) (W : WX) (f : Env' → M Bool) : TT := fun σ H Q => ∃ β h ρ, HRel ν K H β h ∧ SRel K H β σ ρ ∧ Pst ν K W σ H β (qT Q) (f ρ h)
def tMA (ν : Nm) (K : PySem.W.Frag) (W : WX) (f : Env' → M (List D)) : TA := fun σ H Q => ∃ β h ρ, HRel ν K H β h ∧ SRel K H β σ ρ ∧ Pst ν K W σ H β (qA K Q) (f ρ h)

section
variable {ν : Nm} {K : PySem.W.Frag} {W : WX} {σ : St} {H H1 : Hp} {β β1 : List Addr} {h h1 : Ob} {ρ : Env'} {α γ : Type}
theorem Pst.go {Qd : α → Hp → List Addr → Prop} {r : R α} (p : Pst ν K W σ H β Qd r) (e : Ext H β H1 β1) : Pst ν K W σ H1 β1 Qd r := by
  cases r with
  | ok a h' => exact fun H' β' x y => p H' β' (e.trans x) y
  | exc c d h' => exact fun v dd H' β' x y => p v dd H' β' (e.trans x) y
  | bad => exact p
theorem Pst.imp {Qd Qd' : α → Hp → List Addr → Prop} {r : R α} (p : Pst ν K W σ H β Qd r) (q : ∀ a H' β', Qd a H' β' → Qd' a H' β') : Pst ν K W σ H β Qd' r := by
  cases r with
  | ok a h' => exact fun H' β' x y => q _ _ _ (p H' β' x y)
  | exc c d h' => exact p
  | bad => exact p
/-- the first of two, the second from what it came to -/
theorem Pst.first {Qd : γ → Hp → List Addr → Prop} {m : M α} {k : α → M γ} (p : Pst ν K W σ H β Qd (M.bind m k h)) : Pst ν K W σ H β (fun a H' β' => ∃ h', HRel ν K H' β' h' ∧ Ext H β H' β' ∧ Pst ν K W σ H' β' Qd (k a h')) (m h) := by
  unfold M.bind at p
  cases e : m h with
  | ok a h' =>
    rw [e] at p
    exact fun H' β' x y => ⟨h', y, x, p.go x⟩
  | exc c d h' =>
    rw [e] at p
    exact p
  | bad =>
    rw [e] at p
    exact p
theorem Pst.here {Qd : α → Hp → List Addr → Prop} {a : α} (R : HRel ν K H β h) (p : Pst ν K W σ H β Qd (.ok a h)) : Qd a H β := p H β (Ext.refl _ _) R
theorem Pst.put {Qd : α → Hp → List Addr → Prop} {a : α} (R : HRel ν K H β h) (p : Pst ν K W σ H β Qd (.ok a h)) {x : Addr} {o : HO} (hx : H x = none) (ht : ∀ ps, o ≠ .tbl ps := by intro _ z; exact nomatch z) : Qd a (upd H x o) β := p _ β (R.put hx ht).1 (R.put hx ht).2
/-- an expression, then what follows from its value -/
theorem tM_then {f : Env' → M D} {Qd : γ → Hp → List Addr → Prop} {k : D → M γ} {Q : VK} (R : HRel ν K H β h) (S : SRel K H β σ ρ) (p : Pst ν K W σ H β Qd (M.bind (f ρ) k h))
    (q : ∀ v d H' β' h', HRel ν K H' β' h' → SRel K H' β' σ ρ → Ext H β H' β' → RelD K H' β' v d → Pst ν K W σ H' β' Qd (k d h') → Q v H') : tM ν K W f σ H Q :=
  ⟨β, h, ρ, R, S, p.first.imp fun a H' β' ⟨h', R', e, p'⟩ v r => q v a H' β' h' R' (S.go e) e r p'⟩
theorem tMT_then {f : Env' → M Bool} {Qd : γ → Hp → List Addr → Prop} {k : Bool → M γ} {Q : Bool → Hp → Prop} (R : HRel ν K H β h) (S : SRel K H β σ ρ) (p : Pst ν K W σ H β Qd (M.bind (f ρ) k h))
    (q : ∀ b H' β' h', HRel ν K H' β' h' → SRel K H' β' σ ρ → Ext H β H' β' → Pst ν K W σ H' β' Qd (k b h') → Q b H') : tMT ν K W f σ H Q :=
  ⟨β, h, ρ, R, S, p.first.imp fun a H' β' ⟨h', R', e, p'⟩ => q a H' β' h' R' (S.go e) e p'⟩
theorem tMA_then {f : Env' → M (List D)} {Qd : γ → Hp → List Addr → Prop} {k : List D → M γ} {Q : List V → Hp → Prop} (R : HRel ν K H β h) (S : SRel K H β σ ρ) (p : Pst ν K W σ H β Qd (M.bind (f ρ) k h))
    (q : ∀ vs ds H' β' h', HRel ν K H' β' h' → SRel K H' β' σ ρ → Ext H β H' β' → RelDs K H' β' vs ds → Pst ν K W σ H' β' Qd (k ds h') → Q vs H') : tMA ν K W f σ H Q :=
  ⟨β, h, ρ, R, S, p.first.imp fun a H' β' ⟨h', R', e, p'⟩ vs r => q vs a H' β' h' R' (S.go e) e r p'⟩
end
/-- a weaker reading -/
theorem PE.of {X : Cx} {e : Expr} {t t' : TE} (p : PE X e t) (h : ∀ σ H Q, t' σ H Q → t σ H Q) : PE X e t' := ⟨fun pins s σ H Q I q => p.run pins s σ H Q I (h σ H Q q)⟩
theorem PT.of {X : Cx} {e : Expr} {t t' : TT} (p : PT X e t) (h : ∀ σ H Q, t' σ H Q → t σ H Q) : PT X e t' := ⟨fun pins s σ H Q I q => p.run pins s σ H Q I (h σ H Q q)⟩
theorem PA.of {X : Cx} {e : List Expr} {t t' : TA} (p : PA X e t) (h : ∀ σ H Q, t' σ H Q → t σ H Q) : PA X e t' := ⟨fun pos pins s σ H Q I q => p.run pos pins s σ H Q I (h σ H Q q)⟩
theorem PS.of {X : Cx} {e : Stmt} {t t' : TS} (p : PS X e t) (h : ∀ D σ H, t' D σ H → t D σ H) : PS X e t' := ⟨fun pins s σ H D I q => p.run pins s σ H D I (h D σ H q)⟩
theorem PSs.of {X : Cx} {e : List Stmt} {t t' : TS} (p : PSs X e t) (h : ∀ D σ H, t' D σ H → t D σ H) : PSs X e t' := ⟨fun pins s σ H D I q => p.run pins s σ H D I (h D σ H q)⟩
end MP
/-! # The evaluator -/
namespace MP
open PySem PySem.Spec L2

inductive BOp where
  | add | sub | mul | fdiv | mod | pow
inductive COp where
  | eq | ne | lt | le | gt | ge | isin | nin | is_ | isnt
inductive BI where
  | len | all | tuple | str | int | repr | abs | max | min | sum
inductive MT where
  | split | join | append | index | extend
inductive Tg where
  | name (i : Nat)
  | pair (i j : Nat)
mutual
/-- expressions; a test is an expression, asked for its truth -/
inductive E where
  | c (d : D)
  | v (i : Nat)
  | g (x : Str)
  | bin (op : BOp) (a b : E)
  | neg (a : E)
  | not (a : E)
  | and (a b : E)
  | or (a b : E)
  | cmp (op : COp) (a b : E)
  | chain (o1 o2 : COp) (a b c : E)
  | ite (t a b : E)
  | call (f : Str) (as : List E)
  | bi (b : BI) (as : List E)
  | isi (a : E) (T : String)
  | mt (m : MT) (o : E) (as : List E)
  | ix (a b : E)
  | sl (a : E) (lo hi : Option E)
  | tup (as : List E)
  | lst (as : List E)
  | dct0
  | lc (elt : E) (tg : Tg) (it : Wk) (own : List Nat)
  | fld (a : E) (f : Str)
  | reprD (a : E)
  | fmt3 (a : E) (s : Str) (b : E)
  | heard (f : Str) (body : E)
inductive Wk where
  | rng (e : E)
  | over (e : E)
  | enum (e : E) (k : Int)
end
inductive S where
  | asg (i : Nat) (e : E)
  | par (i j : Nat) (a b : E)
  | setix (o i e : E)
  | ex (e : E)
  | ifs (t : E) (a b : List S)
  | for_ (tg : Tg) (it : Wk) (body : List S)
  | ret (e : E)
  | raise (c : Str) (e : E)
  | try_ (body : List S) (c : String) (i : Nat) (suite : List S)
  | pass

/-- a def: how many parameters, how many slots, its body -/
structure Fn where
  np : Nat
  ns : Nat
  body : List S
/-- a def that calls what it got, in a try: its slots, the slot of what came, of the error; the suite, what stands behind -/
structure Hd where
  ns : Nat
  ia : Nat
  ib : Nat
  ie : Nat
  cls : String
  suite : List S
  rest : List S
/-- the text: defs, constants, of which classes an error of a class is -/
structure Tab where
  fns : List (Str × Fn)
  cs : List (Str × D)
  sub : List (Str × List String)
  fd : List (Str × Str)
  hd : List (Str × Hd)

/-! ### values -/
def truth (h : Ob) : D → Option Bool
  | .non => some false
  | .bl b => some b
  | .int i => some (i != 0)
  | .str x => if x.length ≤ 100000 then some ((x.length : Int) != 0) else none
  | .tup xs => some (!xs.isEmpty)
  | .fl xs => some (!xs.isEmpty)
  | .ref l => match h[l]? with
    | some (.lst xs) => some (!xs.isEmpty)
    | some (.dct kvs) => some (!kvs.isEmpty)
    | _ => none
  | .ty _ => none
def pdAll (f : D → Option PyData) : List D → Option (List PyData)
  | [] => some []
  | d :: ds => match f d with
    | none => none
    | some p => match pdAll f ds with
      | none => none
      | some ps => some (p :: ps)
/-- a value as data, lists read off the heap -/
def pd (h : Ob) : Nat → D → Option PyData
  | _, .non => some .none
  | _, .bl b => some (.bool b)
  | _, .int i => some (.int i)
  | _, .str x => some (.str x)
  | n + 1, .tup xs => (pdAll (pd h n) xs).map .tuple
  | n + 1, .fl xs => (pdAll (pd h n) xs).map .list
  | n + 1, .ref l => match h[l]? with
    | some (.lst xs) => (pdAll (pd h n) xs).map .list
    | _ => none
  | _, _ => none
/-- a value as data, dicts without anything among it -/
def pdr (h : Ob) : Nat → D → Option PyData
  | _, .non => some .none
  | _, .bl b => some (.bool b)
  | _, .int i => some (.int i)
  | _, .str x => some (.str x)
  | n + 1, .tup xs => (pdAll (pdr h n) xs).map .tuple
  | n + 1, .ref l => match h[l]? with
    | some (.lst xs) => (pdAll (pdr h n) xs).map .list
    | some (.dct []) => some (.dict [])
    | _ => none
  | _, _ => none
def scalD : D → D → Option Bool
  | .int i, .int j => some (decide (i = j))
  | .str x, .str y => some (decide (x = y))
  | .bl a, .bl b => some (decide (a = b))
  | .non, .non => some true
  | .non, .int _ => some false
  | .int _, .non => some false
  | .non, .bl _ => some false
  | .bl _, .non => some false
  | .non, .str _ => some false
  | .str _, .non => some false
  | .int _, .str _ => some false
  | .str _, .int _ => some false
  | .bl _, .str _ => some false
  | .str _, .bl _ => some false
  | _, _ => none
def eqD (h : Ob) (a b : D) : Option Bool := match scalD a b with
  | some r => some r
  | none => match pd h 40 a, pd h 40 b with
    | some p, some q => if SeqAt.shaped p && SeqAt.shaped q then some (PyData.eqv p q) else none
    | _, _ => none
def flatD : D → Bool
  | .non => true
  | .bl _ => true
  | .int _ => true
  | .str _ => true
  | _ => false
def eqF : D → D → Bool
  | .non, .non => true
  | .bl a, .bl b => a == b
  | .bl a, .int b => (if a = true then 1 else 0) == b
  | .int a, .bl b => a == (if b = true then 1 else 0)
  | .int a, .int b => a == b
  | .str a, .str b => a == b
  | _, _ => false
/-- the items of a list or tuple -/
def itemsOf (h : Ob) : D → Option (List D)
  | .tup xs => some xs
  | .fl xs => some xs
  | .ref l => match h[l]? with
    | some (.lst xs) => some xs
    | _ => none
  | _ => none
def inD (h : Ob) (x y : D) : Option Bool := match x, y with
  | .str c, .str z => match c.cps.toList with
    | [k] => some (decide (k ∈ z.cps.toList))
    | _ => some (!(Builtin.Str.occurrences z c 0 z.length 1).isEmpty)
  | x, y => match itemsOf h y with
    | none => none
    | some ys => if flatD x && ys.all flatD then some (ys.any fun z => eqF z x) else
      match pd h 40 x, pd h 40 y with
      | some p, some (.list ps) => if SeqAt.shaped p && SeqAt.shaped (.list ps) then some (ps.any fun z => PyData.eqv z p) else none
      | _, _ => none
def isNon : D → Bool
  | .non => true
  | _ => false
def cmpB (op : COp) (h : Ob) (a b : D) : Option Bool := match op with
  | .eq => eqD h a b
  | .ne => (eqD h a b).map (!·)
  | .isin => inD h a b
  | .nin => (inD h a b).map (!·)
  | .is_ => if isNon b then some (isNon a) else none
  | .isnt => if isNon b then some (!isNon a) else none
  | .lt => match a, b with
    | .int i, .int j => some (decide (i < j))
    | _, _ => none
  | .le => match a, b with
    | .int i, .int j => some (decide (i ≤ j))
    | _, _ => none
  | .gt => match a, b with
    | .int i, .int j => some (decide (j < i))
    | _, _ => none
  | .ge => match a, b with
    | .int i, .int j => some (decide (j ≤ i))
    | _, _ => none
def cmpD (op : COp) (a b : D) : M Bool := fun h => match cmpB op h a b with
  | some r => .ok r h
  | none => .bad
def alloc (o : O) : M D := fun h => .ok (.ref h.length) (h ++ [o])
def small (i : Int) : Bool := decide (-(2 ^ 64) < i) && decide (i < 2 ^ 64)
def bopD (op : BOp) (a b : D) : M D := fun h => match op, a, b with
  | .add, .int i, .int j => .ok (.int (i + j)) h
  | .add, .str x, .str y => if x.length + y.length ≤ 100000 then .ok (.str (x ++ y)) h else .bad
  | .add, .ref l, .ref m => match h[l]?, h[m]? with
    | some (.lst xs), some (.lst ys) => if xs.length + ys.length ≤ 100000 then alloc (.lst (xs ++ ys)) h else .bad
    | _, _ => .bad
  | .sub, .int i, .int j => .ok (.int (i - j)) h
  | .mul, .int i, .int j => if small i || small j then .ok (.int (i * j)) h else .bad
  | .mul, .ref l, .int k => match h[l]? with
    | some (.lst xs) => if 0 ≤ k ∧ k < 1000 ∧ xs.length * k.toNat ≤ 100000 then alloc (.lst (List.replicate k.toNat xs).flatten) h else .bad
    | _ => .bad
  | .fdiv, .int i, .int j => if j ≠ 0 ∧ j.natAbs < 1073741824 then .ok (.int (i.fdiv j)) h else .bad
  | .mod, .int i, .int j => if j ≠ 0 then .ok (.int (i.fmod j)) h else .bad
  | .pow, .int i, .int j => if 0 ≤ j ∧ (Builtin.Int.intBits i : Int) * j ≤ 2 ^ 27 then .ok (.int (i ^ j.toNat)) h else .bad
  | _, _, _ => .bad
def ixD (a b : D) : M D := fun h => match b with
  | .int i => match a with
    | .str z => if z.length ≤ 100000 then match atI z.cps.toList i with
      | some c => .ok (.str ⟨#[c]⟩) h
      | none => .bad else .bad
    | a => match itemsOf h a with
      | some xs => match atI xs i with
        | some d => .ok d h
        | none => .bad
      | none => .bad
  | _ => .bad
def cutD (xs : List D) (lo hi : Option Int) : List D := (xs.drop (HT.sIx xs.length 0 lo)).take (HT.sIx xs.length xs.length hi - HT.sIx xs.length 0 lo)
def slD (a : D) (lo hi : Option Int) : M D := fun h => match a with
  | .ref l => match h[l]? with
    | some (.lst xs) => alloc (.lst (cutD xs lo hi)) h
    | _ => .bad
  | _ => .bad
def boolsOf : List D → Option (List Bool)
  | [] => some []
  | .bl b :: ds => (boolsOf ds).map (b :: ·)
  | _ => none
def intsOf : List D → Option (List Int)
  | [] => some []
  | .int i :: ds => (intsOf ds).map (i :: ·)
  | _ => none
def strsOf : List D → Option (List Str)
  | [] => some []
  | .str z :: ds => (strsOf ds).map (z :: ·)
  | _ => none
def listOf (h : Ob) : D → Option (List D)
  | .fl xs => some xs
  | .ref l => match h[l]? with
    | some (.lst xs) => some xs
    | _ => none
  | _ => none
def isSeq : D → Bool
  | .tup _ => true
  | .fl _ => true
  | .ref _ => true
  | _ => false
def biD (b : BI) (as : List D) : M D := fun h => match b, as with
  | .len, [.str x] => if x.length ≤ 100000 then .ok (.int x.length) h else .bad
  | .len, [d] => match itemsOf h d with
    | some xs => .ok (.int xs.length) h
    | none => .bad
  | .all, [d] => match listOf h d with
    | some xs => match boolsOf xs with
      | some bs => .ok (.bl (bs.all id)) h
      | none => .bad
    | none => .bad
  | .tuple, [d] => match itemsOf h d with
    | some xs => .ok (.tup xs) h
    | none => .bad
  | .str, [.int i] => if i.natAbs.log2 < 1920 then .ok (.str (toString i)) h else .bad
  | .str, [.str x] => .ok (.str x) h
  | .int, [.int i] => .ok (.int i) h
  | .int, [.bl k] => .ok (.int (if k then 1 else 0)) h
  | .int, [.str x] => match PySem.intText? x with
    | some n => if x.length ≤ 640 then .ok (.int n) h else .bad
    | none => .bad
  | .repr, [d] => match pd h 40 d with
    | some p => if isSeq d && p.showable && decide (p.depth ≤ 64) && decide (p.shown.length ≤ 100000) then .ok (.str p.shown) h else .bad
    | none => .bad
  | .abs, [.int i] => .ok (.int (if i < 0 then -i else i)) h
  | .max, [.int i, .int j] => .ok (.int (if j > i then j else i)) h
  | .min, [.int i, .int j] => .ok (.int (if j < i then j else i)) h
  | _, _ => .bad
/-- the built-in type of what is no error -/
def kindOf (h : Ob) : D → Option String
  | .non => some "NoneType"
  | .bl _ => some "bool"
  | .int _ => some "int"
  | .str _ => some "str"
  | .tup _ => some "tuple"
  | .fl _ => some "list"
  | .ty _ => none
  | .ref l => match h[l]? with
    | some (.lst _) => some "list"
    | some (.dct _) => some "dict"
    | _ => none
def plainIs (k T : String) : Bool := k == T || (k == "bool" && T == "int")
def excOf (h : Ob) : D → Option Str
  | .ref l => match h[l]? with
    | some (.exc c _) => some c
    | _ => none
  | _ => none
def isiD (Γ : Tab) (T : String) (d : D) : M D := fun h => match kindOf h d with
  | some k => .ok (.bl (plainIs k T)) h
  | none => match excOf h d with
    | some c => match Γ.sub.lookup c with
      | some ts => .ok (.bl (ts.contains T)) h
      | none => .bad
    | none => .bad
def firstIx (p : PyData → Bool) : List PyData → Option Nat
  | [] => none
  | z :: zs => if p z then some 0 else (firstIx p zs).map (· + 1)
def mtD (m : MT) (o : D) (as : List D) : M D := fun h => match m, o, as with
  | .split, .str a, [.str b] => if (b.length == 0) = false ∧ a.length + 2 ≤ 100000 then alloc (.lst ((Txt.split a b).map .str)) h else .bad
  | .join, .str a, [d] => match itemsOf h d with
    | some xs => match strsOf xs with
      | some ys => if ys.length ≤ 1000 ∧ ys.all (fun y => decide (y.length ≤ 1000)) ∧ a.length ≤ 10 then .ok (.str (Txt.join a ys)) h else .bad
      | none => .bad
    | none => .bad
  | .append, .ref l, [d] => match h[l]? with
    | some (.lst xs) => if xs.length < 100000 then .ok .non (h.set l (.lst (xs ++ [d]))) else .bad
    | _ => .bad
  | .extend, .ref l, [.ref m] => match h[l]?, h[m]? with
    | some (.lst xs), some (.lst ys) => if xs.length + ys.length ≤ 100000 then .ok .non (h.set l (.lst (xs ++ ys))) else .bad
    | _, _ => .bad
  | .index, o, [y] => match pd h 40 o, pd h 40 y with
    | some (.list ps), some p => if SeqAt.shaped (.list ps) && SeqAt.shaped p then match firstIx (fun z => PyData.eqv z p) ps with
      | some j => .ok (.int (j : Nat)) h
      | none => .bad else .bad
    | _, _ => .bad
  | _, _, _ => .bad
/-- the receiver is what it must be -/
def recvOk (m : MT) (h : Ob) (d : D) : Bool := match m, d with
  | .split, .str _ => true
  | .join, .str _ => true
  | .split, _ => false
  | .join, _ => false
  | _, d => (listOf h d).isSome
def recvM (m : MT) (d : D) : M Unit := fun h => if recvOk m h d then .ok () h else .bad
def setD (o i e : D) : M Unit := fun h => match o, i with
  | .ref l, .int k => match h[l]? with
    | some (.lst xs) => match ixN xs.length k with
      | some j => .ok () (h.set l (.lst (xs.set j e)))
      | none => .bad
    | _ => .bad
  | _, _ => .bad

/-! ### places handed to a def: what it can reach, under places of its own -/
mutual
def refsD : D → List Nat
  | .ref l => [l]
  | .tup xs => refsDs xs
  | .fl xs => refsDs xs
  | _ => []
def refsDs : List D → List Nat
  | [] => []
  | d :: ds => refsD d ++ refsDs ds
end
def refsO : O → List Nat
  | .lst xs => refsDs xs
  | .dct kvs => refsDs (kvs.map (·.2))
  | .exc _ v => refsD v
def reach (h : Ob) : Nat → List Nat → List Nat → List Nat
  | 0, _, acc => acc
  | _ + 1, [], acc => acc
  | n + 1, l :: fr, acc => if acc.contains l then reach h n fr acc else match h[l]? with
    | some o => reach h n (refsO o ++ fr) (acc ++ [l])
    | none => reach h n fr (acc ++ [l])
mutual
def renD (f : Nat → Option Nat) : D → Option D
  | .ref l => (f l).map .ref
  | .tup xs => (renDs f xs).map .tup
  | .fl xs => (renDs f xs).map .fl
  | .non => some .non
  | .bl b => some (.bl b)
  | .int i => some (.int i)
  | .str x => some (.str x)
  | .ty n => some (.ty n)
def renDs (f : Nat → Option Nat) : List D → Option (List D)
  | [] => some []
  | d :: ds => match renD f d with
    | none => none
    | some e => match renDs f ds with
      | none => none
      | some es => some (e :: es)
end
def renO (f : Nat → Option Nat) : O → Option O
  | .lst xs => (renDs f xs).map .lst
  | .dct kvs => (renDs f (kvs.map (·.2))).map fun ds => .dct ((kvs.map (·.1)).zip ds)
  | .exc c v => (renD f v).map (.exc c)
def renOs (f : Nat → Option Nat) : List O → Option (List O)
  | [] => some []
  | o :: os => match renO f o with
    | none => none
    | some e => match renOs f os with
      | none => none
      | some es => some (e :: es)
def getsO (h : Ob) : List Nat → Option (List O)
  | [] => some []
  | l :: ls => match h[l]? with
    | none => none
    | some o => match getsO h ls with
      | none => none
      | some os => some (o :: os)
def putsO (h : Ob) : List Nat → List O → Ob
  | l :: ls, o :: os => putsO (h.set l o) ls os
  | _, _ => h
def ixOf : List Nat → Nat → Option Nat
  | [], _ => none
  | m :: L, l => if m = l then some 0 else (ixOf L l).map (· + 1)
def outOf (L : List Nat) (n : Nat) (j : Nat) : Option Nat := if j < L.length then L[j]? else some (n + (j - L.length))
/-- run m over what the arguments reach -/
def sub (ds : List D) (m : List D → M D) : M D := fun h =>
  let L := reach h 200 (refsDs ds) []
  match getsO h L with
  | none => .bad
  | some os => match renOs (ixOf L) os, renDs (ixOf L) ds with
    | some os', some ds' => match m ds' os' with
      | .ok d h1 => match renOs (outOf L h.length) h1, renD (outOf L h.length) d with
        | some h2, some d2 => .ok d2 (putsO h L (h2.take L.length) ++ h2.drop L.length)
        | _, _ => .bad
      | .exc c d h1 => match renOs (outOf L h.length) h1, renD (outOf L h.length) d with
        | some h2, some d2 => .exc c d2 (putsO h L (h2.take L.length) ++ h2.drop L.length)
        | _, _ => .bad
      | .bad => .bad
    | _, _ => .bad

/-! ### statements -/
inductive Fl where
  | nx (ρ : Env')
  | rt (d : D)
  | bk (ρ : Env')
  | ct (ρ : Env')
inductive RS where
  | ok (f : Fl) (h : Ob)
  | exc (c : Str) (v : D) (ρ : Env') (h : Ob)
  | bad
abbrev MS := Ob → RS
def liftS {α : Type} (m : M α) (ρ : Env') (k : α → MS) : MS := fun h => match m h with
  | .ok a h' => k a h'
  | .exc c v h' => .exc c v ρ h'
  | .bad => .bad
def seqS (f : S → Env' → MS) : List S → Env' → MS
  | [], ρ => fun h => .ok (.nx ρ) h
  | s :: ss, ρ => fun h => match f s ρ h with
    | .ok (.nx ρ') h' => seqS f ss ρ' h'
    | r => r
def bindTg (tg : Tg) (x : D) (ρ : Env') : Option Env' := match tg, x with
  | .name i, x => some (ρ.set i (some x))
  | .pair i j, .tup [a, b] => some ((ρ.set i (some a)).set j (some b))
  | _, _ => none
/-- what is walked: items that stand, or the list at a place as it is at each turn -/
inductive IV where
  | items (xs : List D)
  | at_ (l : Nat)
  | enum (v : IV) (k : Int)
def IV.get (h : Ob) : IV → Nat → Option D
  | .items xs, i => xs[i]?
  | .at_ l, i => match h[l]? with
    | some (.lst xs) => xs[i]?
    | _ => none
  | .enum v k, i => (v.get h i).map fun x => .tup [.int (k + i), x]
def IV.len (h : Ob) : IV → Nat
  | .items xs => xs.length
  | .at_ l => match h[l]? with
    | some (.lst xs) => xs.length
    | _ => 0
  | .enum v _ => v.len h
/-- the list is still there -/
def IV.ok (h : Ob) : IV → Bool
  | .items _ => true
  | .at_ l => match h[l]? with
    | some (.lst _) => true
    | _ => false
  | .enum v _ => v.ok h
def signs (z : Str) : List D := z.cps.toList.map fun c => .str ⟨#[c]⟩
def ivOf (d : D) : M IV := fun h => match d with
  | .str z => .ok (.items (signs z)) h
  | .tup xs => .ok (.items xs) h
  | .fl xs => .ok (.items xs) h
  | .ref l => match h[l]? with
    | some (.lst _) => .ok (.at_ l) h
    | _ => .bad
  | _ => .bad
def ivOfE (d : D) : M IV := fun h => match d with
  | .tup xs => .ok (.items xs) h
  | .ref l => match h[l]? with
    | some (.lst _) => .ok (.at_ l) h
    | _ => .bad
  | _ => .bad
def loopS (v : IV) (tg : Tg) (body : Env' → MS) : Nat → Nat → Env' → MS
  | m, i, ρ => fun h => if v.ok h then match v.get h i with
    | none => .ok (.nx ρ) h
    | some x => match m with
      | 0 => .bad
      | m + 1 => match bindTg tg x ρ with
        | none => .bad
        | some ρ1 => match body ρ1 h with
          | .ok (.nx ρ') h' => loopS v tg body m (i + 1) ρ' h'
          | .ok (.ct ρ') h' => loopS v tg body m (i + 1) ρ' h'
          | .ok (.bk ρ') h' => .ok (.nx ρ') h'
          | r => r else .bad
/-- a comprehension's turns, the list at l -/
def loopC (v : IV) (tg : Tg) (elt : Env' → M D) (l : Nat) (ρ : Env') : Nat → Nat → M Unit
  | m, i => fun h => if v.ok h then match v.get h i with
    | none => .ok () h
    | some x => match m with
      | 0 => .bad
      | m + 1 => match bindTg tg x ρ with
        | none => .bad
        | some ρ1 => match elt ρ1 h with
          | .ok y h' => match h'[l]? with
            | some (.lst acc) => if acc.length < 100000 then loopC v tg elt l ρ m (i + 1) (h'.set l (.lst (acc ++ [y]))) else .bad
            | _ => .bad
          | _ => .bad else .bad
def wipeD (ρ : Env') : List Nat → Env'
  | [] => ρ
  | v :: vs => (wipeD ρ vs).set v none
def mapM' (f : E → M D) : List E → M (List D)
  | [] => M.ret []
  | e :: es => M.bind (f e) fun d => M.bind (mapM' f es) fun ds => M.ret (d :: ds)
def optM (f : E → M D) : Option E → M (Option Int)
  | none => M.ret none
  | some e => M.bind (f e) fun d h => match d with
    | .int i => .ok (some i) h
    | _ => .bad
def truthM (d : D) : M Bool := fun h => match truth h d with
  | some b => .ok b h
  | none => .bad
def doneS (m : MS) : M D := fun h => match m h with
  | .ok (.rt d) h' => .ok d h'
  | .ok (.nx _) h' => .ok .non h'
  | .ok _ _ => .bad
  | .exc c v _ h' => .exc c v h'
  | .bad => .bad
def onlyOk {α : Type} (m : M α) : M α := fun h => match m h with
  | .ok a h' => .ok a h'
  | _ => .bad
structure Evs where
  e : Nat → E → Env' → M D
  s : Nat → S → Env' → MS
def startE (f : Fn) (ds : List D) : Env' := ds.map some ++ List.replicate (f.ns - f.np) none
def callF (Γ : Tab) (p : Evs) (k : Nat) (f : Str) (ds : List D) : M D := match Γ.fns.lookup f with
  | none => M.fail
  | some fn => match k with
    | 0 => M.fail
    | k + 1 => if ds.length = fn.np then sub ds fun es => doneS (seqS (p.s k) fn.body (startE fn es)) else M.fail
def ivE (p : Evs) (k : Nat) (ρ : Env') : Wk → M IV
  | .rng e => M.bind (p.e k e ρ) fun d h => match d with
    | .int n => if -100000 ≤ n ∧ n ≤ 100000 then .ok (.items ((List.range n.toNat).map fun i => .int (i : Nat))) h else .bad
    | _ => .bad
  | .over e => M.bind (p.e k e ρ) ivOf
  | .enum e j => M.bind (M.bind (p.e k e ρ) ivOfE) fun v => M.ret (.enum v j)
def startH (d : Hd) : Env' := ((List.replicate d.ns none).set d.ia (some .non)).set d.ib (some .non)
def okD : R D → R D
  | .ok a h => .ok a h
  | _ => .bad
def heardM (sb : Str → Option (List String)) (d : Hd) (m : M D) (g : List S → Env' → MS) : M D := fun h => match m h with
  | .ok x h1 => okD (doneS (g d.rest ((startH d).set d.ib (some x))) h1)
  | .exc c v h1 => match sb c with
    | some ts => if ts.contains d.cls then match g d.suite ((startH d).set d.ie (some (.ref h1.length))) (h1 ++ [.exc c v]) with
      | .ok (.nx ρ2) h2 => okD (doneS (g d.rest (ρ2.set d.ie none)) h2)
      | _ => .bad
      else .bad
    | none => .bad
  | .bad => .bad
def stepE (Γ : Tab) (p : Evs) (k : Nat) (e : E) (ρ : Env') : M D := match e with
  | .c d => M.ret d
  | .v i => match ρ[i]? with
    | some (some d) => M.ret d
    | _ => M.fail
  | .g x => match Γ.cs.lookup x with
    | some d => M.ret d
    | none => M.fail
  | .bin op a b => M.bind (p.e k a ρ) fun x => M.bind (p.e k b ρ) fun y => bopD op x y
  | .neg a => M.bind (p.e k a ρ) fun x h => match x with
    | .int i => .ok (.int (-i)) h
    | _ => .bad
  | .not a => M.bind (p.e k a ρ) fun x => M.bind (truthM x) fun b => M.ret (.bl (!b))
  | .and a b => M.bind (p.e k a ρ) fun x => M.bind (truthM x) fun t => if t then p.e k b ρ else M.ret x
  | .or a b => M.bind (p.e k a ρ) fun x => M.bind (truthM x) fun t => if t then M.ret x else p.e k b ρ
  | .cmp op a b => M.bind (p.e k a ρ) fun x => M.bind (p.e k b ρ) fun y => M.bind (cmpD op x y) fun r => M.ret (.bl r)
  | .chain o1 o2 a b c => M.bind (p.e k a ρ) fun x => M.bind (p.e k b ρ) fun y => M.bind (cmpD o1 x y) fun r =>
      if r then M.bind (p.e k c ρ) fun z => M.bind (cmpD o2 y z) fun q => M.ret (.bl q) else M.ret (.bl false)
  | .ite t a b => M.bind (p.e k t ρ) fun x => M.bind (truthM x) fun r => if r then p.e k a ρ else p.e k b ρ
  | .call f as => M.bind (mapM' (fun e => p.e k e ρ) as) fun ds => callF Γ p k f ds
  | .bi b as => M.bind (mapM' (fun e => p.e k e ρ) as) fun ds => biD b ds
  | .isi a T => M.bind (p.e k a ρ) fun x => isiD Γ T x
  | .mt m o as => M.bind (p.e k o ρ) fun x => M.bind (recvM m x) fun _ => M.bind (mapM' (fun e => p.e k e ρ) as) fun ds => mtD m x ds
  | .ix a b => M.bind (p.e k a ρ) fun x => M.bind (p.e k b ρ) fun y => ixD x y
  | .sl a lo hi => M.bind (p.e k a ρ) fun x => M.bind (optM (fun e => p.e k e ρ) lo) fun l => M.bind (optM (fun e => p.e k e ρ) hi) fun u => slD x l u
  | .tup as => M.bind (mapM' (fun e => p.e k e ρ) as) fun ds => if ds.length ≤ 1000 then M.ret (.tup ds) else M.fail
  | .lst as => M.bind (mapM' (fun e => p.e k e ρ) as) fun ds => if ds.length ≤ 1000 then alloc (.lst ds) else M.fail
  | .dct0 => alloc (.dct [])
  | .lc elt tg it own => M.bind (ivE p k ρ it) fun v => M.bind (alloc (.lst [])) fun r h => match r with
    | .ref l => M.bind (loopC v tg (p.e k elt) l (wipeD ρ own) (v.len h) 0) (fun _ => M.ret (.ref l)) h
    | _ => .bad
  | .fld a f => M.bind (p.e k a ρ) fun x h => match x with
    | .ref l => match h[l]? with
      | some (.exc c v) => match Γ.fd.lookup c with
        | some g => if g = f then .ok v h else .bad
        | none => .bad
      | _ => .bad
    | _ => .bad
  | .reprD a => M.bind (p.e k a ρ) fun d h => match pdr h 40 d with
    | some q => if isSeq d && q.showable && decide (q.depth ≤ 64) && decide (q.shown.length ≤ 100000) then .ok (.str q.shown) h else .bad
    | none => .bad
  | .fmt3 a s b => M.bind (p.e k a ρ) fun x => match x with
    | .str u => if u.length + s.length ≤ 50000 then M.bind (p.e k b ρ) fun y h => match y with
      | .str v => if v.length ≤ 50000 then .ok (.str (u ++ s ++ v)) h else .bad
      | _ => .bad else M.fail
    | _ => M.fail
  | .heard f body => match Γ.hd.lookup f, k with
    | some d, k + 2 => heardM (fun c => Γ.sub.lookup c) d (p.e k body ρ) (fun ss ρ => seqS (p.s (k + 1)) ss ρ)
    | _, _ => M.fail
def stepS (Γ : Tab) (p : Evs) (k : Nat) (s : S) (ρ : Env') : MS := match s with
  | .asg i e => liftS (p.e k e ρ) ρ fun d h => .ok (.nx (ρ.set i (some d))) h
  | .par i j a b => liftS (p.e k a ρ) ρ fun x => liftS (p.e k b ρ) ρ fun y h => .ok (.nx ((ρ.set i (some x)).set j (some y))) h
  | .setix o i e => liftS (p.e k e ρ) ρ fun x => liftS (p.e k o ρ) ρ fun y => liftS (p.e k i ρ) ρ fun z => liftS (setD y z x) ρ fun _ h => .ok (.nx ρ) h
  | .ex e => liftS (p.e k e ρ) ρ fun _ h => .ok (.nx ρ) h
  | .ifs t a b => liftS (p.e k t ρ) ρ fun x => liftS (truthM x) ρ fun r => if r then seqS (p.s k) a ρ else seqS (p.s k) b ρ
  | .for_ tg it body => liftS (ivE p k ρ it) ρ fun v h => loopS v tg (seqS (p.s k) body) (v.len h) 0 ρ h
  | .ret e => liftS (p.e k e ρ) ρ fun d h => .ok (.rt d) h
  | .raise c e => liftS (p.e k e ρ) ρ fun d h => .exc c d ρ h
  | .try_ body c i suite => fun h => match seqS (p.s k) body ρ h with
    | .exc c' v ρ' h' => match Γ.sub.lookup c' with
      | none => .bad
      | some ts => if ts.contains c then match seqS (p.s k) suite (ρ'.set i (some (.ref h'.length))) (h' ++ [.exc c' v]) with
        | .ok (.nx ρ2) h2 => .ok (.nx (ρ2.set i none)) h2
        | .ok (.rt d) h2 => .ok (.rt d) h2
        | _ => .bad
        else .exc c' v ρ' h'
    | r => r
  | .pass => fun h => .ok (.nx ρ) h
def ev (Γ : Tab) : Nat → Evs
  | 0 => ⟨fun _ _ _ => M.fail, fun _ _ _ _ => .bad⟩
  | n + 1 => ⟨stepE Γ (ev Γ n), stepS Γ (ev Γ n)⟩
end MP
/-! # A call sees what its arguments reach, under places of its own -/
namespace MP
open PySem PySem.Spec L2
section
variable {ν : Nm} {K : PySem.W.Frag} {W : WX}
theorem ixOf_get : ∀ {L : List Nat} {l j : Nat}, ixOf L l = some j → L[j]? = some l
  | [], _, _, h => by cases h
  | m :: L, l, j, h => by
    unfold ixOf at h
    by_cases hm : m = l
    · rw [if_pos hm] at h
      cases h
      rw [hm]
      rfl
    · rw [if_neg hm] at h
      cases q : ixOf L l with
      | none => rw [q] at h; cases h
      | some i =>
        rw [q] at h
        cases h
        have ih := ixOf_get q
        show (m :: L)[i + 1]? = some l
        rw [List.getElem?_cons_succ]
        exact ih
theorem reach_nd {h : Ob} : ∀ (n : Nat) (fr acc : List Nat), acc.Nodup → (reach h n fr acc).Nodup
  | 0, _, _, nd => nd
  | _ + 1, [], _, nd => nd
  | n + 1, l :: fr, acc, nd => by
    unfold reach
    by_cases hc : acc.contains l = true
    · rw [if_pos hc]
      exact reach_nd n fr acc nd
    · rw [if_neg hc]
      have nd2 : (acc ++ [l]).Nodup := by
        rw [List.nodup_append]
        refine ⟨nd, by simp, fun a ha b hb z => hc ?_⟩
        rw [List.mem_singleton.mp hb] at z
        rw [← z]
        exact List.contains_iff_mem.mpr ha
      split
      · exact reach_nd n _ _ nd2
      · exact reach_nd n _ _ nd2
/-- how places go over -/
structure Rn (H : Hp) (β β' : List Addr) (f : Nat → Option Nat) : Prop where
  go : ∀ l l' a, f l = some l' → β[l]? = some a → β'[l']? = some a
  out : ∀ a u, H a = some u → a ∉ β → (∀ xs, u ≠ .lst xs) → (∀ ys, u ≠ .dK ys) → (∀ φ, u ≠ .ext φ) → a ∉ β'
mutual
theorem RelD.ren {H : Hp} {β β' : List Addr} {f : Nat → Option Nat} (F : Rn H β β' f) : ∀ (d : D) (d' : D) (v : V), renD f d = some d' → RelD K H β v d → RelD K H β' v d'
  | .non, _, _, e, .non => by
    simp only [renD] at e
    cases e
    exact .non
  | .bl _, _, _, e, .bl _ => by
    simp only [renD] at e
    cases e
    exact .bl _
  | .int _, _, _, e, .int _ => by
    simp only [renD] at e
    cases e
    exact .int _
  | .str _, _, _, e, .str _ => by
    simp only [renD] at e
    cases e
    exact .str _
  | .ty _, _, _, e, .ty _ => by
    simp only [renD] at e
    cases e
    exact .ty _
  | .tup ds, d', _, e, .tup ht r => by
    simp only [renD] at e
    cases q : renDs f ds with
    | none => rw [q] at e; cases e
    | some ds' =>
      rw [q] at e
      cases e
      refine .tup ?_ (RelDs.ren F ds ds' _ q r)
      rcases ht with ⟨h | ⟨o, h⟩, n⟩ | h
      · exact .inl ⟨.inl h, F.out _ _ h n (fun _ z => nomatch z) (fun _ z => nomatch z) (fun _ z => nomatch z)⟩
      · exact .inl ⟨.inr ⟨o, h⟩, F.out _ _ h n (fun _ z => nomatch z) (fun _ z => nomatch z) (fun _ z => nomatch z)⟩
      · exact .inr h
  | .fl ds, d', _, e, .fl ht r => by
    simp only [renD] at e
    cases q : renDs f ds with
    | none => rw [q] at e; cases e
    | some ds' =>
      rw [q] at e
      cases e
      refine .fl ?_ (RelDs.ren F ds ds' _ q r)
      rcases ht with ⟨⟨o, h⟩, n⟩ | h
      · exact .inl ⟨⟨o, h⟩, F.out _ _ h n (fun _ z => nomatch z) (fun _ z => nomatch z) (fun _ z => nomatch z)⟩
      · exact .inr h
  | .ref l, d', _, e, .ref h => by
    simp only [renD] at e
    cases q : f l with
    | none => rw [q] at e; cases e
    | some l' =>
      rw [q] at e
      cases e
      exact .ref (F.go l l' _ q h)
theorem RelDs.ren {H : Hp} {β β' : List Addr} {f : Nat → Option Nat} (F : Rn H β β' f) : ∀ (ds ds' : List D) (vs : List V), renDs f ds = some ds' → RelDs K H β vs ds → RelDs K H β' vs ds'
  | [], _, _, e, .nil => by
    simp only [renDs] at e
    cases e
    exact .nil
  | d :: ds, es, _, e, .cons r rs => by
    simp only [renDs] at e
    cases q : renD f d with
    | none => rw [q] at e; cases e
    | some d' =>
      rw [q] at e
      dsimp only at e
      cases q2 : renDs f ds with
      | none => rw [q2] at e; cases e
      | some ds' =>
        rw [q2] at e
        cases e
        exact .cons (RelD.ren F d d' _ q r) (RelDs.ren F ds ds' _ q2 rs)
end
theorem renDs_len {f : Nat → Option Nat} : ∀ {ds ds' : List D}, renDs f ds = some ds' → ds'.length = ds.length
  | [], _, e => by
    simp only [renDs] at e
    cases e
    rfl
  | d :: ds, es, e => by
    simp only [renDs] at e
    cases q : renD f d with
    | none => rw [q] at e; cases e
    | some d' =>
      rw [q] at e
      dsimp only at e
      cases q2 : renDs f ds with
      | none => rw [q2] at e; cases e
      | some ds' =>
        rw [q2] at e
        cases e
        exact congrArg (· + 1) (renDs_len q2)
theorem ORel.ren {H : Hp} {β β' : List Addr} {f : Nat → Option Nat} (F : Rn H β β' f) {a : Addr} {o o' : O} (e : renO f o = some o') (r : ORel ν K H β a o) : ORel ν K H β' a o' := by
  cases o with
  | lst ds =>
    have e : (renDs f ds).map .lst = some o' := e
    cases q : renDs f ds with
    | none => rw [q] at e; cases e
    | some ds' =>
      rw [q] at e
      cases e
      obtain ⟨xs, h1, h2⟩ := r
      exact ⟨xs, h1, RelDs.ren F _ _ _ q h2⟩
  | dct kvs =>
    have e : (renDs f (kvs.map (·.2))).map (fun ds => O.dct ((kvs.map (·.1)).zip ds)) = some o' := e
    cases q : renDs f (kvs.map (·.2)) with
    | none => rw [q] at e; cases e
    | some ds' =>
      rw [q] at e
      cases e
      obtain ⟨ys, h1, h2, h3⟩ := r
      have hl : ds'.length = (kvs.map (·.1)).length := by rw [renDs_len q]; simp
      refine ⟨ys, h1, ?_, ?_⟩
      · rw [List.map_fst_zip (by omega)]
        exact h2
      · rw [List.map_snd_zip (by omega)]
        exact RelDs.ren F _ _ _ q h3
  | exc c v =>
    have e : (renD f v).map (.exc c) = some o' := e
    cases q : renD f v with
    | none => rw [q] at e; cases e
    | some v' =>
      rw [q] at e
      cases e
      obtain ⟨d, x, h1, h2, h3, h4⟩ := r
      exact ⟨d, x, h1, h2, F.out _ _ h2 h3 (fun _ z => nomatch z) (fun _ z => nomatch z) (fun _ z => nomatch z), RelD.ren F _ _ _ q h4⟩
theorem renOs_get {f : Nat → Option Nat} : ∀ {os os' : List O}, renOs f os = some os' → os'.length = os.length ∧ ∀ (i : Nat) (o' : O), os'[i]? = some o' → ∃ o, os[i]? = some o ∧ renO f o = some o'
  | [], _, e => by
    unfold renOs at e
    cases e
    exact ⟨rfl, fun i o' h => by simp at h⟩
  | o :: os, es, e => by
    unfold renOs at e
    cases q : renO f o with
    | none => rw [q] at e; cases e
    | some d' =>
      rw [q] at e
      dsimp only at e
      cases q2 : renOs f os with
      | none => rw [q2] at e; cases e
      | some ds' =>
        rw [q2] at e
        cases e
        obtain ⟨h1, h2⟩ := renOs_get q2
        refine ⟨congrArg (· + 1) h1, fun i o' h => ?_⟩
        cases i with
        | zero =>
          simp at h
          subst h
          exact ⟨o, rfl, q⟩
        | succ i =>
          obtain ⟨u, h3, h4⟩ := h2 i o' (by simpa using h)
          exact ⟨u, by simpa using h3, h4⟩
theorem getsO_get {h : Ob} : ∀ {L : List Nat} {os : List O}, getsO h L = some os → os.length = L.length ∧ ∀ (j l : Nat), L[j]? = some l → ∃ o, os[j]? = some o ∧ h[l]? = some o
  | [], _, e => by
    cases e
    exact ⟨rfl, fun j l h => by simp at h⟩
  | m :: L, os, e => by
    unfold getsO at e
    cases q : h[m]? with
    | none => rw [q] at e; cases e
    | some o =>
      rw [q] at e
      dsimp only at e
      cases q2 : getsO h L with
      | none => rw [q2] at e; cases e
      | some os' =>
        rw [q2] at e
        cases e
        obtain ⟨h1, h2⟩ := getsO_get q2
        refine ⟨congrArg (· + 1) h1, fun j l hj => ?_⟩
        cases j with
        | zero =>
          simp at hj
          subst hj
          exact ⟨o, rfl, q⟩
        | succ j =>
          obtain ⟨u, h3, h4⟩ := h2 j l (by simpa using hj)
          exact ⟨u, by simpa using h3, h4⟩
theorem putsO_len : ∀ (L : List Nat) (os : List O) (h : Ob), (putsO h L os).length = h.length
  | [], _, _ => by simp [putsO]
  | _ :: _, [], _ => by simp [putsO]
  | l :: L, o :: os, h => by
    show (putsO (h.set l o) L os).length = _
    rw [putsO_len L os, List.length_set]
theorem putsO_ne : ∀ (L : List Nat) (os : List O) (h : Ob) (l : Nat), l ∉ L → (putsO h L os)[l]? = h[l]?
  | [], _, _, _, _ => by simp [putsO]
  | _ :: _, [], _, _, _ => by simp [putsO]
  | m :: L, o :: os, h, l, hl => by
    show (putsO (h.set m o) L os)[l]? = _
    rw [putsO_ne L os _ l (fun z => hl (List.mem_cons_of_mem _ z)), List.getElem?_set_ne (fun z => hl (by rw [z]; exact List.mem_cons_self))]
theorem putsO_at : ∀ (L : List Nat) (os : List O) (h : Ob) (j l : Nat) (o : O), L.Nodup → L[j]? = some l → os[j]? = some o → l < h.length → (putsO h L os)[l]? = some o
  | [], _, _, _, _, _, _, e, _, _ => by simp at e
  | _ :: _, [], _, _, _, _, _, _, e, _ => by simp at e
  | m :: L, o1 :: os, h, 0, l, o, nd, e1, e2, hl => by
    simp at e1 e2
    subst e1 e2
    show (putsO (h.set m o1) L os)[m]? = _
    rw [putsO_ne L os _ m (List.nodup_cons.mp nd).1, List.getElem?_set_self hl]
  | m :: L, o1 :: os, h, j + 1, l, o, nd, e1, e2, hl => by
    show (putsO (h.set m o1) L os)[l]? = _
    exact putsO_at L os _ j l o (List.nodup_cons.mp nd).2 (by simpa using e1) (by simpa using e2) (by simpa using hl)
/-- what stands at a place is a list, a dict, an error -/
theorem HRel.kind {H : Hp} {β : List Addr} {h : Ob} (R : HRel ν K H β h) {a : Addr} (ha : a ∈ β) {u : HO} (e : H a = some u) : (∃ xs, u = .lst xs) ∨ (∃ ys, u = .dK ys) ∨ ∃ φ, u = .ext φ := by
  obtain ⟨l, hl, q⟩ := List.getElem_of_mem ha
  have h1 : β[l]? = some a := by rw [List.getElem?_eq_getElem hl, q]
  have hh : l < h.length := by rw [← R.len]; exact hl
  have r := R.obj l a _ h1 (List.getElem?_eq_getElem hh)
  cases q2 : h[l] with
  | lst ds =>
    rw [q2] at r
    obtain ⟨xs, z, _⟩ := r
    rw [e] at z
    cases z
    exact .inl ⟨xs, rfl⟩
  | dct kvs =>
    rw [q2] at r
    obtain ⟨ys, z, _⟩ := r
    rw [e] at z
    cases z
    exact .inr (.inl ⟨ys, rfl⟩)
  | exc c v =>
    rw [q2] at r
    obtain ⟨d, x, z, _⟩ := r
    rw [e] at z
    cases z
    exact .inr (.inr ⟨_, rfl⟩)
theorem map_get {β : List Addr} {L : List Nat} (hL : ∀ l ∈ L, l < β.length) (j l : Nat) (e : L[j]? = some l) : (L.map fun l => β.getD l 0)[j]? = β[l]? := by
  have hl := hL l (List.mem_of_getElem? e)
  rw [List.getElem?_map, e]
  show some (β.getD l 0) = β[l]?
  rw [List.getD_eq_getElem?_getD, List.getElem?_eq_getElem hl]
  rfl
/-- the reach -/
theorem sub_in {H : Hp} {β : List Addr} {h : Ob} {L : List Nat} {os os' : List O} {ds ds' : List D} {vs : List V} (R : HRel ν K H β h) (r : RelDs K H β vs ds) (nd : L.Nodup) (g : getsO h L = some os) (ro : renOs (ixOf L) os = some os') (rd : renDs (ixOf L) ds = some ds') :
    (∀ l ∈ L, l < β.length) ∧ HRel ν K H (L.map fun l => β.getD l 0) os' ∧ RelDs K H (L.map fun l => β.getD l 0) vs ds' := by
  obtain ⟨g1, g2⟩ := getsO_get g
  have hL : ∀ l ∈ L, l < β.length := fun l hl => by
    obtain ⟨j, hj, e⟩ := List.getElem_of_mem hl
    obtain ⟨o, _, z⟩ := g2 j l (by rw [List.getElem?_eq_getElem hj, e])
    rw [R.len]
    exact (List.getElem?_eq_some_iff.mp z).1
  have sub : ∀ a, a ∈ (L.map fun l => β.getD l 0) → a ∈ β := fun a ha => by
    obtain ⟨l, hl, rfl⟩ := List.mem_map.mp ha
    rw [List.getD_eq_getElem?_getD, List.getElem?_eq_getElem (hL l hl)]
    exact List.getElem_mem _
  have F : Rn H β (L.map fun l => β.getD l 0) (ixOf L) := ⟨fun l l' a e q => by rw [map_get hL l' l (ixOf_get e)]; exact q, fun a u _ n _ _ _ z => n (sub a z)⟩
  obtain ⟨n1, n2⟩ := renOs_get ro
  refine ⟨hL, ⟨R.tb, by rw [List.length_map, n1, g1], ?_, fun j a o' e1 e2 => ?_⟩, RelDs.ren F _ _ _ rd r⟩
  · rw [List.Nodup, List.pairwise_map]
    refine List.Pairwise.imp_of_mem (fun {l m} hl hm hne z => hne ?_) nd
    rw [List.getD_eq_getElem?_getD, List.getD_eq_getElem?_getD, List.getElem?_eq_getElem (hL l hl), List.getElem?_eq_getElem (hL m hm)] at z
    refine (List.getElem?_inj (hL l hl) R.nd).mp ?_
    rw [List.getElem?_eq_getElem (hL l hl), List.getElem?_eq_getElem (hL m hm)]
    exact congrArg some z
  · obtain ⟨o, h1, h2⟩ := n2 j o' e2
    have hj : j < L.length := by
      have := (List.getElem?_eq_some_iff.mp h1).1
      omega
    have e3 : L[j]? = some L[j] := List.getElem?_eq_getElem hj
    obtain ⟨o2, h3, h4⟩ := g2 j L[j] e3
    rw [h1] at h3
    cases h3
    rw [map_get hL j _ e3] at e1
    exact (R.obj L[j] a o e1 h4).ren F h2
/-- back -/
theorem sub_out {H H' : Hp} {β β1 : List Addr} {h h1 h2 : Ob} {L : List Nat} (R : HRel ν K H β h) (nd : L.Nodup) (hL : ∀ l ∈ L, l < β.length) (e : Ext H (L.map fun l => β.getD l 0) H' β1) (R1 : HRel ν K H' β1 h1) (ro : renOs (outOf L h.length) h1 = some h2) :
    ∃ β', Ext H β H' β' ∧ HRel ν K H' β' (putsO h L (h2.take L.length) ++ h2.drop L.length) ∧ Rn H' β1 β' (outOf L h.length) := by
  obtain ⟨γ, eγ⟩ := e.pre
  have n0 : (L.map fun l => β.getD l 0).length = L.length := List.length_map ..
  have in0 : ∀ a, a ∈ (L.map fun l => β.getD l 0) → a ∈ β := fun a ha => by
    obtain ⟨l, hl, rfl⟩ := List.mem_map.mp ha
    rw [List.getD_eq_getElem?_getD, List.getElem?_eq_getElem (hL l hl)]
    exact List.getElem_mem _
  have nd1 := R1.nd
  rw [← eγ, List.nodup_append] at nd1
  have newγ : ∀ a ∈ γ, H a = none ∨ ∃ ps, H a = some (.tbl ps) := fun a ha => by
    rcases e.new a (by rw [← eγ]; exact List.mem_append_right _ ha) with z | z
    · exact absurd rfl (nd1.2.2 a z a ha)
    · exact z
  have outγ : ∀ a ∈ γ, a ∉ β := fun a ha hm => by
    rcases newγ a ha with z | ⟨ps, z⟩
    · exact R.fresh z hm
    · rcases R.kind hm z with ⟨_, w⟩ | ⟨_, w⟩ | ⟨_, w⟩ <;> cases w
  have E' : Ext H β H' (β ++ γ) := ⟨List.prefix_append _ _, fun a ha => by
    rcases List.mem_append.mp ha with z | z
    · exact .inl z
    · exact .inr (newγ a z), fun a o q n t => e.keep a o q (fun z => n (in0 a z)) t⟩
  have kept : ∀ a, a ∈ β → a ∉ (L.map fun l => β.getD l 0) → H' a = H a := fun a ha n => by
    obtain ⟨u, q⟩ := R.there ha
    rw [q]
    refine e.keep a u q n fun ps z => ?_
    rcases R.kind ha q with ⟨xs, y⟩ | ⟨ys, y⟩ | ⟨φ, y⟩ <;> (rw [y] at z; cases z)
  have F : Rn H' β1 (β ++ γ) (outOf L h.length) := by
    refine ⟨fun j j' a q1 q2 => ?_, fun a u q n k1 k2 k3 z => ?_⟩
    · unfold outOf at q1
      by_cases hj : j < L.length
      · rw [if_pos hj] at q1
        rw [← eγ, List.getElem?_append_left (by rw [n0]; exact hj), map_get hL j j' q1] at q2
        rw [List.getElem?_append_left ((List.getElem?_eq_some_iff.mp q2).1)]
        exact q2
      · rw [if_neg hj] at q1
        cases q1
        rw [← eγ, List.getElem?_append_right (by rw [n0]; omega), n0] at q2
        rw [List.getElem?_append_right (by rw [R.len]; omega), R.len, Nat.add_sub_cancel_left]
        exact q2
    · rcases List.mem_append.mp z with z | z
      · have n2 : a ∉ (L.map fun l => β.getD l 0) := fun w => n (by rw [← eγ]; exact List.mem_append_left _ w)
        rw [kept a z n2] at q
        rcases R.kind z q with ⟨_, w⟩ | ⟨_, w⟩ | ⟨_, w⟩
        · exact k1 _ w
        · exact k2 _ w
        · exact k3 _ w
      · exact n (by rw [← eγ]; exact List.mem_append_right _ z)
  obtain ⟨m1, m2⟩ := renOs_get ro
  have len1 : β1.length = L.length + γ.length := by rw [← eγ, List.length_append, n0]
  have lenh : h2.length = L.length + γ.length := by rw [m1, ← R1.len, len1]
  refine ⟨β ++ γ, E', ⟨R1.tb, ?_, ?_, fun l a o q1 q2 => ?_⟩, F⟩
  · rw [List.length_append, List.length_append, putsO_len, List.length_drop, lenh, R.len]
    omega
  · rw [List.nodup_append]
    exact ⟨R.nd, nd1.2.1, fun a ha b hb z => outγ b hb (z ▸ ha)⟩
  · by_cases hl : l < β.length
    · rw [List.getElem?_append_left hl] at q1
      rw [List.getElem?_append_left (by rw [putsO_len, ← R.len]; exact hl)] at q2
      by_cases hm : l ∈ L
      · obtain ⟨j, hj, ej⟩ := List.getElem_of_mem hm
        have ej' : L[j]? = some l := by rw [List.getElem?_eq_getElem hj, ej]
        have hj2 : j < h2.length := by omega
        have e2 : (h2.take L.length)[j]? = some h2[j] := by rw [List.getElem?_take_of_lt hj, List.getElem?_eq_getElem hj2]
        rw [putsO_at L _ h j l _ nd ej' e2 (by rw [← R.len]; exact hl)] at q2
        cases q2
        obtain ⟨o1, h3, h4⟩ := m2 j _ (List.getElem?_eq_getElem hj2)
        have b1 : β1[j]? = some a := by
          rw [← eγ, List.getElem?_append_left (by rw [n0]; exact hj), map_get hL j l ej']
          exact q1
        exact (R1.obj j a o1 b1 h3).ren F h4
      · rw [putsO_ne L _ h l hm] at q2
        have na : a ∉ (L.map fun l => β.getD l 0) := fun z => by
          obtain ⟨m, hm2, em⟩ := List.mem_map.mp z
          rw [List.getD_eq_getElem?_getD, List.getElem?_eq_getElem (hL m hm2)] at em
          have w : β[m]? = β[l]? := by
            rw [q1, List.getElem?_eq_getElem (hL m hm2)]
            exact congrArg some em
          have := (List.getElem?_inj (hL m hm2) R.nd).mp w
          exact hm (this ▸ hm2)
        exact (R.obj l a o q1 q2).ext E' (kept a (List.mem_of_getElem? q1) na)
    · rw [List.getElem?_append_right (by omega)] at q1
      rw [List.getElem?_append_right (by rw [putsO_len, ← R.len]; omega), putsO_len, ← R.len, List.getElem?_drop] at q2
      obtain ⟨o1, h3, h4⟩ := m2 _ _ q2
      have b1 : β1[L.length + (l - β.length)]? = some a := by
        rw [← eγ, List.getElem?_append_right (by rw [n0]; omega), n0, Nat.add_sub_cancel_left]
        exact q1
      exact (R1.obj _ a o1 b1 h3).ren F h4
theorem sub_ok {H : Hp} {β : List Addr} {h : Ob} {ds : List D} {vs : List V} {Q : VK} {σ : L2.St} {m : List D → M D} (R : HRel ν K H β h) (r : RelDs K H β vs ds) (p : Pst ν K W σ H β (qE K Q) (sub ds m h)) :
    ∃ β0 h0 es, HRel ν K H β0 h0 ∧ RelDs K H β0 vs es ∧ Pst ν K W σ H β0 (qE K Q) (m es h0) := by
  unfold sub at p
  have nd : (reach h 200 (refsDs ds) []).Nodup := reach_nd _ _ _ List.nodup_nil
  generalize reach h 200 (refsDs ds) [] = L at p nd
  dsimp only at p
  cases g : getsO h L with
  | none => rw [g] at p; exact p.elim
  | some os =>
    rw [g] at p
    dsimp only at p
    cases ro : renOs (ixOf L) os with
    | none => rw [ro] at p; exact p.elim
    | some os' =>
      cases rd : renDs (ixOf L) ds with
      | none => rw [ro, rd] at p; exact p.elim
      | some ds' =>
        rw [ro, rd] at p
        dsimp only at p
        obtain ⟨hL, R0, r0⟩ := sub_in R r nd g ro rd
        refine ⟨_, os', ds', R0, r0, ?_⟩
        cases q : m ds' os' with
        | bad => rw [q] at p; exact p.elim
        | ok d h1 =>
          rw [q] at p
          dsimp only at p
          intro H' β1 e1 R1 v rv
          cases ro2 : renOs (outOf L h.length) h1 with
          | none => rw [ro2] at p; exact p.elim
          | some h2 =>
            cases rd2 : renD (outOf L h.length) d with
            | none => rw [ro2, rd2] at p; exact p.elim
            | some d2 =>
              rw [ro2, rd2] at p
              obtain ⟨β', e2, R2, F⟩ := sub_out R nd hL e1 R1 ro2
              exact (p H' β' e2 R2 : qE K Q _ H' β') v (RelD.ren F _ _ _ rd2 rv)
        | exc c d h1 =>
          rw [q] at p
          dsimp only at p
          intro v dd H' β1 e1 R1 rv hd hn
          cases ro2 : renOs (outOf L h.length) h1 with
          | none => rw [ro2] at p; exact p.elim
          | some h2 =>
            cases rd2 : renD (outOf L h.length) d with
            | none => rw [ro2, rd2] at p; exact p.elim
            | some d2 =>
              rw [ro2, rd2] at p
              obtain ⟨β', e2, R2, F⟩ := sub_out R nd hL e1 R1 ro2
              exact p v dd H' β' e2 R2 (RelD.ren F _ _ _ rd2 rv) hd (F.out _ _ hd hn (fun _ z => nomatch z) (fun _ z => nomatch z) (fun _ z => nomatch z))
end
end MP
/-! # Each construct's rule: the layer's reading follows from the evaluator's end -/
namespace MP
open PySem PySem.Spec L2

/-- where defs stand -/
structure Ad where
  fa : Str → Addr
  fd : Str → FuncData
  ps : Str → List Str
/-- a def's promise, where no repr is under way -/
structure FnG (P : Program) (w : World) (K : PySem.W.Frag) (mg : Str → Option Value) (base : Heap) (CX : CXT) (k : Nat) (f : Addr) (fd : FuncData) (ps : List Str) (sp : Sp) : Prop where
  len : ∀ vs H Q E, sp vs H Q E → vs.length = ps.length
  run : ∀ (A : Around) (outer : List Env) (s : Shared) (H : Hp) (args : Args) (us : List Value) (vs : List V) (Q : VK) (E : XK), A.guards = some [] → Room k A → Env0 P w K mg base A outer s H →
    BindsTo s fd args (ps.zip us) → Vals vs us → sp vs H Q E → codeAny (model P w) A (.call (.ref f) args) (CR CX outer P w H s Q E) s
def spF (Γ : Tab) (ν : Nm) (K : PySem.W.Frag) (p : Evs) (k : Nat) (f : Str) : Sp := fun vs H Q E => ∃ β h ds, HRel ν K H β h ∧ RelDs K H β vs ds ∧ Pst ν K (fun c d _ H' => E c d H') [] H β (qE K Q) (callF Γ p k f ds h)
def Sd (Γ : Tab) (ν : Nm) (δ : Ad) (X : Cx) (k n : Nat) : Prop := ∀ m, m < n → ∀ j, j ≤ k → ∀ f fn, Γ.fns.lookup f = some fn →
  FnG X.prog X.w X.K X.mg X.base (L2.CX X.prog X.w) j (δ.fa f) (δ.fd f) (δ.ps f) (spF Γ ν X.K (ev Γ m) j f)
theorem Sd.prev {Γ : Tab} {ν : Nm} {δ : Ad} {X : Cx} {k n : Nat} (h : Sd Γ ν δ X k (n + 1)) : Sd Γ ν δ X k n := fun m hm => h m (Nat.lt_succ_of_lt hm)
/-- an expression keeps to the evaluator; a test; arguments; an optional part -/
def JE (Γ : Tab) (ν : Nm) (δ : Ad) (X : Cx) (W : WX) (k : Nat) (e : Expr) (x : E) : Prop := ∀ n, Sd Γ ν δ X k n → PE X e (tM ν X.K W fun ρ => (ev Γ n).e k x ρ)
def JT (Γ : Tab) (ν : Nm) (δ : Ad) (X : Cx) (W : WX) (k : Nat) (e : Expr) (x : E) : Prop := ∀ n, Sd Γ ν δ X k n → PT X e (tMT ν X.K W fun ρ => M.bind ((ev Γ n).e k x ρ) truthM)
def JA (Γ : Tab) (ν : Nm) (δ : Ad) (X : Cx) (W : WX) (k : Nat) (es : List Expr) (xs : List E) : Prop := ∀ n, Sd Γ ν δ X k n → PA X es (tMA ν X.K W fun ρ => mapM' (fun e => (ev Γ n).e k e ρ) xs)

section
variable {Γ : Tab} {ν : Nm} {δ : Ad} {X : Cx} {W : WX} {k : Nat} {e a b c : Expr} {x xa xb xc : E} {pos : Pos}
theorem tM_bad {σ : L2.St} {H : Hp} {Q : VK} {K : PySem.W.Frag} (h : tM ν K W (fun _ => M.fail) σ H Q) : False := by
  obtain ⟨_, _, _, _, _, p⟩ := h
  exact p
theorem je_of (h : ∀ n, Sd Γ ν δ X k (n + 1) → PE X e (tM ν X.K W fun ρ => stepE Γ (ev Γ n) k x ρ)) : JE Γ ν δ X W k e x := fun n hS => by
  cases n with
  | zero => exact ⟨fun _ _ _ _ _ _ q => (tM_bad q).elim⟩
  | succ n => exact h n hS
/-- a weaker value -/
theorem tM_ret {σ : L2.St} {H : Hp} {Q : VK} {K : PySem.W.Frag} {f : Env' → M D} (h : tM ν K W f σ H Q) (g : ∀ β o ρ, HRel ν K H β o → SRel K H β σ ρ → Pst ν K W σ H β (qE K Q) (f ρ o) → ∃ v, Q v H) : ∃ v, Q v H := by
  obtain ⟨β, o, ρ, R, S, p⟩ := h
  exact g β o ρ R S p

/-! ### leaves -/
theorem je_int {i : Int} {j : Nat} : JE Γ ν δ X W k (.Constant (.int i) j pos) (.c (.int i)) := je_of fun n _ => PE.of pe_int fun σ H Q ⟨β, o, ρ, R, S, p⟩ => (p.here R : qE X.K Q _ H β) _ (.int i)
theorem je_str {z : Str} {j : Nat} : JE Γ ν δ X W k (.Constant (.str z) j pos) (.c (.str z)) := je_of fun n _ => PE.of pe_str fun σ H Q ⟨β, o, ρ, R, S, p⟩ => (p.here R : qE X.K Q _ H β) _ (.str z)
theorem je_bl {b : Bool} {j : Nat} : JE Γ ν δ X W k (.Constant (.bool b) j pos) (.c (.bl b)) := je_of fun n _ => PE.of pe_bl fun σ H Q ⟨β, o, ρ, R, S, p⟩ => (p.here R : qE X.K Q _ H β) _ (.bl b)
theorem je_non {j : Nat} : JE Γ ν δ X W k (.Constant .none j pos) (.c .non) := je_of fun n _ => PE.of pe_non fun σ H Q ⟨β, o, ρ, R, S, p⟩ => (p.here R : qE X.K Q _ H β) _ .non
theorem je_v (i : Nat) {z : Str} (hN : X.N[i]? = some z := by rfl) (hv : Vis X.env.scope z := by first | exact Or.inl rfl | exact Or.inr (Or.inl rfl) | exact Or.inr (Or.inr rfl)) (hd : (z == ("__debug__" : Str)) = false := by decide)
    (hcd : (z == ("__classdict__" : Str)) = false := by decide) : JE Γ ν δ X W k (.Name z pos) (.v i) := je_of fun n _ => PE.of (pe_var hN hv hd hcd) fun σ H Q ⟨β, o, ρ, R, S, p⟩ => by
  have p : Pst ν X.K W σ H β (qE X.K Q) ((match ρ[i]? with | some (some d) => M.ret d | _ => M.fail) o) := p
  cases q : ρ[i]? with
  | none => rw [q] at p; exact p.elim
  | some q1 =>
    cases q1 with
    | none => rw [q] at p; exact p.elim
    | some d =>
      rw [q] at p
      obtain ⟨v, h1, h2⟩ := S.get i d q
      exact ⟨v, h1, (p.here R : qE X.K Q _ H β) v h2⟩

/-! ### two operands -/
theorem OpR.or {f : Value → Value → Sem Value} {r1 r2 : R2} (h1 : OpR X f r1) (h2 : OpR X f r2) : OpR X f (fun x y H Q => r1 x y H Q ∨ r2 x y H Q) := fun pins s σ H x y v u Q I rx ry h => by
  rcases h with h | h
  · exact h1 pins s σ H x y v u Q I rx ry h
  · exact h2 pins s σ H x y v u Q I rx ry h
def BopOk (ν : Nm) (K : PySem.W.Frag) (o : BOp) (r : R2) : Prop := ∀ (x y : V) (a b : D) (H : Hp) (β : List Addr) (h : Ob) (Q : VK) (W : WX) (σ : L2.St), HRel ν K H β h → RelD K H β x a → RelD K H β y b → Pst ν K W σ H β (qE K Q) (bopD o a b h) → r x y H Q
theorem je_bin {op : Operator} {o : BOp} {r : R2} (ho : OpR X (binaryOp op) r) (hr : BopOk ν X.K o r) (ha : JE Γ ν δ X W k a xa) (hb : JE Γ ν δ X W k b xb) : JE Γ ν δ X W k (.BinOp a op b pos) (.bin o xa xb) := je_of fun n hS => by
  refine PE.of (pe_op ho (ha n hS.prev) (hb n hS.prev)) fun σ H Q h => ?_
  obtain ⟨β, h0, ρ, R, S, p⟩ := h
  exact tM_then R S p fun v d H1 β1 h1 R1 S1 e1 r1 p1 => tM_then R1 S1 p1 fun u d2 H2 β2 h2 R2 S2 e2 r2 p2 => hr v u d d2 H2 β2 h2 Q W σ R2 (r1.go e2) r2 p2

theorem hget {K : PySem.W.Frag} {H : Hp} {β : List Addr} {h : Ob} {l : Nat} {v : V} (R : HRel ν K H β h) (r : RelD K H β v (.ref l)) {o : O} (q : h[l]? = some o) : ∃ a, v = .ref a ∧ β[l]? = some a ∧ ORel ν K H β a o := by
  cases r with
  | ref hl => exact ⟨_, rfl, hl, R.obj l _ o hl q⟩
theorem sz {n : Nat} (h : n ≤ 100000) : n ≤ sizeLine := Nat.le_trans h (by decide)
theorem szlt {n : Nat} (h : n < 100000) : n < sizeLine := Nat.lt_of_lt_of_le h (by decide)
/-- a new list -/
theorem newL {K : PySem.W.Frag} {H : Hp} {β : List Addr} {h : Ob} {Q : VK} {W : WX} {σ : L2.St} {xs : List V} {ds : List D} (R : HRel ν K H β h) (r : RelDs K H β xs ds) (p : Pst ν K W σ H β (qE K Q) (alloc (.lst ds) h)) : ∀ q, H q = none → Q (.ref q) (upd H q (.lst xs)) := fun q hq => by
  have z := R.alloc (u := .lst xs) (o := .lst ds) hq fun e => ⟨xs, upd_same, r.go e⟩
  refine (p _ _ z.1 z.2 : qE K Q _ _ _) _ (.ref ?_)
  rw [← R.len]
  simp
theorem newT {K : PySem.W.Frag} {H : Hp} {β : List Addr} {h : Ob} {Q : VK} {W : WX} {σ : L2.St} {xs : List V} {ds : List D} (R : HRel ν K H β h) (r : RelDs K H β xs ds) (p : Pst ν K W σ H β (qE K Q) (.ok (.tup ds) h)) : ∀ q, H q = none → Q (.ref q) (upd H q (.tup xs)) := fun q hq => by
  have z := R.put (o := .tup xs) hq
  exact (p _ _ z.1 z.2 : qE K Q _ _ _) _ (.tup (.inl ⟨.inl upd_same, R.fresh hq⟩) (r.go z.1))

def rAddU : R2 := fun x y H Q => (rI0 (fun i j => .int (i + j)) x y H Q ∨ (∃ i j, x = .str i ∧ y = .str j ∧ i.length + j.length ≤ sizeLine ∧ Q (.str (i ++ j)) H)) ∨ rCat x y H Q
theorem op_addU : OpR X (binaryOp .Add) rAddU := OpR.or (OpR.or op_add op_add_str) op_cat
theorem bop_add {K : PySem.W.Frag} : BopOk ν K .add rAddU := by
  intro x y a b H β h Q W σ R rx ry p
  unfold bopD at p
  split at p
  any_goals (rename_i e; cases e)
  · cases rx; cases ry
    exact .inl (.inl ⟨_, _, rfl, rfl, (p.here R : qE K Q _ H β) _ (.int _)⟩)
  · cases rx; cases ry
    split at p
    · rename_i hz
      exact .inl (.inr ⟨_, _, rfl, rfl, sz hz, (p.here R : qE K Q _ H β) _ (.str _)⟩)
    · exact p.elim
  · split at p
    · rename_i h1 h2
      split at p
      · rename_i hz
        obtain ⟨a1, rfl, _, xs, e1, r1⟩ := hget R rx h1
        obtain ⟨a2, rfl, _, ys, e2, r2⟩ := hget R ry h2
        exact .inr ⟨a1, a2, xs, ys, rfl, rfl, e1, e2, by rw [r1.length, r2.length]; exact sz hz, newL R (r1.append r2) p⟩
      · exact p.elim
    · exact p.elim
  all_goals first | exact p.elim | (cases ‹BOp.add = _›)
end
end MP
namespace MP
open PySem PySem.Spec L2
section
variable {Γ : Tab} {ν : Nm} {δ : Ad} {X : Cx} {W : WX} {k : Nat} {e a b c : Expr} {x xa xb xc : E} {pos : Pos}
theorem M.assoc {α γ κ : Type} (m : M α) (f : α → M γ) (g : γ → M κ) : M.bind (M.bind m f) g = M.bind m fun a => M.bind (f a) g := by
  funext h
  unfold M.bind
  cases m h <;> rfl
theorem M.ret_bind {α γ : Type} (a : α) (f : α → M γ) : M.bind (M.ret a) f = f a := rfl
theorem and_truth (A B : M D) : M.bind (M.bind A fun x => M.bind (truthM x) fun t => if t then B else M.ret x) truthM = M.bind (M.bind A truthM) fun t => if t then M.bind B truthM else M.ret false := by
  funext h
  unfold M.bind
  cases A h with
  | bad => rfl
  | exc c v h' => rfl
  | ok d h' =>
    dsimp only
    unfold truthM
    cases e : truth h' d with
    | none => rfl
    | some b =>
      cases b with
      | true => rfl
      | false =>
        simp only [Bool.false_eq_true, if_false]
        show (match truth h' d with | some b => R.ok b h' | none => R.bad) = R.ok false h'
        rw [e]
theorem or_truth (A B : M D) : M.bind (M.bind A fun x => M.bind (truthM x) fun t => if t then M.ret x else B) truthM = M.bind (M.bind A truthM) fun t => if t then M.ret true else M.bind B truthM := by
  funext h
  unfold M.bind
  cases A h with
  | bad => rfl
  | exc c v h' => rfl
  | ok d h' =>
    dsimp only
    unfold truthM
    cases e : truth h' d with
    | none => rfl
    | some b =>
      cases b with
      | false => rfl
      | true =>
        simp only [if_true]
        show (match truth h' d with | some b => R.ok b h' | none => R.bad) = R.ok true h'
        rw [e]
theorem tMT_bad {σ : L2.St} {H : Hp} {Q : Bool → Hp → Prop} {K : PySem.W.Frag} {g : D → M Bool} (h : tMT ν K W (fun _ => M.bind M.fail g) σ H Q) : False := by
  obtain ⟨_, _, _, _, _, p⟩ := h
  exact p
def JW (Γ : Tab) (ν : Nm) (δ : Ad) (X : Cx) (W : WX) (k : Nat) (e : Expr) (x : E) : Prop := ∀ n, Sd Γ ν δ X k n → PW X e (tMT ν X.K W fun ρ => M.bind ((ev Γ n).e k x ρ) truthM)
theorem jt_of (h : ∀ n, Sd Γ ν δ X k (n + 1) → PT X e (tMT ν X.K W fun ρ => M.bind (stepE Γ (ev Γ n) k x ρ) truthM)) : JT Γ ν δ X W k e x := fun n hS => by
  cases n with
  | zero => exact ⟨fun _ _ _ _ _ _ q => (tMT_bad q).elim⟩
  | succ n => exact h n hS
theorem jw_of (h : ∀ n, Sd Γ ν δ X k (n + 1) → PW X e (tMT ν X.K W fun ρ => M.bind (stepE Γ (ev Γ n) k x ρ) truthM)) : JW Γ ν δ X W k e x := fun n hS => by
  cases n with
  | zero => exact ⟨fun _ _ _ _ _ _ _ q => (tMT_bad q).elim⟩
  | succ n => exact h n hS
theorem PW.of {t t' : TT} (p : PW X e t) (h : ∀ σ H Q, t' σ H Q → t σ H Q) : PW X e t' := ⟨fun wh pins s σ H Q I q => p.run wh pins s σ H Q I (h σ H Q q)⟩
theorem jt_w (h : JW Γ ν δ X W k e x) : JT Γ ν δ X W k e x := fun n hS => (h n hS).pt
theorem jw_and1 (h : JT Γ ν δ X W k a xa) : JW Γ ν δ X W k (.BoolOp .And [a] pos) xa := fun n hS => pw_and1 (h n hS)
theorem jw_or1 (h : JT Γ ν δ X W k a xa) : JW Γ ν δ X W k (.BoolOp .Or [a] pos) xa := fun n hS => pw_or1 (h n hS)
theorem jw_and {rest : List Expr} (ha : JT Γ ν δ X W k a xa) (hb : JW Γ ν δ X W k (.BoolOp .And (b :: rest) pos) xb) : JW Γ ν δ X W k (.BoolOp .And (a :: b :: rest) pos) (.and xa xb) := jw_of fun n hS => by
  refine PW.of (pw_and (ha n hS.prev) (hb n hS.prev)) fun σ H Q h => ?_
  obtain ⟨β, h0, ρ, R, S, p⟩ := h
  have p : Pst ν X.K W σ H β (qT Q) (M.bind (M.bind ((ev Γ n).e k xa ρ) fun x => M.bind (truthM x) fun t => if t then (ev Γ n).e k xb ρ else M.ret x) truthM h0) := p
  rw [and_truth] at p
  refine tMT_then (f := fun ρ => M.bind ((ev Γ n).e k xa ρ) truthM) R S p fun t H1 β1 h1 R1 S1 e1 p1 => ?_
  cases t with
  | true =>
    rw [if_pos rfl]
    exact ⟨β1, h1, ρ, R1, S1, p1⟩
  | false =>
    rw [if_neg Bool.false_ne_true]
    exact (p1.here R1 : qT Q false H1 β1)
theorem jw_or {rest : List Expr} (ha : JT Γ ν δ X W k a xa) (hb : JW Γ ν δ X W k (.BoolOp .Or (b :: rest) pos) xb) : JW Γ ν δ X W k (.BoolOp .Or (a :: b :: rest) pos) (.or xa xb) := jw_of fun n hS => by
  refine PW.of (pw_or (ha n hS.prev) (hb n hS.prev)) fun σ H Q h => ?_
  obtain ⟨β, h0, ρ, R, S, p⟩ := h
  have p : Pst ν X.K W σ H β (qT Q) (M.bind (M.bind ((ev Γ n).e k xa ρ) fun x => M.bind (truthM x) fun t => if t then M.ret x else (ev Γ n).e k xb ρ) truthM h0) := p
  rw [or_truth] at p
  refine tMT_then (f := fun ρ => M.bind ((ev Γ n).e k xa ρ) truthM) R S p fun t H1 β1 h1 R1 S1 e1 p1 => ?_
  cases t with
  | true =>
    rw [if_pos rfl]
    exact (p1.here R1 : qT Q true H1 β1)
  | false =>
    rw [if_neg Bool.false_ne_true]
    exact ⟨β1, h1, ρ, R1, S1, p1⟩
theorem jt_not (ha : JT Γ ν δ X W k a xa) : JT Γ ν δ X W k (.UnaryOp .Not a pos) (.not xa) := jt_of fun n hS => by
  refine PT.of (pt_not (ha n hS.prev)) fun σ H Q h => ?_
  obtain ⟨β, h0, ρ, R, S, p⟩ := h
  have p : Pst ν X.K W σ H β (qT Q) (M.bind (M.bind ((ev Γ n).e k xa ρ) fun x => M.bind (truthM x) fun b => M.ret (.bl (!b))) truthM h0) := p
  rw [show (M.bind (M.bind ((ev Γ n).e k xa ρ) fun x => M.bind (truthM x) fun b => M.ret (.bl (!b))) truthM) = M.bind (M.bind ((ev Γ n).e k xa ρ) truthM) fun b => M.ret (!b) from by
    rw [M.assoc, M.assoc]
    congr 1
    funext d
    rw [M.assoc]
    rfl] at p
  exact tMT_then (f := fun ρ => M.bind ((ev Γ n).e k xa ρ) truthM) R S p fun t H1 β1 h1 R1 S1 e1 p1 => (p1.here R1 : qT Q _ H1 β1)
theorem tru_of {K : PySem.W.Frag} {H : Hp} {β : List Addr} {h : Ob} {v : V} {d : D} {b : Bool} (R : HRel ν K H β h) (r : RelD K H β v d) (t : truth h d = some b) : TruV K v H b := by
  cases r with
  | non => cases t; rfl
  | bl _ => cases t; rfl
  | int _ => cases t; rfl
  | str z =>
    have t : (if z.length ≤ 100000 then some ((z.length : Int) != 0) else none) = some b := t
    by_cases hz : z.length ≤ 100000
    · rw [if_pos hz] at t
      cases t
      exact ⟨sz hz, rfl⟩
    · rw [if_neg hz] at t
      cases t
  | ty _ => cases t
  | tup ht r =>
    cases t
    refine .inr (.inl ⟨_, ht.sq, ?_⟩)
    cases r <;> rfl
  | fl ht r =>
    cases t
    refine .inl ⟨_, ht.sq, ?_⟩
    cases r <;> rfl
  | @ref l a0 hl =>
    have t : (match h[l]? with | some (.lst xs) => some (!xs.isEmpty) | some (.dct kvs) => some (!kvs.isEmpty) | _ => none) = some b := t
    cases q : h[l]? with
    | none => rw [q] at t; cases t
    | some o =>
      rw [q] at t
      cases o with
      | lst ds =>
        cases t
        obtain ⟨xs, e1, r1⟩ := R.obj l _ _ hl q
        refine .inl ⟨xs, .inl (.inl e1), ?_⟩
        cases r1 <;> rfl
      | dct kvs =>
        cases t
        obtain ⟨ys, e1, e2, r1⟩ := R.obj l _ _ hl q
        refine .inr (.inr ⟨ys, e1, ?_⟩)
        cases ys <;> cases kvs <;> first | rfl | simp at e2
      | exc _ _ => cases t
theorem truthM_ok {K : PySem.W.Frag} {H : Hp} {β : List Addr} {h : Ob} {d : D} {Qd : Bool → Hp → List Addr → Prop} {σ : L2.St} (p : Pst ν K W σ H β Qd (truthM d h)) : ∃ b, truth h d = some b ∧ Pst ν K W σ H β Qd (.ok b h) := by
  unfold truthM at p
  cases e : truth h d with
  | none => rw [e] at p; exact p.elim
  | some b => rw [e] at p; exact ⟨b, rfl, p⟩
theorem jt_val (h : JE Γ ν δ X W k a xa) (he : ∀ whole, isTrue a X.env whole = (do let v ← whole; standAt a.pos; holding [v] (truthy v)) := by intro _; rfl) : JT Γ ν δ X W k a xa := fun n hS => by
  refine PT.of (pt_truth (h n hS) he) fun σ H Q h => ?_
  obtain ⟨β, h0, ρ, R, S, p⟩ := h
  refine tM_then (f := fun ρ => (ev Γ n).e k xa ρ) R S p fun v d H1 β1 h1 R1 S1 e1 r1 p1 => ?_
  obtain ⟨b, e, p2⟩ := truthM_ok p1
  exact ⟨b, tru_of R1 r1 e, (p2.here R1 : qT Q b H1 β1)⟩
theorem je_one {op : BoolOp} (h : JE Γ ν δ X W k a xa) : JE Γ ν δ X W k (.BoolOp op [a] pos) xa := fun n hS => pe_one (h n hS)
theorem je_and {rest : List Expr} (ha : JE Γ ν δ X W k a xa) (hb : JE Γ ν δ X W k (.BoolOp .And (b :: rest) pos) xb) : JE Γ ν δ X W k (.BoolOp .And (a :: b :: rest) pos) (.and xa xb) := je_of fun n hS => by
  refine PE.of (pe_andT (ha n hS.prev) (hb n hS.prev)) fun σ H Q h => ?_
  obtain ⟨β, h0, ρ, R, S, p⟩ := h
  refine tM_then R S p fun v d H1 β1 h1 R1 S1 e1 r1 p1 => ?_
  obtain ⟨t, e, p2⟩ := truthM_ok (Pst.first p1)
  obtain ⟨h2, R2, e2, p3⟩ := p2.here R1
  refine ⟨t, tru_of R1 r1 e, ?_⟩
  have p4 := p2 H1 β1 (Ext.refl _ _) R1
  cases t with
  | true => exact ⟨β1, h2, ρ, R2, S1, p3⟩
  | false => exact (p3.here R2 : qE X.K Q d H1 β1) v r1
theorem je_or {rest : List Expr} (ha : JE Γ ν δ X W k a xa) (hb : JE Γ ν δ X W k (.BoolOp .Or (b :: rest) pos) xb) : JE Γ ν δ X W k (.BoolOp .Or (a :: b :: rest) pos) (.or xa xb) := je_of fun n hS => by
  refine PE.of (pe_orT (ha n hS.prev) (hb n hS.prev)) fun σ H Q h => ?_
  obtain ⟨β, h0, ρ, R, S, p⟩ := h
  refine tM_then R S p fun v d H1 β1 h1 R1 S1 e1 r1 p1 => ?_
  obtain ⟨t, e, p2⟩ := truthM_ok (Pst.first p1)
  obtain ⟨h2, R2, e2, p3⟩ := p2.here R1
  refine ⟨t, tru_of R1 r1 e, ?_⟩
  cases t with
  | true => exact (p3.here R2 : qE X.K Q d H1 β1) v r1
  | false => exact ⟨β1, h2, ρ, R2, S1, p3⟩
theorem je_not (ha : JE Γ ν δ X W k a xa) : JE Γ ν δ X W k (.UnaryOp .Not a pos) (.not xa) := je_of fun n hS => by
  refine PE.of (pe_notT (ha n hS.prev)) fun σ H Q h => ?_
  obtain ⟨β, h0, ρ, R, S, p⟩ := h
  refine tM_then R S p fun v d H1 β1 h1 R1 S1 e1 r1 p1 => ?_
  obtain ⟨t, e, p2⟩ := truthM_ok (Pst.first p1)
  obtain ⟨h2, R2, e2, p3⟩ := p2.here R1
  exact ⟨t, tru_of R1 r1 e, (p3.here R2 : qE X.K Q _ H1 β1) _ (.bl _)⟩
theorem je_ite (hc : JT Γ ν δ X W k c xc) (ha : JE Γ ν δ X W k a xa) (hb : JE Γ ν δ X W k b xb) : JE Γ ν δ X W k (.IfExp c a b pos) (.ite xc xa xb) := je_of fun n hS => by
  refine PE.of (pe_ifExp (hc n hS.prev) (ha n hS.prev) (hb n hS.prev)) fun σ H Q h => ?_
  obtain ⟨β, h0, ρ, R, S, p⟩ := h
  have p : Pst ν X.K W σ H β (qE X.K Q) (M.bind ((ev Γ n).e k xc ρ) (fun x => M.bind (truthM x) fun r => if r then (ev Γ n).e k xa ρ else (ev Γ n).e k xb ρ) h0) := p
  rw [← M.assoc] at p
  refine tMT_then (f := fun ρ => M.bind ((ev Γ n).e k xc ρ) truthM) R S p fun t H1 β1 h1 R1 S1 e1 p1 => ?_
  cases t with
  | true =>
    rw [if_pos rfl]
    exact ⟨β1, h1, ρ, R1, S1, p1⟩
  | false =>
    rw [if_neg Bool.false_ne_true]
    exact ⟨β1, h1, ρ, R1, S1, p1⟩
theorem je_neg (ha : JE Γ ν δ X W k a xa) : JE Γ ν δ X W k (.UnaryOp .USub a pos) (.neg xa) := je_of fun n hS => by
  refine PE.of (pe_un un_neg (ha n hS.prev)) fun σ H Q h => ?_
  obtain ⟨β, h0, ρ, R, S, p⟩ := h
  refine tM_then R S p fun v d H1 β1 h1 R1 S1 e1 r1 p1 => ?_
  cases r1 with
  | int i => exact ⟨i, rfl, (p1.here R1 : qE X.K Q _ H1 β1) _ (.int _)⟩
  | _ => exact p1.elim
end
end MP
namespace MP
open PySem PySem.Spec L2
section
variable {Γ : Tab} {ν : Nm} {δ : Ad} {X : Cx} {W : WX} {k : Nat} {e a b c : Expr} {x xa xb xc : E} {pos : Pos}
/-! ### arithmetic -/
theorem bop_sub {K : PySem.W.Frag} : BopOk ν K .sub (rI0 fun i j => .int (i - j)) := by
  intro x y a b H β h Q W σ R rx ry p
  cases a with
  | int i =>
    cases b with
    | int j =>
      cases rx; cases ry
      exact ⟨_, _, rfl, rfl, (p.here R : qE K Q _ H β) _ (.int _)⟩
    | _ => exact p.elim
  | _ => exact p.elim
def rMulU : R2 := fun x y H Q => rI CMul (fun i j => .int (i * j)) x y H Q ∨ rRep x y H Q
theorem op_mulU : OpR X (binaryOp .Mult) rMulU := OpR.or op_mul op_rep
theorem bop_mul {K : PySem.W.Frag} : BopOk ν K .mul rMulU := by
  intro x y a b H β h Q W σ R rx ry p
  cases a with
  | int i =>
    cases b with
    | int j =>
      cases rx; cases ry
      have p : Pst ν K W σ H β (qE K Q) (if small i || small j then .ok (.int (i * j)) h else .bad) := p
      split at p
      · rename_i hc
        refine .inl ⟨_, _, rfl, rfl, ?_, (p.here R : qE K Q _ H β) _ (.int _)⟩
        simp only [small, Bool.or_eq_true, Bool.and_eq_true, decide_eq_true_eq] at hc
        exact hc
      · exact p.elim
    | _ => exact p.elim
  | ref l =>
    cases b with
    | int j =>
      cases ry
      have p : Pst ν K W σ H β (qE K Q) (match h[l]? with
        | some (.lst xs) => if 0 ≤ j ∧ j < 1000 ∧ xs.length * j.toNat ≤ 100000 then alloc (.lst (List.replicate j.toNat xs).flatten) h else .bad
        | _ => .bad) := p
      cases q : h[l]? with
      | none => rw [q] at p; exact p.elim
      | some o =>
        rw [q] at p
        cases o with
        | lst ds =>
          dsimp only at p
          split at p
          · rename_i hc
            obtain ⟨a1, rfl, _, xs, e1, r1⟩ := hget R rx q
            refine .inr ⟨a1, j, xs, rfl, rfl, e1, by omega, by omega, ?_, newL R ?_ p⟩
            · rw [r1.length]; exact sz hc.2.2
            · generalize j.toNat = m
              induction m with
              | zero => exact .nil
              | succ m ih =>
                rw [List.replicate_succ, List.replicate_succ, List.flatten_cons, List.flatten_cons]
                exact r1.append ih
          · exact p.elim
        | _ => exact p.elim
    | _ => exact p.elim
  | _ => exact p.elim
theorem bop_fdiv {K : PySem.W.Frag} : BopOk ν K .fdiv (rI CDivN fun i j => .int (i.fdiv j)) := by
  intro x y a b H β h Q W σ R rx ry p
  cases a with
  | int i =>
    cases b with
    | int j =>
      cases rx; cases ry
      have p : Pst ν K W σ H β (qE K Q) (if j ≠ 0 ∧ j.natAbs < 1073741824 then .ok (.int (i.fdiv j)) h else .bad) := p
      split at p
      · rename_i hc
        exact ⟨_, _, rfl, rfl, hc, (p.here R : qE K Q _ H β) _ (.int _)⟩
      · exact p.elim
    | _ => exact p.elim
  | _ => exact p.elim
theorem bop_mod {K : PySem.W.Frag} : BopOk ν K .mod (rI (fun _ j => j ≠ 0) fun i j => .int (i.fmod j)) := by
  intro x y a b H β h Q W σ R rx ry p
  cases a with
  | int i =>
    cases b with
    | int j =>
      cases rx; cases ry
      have p : Pst ν K W σ H β (qE K Q) (if j ≠ 0 then .ok (.int (i.fmod j)) h else .bad) := p
      split at p
      · rename_i hc
        exact ⟨_, _, rfl, rfl, hc, (p.here R : qE K Q _ H β) _ (.int _)⟩
      · exact p.elim
    | _ => exact p.elim
  | _ => exact p.elim
def CPowG (i j : Int) : Prop := 0 ≤ j ∧ (Builtin.Int.intBits i : Int) * j ≤ 2 ^ 27
theorem op_powG : OpR X (binaryOp .Pow) (rI CPowG fun i j => .int (i ^ j.toNat)) := by
  intro pins s σ H x y v u Q I rx ry h
  obtain ⟨i, j, rfl, rfl, hc, q⟩ := h
  obtain ⟨t, rfl⟩ := rx
  obtain ⟨t', rfl⟩ := ry
  exact PyProof.Rows.pow_int hc.1 hc.2 ⟨.int _, H, I.tok _, ⟨_, rfl⟩, q⟩
theorem bop_pow {K : PySem.W.Frag} : BopOk ν K .pow (rI CPowG fun i j => .int (i ^ j.toNat)) := by
  intro x y a b H β h Q W σ R rx ry p
  cases a with
  | int i =>
    cases b with
    | int j =>
      cases rx; cases ry
      have p : Pst ν K W σ H β (qE K Q) (if 0 ≤ j ∧ (Builtin.Int.intBits i : Int) * j ≤ 2 ^ 27 then .ok (.int (i ^ j.toNat)) h else .bad) := p
      split at p
      · rename_i hc
        exact ⟨_, _, rfl, rfl, hc, (p.here R : qE K Q _ H β) _ (.int _)⟩
      · exact p.elim
    | _ => exact p.elim
  | _ => exact p.elim
theorem je_add (ha : JE Γ ν δ X W k a xa) (hb : JE Γ ν δ X W k b xb) : JE Γ ν δ X W k (.BinOp a .Add b pos) (.bin .add xa xb) := je_bin op_addU bop_add ha hb
theorem je_sub (ha : JE Γ ν δ X W k a xa) (hb : JE Γ ν δ X W k b xb) : JE Γ ν δ X W k (.BinOp a .Sub b pos) (.bin .sub xa xb) := je_bin op_sub bop_sub ha hb
theorem je_mul (ha : JE Γ ν δ X W k a xa) (hb : JE Γ ν δ X W k b xb) : JE Γ ν δ X W k (.BinOp a .Mult b pos) (.bin .mul xa xb) := je_bin op_mulU bop_mul ha hb
theorem je_fdiv (ha : JE Γ ν δ X W k a xa) (hb : JE Γ ν δ X W k b xb) : JE Γ ν δ X W k (.BinOp a .FloorDiv b pos) (.bin .fdiv xa xb) := je_bin op_fdivN bop_fdiv ha hb
theorem je_mod (ha : JE Γ ν δ X W k a xa) (hb : JE Γ ν δ X W k b xb) : JE Γ ν δ X W k (.BinOp a .Mod b pos) (.bin .mod xa xb) := je_bin op_modN bop_mod ha hb
theorem je_pow (ha : JE Γ ν δ X W k a xa) (hb : JE Γ ν δ X W k b xb) : JE Γ ν δ X W k (.BinOp a .Pow b pos) (.bin .pow xa xb) := je_bin op_powG bop_pow ha hb

/-! ### data -/
theorem pdAll_ok {K : PySem.W.Frag} {H : Hp} {β : List Addr} {f : D → Option PyData} (hf : ∀ d p v, f d = some p → RelD K H β v d → Dp K H v p) : ∀ (ds : List D) (ps : List PyData) (vs : List V), pdAll f ds = some ps → RelDs K H β vs ds → DpAll K H vs ps
  | [], ps, _, h, .nil => by
    cases h
    exact .nil
  | d :: ds, ps, _, h, .cons r rs => by
    unfold pdAll at h
    cases e1 : f d with
    | none => rw [e1] at h; cases h
    | some p =>
      rw [e1] at h
      dsimp only at h
      cases e2 : pdAll f ds with
      | none => rw [e2] at h; cases h
      | some qs =>
        rw [e2] at h
        cases h
        exact .cons (hf d p _ e1 r) (pdAll_ok hf ds qs _ e2 rs)
theorem pd_ok {K : PySem.W.Frag} {H : Hp} {β : List Addr} {h : Ob} (R : HRel ν K H β h) : ∀ (n : Nat) (d : D) (p : PyData) (v : V), pd h n d = some p → RelD K H β v d → Dp K H v p := by
  intro n
  induction n with
  | zero =>
    intro d p v e r
    cases r with
    | non => cases e; exact .non
    | bl _ => cases e; exact .bl _
    | int _ => cases e; exact .int _
    | str _ => cases e; exact .str _
    | _ => cases e
  | succ n ih =>
    intro d p v e r
    cases r with
    | non => cases e; exact .non
    | bl _ => cases e; exact .bl _
    | int _ => cases e; exact .int _
    | str _ => cases e; exact .str _
    | ty _ => cases e
    | @tup a xs ds ht rs =>
      have e : (pdAll (pd h n) ds).map .tuple = some p := e
      cases q : pdAll (pd h n) ds with
      | none => rw [q] at e; cases e
      | some ps =>
        rw [q] at e
        cases e
        exact .tup ht.sq (pdAll_ok ih ds ps xs q rs)
    | @fl a xs ds ht rs =>
      have e : (pdAll (pd h n) ds).map .list = some p := e
      cases q : pdAll (pd h n) ds with
      | none => rw [q] at e; cases e
      | some ps =>
        rw [q] at e
        cases e
        exact .lst ht.sq (pdAll_ok ih ds ps xs q rs)
    | @ref l a hl =>
      have e : (match h[l]? with | some (.lst xs) => (pdAll (pd h n) xs).map .list | _ => none) = some p := e
      cases q0 : h[l]? with
      | none => rw [q0] at e; cases e
      | some o =>
        rw [q0] at e
        cases o with
        | lst ds =>
          obtain ⟨xs, e1, rs⟩ := R.obj l _ _ hl q0
          dsimp only at e
          cases q : pdAll (pd h n) ds with
          | none => rw [q] at e; cases e
          | some ps =>
            rw [q] at e
            cases e
            exact .lst (.inl (.inl e1)) (pdAll_ok ih ds ps xs q rs)
        | _ => cases e

/-! ### comparisons -/
def CmpOk (ν : Nm) (K : PySem.W.Frag) (o : COp) (r : R2) : Prop := ∀ (x y : V) (a b : D) (H : Hp) (β : List Addr) (h : Ob) (Q : VK) (t : Bool), HRel ν K H β h → RelD K H β x a → RelD K H β y b → cmpB o h a b = some t → Q (.bl t) H → r x y H Q
theorem cmpD_ok {K : PySem.W.Frag} {H : Hp} {β : List Addr} {h : Ob} {o : COp} {a b : D} {Qd : Bool → Hp → List Addr → Prop} {σ : L2.St} (p : Pst ν K W σ H β Qd (cmpD o a b h)) : ∃ t, cmpB o h a b = some t ∧ Pst ν K W σ H β Qd (.ok t h) := by
  unfold cmpD at p
  cases e : cmpB o h a b with
  | none => rw [e] at p; exact p.elim
  | some t => rw [e] at p; exact ⟨t, rfl, p⟩
theorem je_cmp {op : CmpOp} {o : COp} {r : R2} (ho : OpR X (compareOp op) r) (hr : CmpOk ν X.K o r) (ha : JE Γ ν δ X W k a xa) (hb : JE Γ ν δ X W k b xb) (hm : behindInMarks op b = false) : JE Γ ν δ X W k (.Compare a [op] [b] pos) (.cmp o xa xb) := je_of fun n hS => by
  refine PE.of (pe_cmpR ho (ha n hS.prev) (hb n hS.prev) hm) fun σ H Q h => ?_
  obtain ⟨β, h0, ρ, R, S, p⟩ := h
  refine tM_then R S p fun v d H1 β1 h1 R1 S1 e1 r1 p1 => tM_then R1 S1 p1 fun u d2 H2 β2 h2 R2 S2 e2 r2 p2 => ?_
  obtain ⟨t, et, p3⟩ := cmpD_ok (Pst.first p2)
  obtain ⟨h3, R3, e3, p4⟩ := p3.here R2
  exact hr v u d d2 H2 β2 h2 Q t R2 (r1.go e2) r2 et ((p4.here R3 : qE X.K Q _ H2 β2) _ (.bl t))
theorem jt_cmp {op : CmpOp} {o : COp} {r : R2} (ho : OpR X (compareOp op) r) (hr : CmpOk ν X.K o r) (ha : JE Γ ν δ X W k a xa) (hb : JE Γ ν δ X W k b xb) (hm : behindInMarks op b = false) : JT Γ ν δ X W k (.Compare a [op] [b] pos) (.cmp o xa xb) := jt_of fun n hS => by
  refine PT.of (pt_cmpR ho (ha n hS.prev) (hb n hS.prev) hm) fun σ H Q h => ?_
  obtain ⟨β, h0, ρ, R, S, p⟩ := h
  have p : Pst ν X.K W σ H β (qT Q) (M.bind (M.bind ((ev Γ n).e k xa ρ) fun x => M.bind ((ev Γ n).e k xb ρ) fun y => M.bind (cmpD o x y) fun r => M.ret (.bl r)) truthM h0) := p
  rw [M.assoc] at p
  refine tM_then R S p fun v d H1 β1 h1 R1 S1 e1 r1 p1 => ?_
  rw [M.assoc] at p1
  refine tM_then R1 S1 p1 fun u d2 H2 β2 h2 R2 S2 e2 r2 p2 => ?_
  rw [M.assoc] at p2
  obtain ⟨t, et, p3⟩ := cmpD_ok (Pst.first p2)
  obtain ⟨h3, R3, e3, p4⟩ := p3.here R2
  exact hr v u d d2 H2 β2 h2 _ t R2 (r1.go e2) r2 et ⟨t, rfl, (p4.here R3 : qT Q t H2 β2)⟩
theorem je_chain {op op' : CmpOp} {o o' : COp} {r r' : R2} (ho : OpR X (compareOp op) r) (hr : CmpOk ν X.K o r) (ho' : OpR X (compareOp op') r') (hr' : CmpOk ν X.K o' r') (ha : JE Γ ν δ X W k a xa) (hb : JE Γ ν δ X W k b xb) (hc : JE Γ ν δ X W k c xc)
    (hm : lastMarks [op, op'] [b, c] = false := by with_unfolding_all rfl) : JE Γ ν δ X W k (.Compare a [op, op'] [b, c] pos) (.chain o o' xa xb xc) := je_of fun n hS => by
  refine PE.of (pe_chain ho ho' (ha n hS.prev) (hb n hS.prev) (hc n hS.prev) hm) fun σ H Q h => ?_
  obtain ⟨β, h0, ρ, R, S, p⟩ := h
  refine tM_then R S p fun v d H1 β1 h1 R1 S1 e1 r1 p1 => tM_then R1 S1 p1 fun u d2 H2 β2 h2 R2 S2 e2 r2 p2 => ?_
  obtain ⟨t, et, p3⟩ := cmpD_ok (Pst.first p2)
  obtain ⟨h3, R3, e3, p4⟩ := p3.here R2
  refine hr v u d d2 H2 β2 h2 _ t R2 (r1.go e2) r2 et ⟨t, rfl, ?_⟩
  cases t with
  | false =>
    rw [if_neg Bool.false_ne_true]
    exact (p4.here R3 : qE X.K Q _ H2 β2) _ (.bl false)
  | true =>
    rw [if_pos rfl]
    refine tM_then R3 S2 p4 fun w d3 H4 β4 h4 R4 S4 e4 r4 p5 => ?_
    obtain ⟨t2, et2, p6⟩ := cmpD_ok (Pst.first p5)
    obtain ⟨h5, R5, e5, p7⟩ := p6.here R4
    exact hr' u w d2 d3 H4 β4 h4 Q t2 R4 (r2.go e4) r4 et2 ((p7.here R5 : qE X.K Q _ H4 β4) _ (.bl t2))
theorem chain_truth (m : M Bool) : M.bind (M.bind m fun q => M.ret (.bl q)) truthM = m := by
  funext h
  unfold M.bind
  cases m h <;> rfl
theorem jt_chain {op op' : CmpOp} {o o' : COp} {r r' : R2} (ho : OpR X (compareOp op) r) (hr : CmpOk ν X.K o r) (ho' : OpR X (compareOp op') r') (hr' : CmpOk ν X.K o' r') (ha : JE Γ ν δ X W k a xa) (hb : JE Γ ν δ X W k b xb) (hc : JE Γ ν δ X W k c xc)
    (hm : lastMarks [op, op'] [b, c] = false := by with_unfolding_all rfl) : JT Γ ν δ X W k (.Compare a [op, op'] [b, c] pos) (.chain o o' xa xb xc) := jt_of fun n hS => by
  refine PT.of (pt_chain ho ho' (ha n hS.prev) (hb n hS.prev) (hc n hS.prev) hm) fun σ H Q h => ?_
  obtain ⟨β, h0, ρ, R, S, p⟩ := h
  have p : Pst ν X.K W σ H β (qT Q) (M.bind (M.bind ((ev Γ n).e k xa ρ) fun x => M.bind ((ev Γ n).e k xb ρ) fun y => M.bind (cmpD o x y) fun r => if r then M.bind ((ev Γ n).e k xc ρ) fun z => M.bind (cmpD o' y z) fun q => M.ret (.bl q) else M.ret (.bl false)) truthM h0) := p
  rw [M.assoc] at p
  refine tM_then R S p fun v d H1 β1 h1 R1 S1 e1 r1 p1 => ?_
  rw [M.assoc] at p1
  refine tM_then R1 S1 p1 fun u d2 H2 β2 h2 R2 S2 e2 r2 p2 => ?_
  rw [M.assoc] at p2
  obtain ⟨t, et, p3⟩ := cmpD_ok (Pst.first p2)
  obtain ⟨h3, R3, e3, p4⟩ := p3.here R2
  refine hr v u d d2 H2 β2 h2 _ t R2 (r1.go e2) r2 et ⟨t, rfl, ?_⟩
  cases t with
  | false =>
    rw [if_neg Bool.false_ne_true]
    exact ⟨false, rfl, (p4.here R3 : qT Q _ H2 β2)⟩
  | true =>
    rw [if_pos rfl]
    have p4 : Pst ν X.K W σ H2 β2 (qT Q) (M.bind (M.bind ((ev Γ n).e k xc ρ) fun z => M.bind (cmpD o' d2 z) fun q => M.ret (.bl q)) truthM h3) := p4
    rw [M.assoc] at p4
    refine tM_then R3 S2 p4 fun w d3 H4 β4 h4 R4 S4 e4 r4 p5 => ?_
    rw [chain_truth] at p5
    obtain ⟨t2, et2, p6⟩ := cmpD_ok p5
    exact hr' u w d2 d3 H4 β4 h4 _ t2 R4 (r2.go e4) r4 et2 ⟨t2, rfl, (p6.here R4 : qT Q t2 H4 β4)⟩

theorem cmp_lt {K : PySem.W.Frag} : CmpOk ν K .lt (rI0 fun i j => .bl (decide (i < j))) := by
  intro x y a b H β h Q t R rx ry e q
  cases a with
  | int i =>
    cases b with
    | int j => cases rx; cases ry; cases e; exact ⟨_, _, rfl, rfl, q⟩
    | _ => cases e
  | _ => cases e
theorem cmp_le {K : PySem.W.Frag} : CmpOk ν K .le (rI0 fun i j => .bl (decide (i ≤ j))) := by
  intro x y a b H β h Q t R rx ry e q
  cases a with
  | int i =>
    cases b with
    | int j => cases rx; cases ry; cases e; exact ⟨_, _, rfl, rfl, q⟩
    | _ => cases e
  | _ => cases e
theorem cmp_gt {K : PySem.W.Frag} : CmpOk ν K .gt (rI0 fun i j => .bl (decide (j < i))) := by
  intro x y a b H β h Q t R rx ry e q
  cases a with
  | int i =>
    cases b with
    | int j => cases rx; cases ry; cases e; exact ⟨_, _, rfl, rfl, q⟩
    | _ => cases e
  | _ => cases e
theorem cmp_ge {K : PySem.W.Frag} : CmpOk ν K .ge (rI0 fun i j => .bl (decide (j ≤ i))) := by
  intro x y a b H β h Q t R rx ry e q
  cases a with
  | int i =>
    cases b with
    | int j => cases rx; cases ry; cases e; exact ⟨_, _, rfl, rfl, q⟩
    | _ => cases e
  | _ => cases e
def rEqU (K : PySem.W.Frag) : R2 := fun x y H Q => rEq x y H Q ∨ rEqD K x y H Q
def rNeU (K : PySem.W.Frag) : R2 := fun x y H Q => rNe x y H Q ∨ rNeD K x y H Q
theorem op_eqU (hu : X.A.units + 64 < cLine) : OpR X (compareOp .Eq) (rEqU X.K) := OpR.or op_eq (op_eqD hu)
theorem op_neU (hu : X.A.units + 64 < cLine) : OpR X (compareOp .NotEq) (rNeU X.K) := OpR.or op_ne (op_neD hu)
theorem scal_ok {K : PySem.W.Frag} {H : Hp} {β : List Addr} {x y : V} {a b : D} {t : Bool} (rx : RelD K H β x a) (ry : RelD K H β y b) (e : scalD a b = some t) : scal x y = true ∧ decide (x = y) = t := by
  cases rx <;> cases ry <;> first | (cases e; done) | (cases e; exact ⟨rfl, by simp⟩) | (cases e; exact ⟨rfl, rfl⟩) | skip
theorem eqD_ok {K : PySem.W.Frag} {H : Hp} {β : List Addr} {h : Ob} {x y : V} {a b : D} {t : Bool} (R : HRel ν K H β h) (rx : RelD K H β x a) (ry : RelD K H β y b) (e : eqD h a b = some t) :
    (scal x y = true ∧ decide (x = y) = t) ∨ ∃ d e, Dp K H x d ∧ Dp K H y e ∧ SeqAt.shaped d = true ∧ SeqAt.shaped e = true ∧ PyData.eqv d e = t := by
  unfold eqD at e
  cases q : scalD a b with
  | some r =>
    rw [q] at e
    cases e
    exact .inl (scal_ok rx ry q)
  | none =>
    rw [q] at e
    dsimp only at e
    cases q1 : pd h 40 a with
    | none => rw [q1] at e; cases e
    | some p1 =>
      cases q2 : pd h 40 b with
      | none => rw [q1, q2] at e; cases e
      | some p2 =>
        rw [q1, q2] at e
        dsimp only at e
        split at e
        · rename_i hs
          cases e
          rw [Bool.and_eq_true] at hs
          exact .inr ⟨p1, p2, pd_ok R 40 a p1 x q1 rx, pd_ok R 40 b p2 y q2 ry, hs.1, hs.2, rfl⟩
        · cases e
theorem cmp_eq {K : PySem.W.Frag} : CmpOk ν K .eq (rEqU K) := by
  intro x y a b H β h Q t R rx ry e q
  rcases eqD_ok R rx ry e with ⟨h1, h2⟩ | ⟨d, d', h1, h2, h3, h4, h5⟩
  · exact .inl ⟨h1, by rw [h2]; exact q⟩
  · exact .inr ⟨d, d', h1, h2, h3, h4, by rw [h5]; exact q⟩
theorem cmp_ne {K : PySem.W.Frag} : CmpOk ν K .ne (rNeU K) := by
  intro x y a b H β h Q t R rx ry e q
  have e : (eqD h a b).map (!·) = some t := e
  cases z : eqD h a b with
  | none => rw [z] at e; cases e
  | some t' =>
    rw [z] at e
    cases e
    rcases eqD_ok R rx ry z with ⟨h1, h2⟩ | ⟨d, d', h1, h2, h3, h4, h5⟩
    · exact .inl ⟨h1, by rw [h2]; exact q⟩
    · exact .inr ⟨d, d', h1, h2, h3, h4, by rw [h5]; exact q⟩
theorem isNon_ok {K : PySem.W.Frag} {H : Hp} {β : List Addr} {x : V} {a : D} (rx : RelD K H β x a) : decide (x = .non) = isNon a := by
  cases rx <;> rfl
theorem cmp_is {K : PySem.W.Frag} : CmpOk ν K .is_ (fun x y H Q => y = .non ∧ Q (.bl (decide (x = .non))) H) := by
  intro x y a b H β h Q t R rx ry e q
  have e : (if isNon b then some (isNon a) else none) = some t := e
  split at e
  · rename_i hb
    cases e
    refine ⟨?_, by rw [isNon_ok rx]; exact q⟩
    rw [← isNon_ok ry] at hb
    exact of_decide_eq_true hb
  · cases e
theorem cmp_isnt {K : PySem.W.Frag} : CmpOk ν K .isnt (fun x y H Q => y = .non ∧ Q (.bl (!decide (x = .non))) H) := by
  intro x y a b H β h Q t R rx ry e q
  have e : (if isNon b then some (!isNon a) else none) = some t := e
  split at e
  · rename_i hb
    cases e
    refine ⟨?_, by rw [isNon_ok rx]; exact q⟩
    rw [← isNon_ok ry] at hb
    exact of_decide_eq_true hb
  · cases e
end
end MP
namespace MP
open PySem PySem.Spec L2
section
variable {Γ : Tab} {ν : Nm} {δ : Ad} {X : Cx} {W : WX} {k : Nat} {e a b c : Expr} {es : List Expr} {x xa xb xc : E} {xs : List E} {pos : Pos}
theorem itemsOf_ok {K : PySem.W.Frag} {H : Hp} {β : List Addr} {h : Ob} {v : V} {d : D} {ds : List D} (R : HRel ν K H β h) (r : RelD K H β v d) (e : itemsOf h d = some ds) : ∃ p vs, v = .ref p ∧ (SqL K H p vs ∨ SqT K H p vs) ∧ RelDs K H β vs ds := by
  cases r with
  | tup ht rs => cases e; exact ⟨_, _, rfl, .inr ht.sq, rs⟩
  | fl ht rs => cases e; exact ⟨_, _, rfl, .inl ht.sq, rs⟩
  | @ref l a hl =>
    have e : (match h[l]? with | some (.lst xs) => some xs | _ => none) = some ds := e
    cases q : h[l]? with
    | none => rw [q] at e; cases e
    | some o =>
      rw [q] at e
      cases o with
      | lst xs =>
        cases e
        obtain ⟨vs, e1, r1⟩ := R.obj l _ _ hl q
        exact ⟨_, _, rfl, .inl (.inl (.inl e1)), r1⟩
      | _ => cases e
  | _ => cases e
theorem listOf_ok {K : PySem.W.Frag} {H : Hp} {β : List Addr} {h : Ob} {v : V} {d : D} {ds : List D} (R : HRel ν K H β h) (r : RelD K H β v d) (e : listOf h d = some ds) : ∃ p vs, v = .ref p ∧ SqL K H p vs ∧ RelDs K H β vs ds := by
  cases r with
  | fl ht rs => cases e; exact ⟨_, _, rfl, ht.sq, rs⟩
  | @ref l a hl =>
    have e : (match h[l]? with | some (.lst xs) => some xs | _ => none) = some ds := e
    cases q : h[l]? with
    | none => rw [q] at e; cases e
    | some o =>
      rw [q] at e
      cases o with
      | lst xs =>
        cases e
        obtain ⟨vs, e1, r1⟩ := R.obj l _ _ hl q
        exact ⟨_, _, rfl, .inl (.inl e1), r1⟩
      | _ => cases e
  | _ => cases e
theorem flat_ok {K : PySem.W.Frag} {H : Hp} {β : List Addr} {v : V} {d : D} (r : RelD K H β v d) (f : flatD d = true) : flatV v = true := by
  cases r <;> first | rfl | cases f
theorem flats_ok {K : PySem.W.Frag} {H : Hp} {β : List Addr} : ∀ {vs : List V} {ds : List D}, RelDs K H β vs ds → ds.all flatD = true → vs.all flatV = true
  | _, _, .nil, _ => rfl
  | _, _, .cons r rs, f => by
    rw [List.all_cons, Bool.and_eq_true] at f
    rw [List.all_cons, flat_ok r f.1, flats_ok rs f.2]
    rfl
theorem eqF_ok {K : PySem.W.Frag} {H : Hp} {β : List Addr} {v u : V} {d f : D} (r : RelD K H β v d) (q : RelD K H β u f) (hd : flatD d = true) (hf : flatD f = true) : eqV v u = eqF d f := by
  cases r <;> first | (cases hd; done) | skip
  all_goals (cases q <;> first | rfl | (cases hf; done))
theorem inF_ok {K : PySem.W.Frag} {H : Hp} {β : List Addr} {v : V} {d : D} (r : RelD K H β v d) (hd : flatD d = true) : ∀ {vs : List V} {ds : List D}, RelDs K H β vs ds → ds.all flatD = true → inV v vs = ds.any fun z => eqF z d
  | _, _, .nil, _ => rfl
  | _, _, .cons q qs, f => by
    rw [List.all_cons, Bool.and_eq_true] at f
    have ih := inF_ok r hd qs f.2
    unfold inV at ih ⊢
    rw [List.any_cons, List.any_cons, eqF_ok q r f.1 hd, ih]
def rInU (K : PySem.W.Frag) : R2 := fun x y H Q => (((∃ (c : Nat) (z : Str), x = .str ⟨#[c]⟩ ∧ y = .str z ∧ Q (.bl (decide (c ∈ z.cps.toList))) H) ∨ (∃ i j, x = .str i ∧ y = .str j ∧ Q (.bl (!(Builtin.Str.occurrences j i 0 j.length 1).isEmpty)) H)) ∨ rIn K false x y H Q) ∨ rInD K x y H Q
def rNinU (K : PySem.W.Frag) : R2 := fun x y H Q => (((∃ (c : Nat) (z : Str), x = .str ⟨#[c]⟩ ∧ y = .str z ∧ Q (.bl (!decide (c ∈ z.cps.toList))) H) ∨ (∃ i j, x = .str i ∧ y = .str j ∧ Q (.bl (!(!(Builtin.Str.occurrences j i 0 j.length 1).isEmpty))) H)) ∨ rIn K true x y H Q) ∨ rNotInD K x y H Q
theorem op_inU (hu : X.A.units + 65 < cLine) : OpR X (compareOp .In) (rInU X.K) := OpR.or (OpR.or (OpR.or op_in_sign op_in_str) op_in_seq) (op_inD hu)
theorem op_ninU (hu : X.A.units + 65 < cLine) : OpR X (compareOp .NotIn) (rNinU X.K) := OpR.or (OpR.or (OpR.or op_notIn_sign op_notin_str) op_notIn_seq) (op_notInD hu)
/-- what inD says -/
theorem inD_ok {K : PySem.W.Frag} {H : Hp} {β : List Addr} {h : Ob} {x y : V} {a b : D} {t : Bool} (R : HRel ν K H β h) (rx : RelD K H β x a) (ry : RelD K H β y b) (e : inD h a b = some t) :
    (∃ (c : Nat) (z : Str), x = .str ⟨#[c]⟩ ∧ y = .str z ∧ decide (c ∈ z.cps.toList) = t) ∨ (∃ i j, x = .str i ∧ y = .str j ∧ (!(Builtin.Str.occurrences j i 0 j.length 1).isEmpty) = t) ∨
      (∃ p ys, y = .ref p ∧ (SqL K H p ys ∨ SqT K H p ys) ∧ flatV x = true ∧ ys.all flatV = true ∧ inV x ys = t) ∨
      ∃ d ds, Dp K H x d ∧ Dp K H y (.list ds) ∧ SeqAt.shaped d = true ∧ SeqAt.shaped (.list ds) = true ∧ (ds.any fun z => PyData.eqv z d) = t := by
  have gen : (match itemsOf h b with
    | none => none
    | some ys => if flatD a && ys.all flatD then some (ys.any fun z => eqF z a) else
      match pd h 40 a, pd h 40 b with
      | some p, some (.list ps) => if SeqAt.shaped p && SeqAt.shaped (.list ps) then some (ps.any fun z => PyData.eqv z p) else none
      | _, _ => none) = some t → (∃ p ys, y = .ref p ∧ (SqL K H p ys ∨ SqT K H p ys) ∧ flatV x = true ∧ ys.all flatV = true ∧ inV x ys = t) ∨
      ∃ d ds, Dp K H x d ∧ Dp K H y (.list ds) ∧ SeqAt.shaped d = true ∧ SeqAt.shaped (.list ds) = true ∧ (ds.any fun z => PyData.eqv z d) = t := fun e => by
    cases q : itemsOf h b with
    | none => rw [q] at e; cases e
    | some ys =>
      rw [q] at e
      dsimp only at e
      split at e
      · rename_i hf
        cases e
        rw [Bool.and_eq_true] at hf
        obtain ⟨p, vs, rfl, hs, rs⟩ := itemsOf_ok R ry q
        exact .inl ⟨p, vs, rfl, hs, flat_ok rx hf.1, flats_ok rs hf.2, inF_ok rx hf.1 rs hf.2⟩
      · cases q1 : pd h 40 a with
        | none => rw [q1] at e; cases e
        | some p1 =>
          cases q2 : pd h 40 b with
          | none => rw [q1, q2] at e; cases e
          | some p2 =>
            rw [q1, q2] at e
            cases p2 with
            | list ps =>
              dsimp only at e
              split at e
              · rename_i hs
                cases e
                rw [Bool.and_eq_true] at hs
                exact .inr ⟨p1, ps, pd_ok R 40 a p1 x q1 rx, pd_ok R 40 b _ y q2 ry, hs.1, hs.2, rfl⟩
              · cases e
            | _ => cases e
  cases a with
  | str c =>
    cases b with
    | str z =>
      cases rx; cases ry
      have e : (match c.cps.toList with | [k] => some (decide (k ∈ z.cps.toList)) | _ => some (!(Builtin.Str.occurrences z c 0 z.length 1).isEmpty)) = some t := e
      split at e
      · rename_i k0 hk
        cases e
        refine .inl ⟨k0, z, ?_, rfl, rfl⟩
        have : c = ⟨#[k0]⟩ := by
          cases c with
          | mk cps =>
            congr 1
            exact Array.ext' hk
        rw [this]
      · cases e
        exact .inr (.inl ⟨c, z, rfl, rfl, rfl⟩)
    | _ => exact .inr (.inr (gen e))
  | _ => exact .inr (.inr (gen (by cases b <;> exact e)))
theorem cmp_in {K : PySem.W.Frag} : CmpOk ν K .isin (rInU K) := by
  intro x y a b H β h Q t R rx ry e q
  rcases inD_ok R rx ry e with ⟨c, z, h1, h2, h3⟩ | ⟨i, j, h1, h2, h3⟩ | ⟨p, ys, h1, h2, h3, h4, h5⟩ | ⟨d, ds, h1, h2, h3, h4, h5⟩
  · exact .inl (.inl (.inl ⟨c, z, h1, h2, by rw [h3]; exact q⟩))
  · exact .inl (.inl (.inr ⟨i, j, h1, h2, by rw [h3]; exact q⟩))
  · exact .inl (.inr ⟨p, ys, h1, h2, h3, h4, by rw [h5]; exact q⟩)
  · exact .inr ⟨d, ds, h1, h2, h3, h4, by rw [h5]; exact q⟩
theorem cmp_nin {K : PySem.W.Frag} : CmpOk ν K .nin (rNinU K) := by
  intro x y a b H β h Q t R rx ry e q
  have e : (inD h a b).map (!·) = some t := e
  cases z : inD h a b with
  | none => rw [z] at e; cases e
  | some t' =>
    rw [z] at e
    cases e
    rcases inD_ok R rx ry z with ⟨c, z, h1, h2, h3⟩ | ⟨i, j, h1, h2, h3⟩ | ⟨p, ys, h1, h2, h3, h4, h5⟩ | ⟨d, ds, h1, h2, h3, h4, h5⟩
    · exact .inl (.inl (.inl ⟨c, z, h1, h2, by rw [h3]; exact q⟩))
    · exact .inl (.inl (.inr ⟨i, j, h1, h2, by rw [h3]; exact q⟩))
    · exact .inl (.inr ⟨p, ys, h1, h2, h3, h4, by rw [h5]; exact q⟩)
    · exact .inr ⟨d, ds, h1, h2, h3, h4, by rw [h5]; exact q⟩

/-! ### arguments, displays -/
theorem ja_nil : JA Γ ν δ X W k [] [] := fun n hS => PA.of pa_nil fun σ H Q ⟨β, o, ρ, R, S, p⟩ => (p.here R : qA X.K Q _ H β) _ .nil
theorem ja_cons (ha : JE Γ ν δ X W k e x) (hr : JA Γ ν δ X W k es xs) (hs : starEach (e :: es) X.env = (false, eval e X.env) :: starEach es X.env := by rfl) : JA Γ ν δ X W k (e :: es) (x :: xs) := fun n hS => by
  refine PA.of (pa_cons (ha n hS) (hr n hS) hs) fun σ H Q h => ?_
  obtain ⟨β, h0, ρ, R, S, p⟩ := h
  refine tM_then R S p fun v d H1 β1 h1 R1 S1 e1 r1 p1 => ?_
  exact tMA_then R1 S1 p1 fun vs ds H2 β2 h2 R2 S2 e2 r2 p2 => (p2.here R2 : qA X.K Q _ H2 β2) _ (.cons (r1.go e2) r2)
theorem je_tup {x1 : Nat} (h : JA Γ ν δ X W k es xs) : JE Γ ν δ X W k (.Tuple es x1 pos) (.tup xs) := je_of fun n hS => by
  refine PE.of (pe_tup (h n hS.prev)) fun σ H Q h => ?_
  obtain ⟨β, h0, ρ, R, S, p⟩ := h
  refine tMA_then R S p fun vs ds H1 β1 h1 R1 S1 e1 r1 p1 => ?_
  by_cases hz : ds.length ≤ 1000
  · rw [if_pos hz] at p1
    exact ⟨by rw [r1.length]; exact sz (Nat.le_trans hz (by decide)), newT R1 r1 p1⟩
  · rw [if_neg hz] at p1
    exact p1.elim
theorem je_lst (h : JA Γ ν δ X W k es xs) : JE Γ ν δ X W k (.List es pos) (.lst xs) := je_of fun n hS => by
  refine PE.of (pe_lst (h n hS.prev)) fun σ H Q h => ?_
  obtain ⟨β, h0, ρ, R, S, p⟩ := h
  refine tMA_then R S p fun vs ds H1 β1 h1 R1 S1 e1 r1 p1 => ?_
  by_cases hz : ds.length ≤ 1000
  · rw [if_pos hz] at p1
    exact ⟨by rw [r1.length]; exact sz (Nat.le_trans hz (by decide)), newL R1 r1 p1⟩
  · rw [if_neg hz] at p1
    exact p1.elim
theorem je_dct0 : JE Γ ν δ X W k (.Dict [] [] pos) .dct0 := je_of fun n hS => by
  refine PE.of pe_dnewK fun σ H Q h => ?_
  obtain ⟨β, h0, ρ, R, S, p⟩ := h
  intro q hq
  have z := R.alloc (u := .dK []) (o := .dct []) hq fun e => ⟨[], upd_same, rfl, .nil⟩
  refine (p _ _ z.1 z.2 : qE X.K Q _ _ _) _ (.ref ?_)
  rw [← R.len]
  simp

/-! ### subscripts -/
theorem IxR.or {r1 r2 : R2} (h1 : IxR X r1) (h2 : IxR X r2) : IxR X (fun x y H Q => r1 x y H Q ∨ r2 x y H Q) := fun value slice pins s σ H x y v u Q I rx ry h hs => by
  rcases h with h | h
  · exact h1 value slice pins s σ H x y v u Q I rx ry h hs
  · exact h2 value slice pins s σ H x y v u Q I rx ry h hs
theorem atI_ok {K : PySem.W.Frag} {H : Hp} {β : List Addr} {vs : List V} {ds : List D} {i : Int} {d : D} (r : RelDs K H β vs ds) (e : atI ds i = some d) : ∃ v, atI vs i = some v ∧ RelD K H β v d := by
  unfold atI at e ⊢
  rw [r.length]
  cases q : ixN ds.length i with
  | none => rw [q] at e; cases e
  | some j =>
    rw [q] at e
    exact r.get (show ds[j]? = some d from e)
theorem je_ix (ha : JE Γ ν δ X W k a xa) (hb : JE Γ ν δ X W k b xb) (hs : PlainIx b := by exact fun _ _ => rfl) : JE Γ ν δ X W k (.Subscript a b pos) (.ix xa xb) := je_of fun n hS => by
  refine PE.of (pe_ix (IxR.or (IxR.or ix_list ix_tup) ix_str) (ha n hS.prev) (hb n hS.prev) hs) fun σ H Q h => ?_
  obtain ⟨β, h0, ρ, R, S, p⟩ := h
  refine tM_then R S p fun v d H1 β1 h1 R1 S1 e1 r1 p1 => tM_then R1 S1 p1 fun u d2 H2 β2 h2 R2 S2 e2 r2 p2 => ?_
  have r1 := r1.go e2
  cases d2 with
  | int i =>
    cases r2
    have gen : ∀ dd, RelD X.K H2 β2 v dd → Pst ν X.K W σ H2 β2 (qE X.K Q) (match itemsOf h2 dd with | some xs => (match atI xs i with | some d => .ok d h2 | none => .bad) | none => .bad) → (rIxL X.K v (.int i) H2 Q ∨ rIxT X.K v (.int i) H2 Q) ∨ rIxS v (.int i) H2 Q := fun dd rd pp => by
      cases q : itemsOf h2 dd with
      | none => rw [q] at pp; exact pp.elim
      | some ys =>
        rw [q] at pp
        dsimp only at pp
        obtain ⟨pa, vs, rfl, hs, rs⟩ := itemsOf_ok R2 rd q
        cases q2 : atI ys i with
        | none => rw [q2] at pp; exact pp.elim
        | some dy =>
          rw [q2] at pp
          obtain ⟨y, e3, r3⟩ := atI_ok rs q2
          rcases hs with hs | hs
          · exact .inl (.inl ⟨pa, vs, i, y, rfl, rfl, hs, e3, (pp.here R2 : qE X.K Q _ H2 β2) y r3⟩)
          · exact .inl (.inr ⟨pa, vs, i, y, rfl, rfl, hs, e3, (pp.here R2 : qE X.K Q _ H2 β2) y r3⟩)
    cases d with
    | str z =>
      cases r1
      have p2 : Pst ν X.K W σ H2 β2 (qE X.K Q) (if z.length ≤ 100000 then (match atI z.cps.toList i with | some c => .ok (.str ⟨#[c]⟩) h2 | none => .bad) else .bad) := p2
      by_cases hz : z.length ≤ 100000
      · rw [if_pos hz] at p2
        cases q : atI z.cps.toList i with
        | none => rw [q] at p2; exact p2.elim
        | some c0 =>
          rw [q] at p2
          exact .inr ⟨z, i, c0, rfl, rfl, sz hz, q, (p2.here R2 : qE X.K Q _ H2 β2) _ (.str _)⟩
      · rw [if_neg hz] at p2
        exact p2.elim
    | _ => exact gen _ r1 p2
  | _ => exact p2.elim
theorem cut_ok {K : PySem.W.Frag} {H : Hp} {β : List Addr} {vs : List V} {ds : List D} (r : RelDs K H β vs ds) (lo hi : Option Int) : RelDs K H β (cutV vs lo hi) (cutD ds lo hi) := by
  unfold cutV cutD
  rw [r.length]
  exact (r.drop _).take _
def JO (Γ : Tab) (ν : Nm) (δ : Ad) (X : Cx) (W : WX) (k : Nat) (e : Option Expr) (x : Option E) : Prop := ∀ n, Sd Γ ν δ X k n → PO X e (fun σ H Q => ∃ β h ρ, HRel ν X.K H β h ∧ SRel X.K H β σ ρ ∧ Pst ν X.K W σ H β (fun o H' β' => Q o H') (optM (fun e => (ev Γ n).e k e ρ) x h))
theorem jo_none : JO Γ ν δ X W k none none := fun n hS => ⟨fun pins s σ H Q I ⟨β, h, ρ, R, S, p⟩ => po_none.run pins s σ H Q I (p.here R)⟩
theorem jo_some (h : JE Γ ν δ X W k a xa) : JO Γ ν δ X W k (some a) (some xa) := fun n hS => ⟨fun pins s σ H Q I ⟨β, h0, ρ, R, S, p⟩ => (po_some (h n hS)).run pins s σ H Q I (by
  refine tM_then R S p fun v d H1 β1 h1 R1 S1 e1 r1 p1 => ?_
  cases r1 with
  | int i => exact ⟨i, rfl, p1.here R1⟩
  | _ => exact p1.elim)⟩
theorem je_sl {lo hi : Option Expr} {xl xh : Option E} {p2 : Pos} (ha : JE Γ ν δ X W k a xa) (hl : JO Γ ν δ X W k lo xl) (hu : JO Γ ν δ X W k hi xh) : JE Γ ν δ X W k (.Subscript a (.Slice lo hi none p2) pos) (.sl xa xl xh) := je_of fun n hS => by
  refine PE.of (pe_slice sl_list (ha n hS.prev) (hl n hS.prev) (hu n hS.prev)) fun σ H Q h => ?_
  obtain ⟨β, h0, ρ, R, S, p⟩ := h
  refine tM_then R S p fun v d H1 β1 h1 R1 S1 e1 r1 p1 => ?_
  refine ⟨β1, h1, ρ, R1, S1, (Pst.first p1).imp fun l H2 β2 q2 => ?_⟩
  obtain ⟨h2, R2, e2, p3⟩ := q2
  refine ⟨β2, h2, ρ, R2, S1.go e2, (Pst.first p3).imp fun u H3 β3 q3 => ?_⟩
  obtain ⟨h3, R3, e3, p4⟩ := q3
  have r3 := (r1.go e2).go e3
  cases d with
  | ref l0 =>
    have p4 : Pst ν X.K W σ H3 β3 (qE X.K Q) (match h3[l0]? with | some (.lst xs) => alloc (.lst (cutD xs l u)) h3 | _ => .bad) := p4
    cases q : h3[l0]? with
    | none => rw [q] at p4; exact p4.elim
    | some o =>
      rw [q] at p4
      cases o with
      | lst ds =>
        obtain ⟨a1, rfl, _, vs, ea, rs⟩ := hget R3 r3 q
        exact ⟨a1, vs, rfl, .inl (.inl ea), newL R3 (cut_ok rs l u) p4⟩
      | _ => exact p4.elim
  | _ => exact p4.elim
end
end MP
namespace MP
open PySem PySem.Spec L2
section
variable {Γ : Tab} {ν : Nm} {δ : Ad} {X : Cx} {W : WX} {k : Nat} {e a b c o : Expr} {es : List Expr} {x xa xb xc xo : E} {xs : List E} {pos apos p : Pos}
/-! ### built-ins by name -/
def BiOk (ν : Nm) (K : PySem.W.Frag) (b : BI) (r : List V → Hp → VK → Prop) : Prop := ∀ (vs : List V) (ds : List D) (H : Hp) (β : List Addr) (h : Ob) (Q : VK) (W : WX) (σ : L2.St), HRel ν K H β h → RelDs K H β vs ds → Pst ν K W σ H β (qE K Q) (biD b ds h) → r vs H Q
theorem CallR.or {f : Value} {r1 r2 : List V → Hp → VK → Prop} (h1 : CallR X f r1) (h2 : CallR X f r2) : CallR X f (fun xs H Q => r1 xs H Q ∨ r2 xs H Q) := fun pins s σ H xs us Q I rx h => by
  rcases h with h | h
  · exact h1 pins s σ H xs us Q I rx h
  · exact h2 pins s σ H xs us Q I rx h
theorem je_callB {bi : BI} {id : String} {z : Str} {r : List V → Hp → VK → Prop} (hc : CallR X (.builtin id) r) (hr : BiOk ν X.K bi r) (hm : X.mg z = none) (hv : bootBuiltins z = some (.builtin id)) (ha : JA Γ ν δ X W k (e :: es) xs)
    (hg : Gl X z := by rfl) (hn : z ≠ "__name__" := by decide) (hdb : (z == ("__debug__" : Str)) = false := by decide) (he : starEach (e :: es) X.env = (false, eval e X.env) :: starEach es X.env := by rfl) (hpl : (backTo pos (starEach es X.env)).any (·.1) = false := by rfl) :
    JE Γ ν δ X W k (.Call (.Name z p) (e :: es) [] pos) (.bi bi xs) := je_of fun n hS => by
  refine PE.of (pe_callB hc hg hm hv (ha n hS.prev) hn hdb he hpl) fun σ H Q h => ?_
  obtain ⟨β, h0, ρ, R, S, p⟩ := h
  exact tMA_then R S p fun vs ds H1 β1 h1 R1 S1 e1 r1 p1 => hr vs ds H1 β1 h1 Q W σ R1 r1 p1
theorem je_callTy {bi : BI} {T : String} {z : Str} {r : List V → Hp → VK → Prop} (hc : CallR X (.type T) r) (hr : BiOk ν X.K bi r) (hm : X.mg z = none) (hv : bootBuiltins z = some (.type T)) (ha : JA Γ ν δ X W k (e :: es) xs)
    (hg : Gl X z := by rfl) (hn : z ≠ "__name__" := by decide) (hdb : (z == ("__debug__" : Str)) = false := by decide) (he : starEach (e :: es) X.env = (false, eval e X.env) :: starEach es X.env := by rfl) (hpl : (backTo pos (starEach es X.env)).any (·.1) = false := by rfl) :
    JE Γ ν δ X W k (.Call (.Name z p) (e :: es) [] pos) (.bi bi xs) := je_of fun n hS => by
  refine PE.of (pe_callTy hc hg hm hv (ha n hS.prev) hn hdb he hpl) fun σ H Q h => ?_
  obtain ⟨β, h0, ρ, R, S, p⟩ := h
  exact tMA_then R S p fun vs ds H1 β1 h1 R1 S1 e1 r1 p1 => hr vs ds H1 β1 h1 Q W σ R1 r1 p1
def rLenU (K : PySem.W.Frag) : List V → Hp → VK → Prop := fun xs H Q => (∃ z, xs = [.str z] ∧ z.length ≤ sizeLine ∧ Q (.int z.length) H) ∨ ∃ p ys, xs = [.ref p] ∧ (SqL K H p ys ∨ SqT K H p ys) ∧ Q (.int ys.length) H
theorem call_lenU : CallR X (.builtin "len") (rLenU X.K) := CallR.or call_len_str call_len_seq
theorem bi_len {K : PySem.W.Frag} : BiOk ν K .len (rLenU K) := by
  intro vs ds H β h Q W σ R r p
  have gen : ∀ (d : D) (v : V), RelD K H β v d → Pst ν K W σ H β (qE K Q) (match itemsOf h d with | some xs => .ok (.int xs.length) h | none => .bad) → rLenU K [v] H Q := fun d v rd pp => by
    cases q : itemsOf h d with
    | none => rw [q] at pp; exact pp.elim
    | some ys =>
      rw [q] at pp
      obtain ⟨pa, us, rfl, hs, rs⟩ := itemsOf_ok R rd q
      refine .inr ⟨pa, us, rfl, hs, ?_⟩
      rw [rs.length]
      exact (pp.here R : qE K Q _ H β) _ (.int _)
  cases r with
  | nil => exact p.elim
  | cons rd rs =>
    cases rs with
    | cons _ _ => rename_i d _ _ _ _ _ _; cases d <;> exact p.elim
    | nil =>
      rename_i v d
      cases d with
      | str z =>
        cases rd
        have p : Pst ν K W σ H β (qE K Q) (if z.length ≤ 100000 then .ok (.int z.length) h else .bad) := p
        by_cases hz : z.length ≤ 100000
        · rw [if_pos hz] at p
          exact .inl ⟨z, rfl, sz hz, (p.here R : qE K Q _ H β) _ (.int _)⟩
        · rw [if_neg hz] at p
          exact p.elim
      | _ => exact gen _ _ rd p
theorem bools_ok {K : PySem.W.Frag} {H : Hp} {β : List Addr} : ∀ {vs : List V} {ds : List D} {bs : List Bool}, RelDs K H β vs ds → boolsOf ds = some bs → vs = bs.map V.bl
  | _, _, _, .nil, h => by cases h; rfl
  | _, d :: ds, bs, .cons r rs, h => by
    cases d with
    | bl b =>
      cases r
      have h : (boolsOf ds).map (b :: ·) = some bs := h
      cases q : boolsOf ds with
      | none => rw [q] at h; cases h
      | some cs =>
        rw [q] at h
        cases h
        rw [bools_ok rs q]
        rfl
    | _ => cases h
theorem strs_ok {K : PySem.W.Frag} {H : Hp} {β : List Addr} : ∀ {vs : List V} {ds : List D} {zs : List Str}, RelDs K H β vs ds → strsOf ds = some zs → vs = zs.map V.str
  | _, _, _, .nil, h => by cases h; rfl
  | _, d :: ds, bs, .cons r rs, h => by
    cases d with
    | str b =>
      cases r
      have h : (strsOf ds).map (b :: ·) = some bs := h
      cases q : strsOf ds with
      | none => rw [q] at h; cases h
      | some cs =>
        rw [q] at h
        cases h
        rw [strs_ok rs q]
        rfl
    | _ => cases h
/-- one argument -/
theorem bi_one {K : PySem.W.Frag} {bi : BI} {r : List V → Hp → VK → Prop} (h0 : ∀ h, biD bi [] h = .bad) (h2 : ∀ d d' ds h, biD bi (d :: d' :: ds) h = .bad)
    (h1 : ∀ (v : V) (d : D) (H : Hp) (β : List Addr) (h : Ob) (Q : VK) (W : WX) (σ : L2.St), HRel ν K H β h → RelD K H β v d → Pst ν K W σ H β (qE K Q) (biD bi [d] h) → r [v] H Q) : BiOk ν K bi r := by
  intro vs ds H β h Q W σ R rr p
  cases rr with
  | nil => rw [h0] at p; exact p.elim
  | cons rd rs =>
    cases rs with
    | cons _ _ => rw [h2] at p; exact p.elim
    | nil => exact h1 _ _ H β h Q W σ R rd p
theorem bi_all {K : PySem.W.Frag} : BiOk ν K .all (rAll K) := bi_one (fun _ => rfl) (fun _ _ _ _ => rfl) fun v d H β h Q W σ R r p => by
  have p : Pst ν K W σ H β (qE K Q) (match listOf h d with | some xs => (match boolsOf xs with | some bs => .ok (.bl (bs.all id)) h | none => .bad) | none => .bad) := p
  cases q : listOf h d with
  | none => rw [q] at p; exact p.elim
  | some ys =>
    rw [q] at p
    dsimp only at p
    cases q2 : boolsOf ys with
    | none => rw [q2] at p; exact p.elim
    | some bs =>
      rw [q2] at p
      obtain ⟨pa, us, rfl, hs, rs⟩ := listOf_ok R r q
      have e := bools_ok rs q2
      subst e
      exact ⟨pa, bs, rfl, hs, (p.here R : qE K Q _ H β) _ (.bl _)⟩
theorem bi_tuple {K : PySem.W.Frag} : BiOk ν K .tuple (fun xs H Q => ∃ p ys, xs = [.ref p] ∧ ((SqL K H p ys ∧ ∀ l, H l = none → Q (.ref l) (upd H l (.tup ys))) ∨ (SqT K H p ys ∧ Q (.ref p) H))) := bi_one (fun _ => rfl) (fun _ _ _ _ => rfl) fun v d H β h Q W σ R r p => by
  have p : Pst ν K W σ H β (qE K Q) (match itemsOf h d with | some xs => .ok (.tup xs) h | none => .bad) := p
  cases r with
  | tup ht rs => exact ⟨_, _, rfl, .inr ⟨ht.sq, (p.here R : qE K Q _ H β) _ (.tup ht rs)⟩⟩
  | fl ht rs => exact ⟨_, _, rfl, .inl ⟨ht.sq, newT R rs p⟩⟩
  | @ref l a hl =>
    have p : Pst ν K W σ H β (qE K Q) (match (match h[l]? with | some (.lst xs) => some xs | _ => none : Option (List D)) with | some xs => .ok (.tup xs) h | none => .bad) := p
    cases q : h[l]? with
    | none => rw [q] at p; exact p.elim
    | some ob =>
      rw [q] at p
      cases ob with
      | lst ds =>
        obtain ⟨vs, e1, r1⟩ := R.obj l _ _ hl q
        exact ⟨_, _, rfl, .inl ⟨.inl (.inl e1), newT R r1 p⟩⟩
      | _ => exact p.elim
  | _ => exact p.elim
def rStrU : List V → Hp → VK → Prop := fun xs H Q => (∃ i, xs = [.int i] ∧ i.natAbs.log2 < 1920 ∧ Q (.str (toString i)) H) ∨ ∃ a, xs = [.str a] ∧ Q (.str a) H
theorem call_strU : CallR X (.type "str") rStrU := CallR.or call_str_int SkE.call_str_str
theorem bi_str {K : PySem.W.Frag} : BiOk ν K .str rStrU := bi_one (fun _ => rfl) (fun d _ _ _ => by cases d <;> rfl) fun v d H β h Q W σ R r p => by
  cases r with
  | int i =>
    have p : Pst ν K W σ H β (qE K Q) (if i.natAbs.log2 < 1920 then .ok (.str (toString i)) h else .bad) := p
    by_cases hz : i.natAbs.log2 < 1920
    · rw [if_pos hz] at p
      exact .inl ⟨i, rfl, hz, (p.here R : qE K Q _ H β) _ (.str _)⟩
    · rw [if_neg hz] at p
      exact p.elim
  | str z => exact .inr ⟨z, rfl, (p.here R : qE K Q _ H β) _ (.str _)⟩
  | _ => exact p.elim
def rIntU : List V → Hp → VK → Prop := fun xs H Q => ((∃ i, xs = [.int i] ∧ Q (.int i) H) ∨ ∃ k, xs = [.bl k] ∧ Q (.int (if k then 1 else 0)) H) ∨ ∃ a n, xs = [.str a] ∧ PySem.intText? a = some n ∧ a.length ≤ 640 ∧ Q (.int n) H
theorem call_intU : CallR X (.type "int") rIntU := CallR.or call_int1 call_int_str
theorem bi_int {K : PySem.W.Frag} : BiOk ν K .int rIntU := bi_one (fun _ => rfl) (fun d _ _ _ => by cases d <;> rfl) fun v d H β h Q W σ R r p => by
  cases r with
  | int i => exact .inl (.inl ⟨i, rfl, (p.here R : qE K Q _ H β) _ (.int _)⟩)
  | bl b => exact .inl (.inr ⟨b, rfl, (p.here R : qE K Q _ H β) _ (.int _)⟩)
  | str z =>
    have p : Pst ν K W σ H β (qE K Q) (match PySem.intText? z with | some n => (if z.length ≤ 640 then .ok (.int n) h else .bad) | none => .bad) := p
    cases q : PySem.intText? z with
    | none => rw [q] at p; exact p.elim
    | some n =>
      rw [q] at p
      dsimp only at p
      by_cases hz : z.length ≤ 640
      · rw [if_pos hz] at p
        exact .inr ⟨z, n, rfl, q, hz, (p.here R : qE K Q _ H β) _ (.int _)⟩
      · rw [if_neg hz] at p
        exact p.elim
  | _ => exact p.elim
theorem bi_abs {K : PySem.W.Frag} : BiOk ν K .abs (fun xs H Q => ∃ i, xs = [.int i] ∧ Q (.int (if i < 0 then -i else i)) H) := bi_one (fun _ => rfl) (fun d _ _ _ => by cases d <;> rfl) fun v d H β h Q W σ R r p => by
  cases r with
  | int i => exact ⟨i, rfl, (p.here R : qE K Q _ H β) _ (.int _)⟩
  | _ => exact p.elim
theorem bi_two {K : PySem.W.Frag} {bi : BI} {f : Int → Int → Int} (h0 : ∀ i j h, biD bi [.int i, .int j] h = .ok (.int (f i j)) h) (h1 : ∀ ds h, (¬ ∃ i j, ds = [.int i, .int j]) → biD bi ds h = .bad) :
    BiOk ν K bi (fun xs H Q => ∃ i j, xs = [.int i, .int j] ∧ Q (.int (f i j)) H) := by
  intro vs ds H β h Q W σ R r p
  by_cases hd : ∃ i j, ds = [.int i, .int j]
  · obtain ⟨i, j, rfl⟩ := hd
    rw [h0] at p
    cases r with
    | cons r1 rs =>
      cases rs with
      | cons r2 rn =>
        cases rn
        cases r1; cases r2
        exact ⟨i, j, rfl, (p.here R : qE K Q _ H β) _ (.int _)⟩
  · rw [h1 ds h hd] at p
    exact p.elim
theorem bi_max {K : PySem.W.Frag} : BiOk ν K .max (fun xs H Q => ∃ i j, xs = [.int i, .int j] ∧ Q (.int (if j > i then j else i)) H) := bi_two (f := fun i j => if j > i then j else i) (fun _ _ _ => rfl) fun ds h hn => by
  unfold biD
  split <;> first | rfl | (exfalso; rename_i e; cases e; done) | (exfalso; exact hn ⟨_, _, rfl⟩) | skip
  all_goals (rename_i e _; cases e)
theorem bi_min {K : PySem.W.Frag} : BiOk ν K .min (fun xs H Q => ∃ i j, xs = [.int i, .int j] ∧ Q (.int (if j < i then j else i)) H) := bi_two (f := fun i j => if j < i then j else i) (fun _ _ _ => rfl) fun ds h hn => by
  unfold biD
  split <;> first | rfl | (exfalso; rename_i e; cases e; done) | (exfalso; exact hn ⟨_, _, rfl⟩) | skip
  all_goals (rename_i e _; cases e)
end
end MP
namespace MP
open PySem PySem.Spec L2
section
variable {Γ : Tab} {ν : Nm} {δ : Ad} {X : Cx} {W : WX} {k : Nat} {e a b c o : Expr} {es : List Expr} {x xa xb xc xo : E} {xs : List E} {pos apos p : Pos}
/-! ### repr -/
mutual
theorem dp_noDict {K : PySem.W.Frag} {H : Hp} : ∀ (d : PyData) (v : V), Dp K H v d → d.hasDict = false
  | .none, _, .non => by simp [PyData.hasDict]
  | .bool _, _, .bl _ => by simp [PyData.hasDict]
  | .int _, _, .int _ => by simp [PyData.hasDict]
  | .str _, _, .str _ => by simp [PyData.hasDict]
  | .list ds, _, .lst _ h => by
    have := dps_noDict ds _ h
    simpa [PyData.hasDict] using this
  | .tuple ds, _, .tup _ h => by
    have := dps_noDict ds _ h
    simpa [PyData.hasDict] using this
theorem dps_noDict {K : PySem.W.Frag} {H : Hp} : ∀ (ds : List PyData) (vs : List V), DpAll K H vs ds → PyData.hasDictAll ds = false
  | [], _, .nil => by simp [PyData.hasDictAll]
  | d :: ds, _, .cons h hs => by
    have h1 := dp_noDict d _ h
    have h2 := dps_noDict ds _ hs
    simp [PyData.hasDictAll, h1, h2]
end
def rRepr (K : PySem.W.Frag) : List V → Hp → VK → Prop := fun vs H Q => ∃ a d, vs = [.ref a] ∧ Dp K H (.ref a) d ∧ d.showable = true ∧ d.depth ≤ 64 ∧ d.shown.length ≤ sizeLine ∧ Q (.str d.shown) H
theorem call_repr (hg : X.A.guards = some []) (hu : X.A.units + 66 < cLine) : CallR X (.builtin "repr") (rRepr X.K) := by
  intro pins s σ H vs us Q I r h
  obtain ⟨a, d, rfl, hd, hs, hz, hl, q⟩ := h
  cases r with
  | cons r1 rn =>
    cases rn
    rename_i u
    cases (show u = Value.ref a from r1)
    obtain ⟨as, hr⟩ := Dp.reads I d (.ref a) (.ref a) hd rfl
    refine repr_of_reads' hr hs (fun z => ?_) hg (by omega) (fun _ _ z => z) (fun h' u tk hk => ⟨.str d.shown, H, I.kept hk, ⟨u, rfl⟩, q⟩) hl
    rw [dp_noDict d _ hd] at z
    cases z
theorem bi_repr {K : PySem.W.Frag} : BiOk ν K .repr (rRepr K) := bi_one (fun _ => rfl) (fun _ _ _ _ => rfl) fun v d H β h Q W σ R r p => by
  have p : Pst ν K W σ H β (qE K Q) (match pd h 40 d with | some p => (if isSeq d && p.showable && decide (p.depth ≤ 64) && decide (p.shown.length ≤ 100000) then .ok (.str p.shown) h else .bad) | none => .bad) := p
  cases q : pd h 40 d with
  | none => rw [q] at p; exact p.elim
  | some pp =>
    rw [q] at p
    dsimp only at p
    split at p
    · rename_i hc
      simp only [Bool.and_eq_true, decide_eq_true_eq] at hc
      obtain ⟨⟨⟨h1, h2⟩, h3⟩, h4⟩ := hc
      have hd := pd_ok R 40 d pp v q r
      have fin : ∀ a, v = .ref a → rRepr K [v] H Q := fun a e => ⟨a, pp, by rw [e], by rw [← e]; exact hd, h2, h3, sz h4, (p.here R : qE K Q _ H β) _ (.str _)⟩
      cases r with
      | tup _ _ => exact fin _ rfl
      | fl _ _ => exact fin _ rfl
      | ref _ => exact fin _ rfl
      | _ => cases h1
    · exact p.elim

/-! ### isinstance -/
/-- what an own error's class says -/
structure XcOk (K : PySem.W.Frag) (C : Addr) : Prop where
  cl : (PySem.W.clsIn K C).isSome = true
  ga : PySem.W.findIn K (.ref C) "__getattribute__" = some (some (.builtin "BaseException.__getattribute__"))
  gt : PySem.W.findIn K (.ref C) "__getattr__" = some none
  sub : PySem.W.subIn K (.ref C) (.type "BaseException") = some true
  at_ : PySem.W.findIn K (.ref C) "__class__" = some (some (.builtin "object.__class__"))
  sp : PySem.W.specialIn K (.builtin "object.__class__") "__get__" = some (some (.builtin "getset_descriptor.__get__"))
  tk : PySem.W.takesIn K (.builtin "object.__class__") = some true
  mro : PySem.W.mroIn K C (.type "object") = some true
  hd : PySem.W.hasDictIn K C = true
def rIsX (K : PySem.W.Frag) : List V → Hp → VK → Prop := fun xs H Q => ∃ (a C d : Addr) (c : V) (u : Value) (b : Bool), xs = [.ref a, c] ∧ H a = some (ExD C d a) ∧ XcOk K C ∧ ClsV c u ∧ PySem.W.kitOne K (.ref C) u = some b ∧ Q (.bl b) H ∧ ∃ fs, H d = some (.xd fs)
theorem exd_inst {pins : List (Addr × Obj)} {σ : L2.St} {H : Hp} {s : Shared} {a C d : Addr} {fs : List (Str × V)} (I : Inv X pins σ H s) (ha : H a = some (ExD C d a)) (hd : H d = some (.xd fs)) : ∃ oe od, PySem.W.InstAt s.heap a oe C (some od) ∧ oe.dict = some d ∧ s.heap.get? d = some od := by
  obtain ⟨⟨oe, vs, h1, hz, h2⟩, _, _⟩ := I.hok a _ ha
  obtain ⟨mA, hns, hr⟩ := (show ObjOk X.prog X.w H s.heap d (.xd fs) from I.hok d _ hd)
  obtain ⟨od, ho, hl⟩ := lookIn_ns hns
  exact ⟨oe, od, ⟨h1, hz.1, by unfold PySem.W.notCls; rw [h2] <;> rfl, by rw [hz.2]; exact ho⟩, hz.2, ho⟩
theorem call_isX : CallR X (.builtin "isinstance") (rIsX X.K) := by
  intro pins s σ H xs us Q I r h
  obtain ⟨a, C, d, c, u, b, rfl, ha, T, kc, e, q, fs, hd⟩ := h
  obtain ⟨v1, v2, rfl, r1, r2⟩ := vals2 r
  cases (show v1 = Value.ref a from r1)
  have e2 := kc.eq r2
  subst e2
  obtain ⟨oe, od, J, _⟩ := exd_inst I ha hd
  exact PySem.W.kia_one (PySem.W.kitx_exc T.cl T.ga T.gt T.sub T.at_ T.sp T.tk T.mro) I.kIn J e (fun z => nomatch z) fun tk => ⟨.bl b, H, I.tok tk, rfl, q⟩
theorem kind_ok {K : PySem.W.Frag} {H : Hp} {β : List Addr} {h : Ob} {v : V} {d : D} {t : String} (R : HRel ν K H β h) (r : RelD K H β v d) (e : kindOf h d = some t) : TyX K H v (.type t) := by
  cases r with
  | non => cases e; exact .base .non
  | bl _ => cases e; exact .base (.bl _)
  | int _ => cases e; exact .base (.int _)
  | str _ => cases e; exact .base (.str _)
  | ty _ => cases e
  | tup ht _ =>
    cases e
    rcases ht with ⟨ht | ⟨ob, ht⟩, _⟩ | ⟨ob, its, n, h1, h2, _⟩
    · exact .base (.tup ht)
    · exact .fTuple ht
    · exact .kTuple h1 h2
  | fl ht _ =>
    cases e
    rcases ht with ⟨⟨ob, ht⟩, _⟩ | ⟨ob, its, n, h1, h2, _⟩
    · exact .base (.frz ht)
    · exact .kList h1 h2
  | @ref l a hl =>
    have e : (match h[l]? with | some (.lst _) => some "list" | some (.dct _) => some "dict" | _ => none) = some t := e
    cases q : h[l]? with
    | none => rw [q] at e; cases e
    | some ob =>
      rw [q] at e
      cases ob with
      | lst ds =>
        cases e
        obtain ⟨vs, e1, _⟩ := R.obj l _ _ hl q
        exact .base (.lst e1)
      | dct kvs =>
        cases e
        obtain ⟨vs, e1, _⟩ := R.obj l _ _ hl q
        exact .base (.dK e1)
      | _ => cases e
/-- the class that an isinstance names: its expression gives v, the value u -/
structure IsT (Γ : Tab) (ν : Nm) (K : PySem.W.Frag) (T : String) (v : V) (u : Value) : Prop where
  cv : ClsV v u
  plain : ∀ t ∈ (["NoneType", "bool", "int", "str", "tuple", "list", "dict"] : List String), PySem.W.kitOne K (.type t) u = some (plainIs t T)
  exc : ∀ c ts, Γ.sub.lookup c = some ts → PySem.W.kitOne K (.ref (ν.ca c)) u = some (ts.contains T) ∧ XcOk K (ν.ca c)
theorem kind_mem {h : Ob} {d : D} {t : String} (e : kindOf h d = some t) : t ∈ (["NoneType", "bool", "int", "str", "tuple", "list", "dict"] : List String) := by
  cases d with
  | ref l =>
    have e : (match h[l]? with | some (.lst _) => some "list" | some (.dct _) => some "dict" | _ => none) = some t := e
    split at e <;> first | (cases e; decide) | cases e
  | _ => first | (cases e; decide) | cases e
theorem isi_ok {K : PySem.W.Frag} {H : Hp} {β : List Addr} {h : Ob} {Q : VK} {σ : L2.St} {v w : V} {u : Value} {d : D} {T : String} (R : HRel ν K H β h) (r : RelD K H β v d) (C : IsT Γ ν K T w u) (p : Pst ν K W σ H β (qE K Q) (isiD Γ T d h)) : rIsi K [v, w] H Q ∨ rIsX K [v, w] H Q := by
  unfold isiD at p
  cases q : kindOf h d with
  | some t =>
    rw [q] at p
    exact .inl ⟨v, w, _, u, _, rfl, C.cv, kind_ok R r q, C.plain t (kind_mem q), (p.here R : qE K Q _ H β) _ (.bl _)⟩
  | none =>
    rw [q] at p
    dsimp only at p
    cases q2 : excOf h d with
    | none => rw [q2] at p; exact p.elim
    | some c0 =>
      rw [q2] at p
      dsimp only at p
      cases q3 : Γ.sub.lookup c0 with
      | none => rw [q3] at p; exact p.elim
      | some ts =>
        rw [q3] at p
        cases d with
        | ref l =>
          have q2 : (match h[l]? with | some (.exc c _) => some c | _ => none) = some c0 := q2
          cases q4 : h[l]? with
          | none => rw [q4] at q2; cases q2
          | some ob =>
            rw [q4] at q2
            cases ob with
            | exc c1 v1 =>
              cases q2
              obtain ⟨a1, rfl, _, dd, y, e1, e2, _, _⟩ := hget R r q4
              obtain ⟨k1, k2⟩ := C.exc c0 ts q3
              exact .inr ⟨a1, ν.ca c0, dd, w, u, _, rfl, e1, k2, C.cv, k1, (p.here R : qE K Q _ H β) _ (.bl _), _, e2⟩
            | _ => cases q2
        | _ => cases q2
theorem je_isi {T : String} {w : V} {u : Value} (C : IsT Γ ν X.K T w u) (ht : PE X b (tC w)) (hm : X.mg "isinstance" = none) (ha : JE Γ ν δ X W k a xa)
    (hg : Gl X "isinstance" := by rfl) (hs1 : starEach [a, b] X.env = (false, eval a X.env) :: starEach [b] X.env := by rfl) (hs2 : starEach [b] X.env = (false, eval b X.env) :: starEach [] X.env := by rfl)
    (hpl : (backTo pos (starEach [b] X.env)).any (·.1) = false := by rfl) : JE Γ ν δ X W k (.Call (.Name "isinstance" p) [a, b] [] pos) (.isi xa T) := je_of fun n hS => by
  refine PE.of (pe_callB (CallR.or call_isi call_isX) hg hm (by decide +kernel) (pa_cons (ha n hS.prev) (pa_cons ht pa_nil hs2) hs1) (by decide) (by decide) hs1 hpl) fun σ H Q h => ?_
  obtain ⟨β, h0, ρ, R, S, p⟩ := h
  exact tM_then R S p fun v d H1 β1 h1 R1 S1 e1 r1 p1 => isi_ok R1 r1 C p1

/-! ### an error's field -/
theorem je_fld {f : Str} (hX : ∀ c, Γ.fd.lookup c = some f → XcOk X.K (ν.ca c) ∧ ν.cf c = f ∧ PySem.W.findIn X.K (.ref (ν.ca c)) f = some none) (ha : JE Γ ν δ X W k a xa)
    (hb : attributeBase a f X.env (eval a X.env) = eval a X.env := by rfl) : JE Γ ν δ X W k (.Attribute a f pos) (.fld xa f) := je_of fun n hS => by
  refine ⟨fun pins s σ H Q I h => ?_⟩
  obtain ⟨β, h0, ρ, R, S, p⟩ := h
  refine attr_of hb (thn ((ha n hS.prev).run pins s σ H (fun v H1 => ∃ a C d y, v = .ref a ∧ H1 a = some (ExD C d a) ∧ H1 d = some (.xd [(f, y)]) ∧ XcOk X.K C ∧ PySem.W.findIn X.K (.ref C) f = some none ∧ Q y H1) I ?_) fun u s1 hh => ?_)
  · refine tM_then R S p fun v d H1 β1 h1 R1 S1 e1 r1 p1 => ?_
    cases d with
    | ref l =>
      have pz : Pst ν X.K W σ H1 β1 (qE X.K Q) (match h1[l]? with | some (.exc c v) => (match Γ.fd.lookup c with | some g => (if g = f then .ok v h1 else .bad) | none => .bad) | _ => .bad) := p1
      cases q : h1[l]? with
      | none => rw [q] at pz; exact pz.elim
      | some ob =>
        rw [q] at pz
        cases ob with
        | exc c0 v0 =>
          obtain ⟨a1, rfl, _, dd, y, e2, e3, _, r2⟩ := hget R1 r1 q
          dsimp only at pz
          cases q3 : Γ.fd.lookup c0 with
          | none => rw [q3] at pz; exact pz.elim
          | some g =>
            rw [q3] at pz
            dsimp only at pz
            by_cases hgf : g = f
            · rw [if_pos hgf] at pz
              subst hgf
              obtain ⟨k1, k2, k3⟩ := hX c0 q3
              rw [k2] at e3
              exact ⟨a1, _, dd, y, rfl, e2, e3, k1, k3, (pz.here R1 : qE X.K Q _ H1 β1) y r2⟩
            · rw [if_neg hgf] at pz
              exact pz.elim
        | _ => exact pz.elim
    | _ => exact p1.elim
  · obtain ⟨v, H1, I1, r1, a1, C, dd, y, rfl, e2, e3, T, hno, q⟩ := hh
    obtain rfl : u = Value.ref a1 := r1
    obtain ⟨⟨oe, vs, g1, hz, g2⟩, _, _⟩ := I1.hok a1 _ e2
    obtain ⟨mA, hns, hr⟩ := (show ObjOk X.prog X.w H1 s1.heap dd (.xd [(f, y)]) from I1.hok dd _ e3)
    obtain ⟨od, ho, hl⟩ := lookIn_ns hns
    have lk : List.lookup f [(f, y)] = some y := by simp [List.lookup]
    obtain ⟨u, hu, ru⟩ := RelO.some_of (v := y) (o := mA f) (by rw [← lk]; exact hr f)
    have J : PySem.W.InstAt s1.heap a1 oe C (some od) := ⟨g1, hz.1, by unfold PySem.W.notCls; rw [g2] <;> rfl, by rw [hz.2]; exact ho⟩
    exact HandSPX.exc_get I1.kIn J T.ga T.gt T.sub (PySem.W.findObj_own T.hd hno rfl (by rw [hl, hu])) (handed_of ru) ⟨y, H1, I1.tok _, ru, q⟩
end
end MP
namespace MP
open PySem PySem.Spec L2
section
variable {Γ : Tab} {ν : Nm} {δ : Ad} {X : Cx} {W : WX} {k : Nat} {e a b c o : Expr} {es : List Expr} {x xa xb xc xo : E} {xs : List E} {pos apos p : Pos}
/-! ### methods -/
theorem newStrs {K : PySem.W.Frag} {H : Hp} {β : List Addr} : ∀ zs : List Str, RelDs K H β (zs.map V.str) (zs.map D.str)
  | [] => .nil
  | z :: zs => .cons (.str z) (newStrs zs)
theorem recv_ok {K : PySem.W.Frag} {H : Hp} {β : List Addr} {h : Ob} {m : MT} {d : D} {σ : L2.St} {α : Type} {Qd : α → Hp → List Addr → Prop} {f : Unit → M α} (R : HRel ν K H β h) (p : Pst ν K W σ H β Qd (M.bind (recvM m d) f h)) : recvOk m h d = true ∧ Pst ν K W σ H β Qd (f () h) := by
  unfold M.bind recvM at p
  by_cases hc : recvOk m h d = true
  · rw [if_pos hc] at p
    exact ⟨hc, p⟩
  · rw [if_neg hc] at p
    exact p.elim
theorem one_arg {m : MT} {d : D} {f : M D} : M.bind (M.bind f fun d => M.bind (M.ret []) fun ds => M.ret (d :: ds)) (fun ds => mtD m d ds) = M.bind f fun d2 => mtD m d [d2] := by
  rw [M.assoc]
  rfl
/-- a text's method of one argument -/
theorem je_m1 {m : MT} {t : TE → TE → TE} {e' : Expr} {r : V → List V → Hp → VK → Prop} (ht : ∀ n, Sd Γ ν δ X k n → PE X e' (tM1 r (tM ν X.K W fun ρ => (ev Γ n).e k xo ρ) (tM ν X.K W fun ρ => (ev Γ n).e k x ρ)))
    (hrec : ∀ h d, recvOk m h d = true → ∃ z, d = .str z)
    (hr : ∀ (z : Str) (u : V) (d : D) (H : Hp) (β : List Addr) (h : Ob) (Q : VK) (W : WX) (σ : L2.St), HRel ν X.K H β h → RelD X.K H β u d → Pst ν X.K W σ H β (qE X.K Q) (mtD m (.str z) [d] h) → r (.str z) [u] H Q) : JE Γ ν δ X W k e' (.mt m xo [x]) := je_of fun n hS => by
  refine PE.of (ht n hS.prev) fun σ H Q h => ?_
  obtain ⟨β, h0, ρ, R, S, p⟩ := h
  refine tM_then R S p fun v d H1 β1 h1 R1 S1 e1 r1 p1 => ?_
  obtain ⟨hc, p2⟩ := recv_ok R1 p1
  have p3 : Pst ν X.K W σ H1 β1 (qE X.K Q) (M.bind (M.bind ((ev Γ n).e k x ρ) fun d => M.bind (M.ret []) fun ds => M.ret (d :: ds)) (fun ds => mtD m d ds) h1) := p2
  rw [one_arg] at p3
  obtain ⟨z, rfl⟩ := hrec h1 d hc
  cases r1
  exact ⟨⟨z, rfl⟩, tM_then R1 S1 p3 fun u d2 H2 β2 h2 R2 S2 e2 r2 p4 => hr z u d2 H2 β2 h2 Q W σ R2 r2 p4⟩
theorem je_split (ho : JE Γ ν δ X W k o xo) (he : JE Γ ν δ X W k e x) (hs : starEach [e] X.env = [(false, eval e X.env)] := by rfl) (hbase : attributeBase o "split" X.env (eval o X.env) = eval o X.env := by rfl) (hline : (apos.endLine == pos.line) = true := by rfl) :
    JE Γ ν δ X W k (.Call (.Attribute o "split" apos) [e] [] pos) (.mt .split xo [x]) := by
  refine je_m1 (t := fun a _ => a) (fun n hS => pe_split (ho n hS) (he n hS) hs hbase hline) (fun h d hd => ?_) fun z u d H β h Q W σ R r p => ?_
  · cases d <;> first | exact ⟨_, rfl⟩ | cases hd
  · cases d with
    | str y =>
      cases r
      have p : Pst ν X.K W σ H β (qE X.K Q) (if (y.length == 0) = false ∧ z.length + 2 ≤ 100000 then alloc (.lst ((Txt.split z y).map .str)) h else .bad) := p
      by_cases hc : (y.length == 0) = false ∧ z.length + 2 ≤ 100000
      · rw [if_pos hc] at p
        exact ⟨z, y, rfl, rfl, hc.1, sz hc.2, newL R (newStrs _) p⟩
      · rw [if_neg hc] at p
        exact p.elim
    | _ => exact p.elim
theorem join_size {ys : List Str} {n : Nat} (h : ys.all (fun y => decide (y.length ≤ n)) = true) : (ys.map (·.length)).sum ≤ ys.length * n := by
  induction ys with
  | nil => simp
  | cons y ys ih =>
    rw [List.all_cons, Bool.and_eq_true] at h
    have h1 := of_decide_eq_true h.1
    have h2 := ih h.2
    rw [List.map_cons, List.sum_cons, List.length_cons, Nat.add_mul]
    omega
theorem je_join (ho : JE Γ ν δ X W k o xo) (he : JE Γ ν δ X W k e x) (hs : starEach [e] X.env = [(false, eval e X.env)] := by rfl) (hbase : attributeBase o "join" X.env (eval o X.env) = eval o X.env := by rfl) (hline : (apos.endLine == pos.line) = true := by rfl) :
    JE Γ ν δ X W k (.Call (.Attribute o "join" apos) [e] [] pos) (.mt .join xo [x]) := by
  refine je_m1 (t := fun a _ => a) (fun n hS => pe_join (ho n hS) (he n hS) hs hbase hline) (fun h d hd => ?_) fun z u d H β h Q W σ R r p => ?_
  · cases d <;> first | exact ⟨_, rfl⟩ | cases hd
  · have p : Pst ν X.K W σ H β (qE X.K Q) (match itemsOf h d with
      | some xs => (match strsOf xs with
        | some ys => (if ys.length ≤ 1000 ∧ ys.all (fun y => decide (y.length ≤ 1000)) ∧ z.length ≤ 10 then .ok (.str (Txt.join z ys)) h else .bad)
        | none => .bad)
      | none => .bad) := p
    cases q : itemsOf h d with
    | none => rw [q] at p; exact p.elim
    | some ds =>
      rw [q] at p
      dsimp only at p
      cases q2 : strsOf ds with
      | none => rw [q2] at p; exact p.elim
      | some ys =>
        rw [q2] at p
        dsimp only at p
        by_cases hc : ys.length ≤ 1000 ∧ ys.all (fun y => decide (y.length ≤ 1000)) ∧ z.length ≤ 10
        · rw [if_pos hc] at p
          obtain ⟨pa, us, rfl, hsq, rs⟩ := itemsOf_ok R r q
          have eu := strs_ok rs q2
          subst eu
          refine ⟨z, pa, ys, rfl, rfl, hsq, ?_, (p.here R : qE X.K Q _ H β) _ (.str _)⟩
          have h1 := join_size hc.2.1
          have h2 : ys.length * 1000 ≤ 1000 * 1000 := Nat.mul_le_mul_right _ hc.1
          have h3 : ys.length * z.length ≤ 1000 * 10 := Nat.mul_le_mul hc.1 hc.2.2
          omega
        · rw [if_neg hc] at p
          exact p.elim
theorem list_ty {K : PySem.W.Frag} {H : Hp} {β : List Addr} {h : Ob} {v : V} {d : D} (R : HRel ν K H β h) (r : RelD K H β v d) (e : (listOf h d).isSome = true) : tyV K "list" v H := by
  obtain ⟨ds, q⟩ := Option.isSome_iff_exists.mp e
  obtain ⟨pa, us, rfl, hs, _⟩ := listOf_ok R r q
  exact .inl ⟨rfl, us, hs⟩
/-- a list's method of one argument -/
theorem je_lm {m : MT} {id : String} {name : Str} {r : V → List V → Hp → VK → Prop} (slot : Slot "list" name id) (hty : typeOf (.builtin id) = pure (.type "method_descriptor")) (hm : MtR X id r) (ho : JE Γ ν δ X W k o xo) (he : JE Γ ν δ X W k e x)
    (hrec : ∀ h d, recvOk m h d = true → (listOf h d).isSome = true)
    (hr : ∀ (v u : V) (o d : D) (H : Hp) (β : List Addr) (h : Ob) (Q : VK) (W : WX) (σ : L2.St), HRel ν X.K H β h → RelD X.K H β v o → RelD X.K H β u d → Pst ν X.K W σ H β (qE X.K Q) (mtD m o [d] h) → r v [u] H Q)
    (hbase : attributeBase o name X.env (eval o X.env) = eval o X.env := by rfl)
    (hfew : ((backTo pos (starEach [e] X.env)).all (fun x => !x.1) && (backToKw pos (keywordEach [] X.env)).all (fun x => x.1.isSome) && decide ([e].length + ([] : List Keyword).length + (if ([] : List Keyword).isEmpty then 0 else 1) < 30)) = true := by rfl)
    (hline : (apos.endLine == pos.line) = true := by rfl) (hs : starEach [e] X.env = (false, eval e X.env) :: starEach [] X.env := by rfl) (hplain : (backTo pos (starEach [] X.env)).any (·.1) = false := by rfl) :
    JE Γ ν δ X W k (.Call (.Attribute o name apos) [e] [] pos) (.mt m xo [x]) := je_of fun n hS => by
  refine PE.of (pe_bm PySem.F.plainAttrs_list slot hty hm (ho n hS.prev) (pa_cons (he n hS.prev) pa_nil hs) hbase hfew hline hs hplain) fun σ H Q h => ?_
  obtain ⟨β, h0, ρ, R, S, p⟩ := h
  refine tM_then R S p fun v d H1 β1 h1 R1 S1 e1 r1 p1 => ?_
  obtain ⟨hc, p2⟩ := recv_ok R1 p1
  have p3 : Pst ν X.K W σ H1 β1 (qE X.K Q) (M.bind (M.bind ((ev Γ n).e k x ρ) fun d => M.bind (M.ret []) fun ds => M.ret (d :: ds)) (fun ds => mtD m d ds) h1) := p2
  rw [one_arg] at p3
  exact ⟨list_ty R1 r1 (hrec h1 d hc), tM_then R1 S1 p3 fun u d2 H2 β2 h2 R2 S2 e2 r2 p4 => hr v u d d2 H2 β2 h2 Q W σ R2 (r1.go e2) r2 p4⟩
theorem mt_app {K : PySem.W.Frag} (v u : V) (o d : D) (H : Hp) (β : List Addr) (h : Ob) (Q : VK) (W : WX) (σ : L2.St) (R : HRel ν K H β h) (r1 : RelD K H β v o) (r2 : RelD K H β u d) (p : Pst ν K W σ H β (qE K Q) (mtD .append o [d] h)) : rAppend v [u] H Q := by
  cases o with
  | ref l =>
    have p : Pst ν K W σ H β (qE K Q) (match h[l]? with | some (.lst xs) => (if xs.length < 100000 then .ok .non (h.set l (.lst (xs ++ [d]))) else .bad) | _ => .bad) := p
    cases q : h[l]? with
    | none => rw [q] at p; exact p.elim
    | some ob =>
      rw [q] at p
      cases ob with
      | lst ds =>
        dsimp only at p
        by_cases hz : ds.length < 100000
        · rw [if_pos hz] at p
          obtain ⟨a1, rfl, hl, us, e1, rs⟩ := hget R r1 q
          refine ⟨a1, us, u, rfl, rfl, e1, by rw [rs.length]; exact szlt hz, ?_⟩
          have z := R.write (u := .lst (us ++ [u])) (o := .lst (ds ++ [d])) hl e1 fun e => ⟨_, upd_same, (rs.go e).append (.cons (r2.go e) .nil)⟩
          exact (p _ _ z.1 z.2 : qE K Q _ _ _) _ .non
        · rw [if_neg hz] at p
          exact p.elim
      | _ => exact p.elim
  | _ => exact p.elim
theorem mt_ext {K : PySem.W.Frag} (v u : V) (o d : D) (H : Hp) (β : List Addr) (h : Ob) (Q : VK) (W : WX) (σ : L2.St) (R : HRel ν K H β h) (r1 : RelD K H β v o) (r2 : RelD K H β u d) (p : Pst ν K W σ H β (qE K Q) (mtD .extend o [d] h)) : rExtend v [u] H Q := by
  cases o with
  | ref l =>
    cases d with
    | ref m =>
      have p : Pst ν K W σ H β (qE K Q) (match h[l]?, h[m]? with | some (.lst xs), some (.lst ys) => (if xs.length + ys.length ≤ 100000 then .ok .non (h.set l (.lst (xs ++ ys))) else .bad) | _, _ => .bad) := p
      cases q : h[l]? with
      | none => rw [q] at p; exact p.elim
      | some ob =>
        cases q2 : h[m]? with
        | none => rw [q, q2] at p; cases ob <;> exact p.elim
        | some oc =>
          rw [q, q2] at p
          cases ob with
          | lst ds =>
            cases oc with
            | lst fs =>
              dsimp only at p
              by_cases hz : ds.length + fs.length ≤ 100000
              · rw [if_pos hz] at p
                obtain ⟨a1, rfl, hl, us, e1, rs⟩ := hget R r1 q
                obtain ⟨a2, rfl, _, ws, e2, ts⟩ := hget R r2 q2
                refine ⟨a1, a2, us, ws, rfl, rfl, e1, e2, by rw [rs.length, ts.length]; exact sz hz, ?_⟩
                have z := R.write (u := .lst (us ++ ws)) (o := .lst (ds ++ fs)) hl e1 fun e => ⟨_, upd_same, (rs.go e).append (ts.go e)⟩
                exact (p _ _ z.1 z.2 : qE K Q _ _ _) _ .non
              · rw [if_neg hz] at p
                exact p.elim
            | _ => exact p.elim
          | _ => exact p.elim
    | _ => exact p.elim
  | _ => exact p.elim
theorem firstIx_ok {f : PyData → Bool} : ∀ {zs : List PyData} {j : Nat}, firstIx f zs = some j → ∃ z, zs[j]? = some z ∧ f z = true ∧ ∀ (m : Nat) (z' : PyData), m < j → zs[m]? = some z' → f z' = false
  | [], _, h => by cases h
  | z :: zs, j, h => by
    unfold firstIx at h
    by_cases hz : f z = true
    · rw [if_pos hz] at h
      cases h
      exact ⟨z, rfl, hz, fun m z' hm => absurd hm (Nat.not_lt_zero m)⟩
    · rw [if_neg hz] at h
      cases q : firstIx f zs with
      | none => rw [q] at h; cases h
      | some i =>
        rw [q] at h
        cases h
        obtain ⟨y, h1, h2, h3⟩ := firstIx_ok q
        refine ⟨y, h1, h2, fun m z' hm hz' => ?_⟩
        cases m with
        | zero =>
          cases hz'
          exact Bool.eq_false_iff.mpr hz
        | succ m => exact h3 m z' (Nat.lt_of_succ_lt_succ hm) hz'
theorem mt_ixD {K : PySem.W.Frag} (v u : V) (o d : D) (H : Hp) (β : List Addr) (h : Ob) (Q : VK) (W : WX) (σ : L2.St) (R : HRel ν K H β h) (r1 : RelD K H β v o) (r2 : RelD K H β u d) (p : Pst ν K W σ H β (qE K Q) (mtD .index o [d] h)) : rIndexD K v [u] H Q := by
  have p : Pst ν K W σ H β (qE K Q) (match pd h 40 o, pd h 40 d with
    | some (.list ps), some p => (if SeqAt.shaped (.list ps) && SeqAt.shaped p then (match firstIx (fun z => PyData.eqv z p) ps with | some j => .ok (.int (j : Nat)) h | none => .bad) else .bad)
    | _, _ => .bad) := by cases o <;> exact p
  cases q : pd h 40 o with
  | none => rw [q] at p; exact p.elim
  | some p1 =>
    cases q2 : pd h 40 d with
    | none => rw [q, q2] at p; cases p1 <;> exact p.elim
    | some p2 =>
      rw [q, q2] at p
      cases p1 with
      | list ps =>
        dsimp only at p
        split at p
        · rename_i hs
          rw [Bool.and_eq_true] at hs
          cases q3 : firstIx (fun z => PyData.eqv z p2) ps with
          | none => rw [q3] at p; exact p.elim
          | some j =>
            rw [q3] at p
            obtain ⟨z, h1, h2, h3⟩ := firstIx_ok q3
            have d1 := pd_ok R 40 o _ v q r1
            have d2 := pd_ok R 40 d _ u q2 r2
            cases d1 with
            | lst hsq hall => exact ⟨_, u, p2, ps, j, z, rfl, rfl, .lst hsq hall, d2, hs.1, hs.2, h1, h2, h3, (p.here R : qE K Q _ H β) _ (.int _)⟩
        · exact p.elim
      | _ => exact p.elim
theorem rec_list {m : MT} (hm : (match m with | .split => false | .join => false | _ => true) = true) (h : Ob) (d : D) (hd : recvOk m h d = true) : (listOf h d).isSome = true := by
  cases m <;> first | (cases hm; done) | (cases d <;> first | exact hd | cases hd)
theorem je_append (ho : JE Γ ν δ X W k o xo) (he : JE Γ ν δ X W k e x) (hbase : attributeBase o "append" X.env (eval o X.env) = eval o X.env := by rfl)
    (hfew : ((backTo pos (starEach [e] X.env)).all (fun x => !x.1) && (backToKw pos (keywordEach [] X.env)).all (fun x => x.1.isSome) && decide ([e].length + ([] : List Keyword).length + (if ([] : List Keyword).isEmpty then 0 else 1) < 30)) = true := by rfl)
    (hline : (apos.endLine == pos.line) = true := by rfl) (hs : starEach [e] X.env = (false, eval e X.env) :: starEach [] X.env := by rfl) (hplain : (backTo pos (starEach [] X.env)).any (·.1) = false := by rfl) :
    JE Γ ν δ X W k (.Call (.Attribute o "append" apos) [e] [] pos) (.mt .append xo [x]) :=
  je_lm PySem.F.slot_list_append PySem.F.type_list_append mt_append ho he (rec_list rfl) mt_app hbase hfew hline hs hplain
theorem je_extend (ho : JE Γ ν δ X W k o xo) (he : JE Γ ν δ X W k e x) (hbase : attributeBase o "extend" X.env (eval o X.env) = eval o X.env := by rfl)
    (hfew : ((backTo pos (starEach [e] X.env)).all (fun x => !x.1) && (backToKw pos (keywordEach [] X.env)).all (fun x => x.1.isSome) && decide ([e].length + ([] : List Keyword).length + (if ([] : List Keyword).isEmpty then 0 else 1) < 30)) = true := by rfl)
    (hline : (apos.endLine == pos.line) = true := by rfl) (hs : starEach [e] X.env = (false, eval e X.env) :: starEach [] X.env := by rfl) (hplain : (backTo pos (starEach [] X.env)).any (·.1) = false := by rfl) :
    JE Γ ν δ X W k (.Call (.Attribute o "extend" apos) [e] [] pos) (.mt .extend xo [x]) :=
  je_lm PySem.F.slot_list_extend PySem.F.type_list_extend mt_extend ho he (rec_list rfl) mt_ext hbase hfew hline hs hplain
theorem je_index (hu : X.A.units + 65 < cLine) (ho : JE Γ ν δ X W k o xo) (he : JE Γ ν δ X W k e x) (hbase : attributeBase o "index" X.env (eval o X.env) = eval o X.env := by rfl)
    (hfew : ((backTo pos (starEach [e] X.env)).all (fun x => !x.1) && (backToKw pos (keywordEach [] X.env)).all (fun x => x.1.isSome) && decide ([e].length + ([] : List Keyword).length + (if ([] : List Keyword).isEmpty then 0 else 1) < 30)) = true := by rfl)
    (hline : (apos.endLine == pos.line) = true := by rfl) (hs : starEach [e] X.env = (false, eval e X.env) :: starEach [] X.env := by rfl) (hplain : (backTo pos (starEach [] X.env)).any (·.1) = false := by rfl) :
    JE Γ ν δ X W k (.Call (.Attribute o "index" apos) [e] [] pos) (.mt .index xo [x]) :=
  je_lm PySem.F.slot_list_index PySem.F.type_list_index (mt_indexD hu) ho he (rec_list rfl) mt_ixD hbase hfew hline hs hplain
end
end MP
namespace MP
open PySem PySem.Spec L2
/-! ### statements -/
def PstS (ν : Nm) (K : PySem.W.Frag) (W : WX) (D : Ends) (H : Hp) (β : List Addr) : RS → Prop
  | .ok (.nx ρ') h' => ∀ σ' H' β', Ext H β H' β' → HRel ν K H' β' h' → SRel K H' β' σ' ρ' → D.nx σ' H'
  | .ok (.rt d) h' => ∀ v H' β', Ext H β H' β' → HRel ν K H' β' h' → RelD K H' β' v d → D.rt v H'
  | .ok (.bk ρ') h' => ∀ σ' H' β', Ext H β H' β' → HRel ν K H' β' h' → SRel K H' β' σ' ρ' → D.bk σ' H'
  | .ok (.ct ρ') h' => ∀ σ' H' β', Ext H β H' β' → HRel ν K H' β' h' → SRel K H' β' σ' ρ' → D.ct σ' H'
  | .exc c d ρ' h' => ∀ σ' v dd H' β', Ext H β H' β' → HRel ν K H' β' h' → SRel K H' β' σ' ρ' → RelD K H' β' v d → H' dd = some (.xd [(ν.cf c, v)]) → dd ∉ β' → W (.ref (ν.ca c)) (some dd) σ' H'
  | .bad => False
def tMS (ν : Nm) (K : PySem.W.Frag) (W : WX) (f : Env' → MS) : TS := fun D σ H => ∃ β h ρ, HRel ν K H β h ∧ SRel K H β σ ρ ∧ PstS ν K W D H β (f ρ h)
def JS (Γ : Tab) (ν : Nm) (δ : Ad) (X : Cx) (W : WX) (k : Nat) (st : Stmt) (s : S) : Prop := ∀ n, Sd Γ ν δ X k n → PS X st (tMS ν X.K W fun ρ => (ev Γ n).s k s ρ)
def JSs (Γ : Tab) (ν : Nm) (δ : Ad) (X : Cx) (W : WX) (k : Nat) (st : List Stmt) (s : List S) : Prop := ∀ n, Sd Γ ν δ X k n → PSs X st (tMS ν X.K W fun ρ => seqS ((ev Γ n).s k) s ρ)
section
variable {Γ : Tab} {ν : Nm} {δ : Ad} {X : Cx} {W : WX} {k : Nat} {e a b c o : Expr} {es : List Expr} {x xa xb xc xo : E} {xs : List E} {pos apos p : Pos} {st : Stmt} {sts sts' : List Stmt} {s : S} {ss ss' : List S}
theorem PstS.go {K : PySem.W.Frag} {D : Ends} {H H1 : Hp} {β β1 : List Addr} {r : RS} (p : PstS ν K W D H β r) (e : Ext H β H1 β1) : PstS ν K W D H1 β1 r := by
  cases r with
  | ok f h' =>
    cases f with
    | nx ρ => exact fun σ' H' β' x => p σ' H' β' (e.trans x)
    | rt d => exact fun v H' β' x => p v H' β' (e.trans x)
    | bk ρ => exact fun σ' H' β' x => p σ' H' β' (e.trans x)
    | ct ρ => exact fun σ' H' β' x => p σ' H' β' (e.trans x)
  | exc c d ρ h' => exact fun σ' v dd H' β' x => p σ' v dd H' β' (e.trans x)
  | bad => exact p
/-- what an expression leaves to a statement -/
theorem liftS_ok {α : Type} {K : PySem.W.Frag} {D : Ends} {H : Hp} {β : List Addr} {h : Ob} {σ : L2.St} {ρ : Env'} {m : M α} {f : α → MS} (R : HRel ν K H β h) (S : SRel K H β σ ρ) (p : PstS ν K W D H β (liftS m ρ f h)) :
    Pst ν K W σ H β (fun a H' β' => ∃ h', HRel ν K H' β' h' ∧ Ext H β H' β' ∧ SRel K H' β' σ ρ ∧ PstS ν K W D H' β' (f a h')) (m h) := by
  unfold liftS at p
  cases e : m h with
  | ok a h' =>
    rw [e] at p
    exact fun H' β' x y => ⟨h', y, x, S.go x, p.go x⟩
  | exc c d h' =>
    rw [e] at p
    exact fun v dd H' β' x y z u w => p σ v dd H' β' x y (S.go x) z u w
  | bad =>
    rw [e] at p
    exact p
theorem lift_then {K : PySem.W.Frag} {Ds : Ends} {H : Hp} {β : List Addr} {h : Ob} {σ : L2.St} {ρ : Env'} {g : Env' → M D} {f : D → MS} {Q : VK} (R : HRel ν K H β h) (S : SRel K H β σ ρ) (p : PstS ν K W Ds H β (liftS (g ρ) ρ f h))
    (q : ∀ v d H' β' h', HRel ν K H' β' h' → SRel K H' β' σ ρ → Ext H β H' β' → RelD K H' β' v d → PstS ν K W Ds H' β' (f d h') → Q v H') : tM ν K W g σ H Q :=
  ⟨β, h, ρ, R, S, (liftS_ok R S p).imp fun d H' β' ⟨h', R', e, S', p'⟩ v r => q v d H' β' h' R' S' e r p'⟩
theorem lift_thenT {K : PySem.W.Frag} {Ds : Ends} {H : Hp} {β : List Addr} {h : Ob} {σ : L2.St} {ρ : Env'} {g : Env' → M Bool} {f : Bool → MS} {Q : Bool → Hp → Prop} (R : HRel ν K H β h) (S : SRel K H β σ ρ) (p : PstS ν K W Ds H β (liftS (g ρ) ρ f h))
    (q : ∀ t H' β' h', HRel ν K H' β' h' → SRel K H' β' σ ρ → Ext H β H' β' → PstS ν K W Ds H' β' (f t h') → Q t H') : tMT ν K W g σ H Q :=
  ⟨β, h, ρ, R, S, (liftS_ok R S p).imp fun t H' β' ⟨h', R', e, S', p'⟩ => q t H' β' h' R' S' e p'⟩
theorem liftS_bind {α γ : Type} (m : M α) (f : α → M γ) (ρ : Env') (g : γ → MS) : liftS (M.bind m f) ρ g = liftS m ρ fun a => liftS (f a) ρ g := by
  funext h
  unfold liftS M.bind
  cases m h <;> rfl
theorem js_of (h : ∀ n, Sd Γ ν δ X k (n + 1) → PS X st (tMS ν X.K W fun ρ => stepS Γ (ev Γ n) k s ρ)) : JS Γ ν δ X W k st s := fun n hS => by
  cases n with
  | zero => exact ⟨fun _ _ _ _ _ _ q => by obtain ⟨_, _, _, _, _, p⟩ := q; exact p.elim⟩
  | succ n => exact h n hS
theorem jss_nil : JSs Γ ν δ X W k [] [] := fun n hS => PSs.of pss_nil fun D σ H ⟨β, h, ρ, R, S, p⟩ => (p σ H β (Ext.refl _ _) R S : D.nx σ H)
theorem jss_cons (h1 : JS Γ ν δ X W k st s) (h2 : JSs Γ ν δ X W k sts ss) : JSs Γ ν δ X W k (st :: sts) (s :: ss) := fun n hS => by
  refine PSs.of (pss_cons (h1 n hS) (h2 n hS)) fun D σ H h => ?_
  obtain ⟨β, h0, ρ, R, S, p⟩ := h
  refine ⟨β, h0, ρ, R, S, ?_⟩
  show PstS ν X.K W { D with nx := tMS ν X.K W (fun ρ => seqS ((ev Γ n).s k) ss ρ) D } H β ((ev Γ n).s k s ρ h0)
  have p : PstS ν X.K W D H β (match (ev Γ n).s k s ρ h0 with | .ok (.nx ρ') h' => seqS ((ev Γ n).s k) ss ρ' h' | r => r) := p
  cases q : (ev Γ n).s k s ρ h0 with
  | ok f h' =>
    rw [q] at p
    cases f with
    | nx ρ' => exact fun σ' H' β' x y z => ⟨β', h', ρ', y, z, p.go x⟩
    | rt d => exact p
    | bk ρ' => exact p
    | ct ρ' => exact p
  | exc c d ρ' h' => rw [q] at p; exact p
  | bad => rw [q] at p; exact p
theorem js_asgP {i : Nat} {z : Str} {pz : Pos} (hp : ∀ n, Sd Γ ν δ X k n → PS X (.Assign [.Name z pz] e pos) (tAsg (tM ν X.K W fun ρ => (ev Γ n).e k x ρ) (gName i))) :
    JS Γ ν δ X W k (.Assign [.Name z pz] e pos) (.asg i x) := js_of fun n hS => by
  refine PS.of (hp n hS.prev) fun D σ H h => ?_
  obtain ⟨β, h0, ρ, R, S, p⟩ := h
  exact lift_then R S p fun v d H1 β1 h1 R1 S1 e1 r1 p1 => (p1 _ H1 β1 (Ext.refl _ _) R1 (S1.set r1 i) : D.nx _ H1)
theorem js_asg (i : Nat) {z : Str} {pz : Pos} (hN : X.N.Nodup) (h : JE Γ ν δ X W k e x) (hi : X.N[i]? = some z := by rfl) (hl : Loc X.env.scope z := by first | exact Or.inl rfl | exact Or.inr rfl) (hs : swapsWith e (some (.Name z pz)) pos.line X.env = pure false := by rfl)
    (hf : X.fn z = true ∨ X.env.scope.names.lookup z = some .local := by first | exact .inl rfl | exact .inr rfl | assumption) :
    JS Γ ν δ X W k (.Assign [.Name z pz] e pos) (.asg i x) := js_asgP fun n hS => ps_set hN hi hl (h n hS) hs hf
theorem js_ex (h : JE Γ ν δ X W k e x) (hs : swapsWith e none pos.line X.env = pure false := by rfl) : JS Γ ν δ X W k (.Expr e pos) (.ex x) := js_of fun n hS => by
  refine PS.of (ps_expr (h n hS.prev) hs) fun D σ H h => ?_
  obtain ⟨β, h0, ρ, R, S, p⟩ := h
  exact lift_then R S p fun v d H1 β1 h1 R1 S1 e1 r1 p1 => (p1 σ H1 β1 (Ext.refl _ _) R1 S1 : D.nx σ H1)
theorem js_ret (h : JE Γ ν δ X W k e x) : JS Γ ν δ X W k (.Return (some e) pos) (.ret x) := js_of fun n hS => by
  refine PS.of (ps_ret (h n hS.prev)) fun D σ H h => ?_
  obtain ⟨β, h0, ρ, R, S, p⟩ := h
  exact lift_then R S p fun v d H1 β1 h1 R1 S1 e1 r1 p1 => (p1 v H1 β1 (Ext.refl _ _) R1 r1 : D.rt v H1)
theorem js_pass : JS Γ ν δ X W k (.Pass pos) .pass := js_of fun n hS => PS.of ps_pass fun D σ H ⟨β, h, ρ, R, S, p⟩ => (p σ H β (Ext.refl _ _) R S : D.nx σ H)
theorem js_if (hc : JT Γ ν δ X W k c xc) (h1 : JSs Γ ν δ X W k sts ss) (h2 : JSs Γ ν δ X W k sts' ss') : JS Γ ν δ X W k (.If c sts sts' pos) (.ifs xc ss ss') := js_of fun n hS => by
  refine PS.of (ps_if (hc n hS.prev) (h1 n hS.prev) (h2 n hS.prev)) fun D σ H h => ?_
  obtain ⟨β, h0, ρ, R, S, p⟩ := h
  have p : PstS ν X.K W D H β (liftS ((ev Γ n).e k xc ρ) ρ (fun x => liftS (truthM x) ρ fun r => if r then seqS ((ev Γ n).s k) ss ρ else seqS ((ev Γ n).s k) ss' ρ) h0) := p
  rw [← liftS_bind] at p
  refine lift_thenT (g := fun ρ => M.bind ((ev Γ n).e k xc ρ) truthM) R S p fun t H1 β1 h1 R1 S1 e1 p1 => ?_
  cases t with
  | true =>
    rw [if_pos rfl]
    exact ⟨β1, h1, ρ, R1, S1, p1⟩
  | false =>
    rw [if_neg Bool.false_ne_true]
    exact ⟨β1, h1, ρ, R1, S1, p1⟩
theorem js_set {oo i e : Expr} {xo xi xe : E} (ho : JE Γ ν δ X W k oo xo) (hi : JE Γ ν δ X W k i xi) (he : JE Γ ν δ X W k e xe) (hp : ∀ n, Sd Γ ν δ X k n → PS X (.Assign [.Subscript oo i apos] e pos) (tAsg (tM ν X.K W fun ρ => (ev Γ n).e k xe ρ) (gSub (tM ν X.K W fun ρ => (ev Γ n).e k xo ρ) (tM ν X.K W fun ρ => (ev Γ n).e k xi ρ) rSetL))) :
    JS Γ ν δ X W k (.Assign [.Subscript oo i apos] e pos) (.setix xo xi xe) := js_of fun n hS => by
  refine PS.of (hp n hS.prev) fun D σ H h => ?_
  obtain ⟨β, h0, ρ, R, S, p⟩ := h
  refine lift_then R S p fun v d H1 β1 h1 R1 S1 e1 r1 p1 => ?_
  refine lift_then R1 S1 p1 fun v2 d2 H2 β2 h2 R2 S2 e2 r2 p2 => ?_
  refine lift_then R2 S2 p2 fun v3 d3 H3 β3 h3 R3 S3 e3 r3 p3 => ?_
  have r2 := r2.go e3
  have r1 := (r1.go e2).go e3
  have p4 := liftS_ok R3 S3 p3
  cases d2 with
  | ref l =>
    cases d3 with
    | int j =>
      cases r3
      have p4 : Pst ν X.K W σ H3 β3 (fun (_ : Unit) H' β' => ∃ h', HRel ν X.K H' β' h' ∧ Ext H3 β3 H' β' ∧ SRel X.K H' β' σ ρ ∧ PstS ν X.K W D H' β' (.ok (.nx ρ) h')) (match h3[l]? with | some (.lst xs) => (match ixN xs.length j with | some m => .ok () (h3.set l (.lst (xs.set m d))) | none => .bad) | _ => .bad) := p4
      cases q : h3[l]? with
      | none => rw [q] at p4; exact p4.elim
      | some ob =>
        rw [q] at p4
        cases ob with
        | lst ds =>
          dsimp only at p4
          cases q2 : ixN ds.length j with
          | none => rw [q2] at p4; exact p4.elim
          | some m =>
            rw [q2] at p4
            obtain ⟨a1, rfl, hl, us, ea, rs⟩ := hget R3 r2 q
            refine ⟨a1, us, j, m, rfl, rfl, ea, by rw [rs.length]; exact q2, ?_⟩
            have z := R3.write (u := .lst (us.set m v)) (o := .lst (ds.set m d)) hl ea fun e => ⟨_, upd_same, (rs.go e).set (r1.go e) m⟩
            obtain ⟨h5, R5, e5, S5, p5⟩ := p4 _ _ z.1 z.2
            exact (p5 σ _ _ (Ext.refl _ _) R5 S5 : D.nx σ _)
        | _ => exact p4.elim
    | _ => exact p4.elim
  | _ => exact p4.elim

/-! ### what is walked -/
def IvOk (ν : Nm) (K : PySem.W.Frag) (J : It) (v : IV) (H0 : Hp) (β0 : List Addr) : Prop := ∀ H β h, Ext H0 β0 H β → HRel ν K H β h → v.ok h = true → ∀ i : Nat,
  (∀ d, v.get h i = some d → J.go i H ∧ ∀ x H', J.yld i H x H' → Ext H β H' β ∧ HRel ν K H' β h ∧ RelD K H' β x d) ∧ (v.get h i = none → J.stop i H)
theorem IvOk.go {K : PySem.W.Frag} {J : It} {v : IV} {H0 H1 : Hp} {β0 β1 : List Addr} (I : IvOk ν K J v H0 β0) (e : Ext H0 β0 H1 β1) : IvOk ν K J v H1 β1 := fun H β h x => I H β h (e.trans x)
def qI (ν : Nm) (K : PySem.W.Frag) (R : It → Hp → Prop) : IV → Hp → List Addr → Prop := fun v H' β' => ∀ J, IvOk ν K J v H' β' → R J H'
def JI (Γ : Tab) (ν : Nm) (δ : Ad) (X : Cx) (W : WX) (k : Nat) (tg iter : Expr) (it : Wk) : Prop := ∀ n, Sd Γ ν δ X k n → PI X tg iter (fun σ H R => ∃ β h ρ, HRel ν X.K H β h ∧ SRel X.K H β σ ρ ∧ Pst ν X.K W σ H β (qI ν X.K R) (ivE (ev Γ n) k ρ it h))
theorem PI.of {tg iter : Expr} {w w' : TI} (p : PI X tg iter w) (h : ∀ σ H R, w' σ H R → w σ H R) : PI X tg iter w' := ⟨fun pins s σ H R I q => p.run pins s σ H R I (h σ H R q)⟩
theorem PI.or {tg iter : Expr} {w w' : TI} (p : PI X tg iter w) (q : PI X tg iter w') : PI X tg iter (fun σ H R => w σ H R ∨ w' σ H R) := ⟨fun pins s σ H R I h => by
  rcases h with h | h
  · exact p.run pins s σ H R I h
  · exact q.run pins s σ H R I h⟩
theorem iv_rng {K : PySem.W.Frag} {H : Hp} {β : List Addr} {n : Nat} : IvOk ν K (Itr 0 n) (.items ((List.range n).map fun i => .int (i : Nat))) H β := fun H1 β1 h1 _ R1 _ i => by
  have g : (IV.items ((List.range n).map fun i => D.int (i : Nat))).get h1 i = if i < n then some (.int i) else none := by
    show ((List.range n).map fun i => D.int (i : Nat))[i]? = _
    by_cases hi : i < n
    · rw [if_pos hi, List.getElem?_map, List.getElem?_range hi]
      rfl
    · rw [if_neg hi]
      exact List.getElem?_eq_none_iff.mpr (by simpa using hi)
  rw [g]
  refine ⟨fun d e => ?_, fun e => ?_⟩
  · split at e
    · rename_i hi
      cases e
      refine ⟨hi, fun x H' y => ?_⟩
      obtain ⟨rfl, rfl⟩ := y
      refine ⟨Ext.refl _ _, R1, ?_⟩
      rw [Int.zero_add]
      exact .int _
    · cases e
  · split at e
    · cases e
    · rename_i hi
      exact Nat.le_of_not_lt hi
theorem iv_tup {K : PySem.W.Frag} {H : Hp} {β : List Addr} {a : Addr} {vs : List V} {ds : List D} (ht : TupAt K H β a vs) (r : RelDs K H β vs ds) : IvOk ν K (Itt K a) (.items ds) H β := fun H1 β1 h1 e1 R1 _ i => by
  have ht1 := (ht.ext e1).sq
  have r1 := r.go e1
  refine ⟨fun d e => ?_, fun e => ?_⟩
  · obtain ⟨v, hv, rv⟩ := r1.get (show ds[i]? = some d from e)
    refine ⟨⟨vs, v, ht1, hv⟩, fun x H' y => ?_⟩
    obtain ⟨rfl, q⟩ := y
    have := (q vs ht1).symm.trans hv
    cases this
    exact ⟨Ext.refl _ _, R1, rv⟩
  · have e : ds[i]? = none := e
    refine ⟨vs, ht1, ?_⟩
    rw [r1.length]
    exact List.getElem?_eq_none_iff.mp e
theorem iv_fl {K : PySem.W.Frag} {H : Hp} {β : List Addr} {a : Addr} {vs : List V} {ds : List D} (ht : LstAt K H β a vs) (r : RelDs K H β vs ds) : IvOk ν K (Itl K a) (.items ds) H β := fun H1 β1 h1 e1 R1 _ i => by
  have ht1 := (ht.ext e1).sq
  have r1 := r.go e1
  refine ⟨fun d e => ?_, fun e => ?_⟩
  · obtain ⟨v, hv, rv⟩ := r1.get (show ds[i]? = some d from e)
    refine ⟨⟨vs, v, ht1, hv⟩, fun x H' y => ?_⟩
    obtain ⟨rfl, q⟩ := y
    have := (q vs ht1).symm.trans hv
    cases this
    exact ⟨Ext.refl _ _, R1, rv⟩
  · have e : ds[i]? = none := e
    refine ⟨vs, ht1, ?_⟩
    rw [r1.length]
    exact List.getElem?_eq_none_iff.mp e
/-- the list at a place, as it is then -/
theorem at_get {K : PySem.W.Frag} {H : Hp} {β : List Addr} {h : Ob} {l : Nat} {a : Addr} (R : HRel ν K H β h) (hl : β[l]? = some a) (ok : (IV.at_ l).ok h = true) : ∃ ds vs, h[l]? = some (.lst ds) ∧ H a = some (.lst vs) ∧ RelDs K H β vs ds := by
  have ok : (match h[l]? with | some (.lst _) => true | _ => false) = true := ok
  cases q : h[l]? with
  | none => rw [q] at ok; cases ok
  | some ob =>
    rw [q] at ok
    cases ob with
    | lst ds =>
      obtain ⟨vs, e, r⟩ := R.obj l a _ hl q
      exact ⟨ds, vs, rfl, e, r⟩
    | _ => cases ok
theorem iv_at {K : PySem.W.Frag} {H : Hp} {β : List Addr} {l : Nat} {a : Addr} (hl : β[l]? = some a) : IvOk ν K (Itl K a) (.at_ l) H β := fun H1 β1 h1 e1 R1 ok i => by
  obtain ⟨ds, vs, q, ea, r⟩ := at_get R1 (pre_get e1.pre hl) ok
  have g : (IV.at_ l).get h1 i = ds[i]? := by
    show (match h1[l]? with | some (.lst xs) => xs[i]? | _ => none) = ds[i]?
    rw [q]
  rw [g]
  have sq : SqL K H1 a vs := .inl (.inl ea)
  refine ⟨fun d e => ?_, fun e => ?_⟩
  · obtain ⟨v, hv, rv⟩ := r.get e
    refine ⟨⟨vs, v, sq, hv⟩, fun x H' y => ?_⟩
    obtain ⟨rfl, q⟩ := y
    have := (q vs sq).symm.trans hv
    cases this
    exact ⟨Ext.refl _ _, R1, rv⟩
  · refine ⟨vs, sq, ?_⟩
    rw [r.length]
    exact List.getElem?_eq_none_iff.mp e
theorem iv_str {K : PySem.W.Frag} {H : Hp} {β : List Addr} {z : Str} : IvOk ν K (Its z) (.items (signs z)) H β := fun H1 β1 h1 e1 R1 _ i => by
  have g : (IV.items (signs z)).get h1 i = (z.cps[i]?).map fun c => D.str ⟨#[c]⟩ := by
    show (z.cps.toList.map fun c => D.str ⟨#[c]⟩)[i]? = _
    rw [List.getElem?_map, Array.getElem?_toList]
  rw [g]
  cases q : z.cps[i]? with
  | none =>
    refine ⟨fun d e => (by cases e), fun _ => ?_⟩
    exact Array.getElem?_eq_none_iff.mp q
  | some c =>
    refine ⟨fun d e => ?_, fun e => (by cases e)⟩
    cases e
    refine ⟨(Array.getElem?_eq_some_iff.mp q).1, fun x H' y => ?_⟩
    obtain ⟨rfl, c', h1, rfl⟩ := y
    rw [q] at h1
    cases h1
    exact ⟨Ext.refl _ _, R1, .str _⟩
theorem ji_rng {tg : Expr} (he : JE Γ ν δ X W k e x) (hm : X.mg "range" = none) (hg : Gl X "range" := by rfl) (hs : starEach [e] X.env = (false, eval e X.env) :: starEach [] X.env := by rfl) (hs2 : starEach [e] X.env = [(false, eval e X.env)] := by rfl) : JI Γ ν δ X W k tg (.Call (.Name "range" p) [e] [] pos) (.rng x) := fun n hS => by
  refine PI.of (pi_range1 hg hm (pa_cons (he n hS) pa_nil hs) hs2) fun σ H Rr h => ?_
  obtain ⟨β, h0, ρ, R, S, p⟩ := h
  refine tM_then R S p fun v d H1 β1 h1 R1 S1 e1 r1 p1 => ?_
  cases d with
  | int j =>
    cases r1
    have p1 : Pst ν X.K W σ H1 β1 (qI ν X.K Rr) (if -100000 ≤ j ∧ j ≤ 100000 then .ok (.items ((List.range j.toNat).map fun i => .int (i : Nat))) h1 else .bad) := p1
    by_cases hj : -100000 ≤ j ∧ j ≤ 100000
    · rw [if_pos hj] at p1
      exact ⟨j, rfl, by omega, by omega, (p1.here R1 : qI ν X.K Rr _ H1 β1) _ iv_rng⟩
    · rw [if_neg hj] at p1
      exact p1.elim
  | _ => exact p1.elim
theorem ji_over {tg : Expr} (he : JE Γ ν δ X W k e x) : JI Γ ν δ X W k tg e (.over x) := fun n hS => by
  refine PI.of (PI.or (PI.or (pi_list (he n hS)) (pi_tup (he n hS))) (pi_str (he n hS))) fun σ H Rr h => ?_
  obtain ⟨β, h0, ρ, R, S, p⟩ := h
  -- the kind is known behind the expression alone: ask the evaluator's end
  have p0 := Pst.first p
  cases q : (ev Γ n).e k x ρ h0 with
  | bad => rw [q] at p0; exact p0.elim
  | exc c d h' =>
    rw [q] at p0
    refine .inr ⟨β, h0, ρ, R, S, ?_⟩
    dsimp only
    rw [q]
    exact p0
  | ok d h' =>
    rw [q] at p0
    cases d with
    | str z =>
      refine .inr ⟨β, h0, ρ, R, S, ?_⟩
      dsimp only
      rw [q]
      intro H' β' e1 R1 v r
      obtain ⟨h2, R2, e2, p2⟩ := p0 H' β' e1 R1
      cases r
      exact ⟨z, rfl, (p2.here R2 : qI ν X.K Rr _ H' β') _ iv_str⟩
    | tup ds =>
      refine .inl (.inr ⟨β, h0, ρ, R, S, ?_⟩)
      dsimp only
      rw [q]
      intro H' β' e1 R1 v r
      obtain ⟨h2, R2, e2, p2⟩ := p0 H' β' e1 R1
      cases r with
      | tup ht rs => exact ⟨_, rfl, ⟨_, ht.sq⟩, (p2.here R2 : qI ν X.K Rr _ H' β') _ (iv_tup ht rs)⟩
    | fl ds =>
      refine .inl (.inl ⟨β, h0, ρ, R, S, ?_⟩)
      dsimp only
      rw [q]
      intro H' β' e1 R1 v r
      obtain ⟨h2, R2, e2, p2⟩ := p0 H' β' e1 R1
      cases r with
      | fl ht rs => exact ⟨_, rfl, ⟨_, ht.sq⟩, (p2.here R2 : qI ν X.K Rr _ H' β') _ (iv_fl ht rs)⟩
    | ref l =>
      refine .inl (.inl ⟨β, h0, ρ, R, S, ?_⟩)
      dsimp only
      rw [q]
      intro H' β' e1 R1 v r
      obtain ⟨h2, R2, e2, p2⟩ := p0 H' β' e1 R1
      cases r with
      | @ref _ a hl =>
        have p2 : Pst ν X.K W σ H' β' (qI ν X.K Rr) (match h2[l]? with | some (.lst _) => .ok (.at_ l) h2 | _ => .bad) := p2
        cases q : h2[l]? with
        | none => rw [q] at p2; exact p2.elim
        | some ob =>
          rw [q] at p2
          cases ob with
          | lst ds =>
            obtain ⟨vs, ea, _⟩ := R2.obj l a _ hl q
            exact ⟨a, rfl, ⟨vs, .inl (.inl ea)⟩, (p2.here R2 : qI ν X.K Rr _ H' β') _ (iv_at hl)⟩
          | _ => exact p2.elim
    | _ =>
      refine .inl (.inl ⟨β, h0, ρ, R, S, ?_⟩)
      dsimp only
      rw [q]
      intro H' β' e1 R1 v r
      obtain ⟨h2, R2, e2, p2⟩ := p0 H' β' e1 R1
      exact p2.elim
end
end MP
namespace MP
open PySem PySem.Spec L2
section
variable {Γ : Tab} {ν : Nm} {δ : Ad} {X : Cx} {W : WX} {k : Nat} {e a b c o : Expr} {es : List Expr} {x xa xb xc xo : E} {xs : List E} {pos apos p : Pos} {st : Stmt} {sts sts' : List Stmt} {s : S} {ss ss' : List S}
/-! ### targets -/
def TgOk (ν : Nm) (K : PySem.W.Frag) (tg : Tg) (g : TG) : Prop := ∀ (x : V) (d : D) (σ : L2.St) (ρ ρ' : Env') (H : Hp) (β : List Addr) (Q : L2.St → Hp → Prop), RelD K H β x d → SRel K H β σ ρ → bindTg tg d ρ = some ρ' → (∀ σ', SRel K H β σ' ρ' → Q σ' H) → g x σ H Q
theorem tg_name {K : PySem.W.Frag} (i : Nat) : TgOk ν K (.name i) (gName i) := fun x d σ ρ ρ' H β Q r S e q => by
  cases e
  exact q _ (S.set r i)
theorem tg_pair {K : PySem.W.Frag} (i j : Nat) : TgOk ν K (.pair i j) (gTup K 2 (gCons (gName i) (gCons (gName j) gNil))) := fun x d σ ρ ρ' H β Q r S e q => by
  cases d with
  | tup ds =>
    match ds, e, r with
    | [d1, d2], e, r =>
      cases e
      cases r with
      | tup ht rs =>
        cases rs with
        | cons r1 rs =>
          cases rs with
          | cons r2 rs =>
            cases rs
            exact ⟨_, _, rfl, ht.sq, rfl, _, _, rfl, _, _, rfl, rfl, q _ ((S.set r1 i).set r2 j)⟩
    | [], e, _ => cases e
    | [_], e, _ => cases e
    | _ :: _ :: _ :: _, e, _ => cases e
  | _ => cases e
/-! ### for -/
theorem loop_ok {K : PySem.W.Frag} {J : L2.It} {v : IV} {tg : Tg} {g : TG} {D : Ends} {f : Env' → MS} {H0 : Hp} {β0 : List Addr} (IV0 : IvOk ν K J v H0 β0) (T : TgOk ν K tg g) {σ : L2.St} {ρ : Env'} {h : Ob} {m : Nat} (R : HRel ν K H0 β0 h) (S : SRel K H0 β0 σ ρ) (p : PstS ν K W D H0 β0 (loopS v tg f m 0 ρ h)) :
    ∃ W' : Nat → Nat → L2.St → Hp → Prop, (∃ m, W' 0 m σ H0) ∧ ∀ i m σ H, W' i m σ H → (J.stop i H ∧ D.nx σ H) ∨ (J.go i H ∧ ∃ N : L2.St → Hp → Prop, (∀ σ' H', N σ' H' → ∃ m', m' < m ∧ W' (i + 1) m' σ' H') ∧
      ∀ x H', J.yld i H x H' → g x σ H' fun σ2 H2 => tMS ν K W f { D with nx := N, ct := N, bk := D.nx } σ2 H2) := by
  refine ⟨fun i m σ H => ∃ β h ρ, Ext H0 β0 H β ∧ HRel ν K H β h ∧ SRel K H β σ ρ ∧ PstS ν K W D H β (loopS v tg f m i ρ h), ⟨m, β0, h, ρ, Ext.refl _ _, R, S, p⟩, ?_⟩
  rintro i m σ H ⟨β, h, ρ, e, R, S, p⟩
  unfold loopS at p
  by_cases ok : v.ok h = true
  · rw [if_pos ok] at p
    obtain ⟨h1, h2⟩ := IV0 H β h e R ok i
    cases q : v.get h i with
    | none =>
      rw [q] at p
      exact .inl ⟨h2 q, (p σ H β (Ext.refl _ _) R S : D.nx σ H)⟩
    | some d =>
      rw [q] at p
      dsimp only at p
      obtain ⟨hgo, hy⟩ := h1 d q
      cases m with
      | zero => exact p.elim
      | succ m =>
        dsimp only at p
        cases q2 : bindTg tg d ρ with
        | none => rw [q2] at p; exact p.elim
        | some ρ1 =>
          rw [q2] at p
          dsimp only at p
          refine .inr ⟨hgo, fun σ' H' => ∃ β h ρ, Ext H0 β0 H' β ∧ HRel ν K H' β h ∧ SRel K H' β σ' ρ ∧ PstS ν K W D H' β (loopS v tg f m (i + 1) ρ h), fun σ' H' hN => ⟨m, Nat.lt_succ_self m, hN⟩, fun x H' y => ?_⟩
          obtain ⟨e1, R1, r1⟩ := hy x H' y
          refine T x d σ ρ ρ1 H' β _ r1 (S.go e1) q2 fun σ2 S2 => ⟨β, h, ρ1, R1, S2, ?_⟩
          have p := p.go e1
          cases q3 : f ρ1 h with
          | ok fl h' =>
            rw [q3] at p
            cases fl with
            | nx ρ' => exact fun σ' H2 β2 x y z => ⟨β2, h', ρ', (e.trans e1).trans x, y, z, p.go x⟩
            | ct ρ' => exact fun σ' H2 β2 x y z => ⟨β2, h', ρ', (e.trans e1).trans x, y, z, p.go x⟩
            | bk ρ' => exact p
            | rt d' => exact p
          | exc c' d' ρ' h' => rw [q3] at p; exact p
          | bad => rw [q3] at p; exact p.elim
  · rw [if_neg ok] at p
    exact p.elim
theorem js_for {tg iter : Expr} {t : Tg} {g : TG} {it : Wk} (hp : PassesOwn (model X.prog X.w) X.A X.env X.xe) (hc : X.calm = true) (hi : JI Γ ν δ X W k tg iter it) (hg : PG X tg g) (ht : TgOk ν X.K t g) (hb : JSs Γ ν δ X W k sts ss)
    (hs : ∀ x, foldedSetIterable iter X.env x = pure x := by intro _; rfl) : JS Γ ν δ X W k (.For tg iter sts [] pos) (.for_ t it ss) := js_of fun n hS => by
  refine PS.of (ps_for hp hc (hi n hS.prev) hg (hb n hS.prev) hs) fun D σ H h => ?_
  obtain ⟨β, h0, ρ, R, S, p⟩ := h
  exact ⟨β, h0, ρ, R, S, (liftS_ok R S p).imp fun v H' β' ⟨h', R', e, S', p'⟩ J hJ => loop_ok hJ ht R' S' p'⟩

/-! ### comprehensions -/
theorem wipe_rel {K : PySem.W.Frag} {H : Hp} {β : List Addr} {σ : L2.St} {ρ : Env'} (S : SRel K H β σ ρ) : ∀ vs : List Nat, SRel K H β (wipe σ vs) (wipeD ρ vs)
  | [] => S
  | v :: vs => (wipe_rel S vs).unset v
def W0 : WX := fun _ _ _ _ => False
theorem wipe1 {i : Nat} (σ : L2.St) (x : Option V) : wipe ((wipe σ [i]).set i x) [i] = wipe σ [i] := by
  simp [wipe, List.set_set]
/-- a turn's slots, the block's own ones forgotten again -/
def TgW (g : TG) (vs : List Nat) : Prop := ∀ x σ H Q, g x (wipe σ vs) H Q → g x (wipe σ vs) H fun σ2 H2 => wipe σ2 vs = wipe σ vs ∧ Q σ2 H2
theorem tgw_name (i : Nat) : TgW (gName i) [i] := fun x σ H Q h => ⟨wipe1 σ _, h⟩
theorem wipe2 {i j : Nat} (hij : i ≠ j) (σ : L2.St) (x y : Option V) : wipe (((wipe σ [i, j]).set i x).set j y) [i, j] = wipe σ [i, j] := by
  simp only [wipe]
  rw [List.set_set]
  rw [List.set_comm _ _ hij, List.set_set, List.set_comm _ _ (Ne.symm hij), List.set_set, List.set_comm _ _ hij, List.set_set]
theorem tgw_pair {K : PySem.W.Frag} {i j : Nat} (hij : i ≠ j) : TgW (gTup K 2 (gCons (gName i) (gCons (gName j) gNil))) [i, j] := fun x σ H Q h => by
  obtain ⟨a, xs, rfl, h1, h2, v, r, rfl, v', r', rfl, rfl, q⟩ := h
  exact ⟨a, _, rfl, h1, h2, v, _, rfl, v', _, rfl, rfl, wipe2 hij σ _ _, q⟩
theorem comp_ok {K : PySem.W.Frag} {J : L2.It} {v : IV} {tg : Tg} {g : TG} {own : List Nat} {f : Env' → M D} {H1 : Hp} {β1 : List Addr} {h1 : Ob} {σ : L2.St} {ρ : Env'} {Q : VK} (IV0 : IvOk ν K J v H1 β1) (T : TgOk ν K tg g) (TW : TgW g own) (R : HRel ν K H1 β1 h1) (S : SRel K H1 β1 σ ρ)
    (p : Pst ν K W σ H1 β1 (qE K Q) (M.bind (alloc (.lst [])) (fun r h => match r with | .ref l => M.bind (loopC v tg f l (wipeD ρ own) (v.len h) 0) (fun _ => M.ret (.ref l)) h | _ => .bad) h1)) : ∀ Dl, H1 Dl = none → ∃ W' : Nat → Nat → Hp → Prop, (∃ m, W' 0 m (upd H1 Dl (.lst []))) ∧ ∀ i m H, W' i m H →
      (J.stop i H ∧ Q (.ref Dl) H) ∨ (J.go i H ∧ ∃ Nx : Hp → Prop, (∀ H', Nx H' → ∃ m', m' < m ∧ W' (i + 1) m' H') ∧ ∀ x H', J.yld i H x H' → g x (wipe σ own) H' fun σ2 H2 => wipe σ2 own = wipe σ own ∧ tYes σ2 H2 fun b H3 =>
        if b = true then tM ν K W0 f σ2 H3 fun y H4 => ∃ acc, H4 Dl = some (.lst acc) ∧ acc.length < sizeLine ∧ Nx (upd H4 Dl (.lst (acc ++ [y]))) else Nx H3) := by
  intro Dl hD
  have z := R.alloc (u := .lst []) (o := .lst []) hD fun e => ⟨[], upd_same, .nil⟩
  have hDl : (β1 ++ [Dl])[h1.length]? = some Dl := by
    rw [← R.len]
    simp
  have p0 : Pst ν K W σ (upd H1 Dl (.lst [])) (β1 ++ [Dl]) (qE K Q) (M.bind (loopC v tg f h1.length (wipeD ρ own) (v.len (h1 ++ [.lst []])) 0) (fun _ => M.ret (.ref h1.length)) (h1 ++ [.lst []])) := Pst.go p z.1
  refine ⟨fun i m H => ∃ β h, Ext (upd H1 Dl (.lst [])) (β1 ++ [Dl]) H β ∧ HRel ν K H β h ∧ Pst ν K W σ H β (qE K Q) (M.bind (loopC v tg f h1.length (wipeD ρ own) m i) (fun _ => M.ret (.ref h1.length)) h), ⟨_, _, _, Ext.refl _ _, z.2, p0⟩, ?_⟩
  rintro i m H ⟨β, h, e, R2, p⟩
  have eS := z.1.trans e
  have hl : β[h1.length]? = some Dl := pre_get e.pre hDl
  unfold M.bind at p
  unfold loopC at p
  by_cases ok : v.ok h = true
  · rw [if_pos ok] at p
    obtain ⟨g1, g2⟩ := IV0 H β h eS R2 ok i
    cases q : v.get h i with
    | none =>
      rw [q] at p
      exact .inl ⟨g2 q, (p H β (Ext.refl _ _) R2 : qE K Q _ H β) _ (.ref hl)⟩
    | some d =>
      rw [q] at p
      dsimp only at p
      obtain ⟨hgo, hy⟩ := g1 d q
      cases m with
      | zero => exact p.elim
      | succ m =>
        dsimp only at p
        cases q2 : bindTg tg d (wipeD ρ own) with
        | none => rw [q2] at p; exact p.elim
        | some ρ1 =>
          rw [q2] at p
          dsimp only at p
          refine .inr ⟨hgo, fun H' => ∃ β h, Ext (upd H1 Dl (.lst [])) (β1 ++ [Dl]) H' β ∧ HRel ν K H' β h ∧ Pst ν K W σ H' β (qE K Q) (M.bind (loopC v tg f h1.length (wipeD ρ own) m (i + 1)) (fun _ => M.ret (.ref h1.length)) h), fun H' hN => ⟨m, Nat.lt_succ_self m, hN⟩, fun x H' y => ?_⟩
          obtain ⟨e1, R3, r1⟩ := hy x H' y
          refine TW x σ H' _ (T x d (wipe σ own) (wipeD ρ own) ρ1 H' β _ r1 (wipe_rel ((S.go eS).go e1) own) q2 fun σ2 S2 => ?_)
          show tM ν K W0 f σ2 H' _
          refine ⟨β, h, ρ1, R3, S2, ?_⟩
          have p := Pst.go p e1
          cases q3 : f ρ1 h with
          | ok y h' =>
            rw [q3] at p
            dsimp only at p
            intro H4 β4 e4 R4 vy ry
            cases q4 : h'[h1.length]? with
            | none => rw [q4] at p; exact p.elim
            | some ob =>
              rw [q4] at p
              cases ob with
              | lst acc =>
                dsimp only at p
                by_cases hz : acc.length < 100000
                · rw [if_pos hz] at p
                  have hl4 : β4[h1.length]? = some Dl := pre_get e4.pre hl
                  obtain ⟨us, ea, rs⟩ := R4.obj _ Dl _ hl4 q4
                  refine ⟨us, ea, by rw [rs.length]; exact szlt hz, ?_⟩
                  have zz := R4.write (u := .lst (us ++ [vy])) (o := .lst (acc ++ [y])) hl4 ea fun e => ⟨_, upd_same, (rs.go e).append (.cons (ry.go e) .nil)⟩
                  exact ⟨β4, _, ((e.trans e1).trans e4).trans zz.1, zz.2, Pst.go p (e4.trans zz.1)⟩
                · rw [if_neg hz] at p
                  exact p.elim
              | _ => exact p.elim
          | exc c' d' h' => rw [q3] at p; exact p.elim
          | bad => rw [q3] at p; exact p.elim
  · rw [if_neg ok] at p
    exact p.elim
theorem sd_blk {n : Nat} {s : Shared} {H : Hp} {scope : Scope} {cenv : Env} {fp : List Addr} (h : Sd Γ ν δ X k n) : Sd Γ ν δ (X.blk s H scope cenv fp) k n := h
theorem je_lc {elt tg iter : Expr} {scope : Scope} {own : List (Str × Nat)} {t : Tg} {g : TG} {it : Wk} (hc : X.calm = true) (hN : X.N.Nodup) (hi : JI Γ ν δ X W k tg iter it) (ok : BlkOk X.N X.env.scope scope own) (ht : TgOk ν X.K t g) (hw : TgW g (own.map (·.2)))
    (hg : ∀ (s : Shared) (H : Hp) (C : Addr) (cl : List (Str × Addr)) (fp : List Addr), PG (X.blk s H scope (compEnvC scope cl C X.env) fp) tg g)
    (he : ∀ (s : Shared) (H : Hp) (C : Addr) (cl : List (Str × Addr)) (fp : List Addr), JE Γ ν δ (X.blk s H scope (compEnvC scope cl C X.env) fp) W0 k elt x) (hs : ∀ x, foldedSetIterable iter X.env x = pure x := by intro _; rfl) :
    JE Γ ν δ X W k (.ListComp elt [⟨tg, iter, [], 0⟩] scope pos) (.lc x t it (own.map (·.2))) := je_of fun n hS => by
  refine PE.of (pe_lc (te := tM ν X.K W0 fun ρ => (ev Γ n).e k x ρ) hc hN (hi n hS.prev) ok hg (fun _ _ _ _ _ => pts_nil) (fun s H C cl fp => he s H C cl fp n (sd_blk hS.prev)) hs) fun σ H Q h => ?_
  obtain ⟨β, h0, ρ, R, S, p⟩ := h
  exact ⟨β, h0, ρ, R, S, (Pst.first p).imp fun v H1 β1 ⟨h1, R1, e1, p1⟩ J hJ => comp_ok hJ ht hw R1 (S.go e1) p1⟩
/-- name = [..] on one line -/
theorem js_lc (i : Nat) {y : Str} {py : Pos} {elt tg iter : Expr} {scope : Scope} {own : List (Str × Nat)} {t : Tg} {g : TG} {it : Wk} {spos : Pos} (hc : X.calm = true) (hN : X.N.Nodup) (hi : JI Γ ν δ X W k tg iter it) (ok : BlkOk X.N X.env.scope scope own) (ht : TgOk ν X.K t g) (hw : TgW g (own.map (·.2)))
    (hg : ∀ (s : Shared) (H : Hp) (C : Addr) (cl : List (Str × Addr)) (fp : List Addr), PG (X.blk s H scope (compEnvC scope cl C X.env) fp) tg g)
    (he : ∀ (s : Shared) (H : Hp) (C : Addr) (cl : List (Str × Addr)) (fp : List Addr), JE Γ ν δ (X.blk s H scope (compEnvC scope cl C X.env) fp) W0 k elt x)
    (hsw : swapsWith (.ListComp elt [⟨tg, iter, [], 0⟩] scope pos) (some (.Name y py)) spos.line X.env = pure true) (hs : ∀ x, foldedSetIterable iter X.env x = pure x := by intro _; rfl) (hy : X.N[i]? = some y := by rfl) (hyl : X.env.scope.names.lookup y = some .local := by rfl) :
    JS Γ ν δ X W k (.Assign [.Name y py] (.ListComp elt [⟨tg, iter, [], 0⟩] scope pos) spos) (.asg i (.lc x t it (own.map (·.2)))) := js_asgP fun n hS => by
  cases n with
  | zero =>
    refine ⟨fun _ _ _ _ _ _ q => ?_⟩
    obtain ⟨_, _, _, _, _, p⟩ := q
    exact p.elim
  | succ n =>
    refine PS.of (ps_setLc (i := i) (te := tM ν X.K W0 fun ρ => (ev Γ n).e k x ρ) hc hN hy hyl hsw (hi n hS.prev) ok hg (fun _ _ _ _ _ => pts_nil) (fun s H C cl fp => he s H C cl fp n (sd_blk hS.prev)) hs) fun D σ H h => ?_
    obtain ⟨β, h0, ρ, R, S, p⟩ := h
    exact ⟨β, h0, ρ, R, S, (Pst.first p).imp fun v H1 β1 ⟨h1, R1, e1, p1⟩ J hJ => comp_ok hJ ht hw R1 (S.go e1) p1⟩
end
end MP
namespace MP
open PySem PySem.Spec L2
section
variable {Γ : Tab} {ν : Nm} {δ : Ad} {X : Cx} {W : WX} {k : Nat} {e a b c o : Expr} {es : List Expr} {x xa xb xc xo : E} {xs : List E} {pos apos p : Pos} {st : Stmt} {sts sts' : List Stmt} {s : S} {ss ss' : List S}
/-! ### constants of the module -/
theorem je_g {z : Str} {d : D} {v : V} {u : Value} (hc : Γ.cs.lookup z = some d) (hm : X.mg z = some u) (r : RelV v u) (hr : ∀ H β, RelD X.K H β v d) (hg : Gl X z := by rfl) (hd : (z == ("__debug__" : Str)) = false := by decide) : JE Γ ν δ X W k (.Name z pos) (.g z) := je_of fun n _ => PE.of (pe_glob hg hm r hd) fun σ H Q ⟨β, o, ρ, R, S, p⟩ => by
  have p : Pst ν X.K W σ H β (qE X.K Q) ((match Γ.cs.lookup z with | some d => M.ret d | none => M.fail) o) := p
  rw [hc] at p
  exact (p.here R : qE X.K Q _ H β) _ (hr H β)
/-! ### two names at once -/
theorem js_par (i j : Nat) {z y : Str} {pz py pt pt2 : Pos} {kt k2 : Nat} (hc : X.calm = true) (hN : X.N.Nodup) (ha : JE Γ ν δ X W k a xa) (hb : JE Γ ν δ X W k b xb) (hi : X.N[i]? = some z := by rfl) (hj : X.N[j]? = some y := by rfl) (hij : i ≠ j := by decide)
    (hlz : X.env.scope.names.lookup z = some .local := by rfl) (hly : X.env.scope.names.lookup y = some .local := by rfl) (hs1 : starEach [a, b] X.env = (false, eval a X.env) :: starEach [b] X.env := by rfl) (hs2 : starEach [b] X.env = (false, eval b X.env) :: starEach [] X.env := by rfl)
    (hw : swappedStores [.Tuple [.Name z pz, .Name y py] kt pt] (.Tuple [a, b] k2 pt2) X.env = pure (some [z, y]) := by rfl) (hso : swapsWithSole [.Tuple [.Name z pz, .Name y py] kt pt] (.Tuple [a, b] k2 pt2) pos.line X.env = pure false := by rfl) :
    JS Γ ν δ X W k (.Assign [.Tuple [.Name z pz, .Name y py] kt pt] (.Tuple [a, b] k2 pt2) pos) (.par i j xa xb) := js_of fun n hS => by
  refine PS.of (ps_par hc hN hi hj hij hlz hly (pa_cons (ha n hS.prev) (pa_cons (hb n hS.prev) pa_nil hs2) hs1) hw hso) fun D σ H h => ?_
  obtain ⟨β, h0, ρ, R, S, p⟩ := h
  refine lift_then R S p fun v d H1 β1 h1 R1 S1 e1 r1 p1 => ?_
  refine lift_then R1 S1 p1 fun v2 d2 H2 β2 h2 R2 S2 e2 r2 p2 => ?_
  exact ⟨v, v2, rfl, (p2 _ H2 β2 (Ext.refl _ _) R2 ((S2.set (r1.go e2) i).set r2 j) : D.nx _ H2)⟩
/-! ### calls -/
theorem Pst.re {K : PySem.W.Frag} {W' : WX} {σ σ' : L2.St} {H : Hp} {β : List Addr} {α : Type} {Qd : α → Hp → List Addr → Prop} {r : R α} (h : ∀ c d H', W c d σ H' → W' c d σ' H') (p : Pst ν K W σ H β Qd r) : Pst ν K W' σ' H β Qd r := by
  cases r with
  | ok a h' => exact p
  | exc c d h' => exact fun v dd H' β' a b c1 d1 e1 => h _ _ _ (p v dd H' β' a b c1 d1 e1)
  | bad => exact p
theorem run_fnG {f : Addr} {fd : FuncData} {ps : List Str} {sp : Sp} {pins : List (Addr × Obj)} {σ : L2.St} {H : Hp} {s : Shared} {Q : VK} {us : List Value} {vs : List V} (F : FnG X.prog X.w X.K X.mg X.base (L2.CX X.prog X.w) k f fd ps sp) (gu : X.A.guards = some []) (room : Room k X.A)
    (bd : Binds X.K fd ps []) (tk : Takes X W) (I : Inv X pins σ H s) (rv : Vals vs us) (want : sp vs H Q (WE W σ)) : wpAny (model X.prog X.w) X.A (call (.ref f) us) (EP X pins σ Q) X.xe s := by
  have len : us.length = ps.length := by
    rw [← rv.length]
    exact F.len _ _ _ _ want
  have bnd := bd s us I.kIn (by rw [List.append_nil]; exact len)
  rw [List.append_nil] at bnd
  have go := F.run X.A X.stack s H ⟨us, []⟩ us vs Q (WE W σ) gu room I.env0 bnd rv want
  refine wpAny_call (codeAny_mono go ?_)
  intro res s' hq
  match res, hq with
  | .error err, hq => exact passAt tk σ pins H s err s' I hq
  | .ok (.ret u), hq => exact I.after hq
  | .ok .next, hq => exact hq.elim
  | .ok .brk, hq => exact hq.elim
  | .ok .cont, hq => exact hq.elim
theorem je_call {z : Str} {fn : Fn} (hf : Γ.fns.lookup z = some fn) (hm : X.mg z = some (.ref (δ.fa z))) (hk : PySem.W.keepIn X.K (.ref (δ.fa z)) = true) (bd : Binds X.K (δ.fd z) (δ.ps z) []) (gu : X.A.guards = some []) (room : Room k X.A) (tk : Takes X W) (ha : JA Γ ν δ X W k (e :: es) xs)
    (hg : Gl X z := by rfl) (hdb : (z == ("__debug__" : Str)) = false := by decide) (he : starEach (e :: es) X.env = (false, eval e X.env) :: starEach es X.env := by rfl) (hpl : (backTo pos (starEach es X.env)).any (·.1) = false := by rfl) :
    JE Γ ν δ X W k (.Call (.Name z p) (e :: es) [] pos) (.call z xs) := je_of fun n hS => by
  refine ⟨fun pins s σ H Q I h => ?_⟩
  obtain ⟨β, h0, ρ, R, S, p⟩ := h
  have args : tMA ν X.K W (fun ρ => mapM' (fun e => (ev Γ n).e k e ρ) xs) σ H fun vs H1 => spF Γ ν X.K (ev Γ n) k z vs H1 Q (WE W σ) :=
    tMA_then R S p fun vs ds H1 β1 h1 R1 S1 e1 r1 p1 => ⟨β1, h1, ds, R1, r1, Pst.re (fun _ _ _ w => w) p1⟩
  refine wpAny_Call_Name_kw (ld_glob I hg hm ?_ hdb)
  refine PySem.W.callWith_K (h₀ := X.base) I.ok.mod.kin hk ?_ he hpl
  refine thn ((ha n hS.prev).run pos pins s σ H _ I args) fun us s1 q => ?_
  obtain ⟨vs, H1, I1, rv, want⟩ := q
  exact ⟨I1.kIn, run_fnG (hS n (Nat.lt_succ_self n) k (Nat.le_refl k) z fn hf) gu room bd tk I1 rv want⟩

/-! ### a def -/
theorem fnG_of {P : Program} {w : World} {K : PySem.W.Frag} {mg : Str → Option Value} {base : Heap} {f : Addr} {name qual : Str} {params : Arguments} {body : List Stmt} {scope : Scope} {dV kV doc pm cdv ct oc : Value} {an od : Option Addr}
    {osl : Array (Option Value)} {N ps : List Str} {sp : Sp} (lk : K.lookup f = some ⟨oc, od, .func (PySem.W.fnOf name qual params body scope dV kV doc pm an cdv ct), osl⟩) (code : PySem.W.codeIn K cdv qual = true) (sc : FnScope N ps scope)
    (len : ∀ vs H Q E, sp vs H Q E → vs.length = ps.length)
    (bodyOk : ∀ (A : Around) (outer : List Env) (s : Shared) (H : Hp) (vs : List V) (Q : VK) (E : XK), A.guards = some [] → Room k (A.deeper (PyProof.Rows.envOfC qual scope s.heap.objs.size f cdv)) → sp vs H Q E →
      ∃ t, PSs (cxOf (L2.CX P w) P w K mg base N qual scope f cdv A outer s H E) body t ∧ t { nx := fun _ H' => Q .non H', rt := Q } (start N vs) H) :
    FnG P w K mg base (L2.CX P w) (k + 1) f (PySem.W.fnOf name qual params body scope dV kV doc pm an cdv ct) ps sp := by
  refine ⟨len, ?_⟩
  intro A outer s H args us vs Q E gu room e0 bnd rel want
  have lens := len _ _ _ _ want
  have here : ∀ b o, base.get? b = some o → s.heap.get? b = some o := fun b o q => (e0.bs b o q).1
  have kin : K.In s.heap := e0.mod.kin.keeps here
  have noLim : s.heap.NoLimit := e0.mod.nolimit.keeps here
  have kinds : ∀ y ∈ ps.zip us, scope.names.lookup y.1 = some .local ∨ (scope.names.lookup y.1 = some .cell ∧ ((cellsFrom (s.heap.objs.size + 1) scope.names []).lookup y.1).isSome = true) := by
    rintro ⟨nm, val⟩ hy
    rcases sc.par nm (List.of_mem_zip hy).1 with q | q
    · exact Or.inl q
    · exact Or.inr ⟨q, PySem.W.cellsFrom_some _ _ _ (Or.inl q)⟩
  refine codeAny_call_function room.depth (kin _ _ lk) rfl sc.co sc.gen rfl (PySem.W.codeRec_of kin code) (bnd _ _ _ _ ?_)
  refine wpAny_newFunctionEnv_cells sc.kind kinds ?_
  intro env he s1 inC
  subst he
  refine ⟨noLim.keeps inC.toInCall.keep, codeAny_func ?_⟩
  obtain ⟨t, ht, hq⟩ := bodyOk A outer s H vs Q E gu (room.deeper _) want
  have inv0 : Inv (cxOf (L2.CX P w) P w K mg base N qual scope f cdv A outer s H E) [] (start N vs) H s1 := inv_start sc room.hd e0 lens rel inC
  refine wpAny_mono (ht.run [] s1 (start N vs) H _ inv0 hq) ?_ (fun _ _ z => z)
  intro fl s' hs
  match fl, hs with
  | .ret u, ⟨v, σ', H', J, rv, q⟩ => exact ⟨v, H', J.os, J.bare, J.base, J.hok, rv, q⟩
  | .next, ⟨σ', H', J, q⟩ => exact ⟨V.non, H', J.os, J.bare, J.base, J.hok, rfl, q⟩
  | .brk, ⟨_, _, _, q⟩ => exact q.elim
  | .cont, ⟨_, _, _, q⟩ => exact q.elim
theorem start_rel {K : PySem.W.Frag} {H : Hp} {β : List Addr} {N : List Str} {vs : List V} {ds : List D} {fn : Fn} (r : RelDs K H β vs ds) (hN : fn.ns = N.length) (hp : ds.length = fn.np) : SRel K H β (start N vs) (startE fn ds) := by
  have hl := r.length
  refine ⟨?_, fun i d h => ?_⟩
  · unfold L2.start startE
    rw [List.length_append, List.length_append, List.length_map, List.length_map, List.length_replicate, List.length_replicate, hN, hl, hp]
  · unfold startE at h
    unfold L2.start
    by_cases hi : i < ds.length
    · rw [List.getElem?_append_left (by simpa using hi), List.getElem?_map] at h
      rw [List.getElem?_append_left (by rw [List.length_map, hl]; exact hi), List.getElem?_map]
      cases q : ds[i]? with
      | none => rw [q] at h; cases h
      | some d0 =>
        rw [q] at h
        cases h
        obtain ⟨v, h1, h2⟩ := r.get q
        exact ⟨v, by rw [h1]; rfl, h2⟩
    · rw [List.getElem?_append_right (by simpa using hi), List.getElem?_replicate] at h
      split at h <;> cases h
/-- a def keeps to the evaluator -/
theorem fnG_ev0 {P : Program} {w : World} {K : PySem.W.Frag} {mg : Str → Option Value} {base : Heap} {z qual : Str} {st : Stmt} {f : Addr} {fd : FuncData} {N ps : List Str} {fn : Fn} {oc kV doc pm cdv ct : Value} {od an : Option Addr} {osl : Array (Option Value)}
    (ef : fd = PySem.W.fnOf z qual (defArgs st) (defBody st) (defScope st) .none kV doc pm an cdv ct) (lk : K.lookup f = some ⟨oc, od, .func fd, osl⟩) (code : PySem.W.codeIn K cdv qual = true) (sc : FnScope N ps (defScope st)) (hf : Γ.fns.lookup z = some fn) (hns : fn.ns = N.length) (hnp : fn.np = ps.length)
    (n : Nat) (hk : ∀ (A : Around) (outer : List Env) (s : Shared) (H : Hp) (E : XK), A.guards = some [] → Room k (A.deeper (PyProof.Rows.envOfC qual (defScope st) s.heap.objs.size f cdv)) →
      PSs (cxOf (L2.CX P w) P w K mg base N qual (defScope st) f cdv A outer s H E) (defBody st) (tMS ν K (fun c d _ H' => E c d H') fun ρ => seqS ((ev Γ n).s k) fn.body ρ)) :
    FnG P w K mg base (L2.CX P w) (k + 1) f fd ps (spF Γ ν K (ev Γ n) (k + 1) z) := by
  subst ef
  have key : ∀ {vs H Q E}, spF Γ ν K (ev Γ n) (k + 1) z vs H Q E → ∃ β h ds, HRel ν K H β h ∧ RelDs K H β vs ds ∧ ds.length = fn.np ∧ Pst ν K (fun c d _ H' => E c d H') [] H β (qE K Q) (doneS (seqS ((ev Γ n).s k) fn.body (startE fn ds)) h) := by
    intro vs H Q E h
    obtain ⟨β, h0, ds, R, r, p⟩ := h
    have p : Pst ν K (fun c d _ H' => E c d H') [] H β (qE K Q) ((match Γ.fns.lookup z with | none => M.fail | some fn => if ds.length = fn.np then sub ds fun es => doneS (seqS ((ev Γ n).s k) fn.body (startE fn es)) else M.fail) h0) := by
      unfold callF at p
      cases q : Γ.fns.lookup z with
      | none => rw [q] at p; exact p
      | some g => rw [q] at p; exact p
    rw [hf] at p
    dsimp only at p
    by_cases hd : ds.length = fn.np
    · rw [if_pos hd] at p
      obtain ⟨β0, h1, es, R0, r0, p0⟩ := sub_ok R r p
      exact ⟨β0, h1, es, R0, r0, by rw [← r0.length, r.length]; exact hd, p0⟩
    · rw [if_neg hd] at p
      exact p.elim
  refine fnG_of lk code sc (fun vs H Q E h => ?_) fun A outer s H vs Q E gu room h => ?_
  · obtain ⟨β, h0, ds, R, r, hd, p⟩ := key h
    rw [r.length, hd, hnp]
  · obtain ⟨β, h0, ds, R, r, hd, p⟩ := key h
    refine ⟨_, hk A outer s H E gu room, β, h0, startE fn ds, R, start_rel r hns hd, ?_⟩
    unfold doneS at p
    show PstS ν K (fun c d _ H' => E c d H') { nx := fun _ H' => Q V.non H', rt := Q } H β (seqS ((ev Γ n).s k) fn.body (startE fn ds) h0)
    cases q : seqS ((ev Γ n).s k) fn.body (startE fn ds) h0 with
    | bad => rw [q] at p; exact p.elim
    | exc c d ρ' h' =>
      rw [q] at p
      exact fun σ' v dd H' β' e R' S' r' hd' hn' => p v dd H' β' e R' r' hd' hn'
    | ok fl h' =>
      rw [q] at p
      cases fl with
      | nx ρ' => exact fun σ' H' β' e R' S' => (p H' β' e R' : qE K Q _ H' β') _ .non
      | rt d => exact fun v H' β' e R' r' => (p H' β' e R' : qE K Q _ H' β') v r'
      | bk _ => exact p.elim
      | ct _ => exact p.elim
/-- a def keeps to the evaluator -/
theorem fnG_ev {P : Program} {w : World} {K : PySem.W.Frag} {mg : Str → Option Value} {base : Heap} {z qual : Str} {st : Stmt} {f : Addr} {fd : FuncData} {N ps : List Str} {fn : Fn} (F : Fun K z qual st f fd) (sc : FnScope N ps (defScope st)) (hf : Γ.fns.lookup z = some fn) (hns : fn.ns = N.length) (hnp : fn.np = ps.length)
    (n : Nat) (hk : ∀ (cdv : Value) (A : Around) (outer : List Env) (s : Shared) (H : Hp) (E : XK), A.guards = some [] → Room k (A.deeper (PyProof.Rows.envOfC qual (defScope st) s.heap.objs.size f cdv)) →
      PSs (cxOf (L2.CX P w) P w K mg base N qual (defScope st) f cdv A outer s H E) (defBody st) (tMS ν K (fun c d _ H' => E c d H') fun ρ => seqS ((ev Γ n).s k) fn.body ρ)) :
    FnG P w K mg base (L2.CX P w) (k + 1) f fd ps (spF Γ ν K (ev Γ n) (k + 1) z) := by
  obtain ⟨oc, od, kV, doc, pm, an, cdv, ct, osl, ef, lk, code⟩ := F.ex
  exact fnG_ev0 ef lk code sc hf hns hnp n fun A outer s H E gu room => hk cdv A outer s H E gu room
end
end MP
namespace MP
open PySem PySem.Spec L2
section
variable {Γ : Tab} {ν : Nm} {δ : Ad} {X : Cx} {W : WX} {k : Nat} {e a b c o : Expr} {es : List Expr} {x xa xb xc xo : E} {xs : List E} {pos apos p : Pos} {st : Stmt} {sts sts' : List Stmt} {s : S} {ss ss' : List S}
/-! ### enumerate(x, k) -/

/-- enumerate of a list from a number on -/
def ItEL (K : PySem.W.Frag) (a : Addr) (k0 : Int) : L2.It :=
  ⟨fun i H => ∃ (ys : List V) (y : V), SqL K H a ys ∧ ys[i]? = some y, fun i H v H' => ∃ T y, v = .ref T ∧ H T = none ∧ H' = upd H T (.tup [.int (k0 + (i : Nat)), y]) ∧ ∀ ys, SqL K H a ys → ys[i]? = some y, fun i H => ∃ ys : List V, SqL K H a ys ∧ ys.length ≤ i⟩
theorem drawsEndL {prog : Program} {w : World} {A : Around} (hh : A.handled = none) (it l : Addr) (items : Array Value) (i : Nat) (hx : items[i]? = none) :
    Draws prog w A it [it, l] i (fun _ _ => True) (fun j h => j = i ∧ h.IsListIter it l i ∧ h.IsList l items) where
  live := fun _ _ st => let ⟨o, ho, _⟩ := st.2.1; ⟨o, ho⟩
  frame := fun _ _ _ st hk => ⟨st.1, st.2.1.at fun o e => hk it (by simp) o e, st.2.2.at fun o e => hk l (by simp) o e⟩
  item := fun j s Q E hj st _ => absurd st.1 (Nat.ne_of_lt hj)
  done := fun s Q E st hE => wpAny_nextOf_list_end hh st.2.1 st.2.2 hx hE
theorem turnEL {P : Program} {w : World} {K : PySem.W.Frag} {elts : List Expr} {kk : Nat} {tpos : Pos} (a e it : Addr) (k0 : Int) :
    Turn P w K (.Tuple elts kk tpos) (ItEL K a k0) [e, it] e (fun i h => (∃ old, IsEnum h e it (k0 + (i : Nat)) old) ∧ h.IsListIter it a i ∧ e ≠ it) where
  mem := List.mem_cons_self
  obj := fun i h st b hb => by
    obtain ⟨⟨old, he⟩, ⟨oi, ho, _, hd⟩, _⟩ := st
    rcases List.mem_cons.mp hb with z | z
    · rw [z]
      exact ⟨_, he, fun v q => nomatch q⟩
    · rw [List.mem_singleton.mp z]
      exact ⟨oi, ho, fun v q => by rw [hd] at q; cases q⟩
  keep := fun i h h' st kp => by
    obtain ⟨⟨old, he⟩, hi, ne⟩ := st
    exact ⟨⟨old, kp e List.mem_cons_self _ he⟩, hi.at fun o q => kp it (List.mem_cons_of_mem _ List.mem_cons_self) o q, ne⟩
  item := by
    intro X hP hw hK hc i pins s σ H E I fpk st hgo
    subst hP hw hK
    obtain ⟨⟨old, he⟩, hit, ne⟩ := st
    obtain ⟨ys, y, hq, hy⟩ := hgo
    obtain ⟨its, rv, pl, _⟩ := I.list hq
    obtain ⟨u, hu, ru⟩ := rv.get hy
    have eLt : e < s.heap.objs.size := Heap.lt_size he
    have iLt : it < s.heap.objs.size := by
      obtain ⟨_, q, _⟩ := hit
      exact Heap.lt_size q
    have obj : s.heap.IsList a its.toArray := pl.isList
    have aI : a ≠ it := fun z => by
      obtain ⟨o1, q1, c1, _⟩ := hit
      obtain ⟨o2, q2, c2, _⟩ := obj
      rw [z, q1] at q2
      cases q2
      rw [c1] at c2
      injection c2 with z2
      exact absurd z2 (by decide)
    have aE : e ≠ a := fun z => by
      obtain ⟨o2, q2, c2, _⟩ := obj
      have he' := he
      unfold IsEnum at he'
      rw [z, q2] at he'
      cases he'
      injection c2 with z2
      exact absurd z2 (by decide)
    have dr : Draws X.prog X.w X.A.in1 it [it, a] its.toArray.size (fun i v => its.toArray[i]? = some v) (fun i h => h.IsListIter it a i ∧ h.IsList a its.toArray) := Draws.list (show X.A.in1.handled = none from I.ok.hd hc) it a aI its.toArray
    have iLen : i < its.toArray.size := by
      have := (List.getElem?_eq_some_iff.mp hu).1
      simpa using this
    refine wpAny_pyNext_enum_itemC dr he ⟨hit, obj⟩ iLen ne (by simp [ne, aE]) fun x' h' tk hP ho st' hT hsz kp => ?_
    have ex : x' = u := by
      have hP : its.toArray[i]? = some x' := hP
      rw [List.getElem?_toArray, hu] at hP
      exact (Option.some.inj hP).symm
    subst ex
    refine ⟨_, rfl, wpAny_letOwnedTupleGo_enum (s := { s with heap := h', toks := tk + 1 }) ho fun h'' he' sb => ?_⟩
    have tup2 : h''.get? s.heap.objs.size = some { cls := .type "tuple", data := .seq #[.int (k0 + (i : Nat)) tk, x'] } := (sb.2 _ (Nat.ne_of_gt eLt)).trans hT
    have new : ObjOk X.prog X.w (upd H s.heap.objs.size (.tup [.int (k0 + (i : Nat)), y])) h'' s.heap.objs.size (.tup [.int (k0 + (i : Nat)), y]) :=
      ⟨by show 2 ≤ sizeLine; decide, [.int (k0 + (i : Nat)) tk, x'], .cons ⟨_, rfl⟩ (.cons ru .nil), ⟨_, tup2, rfl, _, rfl⟩⟩
    have I1 : Inv X pins σ (upd H s.heap.objs.size (.tup [.int (k0 + (i : Nat)), y])) { s with heap := h'', toks := tk + 1 } :=
      I.turnedNew (ch := [e, it]) (fun b ob hb q => (sb.2 b (fun z => hb (by simp [z]))).trans (kp b ob (fun z => hb (by simp [z])) (fun z => hb (by simp [z])) q)) fpk (Nat.le_refl _) new
    refine ⟨.ref s.heap.objs.size, _, I1, rfl, ⟨_, y, rfl, I.hok.fresh (Nat.le_refl _), rfl, fun zs hz => by rw [I.list_inj hz hq]; exact hy⟩, ⟨⟨x', ?_⟩, st'.1.at fun o q => (sb.2 it (Ne.symm ne)).trans q, ne⟩, fun b hb => ?_⟩
    · have e1 : k0 + ((i + 1 : Nat) : Int) = k0 + (i : Int) + 1 := by omega
      rw [e1]
      exact he'
    · have bLt : b < s.heap.objs.size := by
        rcases List.mem_cons.mp hb with z | z
        · rw [z]; exact eLt
        · rw [List.mem_singleton.mp z]; exact iLt
      rw [upd_ne (Nat.ne_of_lt bLt)]
      exact (fpk b hb).1
  done := by
    intro X hP hw hK hc i pins s σ H E I fpk st hgo
    subst hP hw hK
    obtain ⟨⟨old, he⟩, hit, ne⟩ := st
    obtain ⟨ys, hq, hy⟩ := hgo
    obtain ⟨its, rv, pl, _⟩ := I.list hq
    have obj : s.heap.IsList a its.toArray := pl.isList
    have len := rv.length
    obtain ⟨f0, f1, f2, f3, f4, f5⟩ := fpk it (List.mem_cons_of_mem _ List.mem_cons_self)
    have dr : Draws X.prog X.w X.A.in1 it [it, a] i (fun _ _ => True) (fun j h => j = i ∧ h.IsListIter it a i ∧ h.IsList a its.toArray) := drawsEndL (show X.A.in1.handled = none from I.ok.hd hc) it a its.toArray i (by simp; omega)
    exact wpAny_pyNext_enum_endD dr he ⟨rfl, hit, obj⟩ fun h' eb => ⟨rfl, I.turned (t' := s.toks) (fun b o hb q => eb b o hb q) f0 f1 f3 f4 f5⟩
  self := fun A i s Q E st h => by
    obtain ⟨⟨_, he⟩, _⟩ := st
    exact wpAny_pyIter_enum he h
theorem enum_goL {pins : List (Addr × Obj)} {σ : L2.St} {H : Hp} {s1 : Shared} {elts : List Expr} {kk : Nat} {tpos : Pos} {a : Addr} {ys : List V} {k0 : Int} {t : Tok} {Rr : L2.It → Hp → Prop} {E : Value → Shared → Prop} (I1 : Inv X pins σ H s1) (hq : SqL X.K H a ys) (h0 : -(2 ^ 63) ≤ k0) (h1 : k0 < 2 ^ 63) (q : Rr (ItEL X.K a k0) H) :
    wpAny (model X.prog X.w) X.A (call (.type "enumerate") [.ref a, .int k0 t]) (fun v s2 => wpAny (model X.prog X.w) X.A (pyIter v) (PIE X pins σ (.Tuple elts kk tpos) Rr) E s2) E s1 := by
  obtain ⟨its, rv, pl, _⟩ := I1.list hq
  have obj : s1.heap.IsList a its.toArray := pl.isList
  refine enum_begins (begins_list a its.toArray) obj h0 h1 fun h' he hit hsz kp => wpAny_pyIter_enum he ?_
  have I2 : Inv X pins σ H { s1 with heap := h' } := I1.kept (t' := s1.toks) kp
  have he0 : IsEnum h' (s1.heap.objs.size + 1) s1.heap.objs.size (k0 + ((0 : Nat) : Int)) .none := by
    rw [show k0 + ((0 : Nat) : Int) = k0 from Int.add_zero k0]
    exact he
  refine ⟨s1.heap.objs.size + 1, [s1.heap.objs.size + 1, s1.heap.objs.size], _, _, H, rfl, I2, turnEL a (s1.heap.objs.size + 1) s1.heap.objs.size k0, ⟨⟨.none, he0⟩, ⟨_, hit, rfl, rfl⟩, Nat.succ_ne_self _⟩, fun b hb => ?_, q⟩
  have le : s1.heap.objs.size ≤ b := by
    rcases List.mem_cons.mp hb with z | z
    · rw [z]; exact Nat.le_add_right _ _
    · rw [List.mem_singleton.mp z]; exact Nat.le_refl _
  exact I1.fpOk le (I1.hok.fresh le)


/-- enumerate of a tuple from a number on -/
def ItET (K : PySem.W.Frag) (a : Addr) (k0 : Int) : L2.It :=
  ⟨fun i H => ∃ (ys : List V) (y : V), SqT K H a ys ∧ ys[i]? = some y, fun i H v H' => ∃ T y, v = .ref T ∧ H T = none ∧ H' = upd H T (.tup [.int (k0 + (i : Nat)), y]) ∧ ∀ ys, SqT K H a ys → ys[i]? = some y, fun i H => ∃ ys : List V, SqT K H a ys ∧ ys.length ≤ i⟩
theorem drawsEndT {prog : Program} {w : World} {A : Around} (hh : A.handled = none) (it l : Addr) (items : Array Value) (i : Nat) (hx : items[i]? = none) :
    Draws prog w A it [it, l] i (fun _ _ => True) (fun j h => j = i ∧ h.IsTupleIter it l i ∧ h.IsTuple l items) where
  live := fun _ _ st => let ⟨o, ho, _⟩ := st.2.1; ⟨o, ho⟩
  frame := fun _ _ _ st hk => ⟨st.1, st.2.1.at fun o e => hk it (by simp) o e, st.2.2.at fun o e => hk l (by simp) o e⟩
  item := fun j s Q E hj st _ => absurd st.1 (Nat.ne_of_lt hj)
  done := fun s Q E st hE => wpAny_nextOf_tuple_end hh st.2.1 st.2.2 hx hE
theorem turnET {P : Program} {w : World} {K : PySem.W.Frag} {elts : List Expr} {kk : Nat} {tpos : Pos} (a e it : Addr) (k0 : Int) :
    Turn P w K (.Tuple elts kk tpos) (ItET K a k0) [e, it] e (fun i h => (∃ old, IsEnum h e it (k0 + (i : Nat)) old) ∧ h.IsTupleIter it a i ∧ e ≠ it) where
  mem := List.mem_cons_self
  obj := fun i h st b hb => by
    obtain ⟨⟨old, he⟩, ⟨oi, ho, _, hd⟩, _⟩ := st
    rcases List.mem_cons.mp hb with z | z
    · rw [z]
      exact ⟨_, he, fun v q => nomatch q⟩
    · rw [List.mem_singleton.mp z]
      exact ⟨oi, ho, fun v q => by rw [hd] at q; cases q⟩
  keep := fun i h h' st kp => by
    obtain ⟨⟨old, he⟩, hi, ne⟩ := st
    exact ⟨⟨old, kp e List.mem_cons_self _ he⟩, hi.at fun o q => kp it (List.mem_cons_of_mem _ List.mem_cons_self) o q, ne⟩
  item := by
    intro X hP hw hK hc i pins s σ H E I fpk st hgo
    subst hP hw hK
    obtain ⟨⟨old, he⟩, hit, ne⟩ := st
    obtain ⟨ys, y, hq, hy⟩ := hgo
    obtain ⟨its, rv, pl, _⟩ := I.tuple hq
    obtain ⟨u, hu, ru⟩ := rv.get hy
    have eLt : e < s.heap.objs.size := Heap.lt_size he
    have iLt : it < s.heap.objs.size := by
      obtain ⟨_, q, _⟩ := hit
      exact Heap.lt_size q
    have obj : s.heap.IsTuple a its.toArray := pl
    have aI : a ≠ it := fun z => by
      obtain ⟨o1, q1, c1, _⟩ := hit
      obtain ⟨o2, q2, c2, _⟩ := obj
      rw [z, q1] at q2
      cases q2
      rw [c1] at c2
      injection c2 with z2
      exact absurd z2 (by decide)
    have aE : e ≠ a := fun z => by
      obtain ⟨o2, q2, c2, _⟩ := obj
      have he' := he
      unfold IsEnum at he'
      rw [z, q2] at he'
      cases he'
      injection c2 with z2
      exact absurd z2 (by decide)
    have dr : Draws X.prog X.w X.A.in1 it [it, a] its.toArray.size (fun i v => its.toArray[i]? = some v) (fun i h => h.IsTupleIter it a i ∧ h.IsTuple a its.toArray) := Draws.tuple (show X.A.in1.handled = none from I.ok.hd hc) it a aI its.toArray
    have iLen : i < its.toArray.size := by
      have := (List.getElem?_eq_some_iff.mp hu).1
      simpa using this
    refine wpAny_pyNext_enum_itemC dr he ⟨hit, obj⟩ iLen ne (by simp [ne, aE]) fun x' h' tk hP ho st' hT hsz kp => ?_
    have ex : x' = u := by
      have hP : its.toArray[i]? = some x' := hP
      rw [List.getElem?_toArray, hu] at hP
      exact (Option.some.inj hP).symm
    subst ex
    refine ⟨_, rfl, wpAny_letOwnedTupleGo_enum (s := { s with heap := h', toks := tk + 1 }) ho fun h'' he' sb => ?_⟩
    have tup2 : h''.get? s.heap.objs.size = some { cls := .type "tuple", data := .seq #[.int (k0 + (i : Nat)) tk, x'] } := (sb.2 _ (Nat.ne_of_gt eLt)).trans hT
    have new : ObjOk X.prog X.w (upd H s.heap.objs.size (.tup [.int (k0 + (i : Nat)), y])) h'' s.heap.objs.size (.tup [.int (k0 + (i : Nat)), y]) :=
      ⟨by show 2 ≤ sizeLine; decide, [.int (k0 + (i : Nat)) tk, x'], .cons ⟨_, rfl⟩ (.cons ru .nil), ⟨_, tup2, rfl, _, rfl⟩⟩
    have I1 : Inv X pins σ (upd H s.heap.objs.size (.tup [.int (k0 + (i : Nat)), y])) { s with heap := h'', toks := tk + 1 } :=
      I.turnedNew (ch := [e, it]) (fun b ob hb q => (sb.2 b (fun z => hb (by simp [z]))).trans (kp b ob (fun z => hb (by simp [z])) (fun z => hb (by simp [z])) q)) fpk (Nat.le_refl _) new
    refine ⟨.ref s.heap.objs.size, _, I1, rfl, ⟨_, y, rfl, I.hok.fresh (Nat.le_refl _), rfl, fun zs hz => by rw [I.tuple_inj hz hq]; exact hy⟩, ⟨⟨x', ?_⟩, st'.1.at fun o q => (sb.2 it (Ne.symm ne)).trans q, ne⟩, fun b hb => ?_⟩
    · have e1 : k0 + ((i + 1 : Nat) : Int) = k0 + (i : Int) + 1 := by omega
      rw [e1]
      exact he'
    · have bLt : b < s.heap.objs.size := by
        rcases List.mem_cons.mp hb with z | z
        · rw [z]; exact eLt
        · rw [List.mem_singleton.mp z]; exact iLt
      rw [upd_ne (Nat.ne_of_lt bLt)]
      exact (fpk b hb).1
  done := by
    intro X hP hw hK hc i pins s σ H E I fpk st hgo
    subst hP hw hK
    obtain ⟨⟨old, he⟩, hit, ne⟩ := st
    obtain ⟨ys, hq, hy⟩ := hgo
    obtain ⟨its, rv, pl, _⟩ := I.tuple hq
    have obj : s.heap.IsTuple a its.toArray := pl
    have len := rv.length
    obtain ⟨f0, f1, f2, f3, f4, f5⟩ := fpk it (List.mem_cons_of_mem _ List.mem_cons_self)
    have dr : Draws X.prog X.w X.A.in1 it [it, a] i (fun _ _ => True) (fun j h => j = i ∧ h.IsTupleIter it a i ∧ h.IsTuple a its.toArray) := drawsEndT (show X.A.in1.handled = none from I.ok.hd hc) it a its.toArray i (by simp; omega)
    exact wpAny_pyNext_enum_endD dr he ⟨rfl, hit, obj⟩ fun h' eb => ⟨rfl, I.turned (t' := s.toks) (fun b o hb q => eb b o hb q) f0 f1 f3 f4 f5⟩
  self := fun A i s Q E st h => by
    obtain ⟨⟨_, he⟩, _⟩ := st
    exact wpAny_pyIter_enum he h
theorem enum_goT {pins : List (Addr × Obj)} {σ : L2.St} {H : Hp} {s1 : Shared} {elts : List Expr} {kk : Nat} {tpos : Pos} {a : Addr} {ys : List V} {k0 : Int} {t : Tok} {Rr : L2.It → Hp → Prop} {E : Value → Shared → Prop} (I1 : Inv X pins σ H s1) (hq : SqT X.K H a ys) (h0 : -(2 ^ 63) ≤ k0) (h1 : k0 < 2 ^ 63) (q : Rr (ItET X.K a k0) H) :
    wpAny (model X.prog X.w) X.A (call (.type "enumerate") [.ref a, .int k0 t]) (fun v s2 => wpAny (model X.prog X.w) X.A (pyIter v) (PIE X pins σ (.Tuple elts kk tpos) Rr) E s2) E s1 := by
  obtain ⟨its, rv, pl, _⟩ := I1.tuple hq
  have obj : s1.heap.IsTuple a its.toArray := pl
  refine enum_begins (begins_tuple a its.toArray) obj h0 h1 fun h' he hit hsz kp => wpAny_pyIter_enum he ?_
  have I2 : Inv X pins σ H { s1 with heap := h' } := I1.kept (t' := s1.toks) kp
  have he0 : IsEnum h' (s1.heap.objs.size + 1) s1.heap.objs.size (k0 + ((0 : Nat) : Int)) .none := by
    rw [show k0 + ((0 : Nat) : Int) = k0 from Int.add_zero k0]
    exact he
  refine ⟨s1.heap.objs.size + 1, [s1.heap.objs.size + 1, s1.heap.objs.size], _, _, H, rfl, I2, turnET a (s1.heap.objs.size + 1) s1.heap.objs.size k0, ⟨⟨.none, he0⟩, ⟨_, hit, rfl, rfl⟩, Nat.succ_ne_self _⟩, fun b hb => ?_, q⟩
  have le : s1.heap.objs.size ≤ b := by
    rcases List.mem_cons.mp hb with z | z
    · rw [z]; exact Nat.le_add_right _ _
    · rw [List.mem_singleton.mp z]; exact Nat.le_refl _
  exact I1.fpOk le (I1.hok.fresh le)

theorem iv_enumT {K : PySem.W.Frag} {H : Hp} {β : List Addr} {ad : Addr} {vs : List V} {ds : List D} {k0 : Int} (ht : TupAt K H β ad vs) (r : RelDs K H β vs ds) : IvOk ν K (ItET K ad k0) (.enum (.items ds) k0) H β := fun H1 β1 h1 e1 R1 ok i => by
  have ht1 := (ht.ext e1).sq
  have r1 := r.go e1
  have g : (IV.enum (.items ds) k0).get h1 i = (ds[i]?).map fun x => .tup [.int (k0 + i), x] := rfl
  rw [g]
  refine ⟨fun d q => ?_, fun q => ?_⟩
  · cases q1 : ds[i]? with
    | none => rw [q1] at q; cases q
    | some d0 =>
      rw [q1] at q
      cases q
      obtain ⟨v, hv, rv⟩ := r1.get q1
      refine ⟨⟨vs, v, ht1, hv⟩, fun x H' y => ?_⟩
      obtain ⟨T, y0, rfl, hT, rfl, hy⟩ := y
      have z : y0 = v := Option.some.inj ((hy vs ht1).symm.trans hv)
      rw [z]
      have w := R1.put (o := .tup [.int (k0 + (i : Nat)), v]) hT
      exact ⟨w.1, w.2, .tup (.inl ⟨.inl upd_same, R1.fresh hT⟩) (.cons (.int _) (.cons (rv.go w.1) .nil))⟩
  · cases q1 : ds[i]? with
    | some d0 => rw [q1] at q; cases q
    | none =>
      refine ⟨vs, ht1, ?_⟩
      rw [r1.length]
      exact List.getElem?_eq_none_iff.mp q1
theorem iv_enumL {K : PySem.W.Frag} {H : Hp} {β : List Addr} {l : Nat} {ad : Addr} {k0 : Int} (hl : β[l]? = some ad) : IvOk ν K (ItEL K ad k0) (.enum (.at_ l) k0) H β := fun H1 β1 h1 e1 R1 ok i => by
  obtain ⟨ds, vs, q0, ea, r1⟩ := at_get R1 (pre_get e1.pre hl) ok
  have g : (IV.enum (.at_ l) k0).get h1 i = (ds[i]?).map fun x => .tup [.int (k0 + i), x] := by
    show (match h1[l]? with | some (.lst xs) => xs[i]? | _ => none : Option D).map _ = _
    rw [q0]
  rw [g]
  have sq : SqL K H1 ad vs := .inl (.inl ea)
  refine ⟨fun d q => ?_, fun q => ?_⟩
  · cases q1 : ds[i]? with
    | none => rw [q1] at q; cases q
    | some d0 =>
      rw [q1] at q
      cases q
      obtain ⟨v, hv, rv⟩ := r1.get q1
      refine ⟨⟨vs, v, sq, hv⟩, fun x H' y => ?_⟩
      obtain ⟨T, y0, rfl, hT, rfl, hy⟩ := y
      have z : y0 = v := Option.some.inj ((hy vs sq).symm.trans hv)
      rw [z]
      have w := R1.put (o := .tup [.int (k0 + (i : Nat)), v]) hT
      exact ⟨w.1, w.2, .tup (.inl ⟨.inl upd_same, R1.fresh hT⟩) (.cons (.int _) (.cons (rv.go w.1) .nil))⟩
  · cases q1 : ds[i]? with
    | some d0 => rw [q1] at q; cases q
    | none =>
      refine ⟨vs, sq, ?_⟩
      rw [r1.length]
      exact List.getElem?_eq_none_iff.mp q1
theorem ji_enum {elts : List Expr} {kk j : Nat} {tpos cpos : Pos} {k0 : Int} (he : JE Γ ν δ X W k e x) (hm : X.mg "enumerate" = none) (h0 : -(2 ^ 63) ≤ k0 := by decide) (h1 : k0 < 2 ^ 63 := by decide) (hg : Gl X "enumerate" := by rfl)
    (hs1 : starEach [e, .Constant (.int k0) j cpos] X.env = (false, eval e X.env) :: starEach [.Constant (.int k0) j cpos] X.env := by rfl) (hs2 : starEach [.Constant (.int k0) j cpos] X.env = (false, eval (.Constant (.int k0) j cpos) X.env) :: starEach [] X.env := by rfl) (hpl : (backTo pos (starEach [.Constant (.int k0) j cpos] X.env)).any (·.1) = false := by rfl) :
    JI Γ ν δ X W k (.Tuple elts kk tpos) (.Call (.Name "enumerate" p) [e, .Constant (.int k0) j cpos] [] pos) (.enum x k0) := fun n hS => by
  refine ⟨fun pins s σ H Rr I h => ?_⟩
  obtain ⟨β, h0', ρ, R, S, p⟩ := h
  have p : Pst ν X.K W σ H β (qI ν X.K Rr) (M.bind (M.bind ((ev Γ n).e k x ρ) ivOfE) (fun v => M.ret (.enum v k0)) h0') := p
  rw [M.assoc] at p
  have args : tCons (tM ν X.K W fun ρ => (ev Γ n).e k x ρ) (tCons (tC (.int k0)) tNil) σ H fun vs H1 => ∃ ad, vs = [.ref ad, .int k0] ∧ ((∃ ys, SqL X.K H1 ad ys ∧ Rr (ItEL X.K ad k0) H1) ∨ (∃ ys, SqT X.K H1 ad ys ∧ Rr (ItET X.K ad k0) H1)) := by
    refine tM_then R S p fun v d H1 β1 h1 R1 S1 e1 r1 p1 => ?_
    show ∃ ad, _
    cases r1 with
    | tup ht rs => exact ⟨_, rfl, .inr ⟨_, ht.sq, (p1.here R1 : qI ν X.K Rr _ H1 β1) _ (iv_enumT ht rs)⟩⟩
    | @ref l ad hl =>
      have p1 : Pst ν X.K W σ H1 β1 (qI ν X.K Rr) (M.bind (fun h => match h[l]? with | some (.lst _) => .ok (.at_ l) h | _ => .bad) (fun v => M.ret (.enum v k0)) h1) := p1
      unfold M.bind at p1
      dsimp only at p1
      cases q : h1[l]? with
      | none => rw [q] at p1; exact p1.elim
      | some ob =>
        rw [q] at p1
        cases ob with
        | lst ds =>
          obtain ⟨vs, ea, _⟩ := R1.obj l ad _ hl q
          exact ⟨ad, rfl, .inl ⟨vs, .inl (.inl ea), (p1.here R1 : qI ν X.K Rr _ H1 β1) _ (iv_enumL hl)⟩⟩
        | _ => exact p1.elim
    | _ => exact p1.elim
  refine PyProof.Rows.Call_ (ld_blt I hg hm PyProof.Rows.boot_enumerate (PyProof.Rows.callWith_type1 (thn ((pa_cons (he n hS) (pa_cons pe_int pa_nil hs2) hs1).run pos pins s σ H _ I args) fun us s1 q => ?_) hs1 hpl))
  obtain ⟨vs, H1, I1, rv, ad, rfl, q⟩ := q
  obtain ⟨u1, u2, rfl, r1, r2⟩ := vals2 rv
  cases (show u1 = Value.ref ad from r1)
  obtain ⟨t, rfl⟩ := r2
  rcases q with ⟨ys, hq, q⟩ | ⟨ys, hq, q⟩
  · exact enum_goL I1 hq h0 h1 q
  · exact enum_goT I1 hq h0 h1 q
end
end MP
/-! # An own error over ValueError: its __init__ asks super().__init__(x), then keeps x -/
namespace PySem
namespace MPX
open PySem.W PySem.Calls PyProof.Rows PySem.HandSPX
def iBody (x f : Str) (p0 p1 p2 p3 p4 p5 q1 q2 q3 q4 : Pos) : List Stmt :=
  [.Expr (.Call (.Attribute (.Call (.Name "super" p0) [] [] p1) "__init__" p2) [.Name x p3] [] p4) p5, .Assign [.Attribute (.Name "self" q1) f q2] (.Name x q3) q4]
abbrev iScope (x : Str) : Scope := { kind := .function, names := [(PySem.Str.ofString "self", .local), (x, .local), (PySem.Str.ofString "__class__", .free), (PySem.Str.ofString "super", .globalImplicit)], isGenerator := false, isCoroutine := false, more := [] }
/-- the call's form -/
def CallForm (x : Str) (env : Env) (p0 p1 p2 p3 p4 : Pos) : Prop := ∃ pl : Sem Bool, eval (.Call (.Attribute (.Call (.Name "super" p0) [] [] p1) "__init__" p2) [.Name x p3] [] p4) env = (do
      let ov ← attributeBase (.Call (.Name "super" p0) [] [] p1) "__init__" env (eval (.Call (.Name "super" p0) [] [] p1) env)
      standAt p2.atName
      let (f, first) ← holding [ov] (getMethod ov "__init__" pl)
      callWith p4 f first (backTo p4 (starEach [.Name x p3] env)) [])
/-- what the written part says of the class at C, of its __init__ at fI -/
structure SupTxt (prog : Program) (K : Frag) (C fI : Addr) (f : Str) : Prop where
  cls : L2.OexC K C
  noN : findIn K (.ref C) f = some none
  iC : findIn K (.ref C) "__init__" = some (some (.ref fI))
  tC : typeIn K (.ref fI) = some (.type "function")
  sup : ks_superIn K C C "__init__" = some (some (.builtin "ValueError.__init__"))
  ve : subIn K (.ref C) (.type "ValueError") = some true
  me : mroIn K C (.ref C) = some true
  opq : nsIn K cStatics "thirdparty.any" = some none
  top : (prog.main.scope.names.lookup ("super" : Str)).isSome = false
  fn : ∃ (oc : Value) (od : Option Addr) (doc pm : Value) (an : Option Addr) (ct : Value) (osl : Array (Option Value)) (cda cc : Addr) (ccl cl : Value) (cdd cld : Option Addr) (ccs csl : Array (Option Value)) (vs : Array Value) (file : Str) (tf : Tok)
      (x qual : Str) (params : Arguments) (ar : Arg) (p0 p1 p2 p3 p4 p5 q1 q2 q3 q4 : Pos),
    K.lookup fI = some ⟨oc, od, .func (ksFn "__init__" qual params (iBody x f p0 p1 p2 p3 p4 p5 q1 q2 q3 q4) (iScope x) .none .none doc pm an (.ref cda) ct cc), osl⟩ ∧
    codeIn K (.ref cda) qual = true ∧ K.lookup cda = some ⟨ccl, cdd, .fields vs, ccs⟩ ∧ vs[2]? = some (.str file tf) ∧ ((prog.main.file : Str) == file) = true ∧ K.lookup cc = some ⟨cl, cld, .cell (some (.ref C)), csl⟩ ∧
    (∀ (s : Shared) (a : Addr) (v : Value), BindsTo s (ksFn "__init__" qual params (iBody x f p0 p1 p2 p3 p4 p5 q1 q2 q3 q4) (iScope x) .none .none doc pm an (.ref cda) ct cc) ⟨[.ref a, v], []⟩ [("self", .ref a), (x, v)]) ∧
    (params.posonlyargs ++ params.args).head? = some ar ∧ ar.arg = "self" ∧ (x == ("self" : Str)) = false ∧ (x == ("__debug__" : Str)) = false ∧ (x == ("super" : Str)) = false ∧ (x == ("__class__" : Str)) = false ∧ (∀ L : Addr, CallForm x (ksEnv qual (iScope x) L fI (.ref cda) cc) p0 p1 p2 p3 p4)
structure InitEnd (h h' : Heap) (x C dx t1 : Addr) (f : Str) (v : Value) : Prop where
  keep : ∀ b o, b ≠ x → h.get? b = some o → h'.get? b = some o
  obj : h'.get? x = some { cls := .ref C, dict := some dx, data := .fields #[.ref t1, .none, .none, .none, .bool false, .none] }
  dbig : h.objs.size ≤ dx
  dne : dx ≠ x
  ns : h'.Ns1 dx (fun y => if y = f then some v else none)
structure OwnMade (h h' : Heap) (e C d : Addr) (f : Str) (v : Value) : Prop where
  keep : ∀ b o, h.get? b = some o → h'.get? b = some o
  new : h.objs.size ≤ e
  obj : ∃ oe vs, h'.get? e = some oe ∧ oe.cls = .ref C ∧ oe.dict = some d ∧ oe.data = .fields vs ∧ vs[1]? = some .none
  dbig : h.objs.size ≤ d
  dne : d ≠ e
  ns : h'.Ns1 d (fun y => if y = f then some v else none)
theorem ldX {M : Model} {s : Shared} {name : Str} {scope : Scope} {L a cc : Addr} {cd : Value} {m : Str → Option Value} {x : Str} {pos : Pos} {v : Value} {Q : Value → Shared → Prop} {A : Around} {E : Value → Shared → Prop} (hn : s.heap.Ns L m) (hv : m x = some v) (h : Q v s)
    (hk : scope.kind = .function) (hl : scope.names.lookup x = some .local) (hd : (x == ("__debug__" : Str)) = false) :
    wpAny M A (eval (.Name x pos) (ksEnv name scope L a cd cc)) Q E s := wpAny_Name (wpAny_loadName_local hk hl hn hv h) hd
section
variable {prog : Program} {w : World} {A : Around} {E : Value → Shared → Prop} {R : Result → Shared → Prop} {s : Shared} {K : Frag} {mg mb : Str → Option Value} {C fI : Addr} {f : Str}
theorem sup_init (T : SupTxt prog K C fI f) {x t0 : Addr} {v : Value} (X : K.In s.heap) (hlim : s.heap.NoLimit) (hx : s.heap.get? x = some (excO C t0)) (hnx : K.lookup x = none) (hroom : A.depth < recursionLimit)
    (hg : s.heap.Ns mainGlobals mg) (hm : mg "super" = none) (hb : s.heap.Ns builtinsNs mb) (hmb : mb "super" = some (.type "super"))
    (hq : ∀ h' tk dx t1, InitEnd s.heap h' x C dx t1 f v → R (.ok (.ret .none)) { s with heap := h', toks := tk }) :
    codeAny (model prog w) A (.call (.ref fI) ⟨[.ref x, v], []⟩) R s := by
  obtain ⟨oc, od, doc, pm, an, ct, osl, cda, cc, ccl, cl, cdd, cld, ccs, csl, vs, file, tf, px, qual, params, ar, p0, p1, p2, p3, p4, p5, q1, q2, q3, q4, ho, hcd, hcode, hvs, hfile, hcell, hbnd, hhead, har, hxs, hxd, hxu, hxc, hform⟩ := T.fn
  obtain ⟨nm, q, N, bs, bm, sn, sub, ab, col, dd, k0, k1, k2, k3, k5, hC, hbm⟩ := T.cls.cls
  have hcl : clsIn K C = some { name := nm, bases := bs, mro := .ref C :: bm, ns := N, qualname := q, hasDict := true, slotNames := sn, subclasses := sub, abstract := ab, collection := col, hasDel := false } := by unfold clsIn; rw [hC] <;> rfl
  have e1 : (("super" : Str) == px) = false := by rw [BEq.comm]; exact hxu
  have e2 : (("__class__" : Str) == px) = false := by rw [BEq.comm]; exact hxc
  have ks : (iScope px).names.lookup ("super" : Str) = some .globalImplicit := by
    show List.lookup ("super" : Str) (((PySem.Str.ofString "self", NameKind.local) : Str × NameKind) :: (px, .local) :: (PySem.Str.ofString "__class__", .free) :: (PySem.Str.ofString "super", .globalImplicit) :: []) = _
    simp only [List.lookup, e1]
    rfl
  have kc : (iScope px).names.lookup ("__class__" : Str) = some .free := by
    show List.lookup ("__class__" : Str) (((PySem.Str.ofString "self", NameKind.local) : Str × NameKind) :: (px, .local) :: (PySem.Str.ofString "__class__", .free) :: (PySem.Str.ofString "super", .globalImplicit) :: []) = _
    simp only [List.lookup, e2]
    rfl
  have kself : (iScope px).names.lookup ("self" : Str) = some .local := rfl
  have kx : (iScope px).names.lookup px = some .local := by
    show List.lookup px (((PySem.Str.ofString "self", NameKind.local) : Str × NameKind) :: (px, .local) :: (PySem.Str.ofString "__class__", .free) :: (PySem.Str.ofString "super", .globalImplicit) :: []) = _
    simp only [List.lookup, hxs, beq_self_eq_true]
  have nocell : ∀ y ∈ (iScope px).names, y.2 ≠ .cell := by
    intro y hy
    simp only [List.mem_cons, List.not_mem_nil, or_false] at hy
    rcases hy with rfl | rfl | rfl | rfl <;> (intro z; cases z)
  have hk : (iScope px).kind = .function := rfl
  refine ks_codeAny_call_defAt (fd := ksFn "__init__" qual params (iBody px f p0 p1 p2 p3 p4 p5 q1 q2 q3 q4) (iScope px) .none .none doc pm an (.ref cda) ct cc) (body := iBody px f p0 p1 p2 p3 p4 p5 q1 q2 q3 q4) (binds := [("self", .ref x), (px, v)]) hroom (X _ _ ho) rfl hlim (codeRec_of X hcd) rfl (hbnd s x v) nocell
    (fun y hy => ?_) (fun h₁ hns k => ?_) rfl rfl hk
  · rcases List.mem_cons.mp hy with rfl | hy
    · exact kself
    · obtain rfl := List.mem_singleton.mp hy
      exact kx
  have X₁ : K.In h₁ := X.keeps k
  have hx₁ := k _ _ hx
  have hlt : s.heap.objs.size < h₁.objs.size := hns.lt
  have m1 : ([("self", Value.ref x), (px, v)] : List (Str × Value)).reverse.lookup ("self" : Str) = some (Value.ref x) := by
    have e : (("self" : Str) == px) = false := by rw [BEq.comm]; exact hxs
    simp [List.lookup, e]
  have m2 : ([("self", Value.ref x), (px, v)] : List (Str × Value)).reverse.lookup px = some v := by simp [List.lookup]
  have hD1 : h₁.get? C = some (excClassObj nm q C N bs bm true sn sub ab col dd k0 k1 k2 k3 k5 "ValueError.__new__") := X₁ _ _ hC
  show _root_.PySem.wpAt _ _ (.func _ (ksEnv qual (iScope px) s.heap.objs.size fI (.ref cda) cc)) (execs (_ :: _) (ksEnv qual (iScope px) s.heap.objs.size fI (.ref cda) cc)) _ _ _
  obtain ⟨pl, hpl⟩ := hform s.heap.objs.size
  refine ks_wpAt_execs_cons (ks_wpAt_Expr_any (ks_wpAt_MethodCall (pl := pl) ?_ hpl))
  refine ks_wpAt_super_base (env := ksEnv qual (iScope px) s.heap.objs.size fI (.ref cda) cc) ks kc (by decide) rfl (X₁ _ _ ho) rfl hhead rfl (X₁ _ _ hcode) rfl hvs hfile T.top ?_
  refine ks_loadName_global hk ks (loadGlobal_builtin (env := ksEnv qual (iScope px) s.heap.objs.size fI (.ref cda) cc) (hg.keeps k) hm (hb.keeps k) hmb ⟨rfl, ?_⟩)
  refine wpAny_loadName_free hk kc rfl ⟨_, X₁ _ _ hcell, rfl⟩ ?_
  rw [har]
  refine wpAny_loadName_local hk kself hns m1 ?_
  refine ks_wpAny_isType_cls hD1 rfl ⟨rfl, ?_⟩
  refine ks_wpAny_call_super hD1 rfl hx₁ rfl (fun c e => by cases e) (looks_mroIn X₁ T.me) (fun h₂ eso k₂ => ?_)
  have X₂ : K.In h₂ := X₁.keeps k₂
  have hx₂ := k₂ _ _ hx₁
  have hI : Looks (model prog w) h₂ (isInstance (.ref x) (.type "ValueError")) true := (InstAt.type (⟨hx₂, rfl, rfl, trivial⟩ : InstAt h₂ x (excO C t0) C none)).andThen (looks_subIn X₂ T.ve)
  have hxC : x ≠ C := ks_ne (odx := none) X₂ (⟨hx₂, rfl, rfl, trivial⟩ : InstAt h₂ x (excO C t0) C none) hcl
  have hsup := T.sup
  unfold ks_superIn at hsup
  rw [hcl] at hsup
  refine kxs_getMethod kxs_ValueError (so := h₁.objs.size) (D := C) eso (looks_opaque X₂ T.opq) (l₀ := .ref C :: bm) (fun A Q E s k q => wpAny_bind ((looks_clsIn X₂ hcl) A _ E s k (wpAny_pure q))) rfl X₂ hsup hI hxC (by decide) ?_
  have hmw : (h₂.push (kxs_mw "ValueError.__init__" x)).get? h₂.objs.size = some (kxs_mw "ValueError.__init__" x) := Heap.get?_push_at rfl rfl
  have k₃ : ∀ b o, h₁.get? b = some o → (h₂.push (kxs_mw "ValueError.__init__" x)).get? b = some o := fun b o e => Heap.get?_push_of_some _ (k₂ b o e)
  have hns₃ := hns.keeps k₃
  have hx₃ := k₃ _ _ hx₁
  have X₃ : K.In (h₂.push (kxs_mw "ValueError.__init__" x)) := X₁.keeps k₃
  have sz₃ : h₁.objs.size ≤ h₂.objs.size := Nat.le_of_lt (Heap.lt_size eso)
  generalize h₂.push (kxs_mw "ValueError.__init__" x) = h₃ at *
  refine kxs_callWith (i := "ValueError.__init__") (x := x) rfl (evalArgs_plain (spliced_more (ldX hns₃ m2 (spliced_nil ⟨hmw, ?_⟩) hk kx hxd)))
  refine wpAny_call (codeAny_of_tree ?_)
  show wpAny _ (Around.in1 _) (callAny (.ref h₂.objs.size) ⟨[v], []⟩) _ _ _
  simp only [callAny]
  refine wpAny_bind (wpAny_load hmw ?_)
  simp only [kxs_mw, show (Value.type "method-wrapper" == Value.type "method" || Value.type "method-wrapper" == Value.type "builtin_function_or_method" || Value.type "method-wrapper" == Value.type "method-wrapper") = true by decide, if_true]
  refine KFB.if_so (by decide) ?_
  refine wpAny_bind (check_bound_init F.excBase_ValueError.toExcCallFacts (X₃ _ _ hC) hx₃ rfl ?_)
  refine wpAny_bind (wpAny_pure (wpAny_pure ?_))
  refine ⟨plainId_quiet F.excBase_ValueError.init.plain _, codeAny_builtin F.excBase_ValueError.initEntry ?_⟩
  refine exc_init_tree (cls := .ref C) (t0 := t0) (dv := none) (c2 := .none) (c3 := .none) (b4 := .bool false) hx₃ (by rw [sizeLine_eq]; exact (by decide : 1 ≤ 16777216)) fun h₄ k₄ hx₄ _ => ?_
  show _root_.PySem.wpAt _ _ _ (execs (_ :: []) _) _ _ _
  have hxL : s.heap.objs.size ≠ x := Nat.ne_of_gt (Heap.lt_size hx)
  have hns₄ : h₄.Ns s.heap.objs.size (fun y => ([("self", Value.ref x), (px, v)] : List (Str × Value)).reverse.lookup y) := by
    obtain ⟨o, es, ep, ho', r⟩ := hns₃
    exact ⟨o, es, ep, k₄ _ _ hxL ho', r⟩
  have X₄ : K.In h₄ := fun a o e => k₄ a o (fun z => by rw [z, hnx] at e; cases e) (X₃ a o e)
  have sz₄ : h₁.objs.size ≤ h₄.objs.size := by
    have z := Heap.lt_size hmw
    have z2 : h₂.objs.size ≠ x := fun e => by
      have := Heap.lt_size hx₂
      rw [e] at this
      exact Nat.lt_irrefl _ this
    have z3 := Heap.lt_size (k₄ _ _ z2 hmw)
    exact Nat.le_trans sz₃ (Nat.le_of_lt z3)
  refine wpAt_of_wpAny (wpAny_execs_cons (plainObj_wpAny_Assign_Attribute (ldX hns₄ m2 (ldX hns₄ m1 ?_ hk kself (by decide)) hk kx hxd)))
  refine set_plain X₄ (ox := excO C h₃.objs.size) (od := none) ⟨hx₄, rfl, rfl, trivial⟩ T.cls.sa ?_
  refine exc_osa X₄ hx₄ hcl (show refsVE (.ref C :: bm) = true from hbm) rfl T.noN (fun h₅ tk₅ dx k₅ dn dne hx₅ hn₅ => ?_)
  show wpAny _ _ (execs _ _) _ _ _
  exact wpAny_execs_nil (hq h₅ tk₅ dx h₃.objs.size ⟨fun b o hb e => k₅ b o hb (k₄ b o hb (k₃ b o (k b o e))), hx₅, Nat.le_trans (Nat.le_of_lt hlt) (Nat.le_trans sz₄ dn), dne, hn₅⟩)
theorem sup_made (T : SupTxt prog K C fI f) {v : Value} (X : K.In s.heap) (hlim : s.heap.NoLimit) (hroom : A.depth + 1 < recursionLimit)
    (hg : s.heap.Ns mainGlobals mg) (hm : mg "super" = none) (hb : s.heap.Ns builtinsNs mb) (hmb : mb "super" = some (.type "super"))
    (hq : ∀ h' tk e d, OwnMade s.heap h' e C d f v → R (.ok (.ret (.ref e))) { s with heap := h', toks := tk }) :
    codeAny (model prog w) A (.call (.ref C) ⟨[v], []⟩) R s := by
  obtain ⟨nm, q, N, bs, bm, sn, sub, ab, col, dd, k0, k1, k2, k3, k5, hC, hbm⟩ := T.cls.cls
  obtain ⟨hp, g, dr, tk, os⟩ := s
  have k : ∀ b o, hp.get? b = some o → ((hp.push (kdv_tup [v])).push (excO C hp.objs.size)).get? b = some o := fun b o e => Heap.get?_push_of_some _ (Heap.get?_push_of_some _ e)
  have hget : ((hp.push (kdv_tup [v])).push (excO C hp.objs.size)).get? (hp.objs.size + 1) = some (excO C hp.objs.size) := by heap_get
  have hnx : K.lookup (hp.objs.size + 1) = none := by
    cases e : K.lookup (hp.objs.size + 1) with
    | none => rfl
    | some o => exact absurd (Nat.lt_of_succ_lt (Heap.lt_size (X _ _ e : hp.get? _ = some o))) (Nat.lt_irrefl _)
  refine call_own F.excBase_ValueError (fun X => refsVE_contains X bm hbm) (X _ _ hC) (looks_findIn X T.iC) (fun self => bind_fn X self T.tC) (by rw [sizeLine_eq]; exact (by decide : 1 ≤ 16777216)) ?_
  refine sup_init (s := ⟨(hp.push (kdv_tup [v])).push (excO C hp.objs.size), g, dr, tk, os⟩) T (X.keeps k) (hlim.keeps k) hget hnx hroom (hg.keeps k) hm (hb.keeps k) hmb fun h' tk' dx t1 ⟨k', hx, dn, dne, hns⟩ => ?_
  have old : ∀ b o, hp.get? b = some o → h'.get? b = some o := fun b o e => k' b o (Nat.ne_of_lt (Nat.lt_succ_of_lt (Heap.lt_size e))) (k b o e)
  have z : hp.objs.size + 1 + 1 ≤ dx := by
    first
      | (simpa only [Heap.size_push] using dn)
      | exact dn
  exact ⟨rfl, hq h' tk' (hp.objs.size + 1) dx ⟨old, Nat.le_succ _, ⟨_, _, hx, rfl, rfl, rfl, rfl⟩, Nat.le_trans (Nat.le_trans (Nat.le_succ _) (Nat.le_succ _)) z, dne, hns⟩⟩
end
end MPX
end PySem
namespace MP
open PySem PySem.Spec L2
theorem relO_one {f : Str} {v : V} {v' : Value} (r : RelV v v') (g : Str) : RelO (List.lookup g [(f, v)]) (if g = f then some v' else none) := by
  have z := relO_put (f := f) (fs := []) (mA := fun _ => none) r (fun _ => True.intro) g
  exact z
section
variable {Γ : Tab} {ν : Nm} {δ : Ad} {X : Cx} {W : WX} {k : Nat}
/-- C(e), C an own error -/
def tMk1 (C : Addr) (f : Str) (ta : TA) : L2.St → Hp → XK → Prop := fun σ H Q => ta σ H fun vs H1 => ∃ v, vs = [v] ∧ ∀ d, H1 d = none → Q (.ref C) (some d) (upd H1 d (.xd [(f, v)]))
theorem pmk_sup {C fI : Addr} {f x : Str} {a : Expr} {ta : TA} {p pos : Pos} (T : PySem.MPX.SupTxt X.prog X.K C fI f) (hm : X.mg x = some (.ref C)) (hsup : X.mg "super" = none) (hr : Room k X.A) (ha : PA X [a] ta) (hg : Gl X x := by rfl) (hdb : (x == ("__debug__" : Str)) = false := by decide)
    (he : starEach (a :: []) X.env = (false, eval a X.env) :: starEach [] X.env := by rfl) (hpl : (backTo pos (starEach [] X.env)).any (·.1) = false := by rfl) :
    PMk X (.Call (.Name x p) [a] [] pos) (tMk1 C f ta) := by
  intro pins s σ H Q I h
  refine wpAny_Call_Name_kw (ld_glob I hg hm ?_ hdb)
  refine PySem.W.callWith_K (h₀ := X.base) I.ok.mod.kin T.cls.kC (thn (ha.run pos pins s σ H _ I h) fun us s1 hh => ?_) he hpl
  obtain ⟨vs, H1, I1, r1, v, ev, q1⟩ := hh
  subst ev
  refine ⟨I1.kIn, ?_⟩
  cases r1 with
  | cons rv rn =>
    rename_i v' us'
    cases rn
    show wpAny _ _ (call (.ref C) [v']) _ _ _
    have hlim := I1.nolimit
    obtain ⟨mb, hb1, hb2⟩ := I1.mod.blt
    have hg1 := I1.mod.glob.keeps I1.bk
    have hb3 := hb1.keeps I1.bk
    have hmb : mb "super" = some (.type "super") := (hb2 "super" (by decide)).trans PyProof.Rows.Boot.«super»
    obtain ⟨hp, g, dr, tk, os⟩ := s1
    refine wpAny_call (PySem.MPX.sup_made T I1.kIn hlim (by have := hr.dp; omega) hg1 hsup hb3 hmb fun h' tk' e d M => ?_)
    show MkP X pins σ Q (.ref e) ⟨h', g, dr, tk', os⟩
    obtain ⟨oe, fv, hoe, hc, hd, hdat, h1⟩ := M.obj
    have hns := M.ns
    obtain ⟨G', g1, g2⟩ := restrict h' fun b => decide (b ≠ e)
    have gk : ∀ b, b ≠ e → G'.get? b = h'.get? b := fun b hb => g1 b (decide_eq_true hb)
    have ge : G'.get? e = none := g2 e (by simp)
    have old : ∀ b o, hp.get? b = some o → G'.get? b = some o := fun b o q => (gk b (Nat.ne_of_lt (Nat.lt_of_lt_of_le (Heap.lt_size q) M.new))).trans (M.keep b o q)
    have ob : ObjOk X.prog X.w (upd H1 d (.xd [(f, v)])) G' d (.xd [(f, v)]) := ⟨_, hns.at (fun o q => (gk d M.dne).trans q), fun f => relO_one rv f⟩
    have J : Inv X pins σ (upd H1 d (.xd [(f, v)])) ⟨G', g, dr, tk', os⟩ := I1.laid (t' := tk') old M.dbig ob
    refine ⟨e, oe, fv, ⟨G', g, dr, tk', os⟩, _, .ref C, some d, rfl, J, fun b o q => ?_, ge, hoe, ⟨hc, hd⟩, hdat, h1, ?_, rfl, I1.bare, raises_own T.cls.exC T.cls.tyC, q1 d (I1.hok.fresh M.dbig)⟩
    · by_cases hb : b = e
      · have q' : G'.get? b = some o := q
        rw [hb, ge] at q'; cases q'
      · exact (gk b hb).symm.trans q
    · rw [upd_ne (Ne.symm M.dne)]
      exact I1.hok.fresh M.new
end
end MP
/-! # raise; try, where the caught error is kept as a place -/
namespace MP
open PySem PySem.Spec L2
section
variable {Γ : Tab} {ν : Nm} {δ : Ad} {X : Cx} {W : WX} {k : Nat} {e a : Expr} {x xa : E} {pos apos p : Pos}
theorem js_raise {c : Str} {fI : Addr} {z : Str} {pos2 : Pos} (hc : X.calm = true) (tk : Takes X W) (T : PySem.MPX.SupTxt X.prog X.K (ν.ca c) fI (ν.cf c)) (hm : X.mg z = some (.ref (ν.ca c))) (hsup : X.mg "super" = none) {r : Nat} (hr : Room r X.A) (h : JE Γ ν δ X W k a xa)
    (hg : Gl X z := by rfl) (hdb : (z == ("__debug__" : Str)) = false := by decide)
    (he : starEach (a :: []) X.env = (false, eval a X.env) :: starEach [] X.env := by rfl) (hpl : (backTo pos (starEach [] X.env)).any (·.1) = false := by rfl) :
    JS Γ ν δ X W k (.Raise (some (.Call (.Name z p) [a] [] pos)) none pos2) (.raise c xa) := js_of fun n hS => by
  refine PS.of (ps_raise hc tk (pmk_sup T hm hsup hr (pa_cons (h n hS.prev) pa_nil he) hg hdb he hpl)) fun D σ H q => ?_
  obtain ⟨β, h0, ρ, R, S, q⟩ := q
  refine lift_then R S q fun v d H1 β1 h1 R1 S1 e1 r1 p1 => ⟨v, rfl, fun dd hd => ?_⟩
  have z1 := R1.put (o := .xd [(ν.cf c, v)]) hd
  exact p1 σ v dd _ β1 z1.1 z1.2 (S1.go z1.1) (r1.go z1.1) upd_same (R1.fresh hd)
end

/-! ### the error as a place -/
theorem exD_own {C d a x : Addr} : ExD C d a ≠ .own x := fun z => by
  have z' : HO.ext _ = HO.own x := z
  cases z'
section
variable {X : Cx} {pins : List (Addr × Obj)} {σ : L2.St} {H : Hp} {s : Shared}
theorem Inv.keepE (I : Inv X pins σ H s) {a C d : Addr} {oe : Obj} {vs : Array Value} (ha : s.heap.get? a = some oe) (hz : Zc (.ref C) (some d) oe) (hd : oe.data = .fields vs) (na : H a = none) (nL : a ≠ X.env.locals)
    (nC : ∀ y c, X.env.cells.lookup y = some c → a ≠ c) (nP : ∀ p ∈ X.pn ++ pins, p.1 ≠ a) (n0 : X.s_0.heap.get? a = none) : Inv X pins σ (upd H a (ExD C d a)) s := by
  have ne : ∀ {b : Addr} {o : HO}, H b = some o → b ≠ a := fun q => ne_of_none q na
  refine ⟨I.ok, I.os, I.bare, ⟨I.base.keep, I.base.slot, fun b o q n hb => ?_, I.base.there, fun b xs q => ?_, fun b o u q => ?_, fun b ps q => ?_⟩, I.loc, I.cell, ?_, fun y c q => ?_, fun p hp => ?_, fun b o q => ?_, I.len⟩
  · rw [upd_ne fun z => by rw [z, n0] at q; cases q]
    exact I.base.free b o q n hb
  · rw [upd_ne (ne (I.base.tups b xs q))]
    exact I.base.tups b xs q
  · rw [upd_ne (ne (I.base.frzs b o u q))]
    exact I.base.frzs b o u q
  · obtain ⟨more, w⟩ := I.base.tbls b ps q
    exact ⟨more, by rw [upd_ne (ne w)]; exact w⟩
  · rw [upd_ne (Ne.symm nL)]
    exact I.free
  · rw [upd_ne (Ne.symm (nC y c q))]
    exact I.freeC y c q
  · obtain ⟨u1, u2, u3⟩ := I.pin p hp
    exact ⟨u1, by rw [upd_ne (nP p hp)]; exact u2, u3⟩
  · by_cases hb : b = a
    · subst hb
      rw [upd_same] at q
      cases q
      exact ⟨⟨oe, vs, ha, hz, hd⟩, ⟨_, ha⟩, fun h1 h2 z w => by
        obtain ⟨o1, v1, q1, q2, q3⟩ := z
        exact ⟨o1, v1, w _ q1, q2, q3⟩⟩
    · rw [upd_ne hb] at q
      refine (I.hok b o q).stay (fun _ _ _ w => w) (fun c w => ?_) fun c xs w => ?_
      · rw [upd_ne (ne w)]
        exact w
      · rw [upd_ne (ne w)]
        exact w
theorem Inv.inSuite (I : Inv X pins σ H s) (a : Addr) : Inv (X.suite a (X.pn ++ pins)) [] σ H s :=
  ⟨I.ok.suite _ _, I.os, I.bare, I.base, I.loc, I.cell, I.free, I.freeC, fun p hp => I.pin p (by rw [List.append_nil] at hp; exact hp), I.hok, I.len⟩
theorem Inv.outSuite {a : Addr} {more : List (Addr × Obj)} (I : Inv (X.suite a (X.pn ++ pins)) more σ H s) (ok : X.Ok) : Inv X pins σ H s :=
  ⟨ok, I.os, I.bare, I.base, I.loc, I.cell, I.free, I.freeC, fun p hp => I.pin p (List.mem_append_left _ hp), I.hok, I.len⟩
end
/-- the clause's wish: the error at a is tracked -/
def wKeep (K : PySem.W.Frag) (c : Value) (i : Nat) (ts : TS) (Wout : WX) (D : Ends) : WX := fun cls d σ H =>
  ∃ b C dd, cls = .ref C ∧ d = some dd ∧ PySem.W.exmOne K cls c = some b ∧
    (b = true → ∀ a, H a = none → ts { nx := fun σ1 H1 => D.nx (σ1.set i none) H1, rt := D.rt, bk := fun σ1 H1 => D.bk (σ1.set i none) H1, ct := fun σ1 H1 => D.ct (σ1.set i none) H1 } (σ.set i (some (.ref a))) (upd H a (ExD C dd a))) ∧
    (b = false → Wout cls d σ H)
section
variable {X : Cx} {x n : Str} {c : Value} {i : Nat} {body suite : List Stmt} {b0 : Stmt} {np pos pos1 : Pos} {tb : WX → TS} {ts : TS} {Wout : WX}
theorem ps_try_keep (hst : X.stack = X.env :: X.outer) (hfr : X.env.frame = some X.env.locals) (hex : X.ex = []) (hnd : X.N.Nodup) (hix : X.N[i]? = some n) (hlo : X.env.kindOf n = some .local) (hnm : Names X x c) (tk : Takes X Wout)
    (hbody : ∀ (W : WX) (pn : List (Addr × Obj)) (xe : Value → Shared → Prop), Takes (X.tr pn xe) W → PassesOwn (model X.prog X.w) X.A X.env xe → PSs (X.tr pn xe) body (tb W))
    (hsuite : ∀ (a : Addr) (pn : List (Addr × Obj)), PSs (X.suite a pn) (b0 :: suite) ts) :
    PS X (.Try body [.ExceptHandler (some (.Name x np)) (some n) (b0 :: suite) pos1] [] [] pos) (fun D σ H => tb (wKeep X.K c i ts Wout D) D σ H) := by
  refine ⟨fun pins s σ H D I want => ?_⟩
  have okX := I.ok
  have frA : X.A.frames = some (X.env :: X.outer) := by rw [okX.frames, hst]
  have run := hbody (wKeep X.K c i ts Wout D) (X.pn ++ pins) (fun e1 t1 => wpAny (model X.prog X.w) X.A (noteFrame e1 X.env) (fun _ t2 => wpAny (model X.prog X.w) X.A (setFlight e1 none) (fun _ t3 =>
    wpAny (model X.prog X.w) X.A (handleBy e1 X.env [.ExceptHandler (some (.Name x np)) (some n) (b0 :: suite) pos1]) (SP X pins D) X.xe t3) X.xe t2) X.xe t1) ?caught PassesOwn.looking
  case caught =>
    intro u t xx
    obtain ⟨a, B, sI, pinsI, σI, HI, cls, d, rfl, JI, grd, ups, sky, na, hos, hbare, b, C, dd, rfl, rfl, exm, yes, no⟩ := xx
    have J : Inv X pins σI HI sI := JI.ofTry okX
    have skyE : Sky B (X.env :: X.outer) a (Zc (.ref C) (some dd)) X.env.locals t.heap := by rw [← hst]; exact sky
    show wpAny (model X.prog X.w) X.A (noteFrame (.ref a) X.env) _ _ _
    refine Sky.land Zc.steady frA hfr skyE ?_
    intro g3 fly3 up3
    have J3 : Inv X pins σI HI { t with heap := g3 } := J.landed grd fly3.1 (ups.trans up3) hos hbare
    obtain ⟨oe3, vs3, get3, zc3, dat3⟩ := fly3.there
    have outFr : a ∉ frs (X.env :: X.outer) := fun hm => by
      obtain ⟨_, o1, q1, q2⟩ := fly3.2.2.1.mem hm
      rw [get3] at q1
      cases q1
      exact q2 _ dat3
    have nLoc : a ≠ X.env.locals := fun z => outFr (List.mem_filterMap.mpr ⟨X.env, List.mem_cons_self, by rw [hfr, z]⟩)
    have nFs : a ∉ X.fs := fun hm => by
      obtain ⟨e1, m1, q1⟩ := List.mem_filterMap.mp hm
      exact outFr (List.mem_filterMap.mpr ⟨e1, List.mem_cons_of_mem _ m1, q1⟩)
    have notI : sI.heap.get? a = none := by
      cases q : sI.heap.get? a with
      | none => rfl
      | some o1 =>
        have z := grd a o1 q (by rw [hst]; exact outFr)
        rw [fly3.2.1] at z
        cases z
    have n0 : X.s_0.heap.get? a = none := by
      cases q : X.s_0.heap.get? a with
      | none => rfl
      | some o1 =>
        obtain ⟨o2, z⟩ := J.base.there a o1 q (by rw [hex]; exact List.not_mem_nil)
        rw [notI] at z
        cases z
    have nCell : ∀ y c, X.env.cells.lookup y = some c → a ≠ c := fun y c q z => by
      obtain ⟨v1, o1, w, _⟩ := J.cell y c q
      rw [← z, notI] at w
      cases w
    have nPin : ∀ p ∈ X.pn ++ pins, p.1 ≠ a := fun p hp z => by
      have w := (J.pin p hp).1
      rw [z, notI] at w
      cases w
    have S3 := J3.suite get3 dat3 na nLoc nFs
    refine wpAny_handleBy_cons (codeAny_handlers_test ?_) (by intro q; cases q)
    have LT : PySem.W.Looks (model X.prog X.w) g3 (typeOf (.ref a)) (.ref C) := fun A1 Q1 E1 s1 k1 q1 => wpAny_typeOf_ref (k1 _ _ get3) (by rw [zc3.1]; exact q1)
    have LM := PySem.W.exm_one (M := model X.prog X.w) (J3.kIn) LT exm
    have asked : ∀ {Q : Value → Shared → Prop} {E : Value → Shared → Prop}, Q c { t with heap := g3 } → wpAny (model X.prog X.w) (X.A.mark (some (.ref a))) (eval (.Name x np) X.env) Q E { t with heap := g3 } := by
      intro Q E q
      obtain ⟨gl, dbg, m1 | ⟨m1, m2, m3⟩⟩ := hnm
      · exact ld_glob (X := X.suite a ((a, oe3) :: (X.pn ++ pins))) S3 gl m1 q dbg
      · exact ld_blt (X := X.suite a ((a, oe3) :: (X.pn ++ pins))) S3 gl m1 m2 q m3 dbg
    refine asked (LM.here ?_)
    cases b with
    | false =>
      show wpAny _ X.A (handleBy (.ref a) X.env []) _ _ _
      refine wpAny_handleBy_nil ?_
      obtain ⟨w1, w2, w3, oe, vs, T, oT, tsT, he, hz, hd, h1, hr⟩ := id fly3
      unfold PySem.passOn
      refine wpAny_bind (wpAny_field he hd h1 ?_)
      rw [if_neg (show ¬ ((Value.ref T == Value.none) = true) from by simp)]
      have last : wpAny (model X.prog X.w) X.A (setFlight (.ref a) X.env.frame) (fun _ t4 => wpAny (model X.prog X.w) X.A (throw (.ref a) : Sem Flow) (SP X pins D) X.xe t4) X.xe { t with heap := g3 } := by
        rw [hfr]
        refine HandSPX.setFlight_upZ fly3 ?_
        intro g4 held4 up4
        exact wpAny_throw (tk _ _ ⟨a, B, sI, pins, σI, HI, .ref C, some dd, rfl, J, grd, (ups.trans up3).trans up4, .inr (.inr (by rw [hst]; exact held4)), na, hos, hbare, no rfl⟩)
      first
        | exact wpAny_bind (wpAny_pure (wpAny_bind last))
        | exact wpAny_bind last
    | true =>
      refine codeAny_handlers_suite_as ?_
      refine HandSPX.lands_againZ fly3 ?_
      intro g4 fly4 up4
      have J4 : Inv X pins σI HI { t with heap := g4 } := J.landed grd fly4.1 ((ups.trans up3).trans up4) hos hbare
      obtain ⟨oe4, vs4, get4, zc4, dat4⟩ := fly4.there
      have J5 : Inv X pins σI (upd HI a (ExD C dd a)) { t with heap := g4 } := Inv.keepE J4 get4 zc4 dat4 na nLoc nCell nPin n0
      have S5 := Inv.inSuite J5 a
      refine store_ok (X := X.suite a (X.pn ++ pins)) (v := .ref a) S5 hnd hix (.inl hlo) rfl ?_ (.inr hlo)
      intro t5 S6
      refine wpAny_mono ((hsuite a (X.pn ++ pins)).run [] t5 _ _ _ S6 (yes rfl a na)) ?_ (fun _ _ z => False.elim z)
      intro fl t6 hsp
      have fin : ∀ {σ6 : L2.St} {H6 : Hp} {Q : Shared → Prop}, Inv (X.suite a (X.pn ++ pins)) [] σ6 H6 t6 → (∀ t7, Inv X pins (σ6.set i none) H6 t7 → Q t7) →
          wpAny (model X.prog X.w) X.A (do bindName X.env n .none; unbindBehindTheSuite X.env n pos1) (fun _ t7 => Q t7) X.xe t6 := by
        intro σ6 H6 Q S7 hq
        exact gone_ok (Inv.outSuite S7 okX) hnd hix hlo hq
      match fl, hsp with
      | .next, ⟨σ6, H6, S7, q6⟩ => exact fin S7 fun t7 J7 => ⟨_, _, J7, q6⟩
      | .brk, ⟨σ6, H6, S7, q6⟩ => exact fin S7 fun t7 J7 => ⟨_, _, J7, q6⟩
      | .cont, ⟨σ6, H6, S7, q6⟩ => exact fin S7 fun t7 J7 => ⟨_, _, J7, q6⟩
      | .ret u, ⟨v6, σ6, H6, S7, r6, q6⟩ => exact fin S7 fun t7 J7 => ⟨_, _, _, J7, r6, q6⟩
  refine wpAny_Try_except (wpAny_mono (run.run [] s σ H D (I.toTry _) want) ?_ (fun _ _ z => z))
  intro fl t hsp
  match fl, hsp with
  | .next, ⟨σ1, H1, J1, q1⟩ => exact wpAny_execs_nil ⟨σ1, H1, J1.ofTry okX, q1⟩
  | .brk, ⟨σ1, H1, J1, q1⟩ => exact ⟨σ1, H1, J1.ofTry okX, q1⟩
  | .cont, ⟨σ1, H1, J1, q1⟩ => exact ⟨σ1, H1, J1.ofTry okX, q1⟩
  | .ret u, ⟨v1, σ1, H1, J1, r1, q1⟩ => exact ⟨v1, σ1, H1, J1.ofTry okX, r1, q1⟩
end
end MP
namespace MP
open PySem PySem.Spec L2
section
variable {Γ : Tab} {ν : Nm} {δ : Ad} {X : Cx} {W : WX} {k : Nat} {x n : Str} {c : Value} {i : Nat} {body suite : List Stmt} {b0 : Stmt} {np pos pos1 : Pos} {ss ss1 : List S} {C : String}
theorem js_try (hst : X.stack = X.env :: X.outer) (hfr : X.env.frame = some X.env.locals) (hex : X.ex = []) (hnd : X.N.Nodup) (hix : X.N[i]? = some n) (hlo : X.env.kindOf n = some .local) (hnm : Names X x c) (tk : Takes X W)
    (hT : ∀ c1 ts, Γ.sub.lookup c1 = some ts → PySem.W.exmOne X.K (.ref (ν.ca c1)) c = some (ts.contains C))
    (hbody : ∀ (W : WX) (pn : List (Addr × Obj)) (xe : Value → Shared → Prop), Takes (X.tr pn xe) W → PassesOwn (model X.prog X.w) X.A X.env xe → JSs Γ ν δ (X.tr pn xe) W k body ss)
    (hsuite : ∀ (a : Addr) (pn : List (Addr × Obj)), JSs Γ ν δ (X.suite a pn) (fun _ _ _ _ => False) k (b0 :: suite) ss1) :
    JS Γ ν δ X W k (.Try body [.ExceptHandler (some (.Name x np)) (some n) (b0 :: suite) pos1] [] [] pos) (.try_ ss C i ss1) := js_of fun m hS => by
  refine PS.of (ps_try_keep (Wout := W) (tb := fun W => tMS ν X.K W fun ρ => seqS ((ev Γ m).s k) ss ρ) (ts := tMS ν X.K (fun _ _ _ _ => False) fun ρ => seqS ((ev Γ m).s k) ss1 ρ) hst hfr hex hnd hix hlo hnm tk
    (fun W pn xe t1 t2 => hbody W pn xe t1 t2 m hS.prev) fun a pn => hsuite a pn m hS.prev) fun Dn σ H q => ?_
  obtain ⟨β, h0, ρ, R, Sr, q⟩ := q
  refine ⟨β, h0, ρ, R, Sr, ?_⟩
  have q : PstS ν X.K W Dn H β (match seqS ((ev Γ m).s k) ss ρ h0 with
    | .exc c' v ρ' h' => match Γ.sub.lookup c' with
      | none => .bad
      | some ts => if ts.contains C then match seqS ((ev Γ m).s k) ss1 (ρ'.set i (some (.ref h'.length))) (h' ++ [.exc c' v]) with
        | .ok (.nx ρ2) h2 => .ok (.nx (ρ2.set i none)) h2
        | .ok (.rt d) h2 => .ok (.rt d) h2
        | _ => .bad
        else .exc c' v ρ' h'
    | r => r) := q
  show PstS ν X.K _ Dn H β (seqS ((ev Γ m).s k) ss ρ h0)
  cases er : seqS ((ev Γ m).s k) ss ρ h0 with
  | bad => rw [er] at q; exact q
  | ok fl h1 =>
    rw [er] at q
    cases fl <;> exact q
  | exc c1 v1 ρ1 h1 =>
    rw [er] at q
    dsimp only at q
    intro σ1 v dd H1 β1 e1 R1 S1 r1 hd hn
    cases eL : Γ.sub.lookup c1 with
    | none => rw [eL] at q; exact q.elim
    | some ts =>
      rw [eL] at q
      dsimp only at q
      refine ⟨ts.contains C, ν.ca c1, dd, rfl, rfl, hT c1 ts eL, fun hb a ha => ?_, fun hb => ?_⟩
      · rw [if_pos hb] at q
        have hda : dd ≠ a := ne_of_none hd ha
        obtain ⟨e2, R2⟩ := R1.alloc (u := ExD (ν.ca c1) dd a) (o := .exc c1 v1) ha fun e2 => ⟨dd, v, upd_same, by rw [upd_ne hda]; exact hd, fun hm => by
          rcases List.mem_append.mp hm with z | z
          · exact hn z
          · exact hda (List.mem_singleton.mp z), r1.go e2⟩
        have rp : RelD X.K (upd H1 a (ExD (ν.ca c1) dd a)) (β1 ++ [a]) (.ref a) (.ref h1.length) := .ref (by rw [← R1.len]; simp)
        refine ⟨β1 ++ [a], h1 ++ [.exc c1 v1], ρ1.set i (some (.ref h1.length)), R2, (S1.go e2).set rp i, ?_⟩
        show PstS ν X.K _ _ _ _ (seqS ((ev Γ m).s k) ss1 (ρ1.set i (some (.ref h1.length))) (h1 ++ [.exc c1 v1]))
        cases er2 : seqS ((ev Γ m).s k) ss1 (ρ1.set i (some (.ref h1.length))) (h1 ++ [.exc c1 v1]) with
        | bad => rw [er2] at q; exact q.elim
        | exc _ _ _ _ => rw [er2] at q; exact q.elim
        | ok fl h2 =>
          rw [er2] at q
          cases fl with
          | nx ρ2 => exact fun σ2 H2 β2 e3 R3 S3 => q (σ2.set i none) H2 β2 ((e1.trans e2).trans e3) R3 (S3.unset i)
          | rt d => exact fun v2 H2 β2 e3 R3 r3 => q v2 H2 β2 ((e1.trans e2).trans e3) R3 r3
          | bk _ => exact q.elim
          | ct _ => exact q.elim
      · rw [if_neg (by rw [hb]; exact Bool.false_ne_true)] at q
        exact q σ1 v dd H1 β1 e1 R1 S1 r1 hd hn
end
end MP
/-! # The law's own call, where no repr is under way -/
namespace MP
open PySem PySem.Spec L2 PyProof.Rows
section
variable {P : Program} {w : World} {K : PySem.W.Frag} {mg mb : Str → Option Value} {k : Nat} {fa a : Addr} {fd : FuncData} {x : Str} {sp : Sp} {t : Shared} {vs : List Value} {ns : List Int}
theorem law_core (KX : K.In t.heap) (hns : t.heap.Ns mainGlobals mg) (hbn : t.heap.Ns builtinsNs mb) (hbb : ∀ x : Str, x ≠ "__name__" → mb x = bootBuiltins x) (hlim : t.heap.NoLimit) (hgen : t.gens = #[])
    (hlist : t.heap.get? a = some { cls := .type "list", data := .seq vs.toArray }) (hr : Room k callerA)
    (F : ∀ base : Heap, K.In base → FnG P w K mg base (L2.CX P w) k fa fd [x] sp) (hbind : ∀ (s : Shared) (u : Value), BindsTo s fd ⟨[u], []⟩ [(x, u)])
    (H : Hp) (only : Only H) (want : sp [.ref a] H (fun v _ => v = .bl true) fun _ _ _ => False) (hok : HOk P w H t.heap) (self : ∀ b, H b ≠ none → b = a) (noK : H a ≠ none → K.lookup a = none) :
    codeAny (model P w) callerA (.call (.ref fa) ⟨[.ref a], []⟩) (fun r s' => r = .ok (.ret (.bool true)) ∧ OldK t.heap s'.heap ∧ s'.os = t.os ∧ AllBare s'.gens) t := by
  have stays : ∀ {b : Addr} {o : Obj}, t.heap.get? b = some o → H b = none → (hidT t.heap H).get? b = some o := fun e n => hidT_get e n
  have dictFree : ∀ {b : Addr} {o : Obj} {es : Array DictEntry} {ep : Nat}, t.heap.get? b = some o → o.data = .dict es ep → H b = none := by
    intro b o es ep e d
    cases q : H b with
    | none => rfl
    | some u =>
      obtain rfl : b = a := self b (by rw [q]; exact fun z => nomatch z)
      rw [hlist] at e
      cases e
      have d1 : Data.seq vs.toArray _ = Data.dict es ep := d
      cases d1
  have nsStays : ∀ {b : Addr} {m : Str → Option Value}, t.heap.Ns b m → (hidT t.heap H).Ns b m := by
    intro b m z
    obtain ⟨o, es, ep, e, d, r⟩ := z
    exact ⟨o, es, ep, stays e (dictFree e d), d, r⟩
  have kIn : K.In (hidT t.heap H) := by
    intro b o e
    refine stays (KX b o e) ?_
    cases q : H b with
    | none => rfl
    | some u =>
      obtain rfl : b = a := self b (by rw [q]; exact fun z => nomatch z)
      rw [noK (by rw [q]; exact fun z => nomatch z)] at e
      cases e
  have md : Mod K mg (hidT t.heap H) := by
    obtain ⟨mc, l1, l2⟩ := hlim
    exact ⟨kIn, nsStays hns, ⟨mb, nsStays hbn, hbb⟩, ⟨mc, nsStays l1, l2⟩⟩
  have env0 : Env0 P w K mg (hidT t.heap H) callerA [] t H := ⟨rfl, md, fun b o e => of_hidT e, Nat.le_of_eq (hidT_size _ _), trivial, fun b hb => absurd (show b ∈ ([] : List Addr) from hb) (by simp), hok, .of_eq hgen⟩
  refine codeAny_mono ((F _ kIn).run callerA [] t H ⟨[.ref a], []⟩ [.ref a] [.ref a] _ _ rfl hr env0 (hbind t (.ref a)) (.cons rfl .nil) want) ?_
  intro r s1 h
  match r, h with
  | .error e, h =>
    obtain ⟨_, _, _, _, _, _, _, _, _, _, _, _, z⟩ := (show L2.CX P w [] H t (fun _ _ _ => False) e s1 from h)
    exact z.elim
  | .ok .next, h => exact False.elim h
  | .ok .brk, h => exact False.elim h
  | .ok .cont, h => exact False.elim h
  | .ok (.ret u), h =>
    obtain ⟨v, H1, hos, hbare, un, hok1, rv, ev⟩ := h
    have ev : v = .bl true := ev
    subst ev
    obtain rfl : u = Value.bool true := rv
    refine ⟨rfl, OldK.of_keep ?_, hos, hbare⟩
    intro b o e
    rcases only b with z | ⟨ob, xs, z⟩
    · exact un.keep b o e z (fun y => absurd (show b ∈ ([] : List Addr) from y) (by simp)) (by simp)
    · obtain ⟨e1, _⟩ := hok b _ z
      obtain ⟨e2, _⟩ := hok1 b _ (un.frzs b ob _ z)
      rw [e] at e1
      cases e1
      exact e2
theorem law_callG (KX : K.In t.heap) (hns : t.heap.Ns mainGlobals mg) (hbn : t.heap.Ns builtinsNs mb) (hbb : ∀ x : Str, x ≠ "__name__" → mb x = bootBuiltins x) (hlim : t.heap.NoLimit) (hgen : t.gens = #[])
    (hlist : t.heap.get? a = some { cls := .type "list", data := .seq vs.toArray }) (hi : IntsAre vs ns) (hl : ns.length ≤ sizeLine) (hr : Room k callerA)
    (F : ∀ base : Heap, K.In base → FnG P w K mg base (L2.CX P w) k fa fd [x] sp) (hbind : ∀ (s : Shared) (u : Value), BindsTo s fd ⟨[u], []⟩ [(x, u)])
    (hsp : ∀ H : Hp, LstAt K H [] a (ns.map V.int) → sp [.ref a] H (fun v _ => v = .bl true) fun _ _ _ => False) :
    codeAny (model P w) callerA (.call (.ref fa) ⟨[.ref a], []⟩) (fun r s' => r = .ok (.ret (.bool true)) ∧ OldK t.heap s'.heap ∧ s'.os = t.os ∧ AllBare s'.gens) t := by
  have rv := vals_ints hi
  have lenV := hi.length
  cases hk : K.lookup a with
  | some o =>
    have e := KX a o hk
    rw [hlist] at e
    cases e
    have kl : KL K a (ns.map V.int) := ⟨_, vs.toArray, _, hk, rfl, rfl, rfl, by rw [List.size_toArray, lenV]; exact hl, by simpa using rv⟩
    exact law_core KX hns hbn hbb hlim hgen hlist hr F hbind (fun _ => none) (fun _ => .inl rfl) (hsp _ (.inr kl)) (fun b u z => by cases (show (none : Option HO) = some u from z)) (fun b z => absurd rfl z) fun z => absurd rfl z
  | none =>
    refine law_core KX hns hbn hbb hlim hgen hlist hr F hbind (fun b => if b = a then some (.frz { cls := .type "list", data := .seq vs.toArray } (.lst (ns.map V.int))) else none) (fun b => ?_) (hsp _ (.inl ⟨⟨_, if_pos rfl⟩, List.not_mem_nil⟩)) (fun b u z => ?_) (fun b z => ?_) fun _ => hk
    · by_cases hb : b = a
      · exact .inr ⟨_, _, if_pos hb⟩
      · exact .inl (if_neg hb)
    · by_cases hb : b = a
      · have y := (if_pos hb).symm.trans z
        cases y
        subst hb
        exact ⟨hlist, by rw [List.length_map]; exact hl, vs, _, rv, hlist⟩
      · have y := (if_neg hb).symm.trans z
        cases y
    · by_cases hb : b = a
      · exact hb
      · exact absurd (if_neg hb) z
end
theorem walkG {l : PySem.W.OpenLaw} {n k : Nat} {q : Program} {loose : List Str} {XP : (Str → Option Value) → Heap → Prop} {YP : World → Heap → Prop} {d : DefRec} {K : Params → PySem.W.Frag} {x : Str}
    (hn : l.most = some n) (hn2 : n ≤ sizeLine) (hdf : d.params.defaults = []) (hr : Room k callerA)
    (hY : ∀ (w : World) (h : Heap), YP w h → (K w.params).In h)
    (F : ∀ (w : World) (mg : Str → Option Value) (fa : Addr) (h : Heap), (K w.params).In h → h.Ns mainGlobals mg → mg d.name = some (.ref fa) →
      ∃ (fd : FuncData) (sp : Sp), (∀ (s : Shared) (u : Value), BindsTo s fd ⟨[u], []⟩ [(x, u)]) ∧ (∀ base : Heap, (K w.params).In base → FnG l.prog w (K w.params) mg base (L2.CX l.prog w) k fa fd [x] sp) ∧
        ∀ (H : Hp) (a : Addr) (ns : List Int), ns.length ≤ n → LstAt (K w.params) H [] a (ns.map V.int) → sp [.ref a] H (fun v _ => v = .bl true) fun _ _ _ => False) :
    PySem.W.WalkO q loose XP YP l.row.toRowW d [] (fun f vs => PySem.call f vs) := by
  refine Att.attach_call hn hdf ?_
  intro w s₀ t mg mb fa o pm cd doc a vs ns G Y ho hd hcd hmg hobj hints hlen hg
  obtain ⟨fd, sp, hb, hF, hsp⟩ := F w mg fa _ (hY w _ Y) G.T.g hmg
  exact law_callG (hY w _ Y) G.T.g G.T.b G.T.builtins G.T.nolimit hg hobj hints (Nat.le_trans hlen hn2) hr hF hb fun H hS => hsp H a ns hlen hS
end MP
namespace MP
open PySem PySem.Spec L2
theorem hu64 {k : Nat} {A : Around} (r : Room k A) : A.units + 64 < cLine := by have := r.un; omega
theorem hu65 {k : Nat} {A : Around} (r : Room k A) : A.units + 65 < cLine := by have := r.un; omega
theorem hu66 {k : Nat} {A : Around} (r : Room k A) : A.units + 66 < cLine := by have := r.un; omega
/-- a constant of the module -/
def CstOk (K : PySem.W.Frag) (mg : Str → Option Value) (z : Str) (d : D) : Prop := ∃ (v : V) (u : Value), mg z = some u ∧ RelV v u ∧ ∀ H β, RelD K H β v d
theorem cst_int {K : PySem.W.Frag} {mg : Str → Option Value} {z : Str} {i : Int} {t : Tok} (h : mg z = some (.int i t)) : CstOk K mg z (.int i) := ⟨.int i, _, h, ⟨t, rfl⟩, fun _ _ => .int i⟩
theorem cst_str {K : PySem.W.Frag} {mg : Str → Option Value} {z x : Str} {t : Tok} (h : mg z = some (.str x t)) : CstOk K mg z (.str x) := ⟨.str x, _, h, ⟨t, rfl⟩, fun _ _ => .str x⟩
theorem rel_strs {K : PySem.W.Frag} {H : Hp} {β : List Addr} : ∀ xs : List Str, RelDs K H β (xs.map V.str) (xs.map D.str)
  | [] => .nil
  | x :: xs => .cons (.str x) (rel_strs xs)
theorem cst_strs {K : PySem.W.Frag} {mg : Str → Option Value} {z : Str} {a : Addr} (xs : List Str) (h : mg z = some (.ref a)) (hk : KT K a (xs.map V.str)) : CstOk K mg z (.tup (xs.map D.str)) := ⟨.ref a, _, h, rfl, fun _ _ => .tup (.inr hk) (rel_strs xs)⟩
section
variable {Γ : Tab} {ν : Nm} {δ : Ad} {X : Cx} {W : WX} {k : Nat} {pos apos : Pos}
theorem je_gC {z : Str} {d : D} (h : CstOk X.K X.mg z d) (hc : Γ.cs.lookup z = some d := by rfl) (hg : Gl X z := by rfl) (hd : (z == ("__debug__" : Str)) = false := by decide) : JE Γ ν δ X W k (.Name z pos) (.g z) := by
  obtain ⟨v, u, h1, h2, h3⟩ := h
  exact je_g hc h1 h2 h3 hg hd
theorem js_setL {oo i e : Expr} {xo xi xe : E} (ho : JE Γ ν δ X W k oo xo) (hi : JE Γ ν δ X W k i xi) (he : JE Γ ν δ X W k e xe)
    (ha : ∀ v, assign (.Subscript oo i apos) X.env v = (do
      let ov ← holding [v] (eval oo X.env)
      let iv ← holding [v, ov] (eval i X.env)
      standAt apos
      holding [v, ov, iv] (setItem ov iv v)
      release [v, ov, iv] []) := by intro _; rfl)
    (hs : swapsWithSole [.Subscript oo i apos] e pos.line X.env = pure false := by rfl) (hw : swappedStores [.Subscript oo i apos] e X.env = pure none := by rfl) (h1 : (assignEach [.Subscript oo i apos] X.env).map (·.2) = [assign (.Subscript oo i apos) X.env] := by rfl) :
    JS Γ ν δ X W k (.Assign [.Subscript oo i apos] e pos) (.setix xo xi xe) :=
  js_set ho hi he fun n hS => ps_asg (he n hS) (pg_sub (ho n hS) (hi n hS) set_list ha) hs hw h1
/-- a, b = (x, y) where the pair is made first (constants) -/
theorem js_parC (i j : Nat) {a b : Expr} {xa xb : E} {z y : Str} {pz py pt pt2 : Pos} {kt k2 : Nat} (hc : X.calm = true) (hN : X.N.Nodup) (ha : JE Γ ν δ X W k a xa) (hb : JE Γ ν δ X W k b xb)
    (hg : PG X (.Tuple [.Name z pz, .Name y py] kt pt) (gTup X.K 2 (gCons (gName i) (gCons (gName j) gNil)))) (hs1 : starEach [a, b] X.env = (false, eval a X.env) :: starEach [b] X.env := by rfl) (hs2 : starEach [b] X.env = (false, eval b X.env) :: starEach [] X.env := by rfl)
    (hso : swapsWithSole [.Tuple [.Name z pz, .Name y py] kt pt] (.Tuple [a, b] k2 pt2) pos.line X.env = pure false := by rfl) (hw : swappedStores [.Tuple [.Name z pz, .Name y py] kt pt] (.Tuple [a, b] k2 pt2) X.env = pure none := by rfl)
    (h1 : (assignEach [.Tuple [.Name z pz, .Name y py] kt pt] X.env).map (·.2) = [assign (.Tuple [.Name z pz, .Name y py] kt pt) X.env] := by rfl) :
    JS Γ ν δ X W k (.Assign [.Tuple [.Name z pz, .Name y py] kt pt] (.Tuple [a, b] k2 pt2) pos) (.par i j xa xb) := js_of fun n hS => by
  refine PS.of (ps_asg (pe_tup (pa_cons (ha n hS.prev) (pa_cons (hb n hS.prev) pa_nil hs2) hs1)) hg hso hw h1) fun D σ H h => ?_
  obtain ⟨β, h0, ρ, R, S, p⟩ := h
  refine lift_then R S p fun v d H1 β1 h1 R1 S1 e1 r1 p1 => ?_
  refine lift_then R1 S1 p1 fun v2 d2 H2 β2 h2 R2 S2 e2 r2 p2 => ⟨by show 2 ≤ sizeLine; decide, fun q hq => ?_⟩
  obtain ⟨e3, R3⟩ := R2.put (o := .tup [v, v2]) hq
  exact ⟨q, [v, v2], rfl, .inl (.inl upd_same), rfl, v, [v2], rfl, v2, [], rfl, rfl, (p2 _ _ β2 e3 R3 (((S2.go e3).set ((r1.go e2).go e3) i).set (r2.go e3) j) : D.nx _ _)⟩
end
/-- nothing is promised at depth 0 -/
theorem fnG_zero {P : Program} {w : World} {K : PySem.W.Frag} {mg : Str → Option Value} {base : Heap} {f : Addr} {fd : FuncData} {ps : List Str} {Γ : Tab} {ν : Nm} {p : Evs} {z : Str} : FnG P w K mg base (L2.CX P w) 0 f fd ps (spF Γ ν K p 0 z) := by
  have no : ∀ vs H Q E, spF Γ ν K p 0 z vs H Q E → False := by
    intro vs H Q E h
    obtain ⟨β, h0, ds, R, r, q⟩ := h
    unfold callF at q
    cases e : Γ.fns.lookup z with
    | none => rw [e] at q; exact q
    | some g => rw [e] at q; exact q
  exact ⟨fun vs H Q E h => (no vs H Q E h).elim, fun A outer s H args us vs Q E _ _ _ _ _ h => (no vs H Q E h).elim⟩
structure Nonempty' (p : Prop) : Prop where
  some : p
theorem lookup_mem {α : Type} {l : List (Str × α)} {z : Str} {a : α} (h : l.lookup z = some a) : Nonempty' ((z, a) ∈ l) := by
  induction l with
  | nil => cases h
  | cons p l ih =>
    obtain ⟨y, b⟩ := p
    by_cases e : (z == y) = true
    · rw [List.lookup, e] at h
      cases h
      rw [beq_iff_eq.mp e]
      exact ⟨List.mem_cons_self⟩
    · rw [List.lookup, Bool.not_eq_true _ |>.mp e] at h
      exact ⟨List.mem_cons_of_mem _ (ih h).some⟩
end MP
namespace MP
open PySem PySem.Spec L2
section
variable {Γ : Tab} {ν : Nm} {δ : Ad} {X : Cx} {W : WX} {k : Nat} {e a b c o : Expr} {es : List Expr} {x xa xb xc xo : E} {xs : List E} {pos apos p kpos : Pos}
/-! ### repr where dicts without anything may stand within -/
mutual
inductive Dq (K : PySem.W.Frag) (H : Hp) : V → PyData → Prop
  | non : Dq K H .non .none
  | bl (b : Bool) : Dq K H (.bl b) (.bool b)
  | int (i : Int) : Dq K H (.int i) (.int i)
  | str (z : Str) : Dq K H (.str z) (.str z)
  | lst {a : Addr} {xs : List V} {ds : List PyData} : H a = some (.lst xs) → Dqs K H xs ds → Dq K H (.ref a) (.list ds)
  | tup {a : Addr} {xs : List V} {ds : List PyData} : SqT K H a xs → Dqs K H xs ds → Dq K H (.ref a) (.tuple ds)
  | dct {a : Addr} : H a = some (.dK []) → Dq K H (.ref a) (.dict [])
inductive Dqs (K : PySem.W.Frag) (H : Hp) : List V → List PyData → Prop
  | nil : Dqs K H [] []
  | cons {v : V} {vs : List V} {d : PyData} {ds : List PyData} : Dq K H v d → Dqs K H vs ds → Dqs K H (v :: vs) (d :: ds)
end
section
variable {pins : List (Addr × Obj)} {σ : L2.St} {H : Hp} {s : Shared}
mutual
theorem Dq.reads (I : Inv X pins σ H s) (hS : ∃ mm, X.base.Ns sysModules mm) : ∀ (d : PyData) (v : V) (u : Value), Dq X.K H v d → RelV v u → ∃ as, Reads s.heap u d as ∧ sysModules ∉ as
  | .none, _, u, .non, r => by
    obtain rfl : u = Value.none := r
    exact ⟨[], .none, by simp⟩
  | .bool _, _, u, .bl b, r => by
    obtain rfl : u = Value.bool b := r
    exact ⟨[], .bool b, by simp⟩
  | .int _, _, u, .int i, r => by
    obtain ⟨t, rfl⟩ := r
    exact ⟨[], .int i t, by simp⟩
  | .str _, _, u, .str z, r => by
    obtain ⟨t, rfl⟩ := r
    exact ⟨[], .str z t, by simp⟩
  | .list ds, _, u, .lst (a := a) (xs := vs) hq h, r => by
    obtain rfl : u = Value.ref a := r
    obtain ⟨_, its, n, rv, hg⟩ := I.hok a _ hq
    obtain ⟨as, ra, na⟩ := Dqs.reads I hS ds vs its h rv
    refine ⟨a :: as, .list (vs := its.toArray) hg rfl rfl (by simpa using ra), fun z => ?_⟩
    rcases List.mem_cons.mp z with z | z
    · obtain ⟨mm, ob, es, ep, e, hd, _⟩ := hS
      have e := I.bk _ _ e
      rw [z, hg] at e
      cases e
      cases hd
    · exact na z
  | .tuple ds, _, u, .tup (a := a) (xs := vs) hq h, r => by
    obtain rfl : u = Value.ref a := r
    obtain ⟨its, rv, ht, _⟩ := I.tuple hq
    obtain ⟨ob, hg, hc, n, hd⟩ := ht
    obtain ⟨as, ra, na⟩ := Dqs.reads I hS ds vs its h rv
    exact ⟨as, .tuple hg hc hd (by simpa using ra), na⟩
  | .dict _, _, u, .dct (a := a) hq, r => by
    obtain rfl : u = Value.ref a := r
    obtain ⟨_, hn, vs, kv, ob, en, ep, hg, hx, hd, hk, hp, _⟩ := dk_of I.hok hq
    cases kv
    have e0 : en.toList = [] := by
      have z := hp.length
      simpa using z
    refine ⟨[a] ++ [], .dict (kvs := []) (as := []) (bs := []) hg hx.1 hd (by rw [e0]; exact .nil) (by rw [e0]; exact .nil), fun z => ?_⟩
    have z : sysModules ∈ [a] := by simpa using z
    rw [List.mem_singleton.mp z] at hn
    simp at hn
theorem Dqs.reads (I : Inv X pins σ H s) (hS : ∃ mm, X.base.Ns sysModules mm) : ∀ (ds : List PyData) (vs : List V) (us : List Value), Dqs X.K H vs ds → Vals vs us → ∃ as, ReadsAll s.heap us ds as ∧ sysModules ∉ as
  | [], _, _, .nil, .nil => ⟨[], .nil, by simp⟩
  | d :: ds, _, _, .cons h hs, .cons r rs => by
    obtain ⟨as, ra, na⟩ := Dq.reads I hS d _ _ h r
    obtain ⟨bs, rb, nb⟩ := Dqs.reads I hS ds _ _ hs rs
    exact ⟨as ++ bs, .cons ra rb, fun z => by
      rcases List.mem_append.mp z with z | z
      · exact na z
      · exact nb z⟩
end
end
def rReprD (K : PySem.W.Frag) : List V → Hp → VK → Prop := fun vs H Q => ∃ a d, vs = [.ref a] ∧ Dq K H (.ref a) d ∧ d.showable = true ∧ d.depth ≤ 64 ∧ d.shown.length ≤ sizeLine ∧ Q (.str d.shown) H
theorem call_reprD (hS : ∃ mm, X.base.Ns sysModules mm) (hg : X.A.guards = some []) (hu : X.A.units + 66 < cLine) : CallR X (.builtin "repr") (rReprD X.K) := by
  intro pins s σ H vs us Q I r h
  obtain ⟨a, d, rfl, hd, hs, hz, hl, q⟩ := h
  cases r with
  | cons r1 rn =>
    cases rn
    rename_i u
    cases (show u = Value.ref a from r1)
    obtain ⟨as, hr, na⟩ := Dq.reads I hS d (.ref a) (.ref a) hd rfl
    exact repr_of_reads' hr hs (fun _ => na) hg (by omega) (fun _ _ z => z) (fun h' u tk hk => ⟨.str d.shown, H, I.kept hk, ⟨u, rfl⟩, q⟩) hl
mutual
theorem pdr_ok {K : PySem.W.Frag} {H : Hp} {β : List Addr} {h : Ob} (R : HRel ν K H β h) : ∀ (n : Nat) (d : D) (q : PyData) (v : V), pdr h n d = some q → RelD K H β v d → Dq K H v q
  | n, .non, q, v, e, r => by
    unfold pdr at e
    cases e
    cases r
    exact .non
  | n, .bl b, q, v, e, r => by
    unfold pdr at e
    cases e
    cases r
    exact .bl b
  | n, .int i, q, v, e, r => by
    unfold pdr at e
    cases e
    cases r
    exact .int i
  | n, .str z, q, v, e, r => by
    unfold pdr at e
    cases e
    cases r
    exact .str z
  | 0, .tup ds, q, v, e, r => by unfold pdr at e; cases e
  | n + 1, .tup ds, q, v, e, r => by
    unfold pdr at e
    cases q2 : pdAll (pdr h n) ds with
    | none => rw [q2] at e; cases e
    | some qs =>
      rw [q2] at e
      cases e
      cases r with
      | tup t rs => exact .tup t.sq (pdrs_ok R n ds qs _ q2 rs)
  | n, .fl ds, q, v, e, r => by cases n <;> (unfold pdr at e; cases e)
  | n, .ty _, q, v, e, r => by cases n <;> (unfold pdr at e; cases e)
  | 0, .ref l, q, v, e, r => by unfold pdr at e; cases e
  | n + 1, .ref l, q, v, e, r => by
    unfold pdr at e
    cases q3 : h[l]? with
    | none => rw [q3] at e; cases e
    | some ob =>
      rw [q3] at e
      cases ob with
      | lst ds =>
        dsimp only at e
        cases q2 : pdAll (pdr h n) ds with
        | none => rw [q2] at e; cases e
        | some qs =>
          rw [q2] at e
          cases e
          obtain ⟨a1, rfl, _, vs, ea, rs⟩ := hget R r q3
          exact .lst ea (pdrs_ok R n ds qs _ q2 rs)
      | dct kvs =>
        cases kvs with
        | nil =>
          cases e
          obtain ⟨a1, rfl, _, ys, ea, k1, rs⟩ := hget R r q3
          cases ys with
          | nil => exact .dct ea
          | cons y ys => cases k1
        | cons kv kvs => cases e
      | exc _ _ => cases e
theorem pdrs_ok {K : PySem.W.Frag} {H : Hp} {β : List Addr} {h : Ob} (R : HRel ν K H β h) : ∀ (n : Nat) (ds : List D) (qs : List PyData) (vs : List V), pdAll (pdr h n) ds = some qs → RelDs K H β vs ds → Dqs K H vs qs
  | n, [], qs, vs, e, r => by
    unfold pdAll at e
    cases e
    cases r
    exact .nil
  | n, d :: ds, qs, vs, e, r => by
    unfold pdAll at e
    cases q1 : pdr h n d with
    | none => rw [q1] at e; cases e
    | some y =>
      rw [q1] at e
      dsimp only at e
      cases q2 : pdAll (pdr h n) ds with
      | none => rw [q2] at e; cases e
      | some ys =>
        rw [q2] at e
        cases e
        cases r with
        | cons r1 r2 => exact .cons (pdr_ok R n d y _ q1 r1) (pdrs_ok R n ds ys _ q2 r2)
end
/-- one argument, evaluated -/
theorem tMA1 {f : E → Env' → M D} {K : PySem.W.Frag} {σ : L2.St} {H : Hp} {β : List Addr} {h : Ob} {ρ : Env'} {γ : Type} {Qd : γ → Hp → List Addr → Prop} {kk : D → M γ} {Q : List V → Hp → Prop} (R : HRel ν K H β h) (S : SRel K H β σ ρ) (p : Pst ν K W σ H β Qd (M.bind (f x ρ) kk h))
    (q : ∀ v d H' β' h', HRel ν K H' β' h' → SRel K H' β' σ ρ → Ext H β H' β' → RelD K H' β' v d → Pst ν K W σ H' β' Qd (kk d h') → Q [v] H') : tMA ν K W (fun ρ => mapM' (fun e => f e ρ) [x]) σ H Q := by
  have ez : mapM' (fun e => f e ρ) [x] h = M.bind (f x ρ) (fun d => M.ret [d]) h := by
    unfold mapM' mapM' M.bind M.ret
    cases f x ρ h <;> rfl
  refine ⟨β, h, ρ, R, S, ?_⟩
  show Pst ν K W σ H β (qA K Q) (mapM' (fun e => f e ρ) [x] h)
  rw [ez]
  unfold M.bind at p ⊢
  cases er : f x ρ h with
  | ok d h1 =>
    rw [er] at p
    intro H1 β1 e1 R1 vs rv
    cases rv with
    | cons r1 r2 =>
      cases r2
      exact q _ d H1 β1 h1 R1 (S.go e1) e1 r1 (p.go e1)
  | exc c d h1 => rw [er] at p; exact p
  | bad => rw [er] at p; exact p
theorem je_reprD (sy : ∃ mm, X.base.Ns sysModules mm) (gu : X.A.guards = some []) (hu : X.A.units + 66 < cLine) (hm : X.mg "repr" = none) (ha : JA Γ ν δ X W k [e] [x])
    (hg : Gl X "repr" := by rfl) (he : starEach [e] X.env = (false, eval e X.env) :: starEach [] X.env := by rfl) (hpl : (backTo pos (starEach [] X.env)).any (·.1) = false := by rfl) :
    JE Γ ν δ X W k (.Call (.Name "repr" p) [e] [] pos) (.reprD x) := je_of fun n hS => by
  refine PE.of (pe_callB (call_reprD sy gu hu) hg hm (by decide +kernel) (ha n hS.prev) (by decide) (by decide) he hpl) fun σ H Q h => ?_
  obtain ⟨β, h0, ρ, R, S, q⟩ := h
  refine tMA1 (f := fun e ρ => (ev Γ n).e k e ρ) R S q fun v d H1 β1 h1 R1 S1 e1 rd p1 => ?_
  have p1 : Pst ν X.K W σ H1 β1 (qE X.K Q) (match pdr h1 40 d with | some q => (if isSeq d && q.showable && decide (q.depth ≤ 64) && decide (q.shown.length ≤ 100000) then .ok (.str q.shown) h1 else .bad) | none => .bad) := p1
  cases q2 : pdr h1 40 d with
  | none => rw [q2] at p1; exact p1.elim
  | some pp =>
    rw [q2] at p1
    dsimp only at p1
    split at p1
    · rename_i hc
      simp only [Bool.and_eq_true, decide_eq_true_eq] at hc
      obtain ⟨⟨⟨h1', h2⟩, h3⟩, h4⟩ := hc
      have hd := pdr_ok R1 40 d pp v q2 rd
      have fin : ∀ a, v = .ref a → ∃ a d, [v] = [V.ref a] ∧ Dq X.K H1 (.ref a) d ∧ d.showable = true ∧ d.depth ≤ 64 ∧ d.shown.length ≤ sizeLine ∧ Q (.str d.shown) H1 := fun a e => ⟨a, pp, by rw [e], by rw [← e]; exact hd, h2, h3, sz h4, (p1.here R1 : qE X.K Q _ H1 β1) _ (.str _)⟩
      cases rd with
      | tup _ _ => exact fin _ rfl
      | fl _ _ => exact fin _ rfl
      | ref _ => exact fin _ rfl
      | _ => cases h1'
    · exact p1.elim
/-! ### f'{a}..{b}' of texts -/
theorem je_fmt3 {z : Str} {j : Nat} {q1 q2 q3 : Pos} (ha : JE Γ ν δ X W k a xa) (hb : JE Γ ν δ X W k b xb) : JE Γ ν δ X W k (.JoinedStr [.FormattedValue a (-1) none q1, .Constant (.str z) j q2, .FormattedValue b (-1) none q3] pos) (.fmt3 xa z xb) := je_of fun n hS => by
  refine PE.of (pe_joined (.cons (pe_fmt (ha n hS.prev)) (.cons pe_str (.cons (pe_fmt (hb n hS.prev)) .nil)))) fun σ H Q h => ?_
  obtain ⟨β, h0, ρ, R, S, q⟩ := h
  refine tM_then R S q fun v d H1 β1 h1 R1 S1 e1 r1 p1 => ?_
  have nil_app : ∀ u : Str, Str.empty ++ u = u := fun u => TL.ext_tl (by rw [TL.tl_append]; rfl)
  have len_app : ∀ u v : Str, (u ++ v).length = u.length + v.length := fun u v => by rw [TL.len_tl, TL.tl_append, List.length_append, ← TL.len_tl, ← TL.len_tl]
  cases d with
  | str u =>
    cases r1
    have p1 : Pst ν X.K W σ H1 β1 (qE X.K Q) ((if u.length + z.length ≤ 50000 then M.bind ((ev Γ n).e k xb ρ) (fun y h => match y with
      | .str v => (if v.length ≤ 50000 then .ok (.str (u ++ z ++ v)) h else .bad)
      | _ => .bad) else M.fail) h1) := p1
    by_cases hz : u.length + z.length ≤ 50000
    · rw [if_pos hz] at p1
      refine .inl ⟨u, rfl, sz (by omega), u, rfl, by rw [nil_app]; exact sz (by omega), ?_⟩
      show ∃ y : Str, V.str z = V.str y ∧ _ ∧ _
      refine ⟨z, rfl, by rw [nil_app, len_app]; exact sz (by omega), ?_⟩
      refine tM_then R1 S1 p1 fun v2 d2 H2 β2 h2 R2 S2 e2 r2 p2 => ?_
      cases d2 with
      | str v3 =>
        cases r2
        have p2 : Pst ν X.K W σ H2 β2 (qE X.K Q) (if v3.length ≤ 50000 then .ok (.str (u ++ z ++ v3)) h2 else .bad) := p2
        by_cases hv : v3.length ≤ 50000
        · rw [if_pos hv] at p2
          refine .inl ⟨v3, rfl, sz (by omega), v3, rfl, by rw [nil_app, len_app, len_app]; exact sz (by omega), ?_⟩
          rw [nil_app]
          exact (p2.here R2 : qE X.K Q _ H2 β2) _ (.str _)
        · rw [if_neg hv] at p2
          exact p2.elim
      | _ => exact p2.elim
    · rw [if_neg hz] at p1
      exact p1.elim
  | _ => exact p1.elim
/-! ### f(x = e) -/
theorem je_callW {z y : Str} {fn : Fn} (hf : Γ.fns.lookup z = some fn) (hm : X.mg z = some (.ref (δ.fa z))) (hk : PySem.W.keepIn X.K (.ref (δ.fa z)) = true) (bd : ∀ (s : Shared) (u : Value), X.K.In s.heap → BindsTo s (δ.fd z) ⟨[], [(y, u)]⟩ ((δ.ps z).zip [u])) (hp : (δ.ps z).length = 1) (gu : X.A.guards = some []) (room : Room k X.A) (tk : Takes X W) (ha : JE Γ ν δ X W k e x)
    (hg : Gl X z := by rfl) (hdb : (z == ("__debug__" : Str)) = false := by decide) (hall : (backToKw pos (keywordEach [⟨some y, e, kpos⟩] X.env)).all (·.1.isSome) = true := by rfl) (hks : (backToKw pos (keywordEach [⟨some y, e, kpos⟩] X.env)).filterMap (·.1) = [y] := by rfl)
    (hpl : ((backTo pos (starEach [] X.env)).any (·.1) || (backToKw pos (keywordEach [⟨some y, e, kpos⟩] X.env)).any (·.1.isNone)) = false := by rfl) :
    JE Γ ν δ X W k (.Call (.Name z p) [] [⟨some y, e, kpos⟩] pos) (.call z [x]) := je_of fun n hS => by
  refine ⟨fun pins s σ H Q I h => ?_⟩
  obtain ⟨β, h0, ρ, R, S, q⟩ := h
  have args : tM ν X.K W (fun ρ => (ev Γ n).e k x ρ) σ H fun v H1 => spF Γ ν X.K (ev Γ n) k z [v] H1 Q (WE W σ) := by
    have q2 : Pst ν X.K W σ H β (qE X.K Q) (M.bind ((ev Γ n).e k x ρ) (fun d => callF Γ (ev Γ n) k z [d]) h0) := by
      have z0 : M.bind (mapM' (fun e => (ev Γ n).e k e ρ) [x]) (fun ds => callF Γ (ev Γ n) k z ds) h0 = M.bind ((ev Γ n).e k x ρ) (fun d => callF Γ (ev Γ n) k z [d]) h0 := by
        unfold mapM' mapM' M.bind M.ret
        cases (ev Γ n).e k x ρ h0 <;> rfl
      rw [← z0]
      exact q
    exact tM_then R S q2 fun v d H1 β1 h1 R1 S1 e1 r1 p1 => ⟨β1, h1, [d], R1, .cons r1 .nil, Pst.re (fun _ _ _ w => w) p1⟩
  refine wpAny_Call_Name_kw (ld_glob I hg hm ?_ hdb)
  refine PySem.W.callWith_KW0 (h₀ := X.base) I.ok.mod.kin hk hall ?_ hpl
  have hkw : PK X [⟨some y, e, kpos⟩] (tCons (tM ν X.K W fun ρ => (ev Γ n).e k x ρ) tNil) := pk_cons (ha n hS.prev) pk_nil
  refine thn (hkw.run pos pins s σ H (fun zs H1 => ∃ v, zs = [v] ∧ spF Γ ν X.K (ev Γ n) k z [v] H1 Q (WE W σ)) I ?_) fun ws s2 hh => ?_
  · obtain ⟨β', h', ρ', R', S', q'⟩ := args
    exact ⟨β', h', ρ', R', S', q'.imp fun d H1 β1 hq v rv => ⟨v, rfl, hq v rv⟩⟩
  · obtain ⟨zs, H2, I2, rz, v, rfl, want⟩ := hh
    cases rz with
    | cons r1 rn =>
      cases rn
      rename_i u
      rw [hks]
      refine ⟨I2.kIn, ?_⟩
      have F := hS n (Nat.lt_succ_self n) k (Nat.le_refl k) z fn hf
      have go := F.run X.A X.stack s2 H2 ⟨[], [(y, u)]⟩ [u] [v] Q (WE W σ) gu room I2.env0 (bd s2 u I2.kIn) (.cons r1 .nil) want
      refine wpAny_call (codeAny_mono go ?_)
      intro res s' hq
      match res, hq with
      | .error err, hq => exact passAt tk σ pins H2 s2 err s' I2 hq
      | .ok (.ret u), hq => exact I2.after hq
      | .ok .next, hq => exact hq.elim
      | .ok .brk, hq => exact hq.elim
      | .ok .cont, hq => exact hq.elim
end
end MP
namespace MP
open PySem PySem.Spec L2 PyProof.Rows
/-! ### a lambda handed to a def that calls it in a try; no repr is under way -/
section
variable {X : Cx} {pins : List (Addr × Obj)} {σ : L2.St} {H : Hp} {s : Shared}
/-- the lambda called by the def that got it -/
theorem act_of {CXg : CXT} {Eg : XK} {Ng : List Str} {qg a0 : Str} {sg scope : Scope} {g f c1 : Addr} {cdg pm ctv : Value} {params : Arguments} {body : Expr} {k i : Nat} {pn : List (Addr × Obj)} {xe : Value → Shared → Prop} {W : WX} {tb : XK → TE} {p1 p2 : Pos}
    (J : Inv X pins σ H s) (L : LamX.LamS X.env.scope scope) (gf : s.heap.get? f = some (PySem.W.kla_obj "<lambda>" (X.env.qual ++ "<lambda>") params body scope (cloFrom X.env.cells scope.names []) pm c1 ctv)) (nf : H f = none) (of : f ∉ frs X.stack)
    (bnd : bindArgs (PySem.W.kla_fn "<lambda>" (X.env.qual ++ "<lambda>") params body scope (cloFrom X.env.cells scope.names []) pm (.ref c1) ctv) ⟨[], []⟩ = pure []) (gu : X.A.guards = some [])
    (tk : Takes ((cxOf CXg X.prog X.w X.K X.mg X.base Ng qg sg g cdg X.A X.stack s H Eg).tr pn xe) W) (room : Room (k + 1) (X.A.deeper (envOfC qg sg s.heap.objs.size g cdg)))
    (inner : ∀ (A : Around) (outer : List Env) (s : Shared) (H : Hp) (E : XK), A.guards = some [] → Room k (A.deeper (LamX.lamEnv X scope s.heap.objs.size f c1)) → PE (LamX.lamCx X A outer s H E scope f c1) body (tb E))
    (hN : Ng[i]? = some a0) (hv : Vis sg a0) (hd : (a0 == ("__debug__" : Str)) = false) (hcd : (a0 == ("__classdict__" : Str)) = false) :
    PE ((cxOf CXg X.prog X.w X.K X.mg X.base Ng qg sg g cdg X.A X.stack s H Eg).tr pn xe) (.Call (.Name a0 p1) [] [] p2) (fun σZ HZ Q => σZ[i]? = some (some (.ref f)) ∧ HZ c1 = some (LamX.CodeO c1 (X.env.qual ++ "<lambda>")) ∧ tb (WE W σZ) σ HZ Q) := by
  refine ⟨fun pinsZ sZ σZ HZ Q JZ want => ?_⟩
  obtain ⟨slot, code, read⟩ := want
  refine wpAny_Call_Name_kw ?_
  refine thn ((pe_var (pos := p1) (i := i) hN hv hd hcd).run pinsZ sZ σZ HZ (fun v H1 => v = .ref f ∧ H1 = HZ) JZ ⟨.ref f, slot, rfl, rfl⟩) ?_
  rintro u t1 ⟨v, H1, J1, r1, rfl, rfl⟩
  obtain rfl : u = Value.ref f := r1
  have gf1 := J1.base.keep f _ gf nf of (by intro z; cases z)
  refine PySem.W.callWith_F0 ⟨_, _, _, _, gf1⟩ ?_
  obtain ⟨⟨oc, vs, t, hoc, hdc, hvc⟩, _, _⟩ := J1.hok c1 _ code
  have ran : codeAny (model X.prog X.w) (X.A.deeper (envOfC qg sg s.heap.objs.size g cdg)) (.call (.ref f) ⟨[], []⟩) (CR (L2.CX X.prog X.w) (envOfC qg sg s.heap.objs.size g cdg :: X.stack) X.prog X.w H1 t1 Q (WE W σZ)) t1 := by
    refine PySem.W.kla_callFunE room.depth gf1 rfl L.co L.gen rfl ⟨c1, oc, vs, t, rfl, hoc, hdc, hvc⟩ ?_
    rw [bnd]
    refine wpAny_pure (wpAny_newFunctionEnv (fun y hy => (L.own y hy).2) (fun y hy => absurd hy (by simp)) ?_ L.kind)
    intro h1 hns hsb
    refine ⟨J1.nolimit.fresh _ hsb, ?_⟩
    have stays : ∀ b o, t1.heap.get? b = some o → h1.get? b = some o := by
      intro b o e
      exact hsb.extBut b o (Nat.ne_of_lt (Heap.lt_size e)) (Heap.get?_push_of_some _ e)
    have J2 := LamX.lam_start2 (E := WE W σZ) (f := f) (c' := c1) (tk := t1.toks + ([] : List (Str × Value)).length) J L J1.env0 room.hd J1.base hns stays
    have go := (inner (X.A.deeper (envOfC qg sg s.heap.objs.size g cdg)) (envOfC qg sg s.heap.objs.size g cdg :: X.stack) t1 H1 (WE W σZ) gu (room.deeper _)).run [] _ _ H1 Q J2 read
    refine PySem.W.kla_codeExpr (wpAny_mono go ?_ fun _ _ z => z)
    rintro v s2 ⟨w2, H2, J3, rv, q⟩
    exact ⟨w2, H2, J3.os, J3.bare, J3.base, J3.hok, rv, q⟩
  refine wpAny_call (codeAny_mono ran ?_)
  intro r s2 hq
  match r, hq with
  | .error e, hq => exact passAt tk σZ pinsZ _ t1 e s2 J1 hq
  | .ok (.ret u), hq => exact J1.after hq
  | .ok .next, hq => exact hq.elim
  | .ok .brk, hq => exact hq.elim
  | .ok .cont, hq => exact hq.elim
/-- the def that calls what it got: a0 calls it; TT: what it makes of the lambda's reading -/
def Gives (X : Cx) (Ng : List Str) (z : Str) (sg : Scope) (g : Addr) (cdg : Value) (bg : List Stmt) (a0 q : Str) (TT : (XK → Hp → VK → Prop) → Hp → VK → Prop) : Prop :=
  ∀ (f c1 : Addr) (s : Shared) (H : Hp) (Q : VK) (tl : XK → Hp → VK → Prop),
    (∀ (W : WX) (pn : List (Addr × Obj)) (xe : Value → Shared → Prop) (p1 p2 : Pos), Takes ((cxOf C8.CX0 X.prog X.w X.K X.mg X.base Ng z sg g cdg X.A X.stack s H C8.E0).tr pn xe) W →
      PE ((cxOf C8.CX0 X.prog X.w X.K X.mg X.base Ng z sg g cdg X.A X.stack s H C8.E0).tr pn xe) (.Call (.Name a0 p1) [] [] p2) (fun σZ HZ Q => σZ[0]? = some (some (.ref f)) ∧ HZ c1 = some (LamX.CodeO c1 q) ∧ tl (WE W σZ) HZ Q)) →
    H c1 = some (LamX.CodeO c1 q) → TT tl H Q →
    ∃ t, PSs (cxOf C8.CX0 X.prog X.w X.K X.mg X.base Ng z sg g cdg X.A X.stack s H C8.E0).nox bg t ∧ t { nx := fun _ H' => Q .non H', rt := Q } (L2.start Ng [.ref f]) H
/-- z(lambda: body) -/
theorem lam_of {T : List (Addr × Str)} {TT : (XK → Hp → VK → Prop) → Hp → VK → Prop} {z a0 : Str} {g c P : Addr} {k : Nat} {pg params : Arguments} {bg : List Stmt} {sg scope : Scope} {dV kV doc pm cdv ct oc : Value} {an od : Option Addr} {osl : Array (Option Value)} {Ng : List Str} {body : Expr} {t : XK → TE} {p lpos pos : Pos}
    (hg : Gl X z) (hm : X.mg z = some (.ref g)) (hk : PySem.W.keepIn X.K (.ref g) = true) (lk : X.K.lookup g = some ⟨oc, od, .func (PySem.W.fnOf z z pg bg sg dV kV doc pm an cdv ct), osl⟩) (code : PySem.W.codeIn X.K cdv z = true)
    (bd : L2.Binds X.K (PySem.W.fnOf z z pg bg sg dV kV doc pm an cdv ct) [a0] []) (sc : FnScope Ng [a0] sg) (hN : Ng[0]? = some a0) (hv : Vis sg a0) (gives : Gives X Ng z sg g cdv bg a0 (X.env.qual ++ "<lambda>") TT) (gu : X.A.guards = some [])
    (tab : LamX.TabB X.base X.mg c P) (own : X.env.code = .ref c) (isT : (P, X.env.qual ++ "<lambda>") ∈ T) (one : ∀ q ∈ T, q.1 = P → q.2 = X.env.qual ++ "<lambda>") (room : Room (k + 2) X.A) (L : LamX.LamS X.env.scope scope) (nod : defaultsOf params X.env = ([], []))
    (bnd : ∀ (q : Str) (cl : List (Str × Addr)) (pm cv ctv : Value), bindArgs (PySem.W.kla_fn "<lambda>" q params body scope cl pm cv ctv) ⟨[], []⟩ = pure [])
    (inner : ∀ (A : Around) (outer : List Env) (s : Shared) (H : Hp) (E : XK) (f c1 : Addr), A.guards = some [] → Room k (A.deeper (LamX.lamEnv X scope s.heap.objs.size f c1)) → PE (LamX.lamCx X A outer s H E scope f c1) body (t E))
    (hdb : (z == ("__debug__" : Str)) = false) (hd : (a0 == ("__debug__" : Str)) = false) (hcd : (a0 == ("__classdict__" : Str)) = false) :
    PE X (.Call (.Name z p) [.Lambda params body scope lpos] [] pos) (LamX.tLam T TT t) := by
  refine ⟨fun pins s σ H Q J want => ?_⟩
  obtain ⟨tabs, want⟩ := want
  refine wpAny_Call_Name_kw (ld_glob J hg hm ?_ hdb)
  refine PySem.W.callWith_K (h₀ := X.base) J.ok.mod.kin hk ?_ (by rfl) (by rfl)
  show wpAny _ _ (spliced ((false, eval (.Lambda params body scope lpos) X.env) :: backTo pos (starEach [] X.env))) _ _ s
  refine Calls.spliced_cons (LamX.lam_make2 J tab own isT one tabs nod (L.has J.ok) ?_)
  intro f c1 pm1 ctv H1 t1 J1 eN T1 gf nf of hco
  refine Calls.spliced_nil ⟨J1.kIn, ?_⟩
  have ran : codeAny (model X.prog X.w) X.A (.call (.ref g) ⟨[.ref f], []⟩) (CR C8.CX0 X.stack X.prog X.w H1 t1 Q C8.E0) t1 := by
    refine LamX.run_ofS (N := Ng) (ps := [a0]) (us := [.ref f]) (vs := [.ref f]) lk code sc room J1.env0 (bd t1 [.ref f] J1.kIn rfl) (.cons rfl .nil) rfl ?_
    intro room1
    obtain ⟨t2, h2, q2⟩ := gives f c1 t1 H1 Q (fun E H' Q' => t E σ H' Q') (fun W pn xe p1 p2 tk => act_of (i := 0) J1 L gf nf of (bnd _ _ _ _ _) gu tk room1 (fun A outer s H E g1 r1 => inner A outer s H E f c1 g1 r1) hN hv hd hcd) hco (want H1 eN T1)
    exact ⟨t2, h2.nox, q2⟩
  refine wpAny_call (codeAny_mono ran ?_)
  intro r s2 hq
  match r, hq with
  | .error e, hq => exact (show False from hq).elim
  | .ok (.ret u), hq => exact J1.after hq
  | .ok .next, hq => exact hq.elim
  | .ok .brk, hq => exact hq.elim
  | .ok .cont, hq => exact hq.elim
end
end MP
namespace MP
open PySem PySem.Spec L2 PyProof.Rows
/-- the context of the def that got the lambda -/
abbrev Zh (X : Cx) (Ng : List Str) (z : Str) (sg : Scope) (g : Addr) (cdv : Value) (s : Shared) (H : Hp) : Cx := (cxOf C8.CX0 X.prog X.w X.K X.mg X.base Ng z sg g cdv X.A X.stack s H C8.E0).nox
def tPairN (ia ib : Nat) : TS := fun D σ H => ∀ q, H q = none → D.nx ((σ.set ia (some .non)).set ib (some .non)) (upd H q (.tup [.non, .non]))
section
variable {X : Cx} {pos : Pos}
/-- a, b = (None, None) -/
theorem ps_pairN (i j : Nat) {z y : Str} {pz py pt pt2 p4 p5 : Pos} {kt k2 j1 j2 : Nat} (hg : PG X (.Tuple [.Name z pz, .Name y py] kt pt) (gTup X.K 2 (gCons (gName i) (gCons (gName j) gNil))))
    (hs1 : starEach [.Constant .none j1 p4, .Constant .none j2 p5] X.env = (false, eval (.Constant .none j1 p4) X.env) :: starEach [.Constant .none j2 p5] X.env := by rfl) (hs2 : starEach [.Constant .none j2 p5] X.env = (false, eval (.Constant .none j2 p5) X.env) :: starEach [] X.env := by rfl)
    (hso : swapsWithSole [.Tuple [.Name z pz, .Name y py] kt pt] (.Tuple [.Constant .none j1 p4, .Constant .none j2 p5] k2 pt2) pos.line X.env = pure false := by rfl) (hw : swappedStores [.Tuple [.Name z pz, .Name y py] kt pt] (.Tuple [.Constant .none j1 p4, .Constant .none j2 p5] k2 pt2) X.env = pure none := by rfl)
    (h1 : (assignEach [.Tuple [.Name z pz, .Name y py] kt pt] X.env).map (·.2) = [assign (.Tuple [.Name z pz, .Name y py] kt pt) X.env] := by rfl) :
    PS X (.Assign [.Tuple [.Name z pz, .Name y py] kt pt] (.Tuple [.Constant .none j1 p4, .Constant .none j2 p5] k2 pt2) pos) (tPairN i j) := by
  refine PS.of (ps_asg (pe_tup (pa_cons pe_non (pa_cons pe_non pa_nil hs2) hs1)) hg hso hw h1) fun D σ H h => ?_
  exact ⟨by show 2 ≤ sizeLine; decide, fun q hq => ⟨q, [.non, .non], rfl, .inl (.inl upd_same), rfl, .non, [.non], rfl, .non, [], rfl, rfl, h q hq⟩⟩
end
def sig0 (d : Hd) (Ng : List Str) (fv : V) : L2.St := ((L2.start Ng [fv]).set d.ia (some .non)).set d.ib (some .non)
def TTh (K : PySem.W.Frag) (c : Value) (d : Hd) (Ng : List Str) (tsu tre : TS) : (XK → Hp → VK → Prop) → Hp → VK → Prop := fun tl H Q =>
  ∀ fv q, H q = none → tl (WE (wKeep K c d.ie tsu (fun _ _ _ _ => False) { nx := tre { nx := fun _ H' => Q .non H', rt := Q }, rt := Q }) (sig0 d Ng fv)) (upd H q (.tup [.non, .non])) (fun v H1 => tre { nx := fun _ H' => Q .non H', rt := Q } ((sig0 d Ng fv).set d.ib (some v)) H1)
section
variable {X : Cx} {Ng : List Str} {z zb zc ze a0 q : Str} {sg : Scope} {g : Addr} {cdv c : Value} {d : Hd} {tsu tre : TS} {st1 b0 : Stmt} {suiteS restS : List Stmt} {p8 p9 p10 p11 np p13 p14 : Pos}
theorem gives_heard (hfirst : ∀ s H, PS (Zh X Ng z sg g cdv s H) st1 (tPairN d.ia d.ib))
    (hset : ∀ s H pn xe te, PE ((Zh X Ng z sg g cdv s H).tr pn xe) (.Call (.Name a0 p9) [] [] p10) te → PS ((Zh X Ng z sg g cdv s H).tr pn xe) (.Assign [.Name zb p8] (.Call (.Name a0 p9) [] [] p10) p11) (tAsg te (gName d.ib)))
    (hnd : Ng.Nodup) (hix : Ng[d.ie]? = some ze) (hlo : ∀ s H, (Zh X Ng z sg g cdv s H).env.kindOf ze = some .local) (hnm : ∀ s H, Names (Zh X Ng z sg g cdv s H) zc c)
    (hsuite : ∀ s H a pn, PSs ((Zh X Ng z sg g cdv s H).suite a pn) (b0 :: suiteS) tsu) (hrest : ∀ s H, PSs (Zh X Ng z sg g cdv s H) restS tre) (h0 : ∀ fv, (sig0 d Ng fv)[0]? = some (some fv)) :
    Gives X Ng z sg g cdv (st1 :: .Try [.Assign [.Name zb p8] (.Call (.Name a0 p9) [] [] p10) p11] [.ExceptHandler (some (.Name zc np)) (some ze) (b0 :: suiteS) p13] [] [] p14 :: restS) a0 q (TTh X.K c d Ng tsu tre) := by
  intro f c1 s H Q tl act hc want
  refine ⟨_, pss_cons (hfirst s H) (pss_cons (ps_try_keep (X := Zh X Ng z sg g cdv s H) (Wout := fun _ _ _ _ => False) (tb := fun W D σ H => σ[0]? = some (some (V.ref f)) ∧ H c1 = some (LamX.CodeO c1 q) ∧ tl (WE W σ) H (fun v H1 => D.nx (σ.set d.ib (some v)) H1)) (ts := tsu)
    rfl rfl rfl hnd hix (hlo s H) (hnm s H) LamX.takes0 (fun W pn xe tk _ => pss_one (hset s H pn xe _ (act W pn xe p9 p10 tk))) (fun a pn => hsuite s H a pn)) (hrest s H)), ?_⟩
  intro q0 hq0
  exact ⟨h0 _, by rw [upd_ne (ne_of_none hc hq0)]; exact hc, want (.ref f) q0 hq0⟩
end
section
variable {Γ : Tab} {ν : Nm} {δ : Ad} {X : Cx} {W : WX} {k : Nat} {body : Expr} {xb : E} {p lpos pos : Pos}
theorem sig0_rel {K : PySem.W.Frag} {H : Hp} {β : List Addr} {d : Hd} {Ng : List Str} {fv : V} (hn : d.ns = Ng.length) (h1 : 1 ≤ Ng.length) : SRel K H β (sig0 d Ng fv) (startH d) := by
  have base : SRel K H β (L2.start Ng [fv]) (List.replicate d.ns none) := by
    refine ⟨?_, fun i e z => ?_⟩
    · unfold L2.start
      rw [List.length_replicate, List.length_append, List.length_map, List.length_replicate, hn]
      simp
      omega
    · rw [List.getElem?_replicate] at z
      split at z <;> cases z
  exact (base.set .non d.ia).set .non d.ib
/-- z(lambda: body), z a def that calls it in a try -/
theorem je_heard {z a0 : Str} {c P : Addr} {st : Stmt} {d : Hd} {Ng : List Str} {cv : Value} {params : Arguments} {scope : Scope}
    (hd : Γ.hd.lookup z = some d) (hn : d.ns = Ng.length) (h1 : 1 ≤ Ng.length) (hm : X.mg z = some (.ref (δ.fa z))) (F : Fun X.K z z st (δ.fa z) (δ.fd z)) (bd : Binds X.K (δ.fd z) [a0] []) (sc : FnScope Ng [a0] (defScope st)) (hN : Ng[0]? = some a0) (hv : Vis (defScope st) a0)
    (hT : ∀ c1 ts, Γ.sub.lookup c1 = some ts → PySem.W.exmOne X.K (.ref (ν.ca c1)) cv = some (ts.contains d.cls))
    (gives : ∀ n j, Sd Γ ν δ X (j + 1) n → ∀ cdv, Gives X Ng z (defScope st) (δ.fa z) cdv (defBody st) a0 (X.env.qual ++ "<lambda>") (TTh X.K cv d Ng (tMS ν X.K W0 fun ρ => seqS ((ev Γ n).s (j + 1)) d.suite ρ) (tMS ν X.K W0 fun ρ => seqS ((ev Γ n).s (j + 1)) d.rest ρ)))
    (gu : X.A.guards = some []) (room : Room k X.A) (tab : LamX.TabB X.base X.mg c P) (own : X.env.code = .ref c) (isT : (P, X.env.qual ++ "<lambda>") ∈ ν.tb) (one : ∀ q ∈ ν.tb, q.1 = P → q.2 = X.env.qual ++ "<lambda>") (L : LamX.LamS X.env.scope scope) (nod : defaultsOf params X.env = ([], []))
    (bnd : ∀ (q : Str) (cl : List (Str × Addr)) (pm cv ctv : Value), bindArgs (PySem.W.kla_fn "<lambda>" q params body scope cl pm cv ctv) ⟨[], []⟩ = pure [])
    (inner : ∀ (j : Nat) (A : Around) (outer : List Env) (s : Shared) (H : Hp) (E : XK) (f c1 : Addr), A.guards = some [] → Room j (A.deeper (LamX.lamEnv X scope s.heap.objs.size f c1)) → JE Γ ν δ (LamX.lamCx X A outer s H E scope f c1) (fun cls dd _ H1 => E cls dd H1) j body xb)
    (hg : Gl X z := by rfl) (hdb : (z == ("__debug__" : Str)) = false := by decide) (hda : (a0 == ("__debug__" : Str)) = false := by decide) (hcd : (a0 == ("__classdict__" : Str)) = false := by decide) :
    JE Γ ν δ X W k (.Call (.Name z p) [.Lambda params body scope lpos] [] pos) (.heard z xb) := je_of fun n hS => by
  match k, room, hS with
  | 0, _, _ => exact ⟨fun pins s σ H Q I ⟨β, h, ρ, R, S, q⟩ => by
      have q : Pst ν X.K W σ H β (qE X.K Q) ((match Γ.hd.lookup z, 0 with | some d, k + 2 => heardM (fun c => Γ.sub.lookup c) d ((ev Γ n).e k xb ρ) (fun ss ρ => seqS ((ev Γ n).s (k + 1)) ss ρ) | _, _ => M.fail) h) := q
      rw [hd] at q
      exact (q : False).elim⟩
  | 1, _, _ => exact ⟨fun pins s σ H Q I ⟨β, h, ρ, R, S, q⟩ => by
      have q : Pst ν X.K W σ H β (qE X.K Q) ((match Γ.hd.lookup z, 1 with | some d, k + 2 => heardM (fun c => Γ.sub.lookup c) d ((ev Γ n).e k xb ρ) (fun ss ρ => seqS ((ev Γ n).s (k + 1)) ss ρ) | _, _ => M.fail) h) := q
      rw [hd] at q
      exact (q : False).elim⟩
  | j + 2, room, hS =>
    obtain ⟨oc, od, kV, doc, pm, an, cdv, ct, osl, ef, lk, code⟩ := F.ex
    have lk' := lk
    rw [ef] at lk'
    have bd' := bd
    rw [ef] at bd'
    have hS0 : Sd Γ ν δ X j n := fun m hm j1 hj => hS.prev m hm j1 (by omega)
    have hS1 : Sd Γ ν δ X (j + 1) n := fun m hm j1 hj => hS.prev m hm j1 (by omega)
    refine PE.of (lam_of (T := ν.tb) (t := fun E => tM ν X.K (fun cls dd _ H1 => E cls dd H1) fun ρ => (ev Γ n).e j xb ρ) hg hm F.kp lk' code bd' sc hN hv (gives n j hS1 cdv) gu tab own isT one room L nod bnd
      (fun A outer s H E f c1 g1 r1 => inner j A outer s H E f c1 g1 r1 n hS0) hdb hda hcd) fun σ H Q want => ?_
    obtain ⟨β, h, ρ, R, S, q⟩ := want
    have q : Pst ν X.K W σ H β (qE X.K Q) ((match Γ.hd.lookup z, j + 2 with | some d, k + 2 => heardM (fun c => Γ.sub.lookup c) d ((ev Γ n).e k xb ρ) (fun ss ρ => seqS ((ev Γ n).s (k + 1)) ss ρ) | _, _ => M.fail) h) := q
    rw [hd] at q
    have q : Pst ν X.K W σ H β (qE X.K Q) (heardM (fun c => Γ.sub.lookup c) d ((ev Γ n).e j xb ρ) (fun ss ρ => seqS ((ev Γ n).s (j + 1)) ss ρ) h) := q
    refine ⟨R.tb.tabs, fun H1 eN T1 fv q0 hq0 => ?_⟩
    have notTbl : ∀ a, a ∈ β → ∀ u, H a = some u → ∀ ps, u ≠ .tbl ps := fun a ha u e ps y => by
      rcases R.kind ha e with ⟨_, w⟩ | ⟨_, w⟩ | ⟨_, w⟩ <;> (rw [y] at w; cases w)
    have e1 : Ext H β H1 β := ⟨List.prefix_refl β, fun _ y => .inl y, fun a o e _ t => eN a o e t⟩
    have R1 : HRel ν X.K H1 β h := by
      refine R.same e1 (fun a ha => ?_) ⟨T1⟩
      obtain ⟨u, e⟩ := R.there ha
      rw [e]
      exact eN a u e (notTbl a ha u e)
    obtain ⟨e2, R2⟩ := R1.put (o := .tup [.non, .non]) hq0
    have e3 := e1.trans e2
    refine ⟨β, h, ρ, R2, S.go e3, ?_⟩
    have q := q.go e3
    unfold heardM at q
    have fin : ∀ {σ' : L2.St} {ρ' : Env'} {H' : Hp} {β' : List Addr} {h' : Ob}, HRel ν X.K H' β' h' → SRel X.K H' β' σ' ρ' → Pst ν X.K W σ H' β' (qE X.K Q) (okD (doneS (seqS ((ev Γ n).s (j + 1)) d.rest ρ') h')) →
        tMS ν X.K W0 (fun ρ => seqS ((ev Γ n).s (j + 1)) d.rest ρ) { nx := fun _ H' => Q .non H', rt := Q } σ' H' := by
      intro σ' ρ' H' β' h' R' S' p'
      refine ⟨β', h', ρ', R', S', ?_⟩
      show PstS ν X.K W0 { nx := fun _ H' => Q .non H', rt := Q } H' β' (seqS ((ev Γ n).s (j + 1)) d.rest ρ' h')
      unfold doneS at p'
      cases er : seqS ((ev Γ n).s (j + 1)) d.rest ρ' h' with
      | bad => rw [er] at p'; exact p'.elim
      | exc _ _ _ _ => rw [er] at p'; exact p'.elim
      | ok fl h2 =>
        rw [er] at p'
        cases fl with
        | nx ρ2 => exact fun σ2 H2 β2 x2 y2 z2 => (p' H2 β2 x2 y2 : qE X.K Q _ H2 β2) _ .non
        | rt dd => exact fun v2 H2 β2 x2 y2 r2 => (p' H2 β2 x2 y2 : qE X.K Q _ H2 β2) v2 r2
        | bk _ => exact p'.elim
        | ct _ => exact p'.elim
    show Pst ν X.K _ σ _ β _ ((ev Γ n).e j xb ρ h)
    cases er : (ev Γ n).e j xb ρ h with
    | bad => rw [er] at q; exact q.elim
    | ok x h2 =>
      rw [er] at q
      intro H' β' x' R' v rv
      exact fin R' ((sig0_rel (fv := fv) hn h1).set rv d.ib) (q.go x')
    | exc c1 v1 h2 =>
      rw [er] at q
      intro v dd H' β' x' R' rv hd' hn'
      have q := q.go x'
      dsimp only at q
      cases eL : Γ.sub.lookup c1 with
      | none => rw [eL] at q; exact q.elim
      | some ts =>
        rw [eL] at q
        dsimp only at q
        refine ⟨ts.contains d.cls, ν.ca c1, dd, rfl, rfl, hT c1 ts eL, fun hb a ha => ?_, fun hb => ?_⟩
        · rw [if_pos hb] at q
          have hda' : dd ≠ a := ne_of_none hd' ha
          obtain ⟨e4, R4⟩ := R'.alloc (u := ExD (ν.ca c1) dd a) (o := .exc c1 v1) ha fun e4 => ⟨dd, v, upd_same, by rw [upd_ne hda']; exact hd', fun hm => by
            rcases List.mem_append.mp hm with y | y
            · exact hn' y
            · exact hda' (List.mem_singleton.mp y), rv.go e4⟩
          have rp : RelD X.K (upd H' a (ExD (ν.ca c1) dd a)) (β' ++ [a]) (.ref a) (.ref h2.length) := .ref (by rw [← R'.len]; simp)
          refine ⟨β' ++ [a], h2 ++ [.exc c1 v1], (startH d).set d.ie (some (.ref h2.length)), R4, (sig0_rel (fv := fv) hn h1).set rp d.ie, ?_⟩
          have q := q.go e4
          show PstS ν X.K W0 _ _ _ (seqS ((ev Γ n).s (j + 1)) d.suite ((startH d).set d.ie (some (.ref h2.length))) (h2 ++ [.exc c1 v1]))
          cases er2 : seqS ((ev Γ n).s (j + 1)) d.suite ((startH d).set d.ie (some (.ref h2.length))) (h2 ++ [.exc c1 v1]) with
          | bad => rw [er2] at q; exact q.elim
          | exc _ _ _ _ => rw [er2] at q; exact q.elim
          | ok fl h3 =>
            rw [er2] at q
            cases fl with
            | nx ρ2 => exact fun σ2 H2 β2 x2 y2 z2 => fin y2 (z2.unset d.ie) (q.go x2)
            | rt _ => exact q.elim
            | bk _ => exact q.elim
            | ct _ => exact q.elim
        · rw [if_neg (by rw [hb]; exact Bool.false_ne_true)] at q
          exact q.elim
end
end MP
/-! # The law's own call, with one table of code objects -/
namespace MP
open PySem PySem.Spec L2 PyProof.Rows
section
variable {P : Program} {w : World} {K : PySem.W.Frag} {mg mb : Str → Option Value} {k : Nat} {fa a c Pt : Addr} {fd : FuncData} {x : Str} {sp : Sp} {t : Shared} {vs : List Value} {ns : List Int}
theorem tab_core (KX : K.In t.heap) (hns : t.heap.Ns mainGlobals mg) (hbn : t.heap.Ns builtinsNs mb) (hbb : ∀ x : Str, x ≠ "__name__" → mb x = bootBuiltins x) (hlim : t.heap.NoLimit) (hgen : t.gens = #[]) (hsys : ∃ mm, t.heap.Ns sysModules mm)
    (gP : t.heap.get? Pt = some { cls := .none, data := .fields #[] }) (kP : K.lookup Pt = none) (chd : PySem.W.CodeHd t.heap c Pt) (hmod : ∃ (bm : Addr) (ob : Obj), mg "__builtins__" = some (.ref bm) ∧ bm ≠ builtinsNs ∧ t.heap.get? bm = some ob ∧ ob.cls = .type "module" ∧ ob.dict = some builtinsNs ∧ ob.data = .plain)
    (hlist : t.heap.get? a = some { cls := .type "list", data := .seq vs.toArray }) (hr : Room k callerA)
    (F : ∀ base : Heap, K.In base → LamX.TabB base mg c Pt → (∃ mm, base.Ns sysModules mm) → FnG P w K mg base (L2.CX P w) k fa fd [x] sp) (hbind : ∀ (s : Shared) (u : Value), BindsTo s fd ⟨[u], []⟩ [(x, u)])
    (H : Hp) (isP : H Pt = some (.tbl #[])) (only : ∀ b, b ≠ Pt → H b = none ∨ ∃ o u, H b = some (.frz o u)) (want : sp [.ref a] H (fun v _ => v = .bl true) fun _ _ _ => False) (hok : HOk P w H t.heap) (self : ∀ b, H b ≠ none → b = a ∨ b = Pt) (noK : H a ≠ none → K.lookup a = none) :
    codeAny (model P w) callerA (.call (.ref fa) ⟨[.ref a], []⟩) (fun r s' => r = .ok (.ret (.bool true)) ∧ OldK t.heap s'.heap ∧ s'.os = t.os ∧ AllBare s'.gens) t := by
  have stays : ∀ {b : Addr} {o : Obj}, t.heap.get? b = some o → H b = none → (hidT t.heap H).get? b = some o := fun e n => hidT_get e n
  have untold : ∀ {b : Addr} {o : Obj}, t.heap.get? b = some o → (∀ us m, o.data ≠ .seq us m) → o.data ≠ .fields #[] → H b = none := by
    intro b o e n1 n2
    cases hb : H b with
    | none => rfl
    | some u =>
      rcases self b (by rw [hb]; exact fun y => nomatch y) with rfl | rfl
      · rw [hlist] at e
        cases e
        exact absurd rfl (n1 _ _)
      · rw [gP] at e
        cases e
        exact absurd rfl n2
  have spaces : ∀ {b : Addr} {m : Str → Option Value}, t.heap.Ns b m → (hidT t.heap H).Ns b m := by
    intro b m y
    obtain ⟨o, es, ep, e, dd, r⟩ := y
    refine ⟨o, es, ep, stays e (untold e (fun us m y => ?_) fun y => ?_), dd, r⟩
    · rw [dd] at y
      cases y
    · rw [dd] at y
      cases y
  have kIn : K.In (hidT t.heap H) := by
    intro b o e
    refine stays (KX b o e) ?_
    cases hb : H b with
    | none => rfl
    | some u =>
      rcases self b (by rw [hb]; exact fun y => nomatch y) with rfl | rfl
      · rw [noK (by rw [hb]; exact fun y => nomatch y)] at e
        cases e
      · rw [kP] at e
        cases e
  have md : Mod K mg (hidT t.heap H) := by
    obtain ⟨mc, l1, l2⟩ := hlim
    exact ⟨kIn, spaces hns, ⟨mb, spaces hbn, hbb⟩, ⟨mc, spaces l1, l2⟩⟩
  have tab : LamX.TabB (hidT t.heap H) mg c Pt := by
    refine ⟨?_, ?_, fun y => ?_⟩
    · obtain ⟨o, us, file, tf, flags, tg, inF, text, tt, e1, c1, c2, c3, more⟩ := chd
      refine ⟨o, us, file, tf, flags, tg, inF, text, tt, stays e1 (untold e1 (fun us m y => ?_) fun y => ?_), c1, c2, c3, more⟩
      · rw [c2] at y
        cases y
      · rw [c2] at y
        cases y
        simp at c3
    · obtain ⟨bm, ob, b1, b2, b3, b4, b5, b6⟩ := hmod
      refine ⟨bm, ob, b1, b2, fun y => ?_, fun y => ?_, stays b3 (untold b3 (fun us m y => ?_) fun y => ?_), b4, b5, b6⟩
      · obtain ⟨o, es, ep, e, dd, _⟩ := hns
        rw [← y, b3] at e
        cases e
        rw [b6] at dd
        cases dd
      · rw [y, gP] at b3
        cases b3
        cases b6
      · rw [b6] at y
        cases y
      · rw [b6] at y
        cases y
    · obtain ⟨o, es, ep, e, dd, _⟩ := hns
      rw [y, gP] at e
      cases e
      cases dd
  have env0 : Env0 P w K mg (hidT t.heap H) callerA [] t H := ⟨rfl, md, fun b o e => of_hidT e, Nat.le_of_eq (hidT_size _ _), trivial, fun b hb => absurd (show b ∈ ([] : List Addr) from hb) (by simp), hok, .of_eq hgen⟩
  obtain ⟨mm, hmm⟩ := hsys
  refine codeAny_mono ((F _ kIn tab ⟨mm, spaces hmm⟩).run callerA [] t H ⟨[.ref a], []⟩ [.ref a] [.ref a] _ _ rfl hr env0 (hbind t (.ref a)) (.cons rfl .nil) want) ?_
  intro r s1 h
  match r, h with
  | .error e, h =>
    obtain ⟨_, _, _, _, _, _, _, _, _, _, _, _, y⟩ := (show L2.CX P w [] H t (fun _ _ _ => False) e s1 from h)
    exact y.elim
  | .ok .next, h => exact False.elim h
  | .ok .brk, h => exact False.elim h
  | .ok .cont, h => exact False.elim h
  | .ok (.ret u), h =>
    obtain ⟨v, H1, hos, hbare, un, hok1, rv, ev⟩ := h
    have ev : v = .bl true := ev
    subst ev
    obtain rfl : u = Value.bool true := rv
    have old : ∀ b o, b ≠ Pt → t.heap.get? b = some o → s1.heap.get? b = some o := by
      intro b o nb e
      rcases only b nb with y | ⟨ob, u, y⟩
      · exact un.keep b o e y (fun z => absurd (show b ∈ ([] : List Addr) from z) (by simp)) (by simp)
      · obtain ⟨e1, _⟩ := hok b _ y
        obtain ⟨e2, _⟩ := hok1 b _ (un.frzs b ob _ y)
        rw [e] at e1
        cases e1
        exact e2
    obtain ⟨more, hmore⟩ := un.tbls Pt #[] isP
    have grown := hok1 Pt _ hmore
    refine ⟨rfl, ⟨fun b o e => ?_, fun b o e => ?_⟩, hos, hbare⟩
    · by_cases hb : b = Pt
      · subst hb
        rw [gP] at e
        cases e
        exact .inr (.inl ⟨(chd.tab gP).isCodeTable, rfl, #[], more, rfl, grown⟩)
      · exact .inl (old b o hb e)
    · by_cases hb : b = Pt
      · subst hb
        exact ⟨_, grown⟩
      · exact ⟨o, old b o hb e⟩
theorem tab_call (KX : K.In t.heap) (hns : t.heap.Ns mainGlobals mg) (hbn : t.heap.Ns builtinsNs mb) (hbb : ∀ x : Str, x ≠ "__name__" → mb x = bootBuiltins x) (hlim : t.heap.NoLimit) (hgen : t.gens = #[]) (hsys : ∃ mm, t.heap.Ns sysModules mm)
    (gP : t.heap.get? Pt = some { cls := .none, data := .fields #[] }) (kP : K.lookup Pt = none) (chd : PySem.W.CodeHd t.heap c Pt) (hmod : ∃ (bm : Addr) (ob : Obj), mg "__builtins__" = some (.ref bm) ∧ bm ≠ builtinsNs ∧ t.heap.get? bm = some ob ∧ ob.cls = .type "module" ∧ ob.dict = some builtinsNs ∧ ob.data = .plain)
    (hlist : t.heap.get? a = some { cls := .type "list", data := .seq vs.toArray }) (hi : IntsAre vs ns) (hl : ns.length ≤ sizeLine) (hr : Room k callerA)
    (F : ∀ base : Heap, K.In base → LamX.TabB base mg c Pt → (∃ mm, base.Ns sysModules mm) → FnG P w K mg base (L2.CX P w) k fa fd [x] sp) (hbind : ∀ (s : Shared) (u : Value), BindsTo s fd ⟨[u], []⟩ [(x, u)])
    (hsp : ∀ H : Hp, H Pt = some (.tbl #[]) → LstAt K H [] a (ns.map V.int) → sp [.ref a] H (fun v _ => v = .bl true) fun _ _ _ => False) :
    codeAny (model P w) callerA (.call (.ref fa) ⟨[.ref a], []⟩) (fun r s' => r = .ok (.ret (.bool true)) ∧ OldK t.heap s'.heap ∧ s'.os = t.os ∧ AllBare s'.gens) t := by
  have rv := vals_ints hi
  have lenV := hi.length
  have na : a ≠ Pt := fun y => by
    rw [← y, hlist] at gP
    cases gP
  cases hk : K.lookup a with
  | some o =>
    have e := KX a o hk
    rw [hlist] at e
    cases e
    have kl : KL K a (ns.map V.int) := ⟨_, vs.toArray, _, hk, rfl, rfl, rfl, by rw [List.size_toArray, lenV]; exact hl, by simpa using rv⟩
    refine tab_core KX hns hbn hbb hlim hgen hsys gP kP chd hmod hlist hr F hbind (fun b => if b = Pt then some (.tbl #[]) else none) (if_pos rfl) (fun b nb => .inl (if_neg nb)) (hsp _ (if_pos rfl) (.inr kl)) (fun b u y => ?_) (fun b y => ?_) fun y => absurd (if_neg na) y
    · by_cases hb : b = Pt
      · have z := (if_pos hb).symm.trans y
        cases z
        subst hb
        exact gP
      · have z := (if_neg hb).symm.trans y
        cases z
    · by_cases hb : b = Pt
      · exact .inr hb
      · exact absurd (if_neg hb) y
  | none =>
    have at_a : (fun b : Addr => if b = Pt then some (HO.tbl #[]) else if b = a then some (HO.frz { cls := .type "list", data := .seq vs.toArray } (.lst (ns.map V.int))) else none) a = some (HO.frz { cls := .type "list", data := .seq vs.toArray } (.lst (ns.map V.int))) := by
      show (if a = Pt then _ else _) = _
      rw [if_neg na, if_pos rfl]
    refine tab_core KX hns hbn hbb hlim hgen hsys gP kP chd hmod hlist hr F hbind (fun b => if b = Pt then some (.tbl #[]) else if b = a then some (.frz { cls := .type "list", data := .seq vs.toArray } (.lst (ns.map V.int))) else none) (if_pos rfl) (fun b nb => ?_) (hsp _ (if_pos rfl) (.inl ⟨⟨_, at_a⟩, List.not_mem_nil⟩)) (fun b u y => ?_) (fun b y => ?_) fun _ => hk
    · by_cases hb : b = a
      · exact .inr ⟨_, _, (if_neg nb).trans (if_pos hb)⟩
      · exact .inl ((if_neg nb).trans (if_neg hb))
    · by_cases hp : b = Pt
      · have z := (if_pos hp).symm.trans y
        cases z
        subst hp
        exact gP
      · have z := (if_neg hp).symm.trans y
        by_cases hb : b = a
        · have z2 := (if_pos hb).symm.trans z
          cases z2
          subst hb
          exact ⟨hlist, by rw [List.length_map]; exact hl, vs, _, rv, hlist⟩
        · have z2 := (if_neg hb).symm.trans z
          cases z2
    · by_cases hp : b = Pt
      · exact .inr hp
      · by_cases hb : b = a
        · exact .inl hb
        · exact absurd ((if_neg hp).trans (if_neg hb)) y
end
theorem walkT {l : PySem.W.OpenLaw} {n k : Nat} {q : Program} {loose : List Str} {XP : (Str → Option Value) → Heap → Prop} {YP : World → Heap → Prop} {d : DefRec} {K : Params → PySem.W.Frag} {x : Str}
    (hn : l.most = some n) (hn2 : n ≤ sizeLine) (hdf : d.params.defaults = []) (hr : Room k callerA) (himp : importsNone q = true)
    (hY : ∀ (w : World) (h : Heap), YP w h → (K w.params).In h)
    (F : ∀ (w : World) (mg : Str → Option Value) (fa : Addr) (h : Heap), YP w h → (K w.params).In h → h.Ns mainGlobals mg → mg d.name = some (.ref fa) →
      ∃ (fd : FuncData) (sp : Sp) (c Pt : Addr), h.get? Pt = some { cls := .none, data := .fields #[] } ∧ (K w.params).lookup Pt = none ∧ PySem.W.CodeHd h c Pt ∧ (∀ (s : Shared) (u : Value), BindsTo s fd ⟨[u], []⟩ [(x, u)]) ∧
        (∀ base : Heap, (K w.params).In base → LamX.TabB base mg c Pt → (∃ mm, base.Ns sysModules mm) → FnG l.prog w (K w.params) mg base (L2.CX l.prog w) k fa fd [x] sp) ∧
        ∀ (H : Hp) (a : Addr) (ns : List Int), ns.length ≤ n → H Pt = some (.tbl #[]) → LstAt (K w.params) H [] a (ns.map V.int) → sp [.ref a] H (fun v _ => v = .bl true) fun _ _ _ => False) :
    PySem.W.WalkO q loose XP YP l.row.toRowW d [] (fun f vs => PySem.call f vs) := by
  refine Att.attach_call hn hdf ?_
  intro w s₀ t mg mb fa o pm cd doc a vs ns G Y ho hd hcd hmg hobj hints hlen hg
  obtain ⟨fd, sp, c, Pt, gP, kP, chd, hb, hF, hsp⟩ := F w mg fa _ Y (hY w _ Y) G.T.g hmg
  obtain ⟨mm, hmm, _⟩ := (G.T.seer himp).mods
  exact tab_call (hY w _ Y) G.T.g G.T.b G.T.builtins G.T.nolimit hg ⟨mm, hmm⟩ gP kP chd G.T.bmain hobj hints (Nat.le_trans hlen hn2) hr hF hb fun H hP hS => hsp H a ns hlen hP hS
end MP
/-! # The evaluator in plain Lean: what a call does to the heap -/
namespace MP
open PySem PySem.Spec L2
theorem evE (Γ : Tab) (n k : Nat) (e : E) (ρ : Env') : (ev Γ (n + 1)).e k e ρ = stepE Γ (ev Γ n) k e ρ := rfl
theorem evS (Γ : Tab) (n k : Nat) (s : S) (ρ : Env') : (ev Γ (n + 1)).s k s ρ = stepS Γ (ev Γ n) k s ρ := rfl
mutual
theorem renD_id (f : Nat → Option Nat) : ∀ d : D, refsD d = [] → renD f d = some d
  | .ref l, h => by cases h
  | .tup xs, h => by
    show (renDs f xs).map D.tup = _
    rw [renDs_id f xs h]
    rfl
  | .fl xs, h => by
    show (renDs f xs).map D.fl = _
    rw [renDs_id f xs h]
    rfl
  | .non, _ => rfl
  | .bl _, _ => rfl
  | .int _, _ => rfl
  | .str _, _ => rfl
  | .ty _, _ => rfl
theorem renDs_id (f : Nat → Option Nat) : ∀ ds : List D, refsDs ds = [] → renDs f ds = some ds
  | [], _ => rfl
  | d :: ds, h => by
    have h := List.append_eq_nil_iff.mp (show refsD d ++ refsDs ds = [] from h)
    show (match renD f d with | none => none | some e => match renDs f ds with | none => none | some es => some (e :: es)) = _
    rw [renD_id f d h.1, renDs_id f ds h.2]
end
mutual
theorem renD_tot (f : Nat → Option Nat) (hf : ∀ l, ∃ m, f l = some m) : ∀ d : D, ∃ e, renD f d = some e
  | .ref l => by
    obtain ⟨m, e⟩ := hf l
    exact ⟨.ref m, by show (f l).map D.ref = _; rw [e]; rfl⟩
  | .tup xs => by
    obtain ⟨es, e⟩ := renDs_tot f hf xs
    exact ⟨.tup es, by show (renDs f xs).map D.tup = _; rw [e]; rfl⟩
  | .fl xs => by
    obtain ⟨es, e⟩ := renDs_tot f hf xs
    exact ⟨.fl es, by show (renDs f xs).map D.fl = _; rw [e]; rfl⟩
  | .non => ⟨_, rfl⟩
  | .bl _ => ⟨_, rfl⟩
  | .int _ => ⟨_, rfl⟩
  | .str _ => ⟨_, rfl⟩
  | .ty _ => ⟨_, rfl⟩
theorem renDs_tot (f : Nat → Option Nat) (hf : ∀ l, ∃ m, f l = some m) : ∀ ds : List D, ∃ es, renDs f ds = some es
  | [] => ⟨[], rfl⟩
  | d :: ds => by
    obtain ⟨x, e1⟩ := renD_tot f hf d
    obtain ⟨xs, e2⟩ := renDs_tot f hf ds
    refine ⟨x :: xs, ?_⟩
    show (match renD f d with | none => none | some e => match renDs f ds with | none => none | some es => some (e :: es)) = _
    rw [e1, e2]
end
theorem renO_tot (f : Nat → Option Nat) (hf : ∀ l, ∃ m, f l = some m) : ∀ o : O, ∃ e, renO f o = some e
  | .lst xs => by
    obtain ⟨es, e⟩ := renDs_tot f hf xs
    exact ⟨.lst es, by show (renDs f xs).map O.lst = _; rw [e]; rfl⟩
  | .dct kvs => by
    obtain ⟨es, e⟩ := renDs_tot f hf (kvs.map (·.2))
    exact ⟨_, by show (renDs f (kvs.map (·.2))).map _ = _; rw [e]; rfl⟩
  | .exc c v => by
    obtain ⟨es, e⟩ := renD_tot f hf v
    exact ⟨.exc c es, by show (renD f v).map _ = _; rw [e]; rfl⟩
theorem renOs_cons {f : Nat → Option Nat} {o e : O} {os es : List O} (h1 : renO f o = some e) (h2 : renOs f os = some es) : renOs f (o :: os) = some (e :: es) := by
  show (match renO f o with | none => none | some e => match renOs f os with | none => none | some es => some (e :: es)) = _
  rw [h1, h2]
theorem renOs_tot (f : Nat → Option Nat) (hf : ∀ l, ∃ m, f l = some m) : ∀ os : List O, ∃ es, renOs f os = some es
  | [] => ⟨[], rfl⟩
  | o :: os => by
    obtain ⟨x, e1⟩ := renO_tot f hf o
    obtain ⟨xs, e2⟩ := renOs_tot f hf os
    exact ⟨x :: xs, renOs_cons e1 e2⟩
theorem outOf_tot (L : List Nat) (n : Nat) : ∀ j, ∃ m, outOf L n j = some m := fun j => by
  unfold outOf
  by_cases h : j < L.length
  · rw [if_pos h]
    exact ⟨L[j], List.getElem?_eq_getElem h⟩
  · rw [if_neg h]
    exact ⟨_, rfl⟩
theorem renO_lst {f : Nat → Option Nat} {xs : List D} (h : refsDs xs = []) : renO f (.lst xs) = some (.lst xs) := by
  show (renDs f xs).map O.lst = _
  rw [renDs_id f xs h]
  rfl
/-- a call whose arguments hold no place -/
theorem sub0 {ds : List D} {m : List D → M D} {h g : Ob} {d : D} (hr : refsDs ds = []) (e : m ds [] = .ok d g) (hd : refsD d = []) : ∃ g1, sub ds m h = .ok d (h ++ g1) := by
  obtain ⟨g1, e1⟩ := renOs_tot (outOf [] h.length) (outOf_tot [] h.length) g
  refine ⟨g1, ?_⟩
  unfold sub
  rw [hr]
  show (match getsO h [] with
    | none => R.bad
    | some os => match renOs (ixOf []) os, renDs (ixOf []) ds with
      | some os', some ds' => match m ds' os' with
        | .ok d h1 => match renOs (outOf [] h.length) h1, renD (outOf [] h.length) d with
          | some h2, some d2 => .ok d2 (putsO h [] (h2.take 0) ++ h2.drop 0)
          | _, _ => .bad
        | .exc c d h1 => match renOs (outOf [] h.length) h1, renD (outOf [] h.length) d with
          | some h2, some d2 => .exc c d2 (putsO h [] (h2.take 0) ++ h2.drop 0)
          | _, _ => .bad
        | .bad => .bad
      | _, _ => .bad) = _
  rw [renDs_id _ ds hr]
  show (match m ds [] with
        | .ok d h1 => match renOs (outOf [] h.length) h1, renD (outOf [] h.length) d with
          | some h2, some d2 => R.ok d2 (putsO h [] (h2.take 0) ++ h2.drop 0)
          | _, _ => .bad
        | .exc c d h1 => match renOs (outOf [] h.length) h1, renD (outOf [] h.length) d with
          | some h2, some d2 => .exc c d2 (putsO h [] (h2.take 0) ++ h2.drop 0)
          | _, _ => .bad
        | .bad => .bad) = _
  rw [e]
  dsimp only
  rw [e1, renD_id _ d hd]
  rfl
theorem sub0X {ds : List D} {m : List D → M D} {h g : Ob} {c : Str} {d : D} (hr : refsDs ds = []) (e : m ds [] = .exc c d g) (hd : refsD d = []) : ∃ g1, sub ds m h = .exc c d (h ++ g1) := by
  obtain ⟨g1, e1⟩ := renOs_tot (outOf [] h.length) (outOf_tot [] h.length) g
  refine ⟨g1, ?_⟩
  unfold sub
  rw [hr]
  show (match getsO h [] with
    | none => R.bad
    | some os => match renOs (ixOf []) os, renDs (ixOf []) ds with
      | some os', some ds' => match m ds' os' with
        | .ok d h1 => match renOs (outOf [] h.length) h1, renD (outOf [] h.length) d with
          | some h2, some d2 => .ok d2 (putsO h [] (h2.take 0) ++ h2.drop 0)
          | _, _ => .bad
        | .exc c d h1 => match renOs (outOf [] h.length) h1, renD (outOf [] h.length) d with
          | some h2, some d2 => .exc c d2 (putsO h [] (h2.take 0) ++ h2.drop 0)
          | _, _ => .bad
        | .bad => .bad
      | _, _ => .bad) = _
  rw [renDs_id _ ds hr]
  show (match m ds [] with
        | .ok d h1 => match renOs (outOf [] h.length) h1, renD (outOf [] h.length) d with
          | some h2, some d2 => R.ok d2 (putsO h [] (h2.take 0) ++ h2.drop 0)
          | _, _ => .bad
        | .exc c d h1 => match renOs (outOf [] h.length) h1, renD (outOf [] h.length) d with
          | some h2, some d2 => .exc c d2 (putsO h [] (h2.take 0) ++ h2.drop 0)
          | _, _ => .bad
        | .bad => .bad) = _
  rw [e]
  dsimp only
  rw [e1, renD_id _ d hd]
  rfl
/-- the general form -/
theorem sub_run {ds ds1 : List D} {m : List D → M D} {h g g1 os os1 : Ob} {d d1 : D} (L : List Nat) (hL : reach h 200 (refsDs ds) [] = L) (h1 : getsO h L = some os) (h2 : renOs (ixOf L) os = some os1) (h3 : renDs (ixOf L) ds = some ds1) (e : m ds1 os1 = .ok d g)
    (h4 : renOs (outOf L h.length) g = some g1) (h5 : renD (outOf L h.length) d = some d1) : sub ds m h = .ok d1 (putsO h L (g1.take L.length) ++ g1.drop L.length) := by
  unfold sub
  dsimp only
  rw [hL, h1]
  dsimp only
  rw [h2, h3]
  dsimp only
  rw [e]
  dsimp only
  rw [h4, h5]
/-- a call with one list of plain values -/
theorem sub1 {ds ds1 : List D} {m : List D → M D} {h g : Ob} {l : Nat} {xs ys : List D} {d : D} (hl : h[l]? = some (.lst xs)) (hx : refsDs xs = []) (hr : refsDs ds = [l]) (hd1 : renDs (ixOf [l]) ds = some ds1) (e : m ds1 [.lst xs] = .ok d (.lst ys :: g)) (hy : refsDs ys = []) (hd : refsD d = []) :
    ∃ g1, sub ds m h = .ok d (h.set l (.lst ys) ++ g1) := by
  obtain ⟨g1, e1⟩ := renOs_tot (outOf [l] h.length) (outOf_tot [l] h.length) g
  refine ⟨g1, sub_run (os := [.lst xs]) (os1 := [.lst xs]) (g1 := .lst ys :: g1) [l] ?_ ?_ ?_ hd1 e (renOs_cons (renO_lst hy) e1) (renD_id _ d hd)⟩
  · rw [hr]
    show (if ([] : List Nat).contains l then reach h 199 [] [] else match h[l]? with
      | some o => reach h 199 (refsO o ++ []) ([] ++ [l])
      | none => reach h 199 [] ([] ++ [l])) = [l]
    rw [hl]
    show reach h 199 (refsDs xs ++ []) [l] = [l]
    rw [hx]
    rfl
  · show (match h[l]? with
      | none => none
      | some o => match getsO h [] with
        | none => none
        | some os => some (o :: os)) = _
    rw [hl]
    rfl
  · exact renOs_cons (renO_lst hx) rfl
end MP
/-! # One rule for each construct of the evaluator, where it comes to a value -/
namespace MP
open PySem PySem.Spec L2
section
variable {Γ : Tab} {n k i j : Nat} {ρ ρ1 ρ2 : Env'} {h h1 h2 h3 h4 : Ob} {d x y z w : D} {a b c t : E} {xs ys : List D} {as : List E} {r q : Bool}
theorem ee_c : (ev Γ (n + 1)).e k (.c d) ρ h = .ok d h := rfl
theorem ee_v (e : ρ[i]? = some (some d)) : (ev Γ (n + 1)).e k (.v i) ρ h = .ok d h := by
  rw [evE]
  show (match ρ[i]? with | some (some d) => M.ret d | _ => M.fail) h = _
  rw [e]
  rfl
theorem ee_g {g : Str} (e : Γ.cs.lookup g = some d) : (ev Γ (n + 1)).e k (.g g) ρ h = .ok d h := by
  rw [evE]
  show (match Γ.cs.lookup g with | some d => M.ret d | none => M.fail) h = _
  rw [e]
  rfl
theorem bind_ok {α γ : Type} {m : M α} {f : α → M γ} {u : α} (e : m h = .ok u h1) : M.bind m f h = f u h1 := by
  unfold M.bind
  rw [e]
theorem bind_exc {α γ : Type} {m : M α} {f : α → M γ} {s : Str} {v : D} (e : m h = .exc s v h1) : M.bind m f h = .exc s v h1 := by
  unfold M.bind
  rw [e]
theorem ee_bin {o : BOp} (e1 : (ev Γ n).e k a ρ h = .ok x h1) (e2 : (ev Γ n).e k b ρ h1 = .ok y h2) (e3 : bopD o x y h2 = .ok z h3) : (ev Γ (n + 1)).e k (.bin o a b) ρ h = .ok z h3 := by
  rw [evE]
  exact (bind_ok e1).trans ((bind_ok e2).trans e3)
theorem truth_ok (e : truth h x = some r) : truthM x h = .ok r h := by
  unfold truthM
  rw [e]
theorem ee_not (e1 : (ev Γ n).e k a ρ h = .ok x h1) (e2 : truth h1 x = some r) : (ev Γ (n + 1)).e k (.not a) ρ h = .ok (.bl (!r)) h1 := by
  rw [evE]
  exact (bind_ok e1).trans ((bind_ok (truth_ok e2)).trans rfl)
theorem ee_andT (e1 : (ev Γ n).e k a ρ h = .ok x h1) (e2 : truth h1 x = some true) (e3 : (ev Γ n).e k b ρ h1 = .ok y h2) : (ev Γ (n + 1)).e k (.and a b) ρ h = .ok y h2 := by
  rw [evE]
  exact (bind_ok e1).trans ((bind_ok (truth_ok e2)).trans e3)
theorem ee_andF (e1 : (ev Γ n).e k a ρ h = .ok x h1) (e2 : truth h1 x = some false) : (ev Γ (n + 1)).e k (.and a b) ρ h = .ok x h1 := by
  rw [evE]
  exact (bind_ok e1).trans ((bind_ok (truth_ok e2)).trans rfl)
theorem ee_orT (e1 : (ev Γ n).e k a ρ h = .ok x h1) (e2 : truth h1 x = some true) : (ev Γ (n + 1)).e k (.or a b) ρ h = .ok x h1 := by
  rw [evE]
  exact (bind_ok e1).trans ((bind_ok (truth_ok e2)).trans rfl)
theorem ee_orF (e1 : (ev Γ n).e k a ρ h = .ok x h1) (e2 : truth h1 x = some false) (e3 : (ev Γ n).e k b ρ h1 = .ok y h2) : (ev Γ (n + 1)).e k (.or a b) ρ h = .ok y h2 := by
  rw [evE]
  exact (bind_ok e1).trans ((bind_ok (truth_ok e2)).trans e3)
theorem cmpD_okP {o : COp} (e : cmpB o h x y = some r) : cmpD o x y h = .ok r h := by
  unfold cmpD
  rw [e]
theorem ee_cmp {o : COp} (e1 : (ev Γ n).e k a ρ h = .ok x h1) (e2 : (ev Γ n).e k b ρ h1 = .ok y h2) (e3 : cmpB o h2 x y = some r) : (ev Γ (n + 1)).e k (.cmp o a b) ρ h = .ok (.bl r) h2 := by
  rw [evE]
  exact (bind_ok e1).trans ((bind_ok e2).trans ((bind_ok (cmpD_okP e3)).trans rfl))
theorem ee_iteT (e1 : (ev Γ n).e k t ρ h = .ok x h1) (e2 : truth h1 x = some true) (e3 : (ev Γ n).e k a ρ h1 = .ok y h2) : (ev Γ (n + 1)).e k (.ite t a b) ρ h = .ok y h2 := by
  rw [evE]
  exact (bind_ok e1).trans ((bind_ok (truth_ok e2)).trans e3)
theorem ee_iteF (e1 : (ev Γ n).e k t ρ h = .ok x h1) (e2 : truth h1 x = some false) (e3 : (ev Γ n).e k b ρ h1 = .ok y h2) : (ev Γ (n + 1)).e k (.ite t a b) ρ h = .ok y h2 := by
  rw [evE]
  exact (bind_ok e1).trans ((bind_ok (truth_ok e2)).trans e3)
theorem ea_nil {f : E → M D} : mapM' f [] h = .ok [] h := rfl
theorem ea_cons {f : E → M D} (e1 : f a h = .ok x h1) (e2 : mapM' f as h1 = .ok xs h2) : mapM' f (a :: as) h = .ok (x :: xs) h2 := (bind_ok e1).trans ((bind_ok e2).trans rfl)
theorem ee_call {f : Str} (e1 : mapM' (fun e => (ev Γ n).e k e ρ) as h = .ok xs h1) (e2 : callF Γ (ev Γ n) k f xs h1 = .ok d h2) : (ev Γ (n + 1)).e k (.call f as) ρ h = .ok d h2 := by
  rw [evE]
  exact (bind_ok e1).trans e2
theorem ee_callX {f s : Str} (e1 : mapM' (fun e => (ev Γ n).e k e ρ) as h = .ok xs h1) (e2 : callF Γ (ev Γ n) k f xs h1 = .exc s d h2) : (ev Γ (n + 1)).e k (.call f as) ρ h = .exc s d h2 := by
  rw [evE]
  exact (bind_ok e1).trans e2
theorem ee_bi {f : BI} (e1 : mapM' (fun e => (ev Γ n).e k e ρ) as h = .ok xs h1) (e2 : biD f xs h1 = .ok d h2) : (ev Γ (n + 1)).e k (.bi f as) ρ h = .ok d h2 := by
  rw [evE]
  exact (bind_ok e1).trans e2
theorem ee_isi {T : String} (e1 : (ev Γ n).e k a ρ h = .ok x h1) (e2 : isiD Γ T x h1 = .ok d h2) : (ev Γ (n + 1)).e k (.isi a T) ρ h = .ok d h2 := by
  rw [evE]
  exact (bind_ok e1).trans e2
theorem ee_mt {m : MT} (e1 : (ev Γ n).e k a ρ h = .ok x h1) (e2 : recvOk m h1 x = true) (e3 : mapM' (fun e => (ev Γ n).e k e ρ) as h1 = .ok xs h2) (e4 : mtD m x xs h2 = .ok d h3) : (ev Γ (n + 1)).e k (.mt m a as) ρ h = .ok d h3 := by
  rw [evE]
  refine (bind_ok e1).trans ((bind_ok (h1 := h1) (u := ()) ?_).trans ((bind_ok e3).trans e4))
  unfold recvM
  rw [if_pos e2]
theorem ee_ix (e1 : (ev Γ n).e k a ρ h = .ok x h1) (e2 : (ev Γ n).e k b ρ h1 = .ok y h2) (e3 : ixD x y h2 = .ok z h3) : (ev Γ (n + 1)).e k (.ix a b) ρ h = .ok z h3 := by
  rw [evE]
  exact (bind_ok e1).trans ((bind_ok e2).trans e3)
theorem ee_tup (e1 : mapM' (fun e => (ev Γ n).e k e ρ) as h = .ok xs h1) (e2 : xs.length ≤ 1000) : (ev Γ (n + 1)).e k (.tup as) ρ h = .ok (.tup xs) h1 := by
  rw [evE]
  refine (bind_ok e1).trans ?_
  show (if xs.length ≤ 1000 then M.ret (D.tup xs) else M.fail) h1 = _
  rw [if_pos e2]
  rfl
theorem ee_lst (e1 : mapM' (fun e => (ev Γ n).e k e ρ) as h = .ok xs h1) (e2 : xs.length ≤ 1000) : (ev Γ (n + 1)).e k (.lst as) ρ h = .ok (.ref h1.length) (h1 ++ [.lst xs]) := by
  rw [evE]
  refine (bind_ok e1).trans ?_
  show (if xs.length ≤ 1000 then alloc (.lst xs) else M.fail) h1 = _
  rw [if_pos e2]
  rfl
theorem ee_dct0 : (ev Γ (n + 1)).e k .dct0 ρ h = .ok (.ref h.length) (h ++ [.dct []]) := rfl
theorem ee_fld {f s : Str} {l : Nat} (e1 : (ev Γ n).e k a ρ h = .ok (.ref l) h1) (e2 : h1[l]? = some (.exc s d)) (e3 : Γ.fd.lookup s = some f) : (ev Γ (n + 1)).e k (.fld a f) ρ h = .ok d h1 := by
  rw [evE]
  refine (bind_ok e1).trans ?_
  show (match h1[l]? with
      | some (.exc c v) => match Γ.fd.lookup c with
        | some g => if g = f then R.ok v h1 else .bad
        | none => .bad
      | _ => .bad) = _
  rw [e2]
  dsimp only
  rw [e3]
  dsimp only
  rw [if_pos rfl]
theorem ee_lc {tg : Tg} {it : Wk} {own : List Nat} {v : IV} (e1 : ivE (ev Γ n) k ρ it h = .ok v h1) (e2 : loopC v tg ((ev Γ n).e k a) h1.length (wipeD ρ own) (v.len (h1 ++ [.lst []])) 0 (h1 ++ [.lst []]) = .ok () h2) : (ev Γ (n + 1)).e k (.lc a tg it own) ρ h = .ok (.ref h1.length) h2 := by
  rw [evE]
  refine (bind_ok e1).trans ?_
  show (match (R.ok (.ref h1.length) (h1 ++ [.lst []]) : R D) with
    | .ok a h' => (match a with
      | .ref l => M.bind (loopC v tg _ l (wipeD ρ own) (v.len h') 0) (fun _ => M.ret (D.ref l)) h'
      | _ => .bad)
    | .exc c v h' => .exc c v h'
    | .bad => .bad) = _
  exact (bind_ok e2).trans rfl
theorem ivp_rng {m : Int} (e1 : (ev Γ n).e k a ρ h = .ok (.int m) h1) (e2 : -100000 ≤ m ∧ m ≤ 100000) : ivE (ev Γ n) k ρ (.rng a) h = .ok (.items ((List.range m.toNat).map fun i => .int (i : Nat))) h1 := by
  refine (bind_ok e1).trans ?_
  show (if -100000 ≤ m ∧ m ≤ 100000 then R.ok (IV.items ((List.range m.toNat).map fun i => .int (i : Nat))) h1 else .bad) = _
  rw [if_pos e2]
theorem iv_over {v : IV} (e1 : (ev Γ n).e k a ρ h = .ok x h1) (e2 : ivOf x h1 = .ok v h2) : ivE (ev Γ n) k ρ (.over a) h = .ok v h2 := (bind_ok e1).trans e2
theorem iv_enum {v : IV} {m : Int} (e1 : (ev Γ n).e k a ρ h = .ok x h1) (e2 : ivOfE x h1 = .ok v h2) : ivE (ev Γ n) k ρ (.enum a m) h = .ok (.enum v m) h2 := (bind_ok ((bind_ok e1).trans e2)).trans rfl
/-! ### statements -/
theorem lift_ok {α : Type} {m : M α} {f : α → MS} {u : α} (e : m h = .ok u h1) : liftS m ρ f h = f u h1 := by
  unfold liftS
  rw [e]
theorem lift_exc {α : Type} {m : M α} {f : α → MS} {s : Str} (e : m h = .exc s d h1) : liftS m ρ f h = .exc s d ρ h1 := by
  unfold liftS
  rw [e]
theorem es_asg (e1 : (ev Γ n).e k a ρ h = .ok x h1) : (ev Γ (n + 1)).s k (.asg i a) ρ h = .ok (.nx (ρ.set i (some x))) h1 := by
  rw [evS]
  exact lift_ok e1
theorem es_asgX {s : Str} (e1 : (ev Γ n).e k a ρ h = .exc s x h1) : (ev Γ (n + 1)).s k (.asg i a) ρ h = .exc s x ρ h1 := by
  rw [evS]
  exact lift_exc e1
theorem es_par (e1 : (ev Γ n).e k a ρ h = .ok x h1) (e2 : (ev Γ n).e k b ρ h1 = .ok y h2) : (ev Γ (n + 1)).s k (.par i j a b) ρ h = .ok (.nx ((ρ.set i (some x)).set j (some y))) h2 := by
  rw [evS]
  exact (lift_ok e1).trans (lift_ok e2)
theorem es_set (e1 : (ev Γ n).e k c ρ h = .ok x h1) (e2 : (ev Γ n).e k a ρ h1 = .ok y h2) (e3 : (ev Γ n).e k b ρ h2 = .ok z h3) (e4 : setD y z x h3 = .ok () h4) : (ev Γ (n + 1)).s k (.setix a b c) ρ h = .ok (.nx ρ) h4 := by
  rw [evS]
  exact (lift_ok e1).trans ((lift_ok e2).trans ((lift_ok e3).trans (lift_ok e4)))
theorem es_ex (e1 : (ev Γ n).e k a ρ h = .ok x h1) : (ev Γ (n + 1)).s k (.ex a) ρ h = .ok (.nx ρ) h1 := by
  rw [evS]
  exact lift_ok e1
theorem es_ret (e1 : (ev Γ n).e k a ρ h = .ok x h1) : (ev Γ (n + 1)).s k (.ret a) ρ h = .ok (.rt x) h1 := by
  rw [evS]
  exact lift_ok e1
theorem es_raise {s : Str} (e1 : (ev Γ n).e k a ρ h = .ok x h1) : (ev Γ (n + 1)).s k (.raise s a) ρ h = .exc s x ρ h1 := by
  rw [evS]
  exact lift_ok e1
variable {ss ss1 : List S} {s0 : S} {rs : RS}
theorem es_ifT (e1 : (ev Γ n).e k a ρ h = .ok x h1) (e2 : truth h1 x = some true) (e3 : seqS ((ev Γ n).s k) ss ρ h1 = rs) : (ev Γ (n + 1)).s k (.ifs a ss ss1) ρ h = rs := by
  rw [evS]
  exact (lift_ok e1).trans ((lift_ok (truth_ok e2)).trans e3)
theorem es_ifF (e1 : (ev Γ n).e k a ρ h = .ok x h1) (e2 : truth h1 x = some false) (e3 : seqS ((ev Γ n).s k) ss1 ρ h1 = rs) : (ev Γ (n + 1)).s k (.ifs a ss ss1) ρ h = rs := by
  rw [evS]
  exact (lift_ok e1).trans ((lift_ok (truth_ok e2)).trans e3)
theorem es_for {tg : Tg} {it : Wk} {v : IV} (e1 : ivE (ev Γ n) k ρ it h = .ok v h1) (e2 : loopS v tg (seqS ((ev Γ n).s k) ss) (v.len h1) 0 ρ h1 = rs) : (ev Γ (n + 1)).s k (.for_ tg it ss) ρ h = rs := by
  rw [evS]
  exact (lift_ok e1).trans e2
theorem ess_nil {f : S → Env' → MS} : seqS f [] ρ h = .ok (.nx ρ) h := rfl
theorem ess_nx {f : S → Env' → MS} (e1 : f s0 ρ h = .ok (.nx ρ1) h1) (e2 : seqS f ss ρ1 h1 = rs) : seqS f (s0 :: ss) ρ h = rs := by
  show (match f s0 ρ h with | .ok (.nx ρ') h' => seqS f ss ρ' h' | r => r) = _
  rw [e1]
  exact e2
theorem ess_rt {f : S → Env' → MS} (e1 : f s0 ρ h = .ok (.rt d) h1) : seqS f (s0 :: ss) ρ h = .ok (.rt d) h1 := by
  show (match f s0 ρ h with | .ok (.nx ρ') h' => seqS f ss ρ' h' | r => r) = _
  rw [e1]
theorem ess_exc {f : S → Env' → MS} {s : Str} (e1 : f s0 ρ h = .exc s d ρ1 h1) : seqS f (s0 :: ss) ρ h = .exc s d ρ1 h1 := by
  show (match f s0 ρ h with | .ok (.nx ρ') h' => seqS f ss ρ' h' | r => r) = _
  rw [e1]
theorem es_tryOk {C : String} (e1 : seqS ((ev Γ n).s k) ss ρ h = .ok (.nx ρ1) h1) : (ev Γ (n + 1)).s k (.try_ ss C i ss1) ρ h = .ok (.nx ρ1) h1 := by
  rw [evS]
  show (match seqS ((ev Γ n).s k) ss ρ h with
    | .exc c' v ρ' h' => match Γ.sub.lookup c' with
      | none => RS.bad
      | some ts => if ts.contains C then match seqS ((ev Γ n).s k) ss1 (ρ'.set i (some (D.ref h'.length))) (h' ++ [O.exc c' v]) with
        | .ok (.nx ρ2) h2 => RS.ok (.nx (ρ2.set i none)) h2
        | .ok (.rt d) h2 => RS.ok (.rt d) h2
        | _ => RS.bad
        else RS.exc c' v ρ' h'
    | r => r) = _
  rw [e1]
theorem es_tryX {C : String} {s : Str} {ts : List String} (e1 : seqS ((ev Γ n).s k) ss ρ h = .exc s d ρ1 h1) (e2 : Γ.sub.lookup s = some ts) (e3 : ts.contains C = true) (e4 : seqS ((ev Γ n).s k) ss1 (ρ1.set i (some (.ref h1.length))) (h1 ++ [.exc s d]) = .ok (.nx ρ2) h2) :
    (ev Γ (n + 1)).s k (.try_ ss C i ss1) ρ h = .ok (.nx (ρ2.set i none)) h2 := by
  rw [evS]
  show (match seqS ((ev Γ n).s k) ss ρ h with
    | .exc c' v ρ' h' => match Γ.sub.lookup c' with
      | none => RS.bad
      | some ts => if ts.contains C then match seqS ((ev Γ n).s k) ss1 (ρ'.set i (some (D.ref h'.length))) (h' ++ [O.exc c' v]) with
        | .ok (.nx ρ2) h2 => RS.ok (.nx (ρ2.set i none)) h2
        | .ok (.rt d) h2 => RS.ok (.rt d) h2
        | _ => RS.bad
        else RS.exc c' v ρ' h'
    | r => r) = _
  rw [e1]
  dsimp only
  rw [e2]
  dsimp only
  rw [if_pos e3, e4]
theorem done_rt {m : MS} (e : m h = .ok (.rt d) h1) : doneS m h = .ok d h1 := by
  unfold doneS
  rw [e]
theorem done_exc {m : MS} {s : Str} (e : m h = .exc s d ρ h1) : doneS m h = .exc s d h1 := by
  unfold doneS
  rw [e]
/-! ### values -/
theorem bo_add {u v : Int} : bopD .add (.int u) (.int v) h = .ok (.int (u + v)) h := rfl
theorem bo_sub {u v : Int} : bopD .sub (.int u) (.int v) h = .ok (.int (u - v)) h := rfl
theorem bo_mul {u v : Int} (e : (small u || small v) = true) : bopD .mul (.int u) (.int v) h = .ok (.int (u * v)) h := by
  show (if (small u || small v) = true then R.ok (D.int (u * v)) h else .bad) = _
  rw [if_pos e]
theorem bo_mod {u v : Int} (e : v ≠ 0) : bopD .mod (.int u) (.int v) h = .ok (.int (u.fmod v)) h := by
  show (if v ≠ 0 then R.ok (D.int (u.fmod v)) h else .bad) = _
  rw [if_pos e]
theorem bo_fdiv {u v : Int} (e : v ≠ 0 ∧ v.natAbs < 1073741824) : bopD .fdiv (.int u) (.int v) h = .ok (.int (u.fdiv v)) h := by
  show (if v ≠ 0 ∧ v.natAbs < 1073741824 then R.ok (D.int (u.fdiv v)) h else .bad) = _
  rw [if_pos e]
theorem bo_pow {u v : Int} (e : 0 ≤ v ∧ (Builtin.Int.intBits u : Int) * v ≤ 2 ^ 27) : bopD .pow (.int u) (.int v) h = .ok (.int (u ^ v.toNat)) h := by
  show (if 0 ≤ v ∧ (Builtin.Int.intBits u : Int) * v ≤ 2 ^ 27 then R.ok (D.int (u ^ v.toNat)) h else .bad) = _
  rw [if_pos e]
theorem ix_ref {l : Nat} {u : Int} (e1 : h[l]? = some (.lst xs)) (e2 : atI xs u = some d) : ixD (.ref l) (.int u) h = .ok d h := by
  show (match (match h[l]? with | some (.lst xs) => some xs | _ => none) with
      | some xs => match atI xs u with
        | some d => R.ok d h
        | none => .bad
      | none => .bad) = _
  rw [e1]
  dsimp only
  rw [e2]
theorem set_ref {l m : Nat} {u : Int} (e1 : h[l]? = some (.lst xs)) (e2 : ixN xs.length u = some m) : setD (.ref l) (.int u) d h = .ok () (h.set l (.lst (xs.set m d))) := by
  show (match h[l]? with
    | some (.lst xs) => match ixN xs.length u with
      | some j => R.ok () (h.set l (.lst (xs.set j d)))
      | none => .bad
    | _ => .bad) = _
  rw [e1]
  dsimp only
  rw [e2]
theorem small_of {u : Int} (h1 : -(2 ^ 64) < u) (h2 : u < 2 ^ 64) : small u = true := by
  unfold small
  rw [decide_eq_true h1, decide_eq_true h2]
  rfl
theorem call_ok {f : Str} {fn : Fn} {m : List D → M D} (e1 : Γ.fns.lookup f = some fn) (e2 : xs.length = fn.np) {rr : R D} (e : sub xs (fun es => doneS (seqS ((ev Γ n).s k) fn.body (startE fn es))) h = rr) : callF Γ (ev Γ n) (k + 1) f xs h = rr := by
  unfold callF
  rw [e1]
  show (if xs.length = fn.np then sub xs (fun es => doneS (seqS ((ev Γ n).s k) fn.body (startE fn es))) else M.fail) h = rr
  rw [if_pos e2]
  exact e
end
end MP
namespace MP
open PySem PySem.Spec L2
theorem ixOf_getP : ∀ {L : List Nat} {l j : Nat}, ixOf L l = some j → L[j]? = some l
  | [], _, _, h => by cases h
  | m :: L, l, j, h => by
    have h : (if m = l then some 0 else (ixOf L l).map (· + 1)) = some j := h
    by_cases e : m = l
    · rw [if_pos e] at h
      cases h
      rw [e]
      rfl
    · rw [if_neg e] at h
      cases q : ixOf L l with
      | none => rw [q] at h; cases h
      | some i =>
        rw [q] at h
        cases h
        exact ixOf_getP (L := L) q
theorem out_ix {L : List Nat} {n l j : Nat} (h : ixOf L l = some j) : outOf L n j = some l := by
  have z := ixOf_getP h
  obtain ⟨hl, _⟩ := List.getElem?_eq_some_iff.mp z
  unfold outOf
  rw [if_pos hl]
  exact z
mutual
theorem renD_back {L : List Nat} {n : Nat} : ∀ d e : D, renD (ixOf L) d = some e → renD (outOf L n) e = some d
  | .ref l, e, h => by
    have h : (ixOf L l).map D.ref = some e := h
    cases q : ixOf L l with
    | none => rw [q] at h; cases h
    | some j =>
      rw [q] at h
      cases h
      show (outOf L n j).map D.ref = _
      rw [out_ix q]
      rfl
  | .tup xs, e, h => by
    have h : (renDs (ixOf L) xs).map D.tup = some e := h
    cases q : renDs (ixOf L) xs with
    | none => rw [q] at h; cases h
    | some ys =>
      rw [q] at h
      cases h
      show (renDs (outOf L n) ys).map D.tup = _
      rw [renDs_back xs ys q]
      rfl
  | .fl xs, e, h => by
    have h : (renDs (ixOf L) xs).map D.fl = some e := h
    cases q : renDs (ixOf L) xs with
    | none => rw [q] at h; cases h
    | some ys =>
      rw [q] at h
      cases h
      show (renDs (outOf L n) ys).map D.fl = _
      rw [renDs_back xs ys q]
      rfl
  | .non, e, h => by cases h; rfl
  | .bl _, e, h => by cases h; rfl
  | .int _, e, h => by cases h; rfl
  | .str _, e, h => by cases h; rfl
  | .ty _, e, h => by cases h; rfl
theorem renDs_back {L : List Nat} {n : Nat} : ∀ ds es : List D, renDs (ixOf L) ds = some es → renDs (outOf L n) es = some ds
  | [], es, h => by cases h; rfl
  | d :: ds, es, h => by
    have h : (match renD (ixOf L) d with | none => none | some e => match renDs (ixOf L) ds with | none => none | some es => some (e :: es)) = some es := h
    cases q : renD (ixOf L) d with
    | none => rw [q] at h; cases h
    | some e =>
      rw [q] at h
      dsimp only at h
      cases q2 : renDs (ixOf L) ds with
      | none => rw [q2] at h; cases h
      | some es' =>
        rw [q2] at h
        cases h
        show (match renD (outOf L n) e with | none => none | some e => match renDs (outOf L n) es' with | none => none | some es => some (e :: es)) = _
        rw [renD_back d e q, renDs_back ds es' q2]
end
theorem renDs_lenP {f : Nat → Option Nat} : ∀ {ds es : List D}, renDs f ds = some es → es.length = ds.length
  | [], es, h => by cases h; rfl
  | d :: ds, es, h => by
    have h : (match renD f d with | none => none | some e => match renDs f ds with | none => none | some es => some (e :: es)) = some es := h
    cases q : renD f d with
    | none => rw [q] at h; cases h
    | some e =>
      rw [q] at h
      dsimp only at h
      cases q2 : renDs f ds with
      | none => rw [q2] at h; cases h
      | some es' =>
        rw [q2] at h
        cases h
        rw [List.length_cons, List.length_cons, renDs_lenP q2]
theorem renO_back {L : List Nat} {n : Nat} : ∀ o e : O, renO (ixOf L) o = some e → renO (outOf L n) e = some o
  | .lst xs, e, h => by
    have h : (renDs (ixOf L) xs).map O.lst = some e := h
    cases q : renDs (ixOf L) xs with
    | none => rw [q] at h; cases h
    | some ys =>
      rw [q] at h
      cases h
      show (renDs (outOf L n) ys).map O.lst = _
      rw [renDs_back xs ys q]
      rfl
  | .dct kvs, e, h => by
    have h : (renDs (ixOf L) (kvs.map (·.2))).map (fun ds => O.dct ((kvs.map (·.1)).zip ds)) = some e := h
    cases q : renDs (ixOf L) (kvs.map (·.2)) with
    | none => rw [q] at h; cases h
    | some ys =>
      rw [q] at h
      cases h
      have hl := renDs_lenP q
      rw [List.length_map] at hl
      have e1 : ((kvs.map (·.1)).zip ys).map (·.2) = ys := List.map_snd_zip (by rw [List.length_map]; omega)
      have e2 : ((kvs.map (·.1)).zip ys).map (·.1) = kvs.map (·.1) := List.map_fst_zip (by rw [List.length_map]; omega)
      show (renDs (outOf L n) (((kvs.map (·.1)).zip ys).map (·.2))).map (fun ds => O.dct ((((kvs.map (·.1)).zip ys).map (·.1)).zip ds)) = _
      rw [e1, e2, renDs_back _ ys q]
      show some (O.dct ((kvs.map (·.1)).zip (kvs.map (·.2)))) = _
      rw [List.zip_map', List.map_id'']
      intro p
      rfl
  | .exc c v, e, h => by
    have h : (renD (ixOf L) v).map (O.exc c) = some e := h
    cases q : renD (ixOf L) v with
    | none => rw [q] at h; cases h
    | some y =>
      rw [q] at h
      cases h
      show (renD (outOf L n) y).map (O.exc c) = _
      rw [renD_back v y q]
      rfl
theorem renOs_split {f : Nat → Option Nat} {o : O} {os es : List O} (h : renOs f (o :: os) = some es) : ∃ e es', es = e :: es' ∧ renO f o = some e ∧ renOs f os = some es' := by
  have h : (match renO f o with | none => none | some e => match renOs f os with | none => none | some es => some (e :: es)) = some es := h
  cases q : renO f o with
  | none => rw [q] at h; cases h
  | some e =>
    rw [q] at h
    dsimp only at h
    cases q2 : renOs f os with
    | none => rw [q2] at h; cases h
    | some es' =>
      rw [q2] at h
      cases h
      exact ⟨e, es', rfl, rfl, rfl⟩
theorem renOs_back {L : List Nat} {n : Nat} : ∀ os es : List O, renOs (ixOf L) os = some es → renOs (outOf L n) es = some os
  | [], es, h => by cases h; rfl
  | o :: os, es, h => by
    obtain ⟨e, es', rfl, h1, h2⟩ := renOs_split h
    exact renOs_cons (renO_back o e h1) (renOs_back os es' h2)
theorem renOs_app {f : Nat → Option Nat} : ∀ {os es g g1 : List O}, renOs f os = some es → renOs f g = some g1 → renOs f (os ++ g) = some (es ++ g1)
  | [], es, g, g1, h, h2 => by cases h; exact h2
  | o :: os, es, g, g1, h, h2 => by
    obtain ⟨e, es', rfl, h3, h4⟩ := renOs_split h
    exact renOs_cons h3 (renOs_app h4 h2)
theorem gets_split {h : Ob} {l : Nat} {L : List Nat} {os : List O} (e : getsO h (l :: L) = some os) : ∃ o os', os = o :: os' ∧ h[l]? = some o ∧ getsO h L = some os' := by
  have e : (match h[l]? with | none => none | some o => match getsO h L with | none => none | some os => some (o :: os)) = some os := e
  cases q : h[l]? with
  | none => rw [q] at e; cases e
  | some o =>
    rw [q] at e
    dsimp only at e
    cases q2 : getsO h L with
    | none => rw [q2] at e; cases e
    | some os' =>
      rw [q2] at e
      cases e
      exact ⟨o, os', rfl, rfl, rfl⟩
theorem gets_cons {h : Ob} {l : Nat} {L : List Nat} {o : O} {os : List O} (e1 : h[l]? = some o) (e2 : getsO h L = some os) : getsO h (l :: L) = some (o :: os) := by
  show (match h[l]? with | none => none | some o => match getsO h L with | none => none | some os => some (o :: os)) = _
  rw [e1, e2]
theorem gets_len {h : Ob} : ∀ {L : List Nat} {os : List O}, getsO h L = some os → os.length = L.length
  | [], os, e => by cases e; rfl
  | l :: L, os, e => by
    obtain ⟨o, os', rfl, _, e2⟩ := gets_split e
    rw [List.length_cons, List.length_cons, gets_len e2]
theorem set_same {h : Ob} {l : Nat} {o : O} (e : h[l]? = some o) : h.set l o = h := by
  obtain ⟨hl, e⟩ := List.getElem?_eq_some_iff.mp e
  rw [← e]
  exact List.set_getElem_self hl
theorem puts_same {h : Ob} : ∀ {L : List Nat} {os : List O}, getsO h L = some os → putsO h L os = h
  | [], os, e => by cases e; rfl
  | l :: L, os, e => by
    obtain ⟨o, os', rfl, e1, e2⟩ := gets_split e
    show putsO (h.set l o) L os' = h
    rw [set_same e1]
    exact puts_same e2
theorem gets_set {h : Ob} {l : Nat} {p : O} : ∀ {L : List Nat} {os : List O}, l ∉ L → getsO h L = some os → getsO (h.set l p) L = some os
  | [], os, _, e => e
  | m :: L, os, hn, e => by
    obtain ⟨o, os', rfl, e1, e2⟩ := gets_split e
    refine gets_cons ?_ (gets_set (fun z => hn (List.mem_cons_of_mem _ z)) e2)
    have ne : l ≠ m := fun z => hn (by rw [z]; exact List.mem_cons_self)
    rw [List.getElem?_set_ne ne]
    exact e1
/-- a call that changes nothing but the first place of what it reaches -/
theorem sub_chg {ds ds1 : List D} {m : List D → M D} {h g os os1 : Ob} {o1 o p p1 : O} {d d1 : D} {l : Nat} {L : List Nat} (hL : reach h 200 (refsDs ds) [] = l :: L) (hn : l ∉ L) (h1 : getsO h (l :: L) = some (o :: os)) (h2 : renOs (ixOf (l :: L)) (o :: os) = some (o1 :: os1))
    (h3 : renDs (ixOf (l :: L)) ds = some ds1) (e : m ds1 (o1 :: os1) = .ok d (p :: (os1 ++ g))) (h4 : renO (outOf (l :: L) h.length) p = some p1) (h5 : renD (outOf (l :: L) h.length) d = some d1) : ∃ g1, sub ds m h = .ok d1 (h.set l p1 ++ g1) := by
  obtain ⟨g1, e1⟩ := renOs_tot (outOf (l :: L) h.length) (outOf_tot (l :: L) h.length) g
  obtain ⟨_, _, z, _, r2⟩ := renOs_split h2
  cases z
  obtain ⟨_, _, z, q1, q2⟩ := gets_split h1
  cases z
  have back : renOs (outOf (l :: L) h.length) os1 = some os := renOs_back os os1 r2
  refine ⟨g1, (sub_run (l :: L) hL h1 h2 h3 e (renOs_cons h4 (renOs_app back e1)) h5).trans ?_⟩
  have hl : os.length = L.length := gets_len q2
  have t1 : (p1 :: (os ++ g1)).take (l :: L).length = p1 :: os := by
    show p1 :: (os ++ g1).take L.length = _
    rw [← hl, List.take_left]
  have t2 : (p1 :: (os ++ g1)).drop (l :: L).length = g1 := by
    show (os ++ g1).drop L.length = _
    rw [← hl, List.drop_left]
  rw [t1, t2]
  show R.ok d1 (putsO (h.set l p1) L os ++ g1) = _
  rw [puts_same (gets_set hn q2)]
end MP
namespace MP
open PySem PySem.Spec L2
section
variable {v : IV} {tg : Tg} {body : Env' → MS} {m i : Nat} {ρ ρ1 ρ2 : Env'} {h h1 : Ob} {x y d : D} {elt : Env' → M D} {l : Nat} {acc : List D}
theorem loop_end (e1 : v.ok h = true) (e2 : v.get h i = none) : loopS v tg body m i ρ h = .ok (.nx ρ) h := by
  unfold loopS
  rw [if_pos e1, e2]
theorem loop_nx (e1 : v.ok h = true) (e2 : v.get h i = some x) (e3 : bindTg tg x ρ = some ρ1) (e4 : body ρ1 h = .ok (.nx ρ2) h1) : loopS v tg body (m + 1) i ρ h = loopS v tg body m (i + 1) ρ2 h1 := by
  rw [loopS]
  dsimp only
  rw [if_pos e1, e2]
  dsimp only
  rw [e3]
  dsimp only
  rw [e4]
theorem loop_rt (e1 : v.ok h = true) (e2 : v.get h i = some x) (e3 : bindTg tg x ρ = some ρ1) (e4 : body ρ1 h = .ok (.rt d) h1) : loopS v tg body (m + 1) i ρ h = .ok (.rt d) h1 := by
  rw [loopS]
  dsimp only
  rw [if_pos e1, e2]
  dsimp only
  rw [e3]
  dsimp only
  rw [e4]
theorem loop_exc {c : Str} (e1 : v.ok h = true) (e2 : v.get h i = some x) (e3 : bindTg tg x ρ = some ρ1) (e4 : body ρ1 h = .exc c d ρ2 h1) : loopS v tg body (m + 1) i ρ h = .exc c d ρ2 h1 := by
  rw [loopS]
  dsimp only
  rw [if_pos e1, e2]
  dsimp only
  rw [e3]
  dsimp only
  rw [e4]
theorem loopC_end (e1 : v.ok h = true) (e2 : v.get h i = none) : loopC v tg elt l ρ m i h = .ok () h := by
  unfold loopC
  rw [if_pos e1, e2]
theorem loopC_nx (e1 : v.ok h = true) (e2 : v.get h i = some x) (e3 : bindTg tg x ρ = some ρ1) (e4 : elt ρ1 h = .ok y h1) (e5 : h1[l]? = some (.lst acc)) (e6 : acc.length < 100000) : loopC v tg elt l ρ (m + 1) i h = loopC v tg elt l ρ m (i + 1) (h1.set l (.lst (acc ++ [y]))) := by
  rw [loopC]
  dsimp only
  rw [if_pos e1, e2]
  dsimp only
  rw [e3]
  dsimp only
  rw [e4]
  dsimp only
  rw [e5]
  dsimp only
  rw [if_pos e6]
theorem app_ok (e1 : h[l]? = some (.lst acc)) (e2 : acc.length < 100000) : mtD .append (.ref l) [d] h = .ok .non (h.set l (.lst (acc ++ [d]))) := by
  show (match h[l]? with
    | some (.lst xs) => if xs.length < 100000 then R.ok D.non (h.set l (.lst (xs ++ [d]))) else .bad
    | _ => .bad) = _
  rw [e1]
  dsimp only
  rw [if_pos e2]
theorem get_app {g : Ob} {o : O} (e : h[l]? = some o) : (h ++ g)[l]? = some o := by
  obtain ⟨z, _⟩ := List.getElem?_eq_some_iff.mp e
  rw [List.getElem?_append_left z]
  exact e
theorem get_set {k : Nat} {o p : O} (e : h[l]? = some o) (ne : k ≠ l) : (h.set k p)[l]? = some o := by
  rw [List.getElem?_set_ne ne]
  exact e
theorem get_put {o p : O} (e : h[l]? = some o) : (h.set l p)[l]? = some p := by
  obtain ⟨z, _⟩ := List.getElem?_eq_some_iff.mp e
  exact List.getElem?_set_self z
theorem at_getP {xs : List D} (e : h[l]? = some (.lst xs)) : (IV.at_ l).get h i = xs[i]? := by
  show (match h[l]? with | some (.lst xs) => xs[i]? | _ => none) = _
  rw [e]
theorem at_ok {xs : List D} (e : h[l]? = some (.lst xs)) : (IV.at_ l).ok h = true := by
  show (match h[l]? with | some (.lst _) => true | _ => false) = _
  rw [e]
theorem at_len {xs : List D} (e : h[l]? = some (.lst xs)) : (IV.at_ l).len h = xs.length := by
  show (match h[l]? with | some (.lst xs) => xs.length | _ => 0) = _
  rw [e]
end
/-- a call that changes nothing and ends in an error -/
theorem sub_keepX {ds ds1 : List D} {m : List D → M D} {h g os os1 : Ob} {c : Str} {d : D} {L : List Nat} (hL : reach h 200 (refsDs ds) [] = L) (h1 : getsO h L = some os) (h2 : renOs (ixOf L) os = some os1)
    (h3 : renDs (ixOf L) ds = some ds1) (e : m ds1 os1 = .exc c d (os1 ++ g)) (h5 : refsD d = []) : ∃ g1, sub ds m h = .exc c d (h ++ g1) := by
  obtain ⟨g1, e1⟩ := renOs_tot (outOf L h.length) (outOf_tot L h.length) g
  have back : renOs (outOf L h.length) os1 = some os := renOs_back os os1 h2
  have all := renOs_app back e1
  refine ⟨g1, ?_⟩
  unfold sub
  dsimp only
  rw [hL, h1]
  dsimp only
  rw [h2, h3]
  dsimp only
  rw [e]
  dsimp only
  rw [all, renD_id _ d h5]
  have hl : os.length = L.length := gets_len h1
  dsimp only
  rw [← hl, List.take_left, List.drop_left, puts_same h1]
/-- a call that changes nothing -/
theorem sub_keep {ds ds1 : List D} {m : List D → M D} {h g os os1 : Ob} {d : D} {L : List Nat} (hL : reach h 200 (refsDs ds) [] = L) (h1 : getsO h L = some os) (h2 : renOs (ixOf L) os = some os1)
    (h3 : renDs (ixOf L) ds = some ds1) (e : m ds1 os1 = .ok d (os1 ++ g)) (h5 : refsD d = []) : ∃ g1, sub ds m h = .ok d (h ++ g1) := by
  obtain ⟨g1, e1⟩ := renOs_tot (outOf L h.length) (outOf_tot L h.length) g
  have back : renOs (outOf L h.length) os1 = some os := renOs_back os os1 h2
  have all := renOs_app back e1
  refine ⟨g1, (sub_run L hL h1 h2 h3 e all (renD_id _ d h5)).trans ?_⟩
  have hl : os.length = L.length := gets_len h1
  rw [← hl, List.take_left, List.drop_left, puts_same h1]
end MP
namespace K88
open PySem PySem.Spec L2 MP
def fn_is_integer : Fn := ⟨1, 1, [(.ret (.and (.isi (.v 0) "int") (.not (.isi (.v 0) "bool"))))]⟩
def fn_is_between : Fn := ⟨3, 3, [(.ret (.and (.call "is_integer" [(.v 0)]) (.chain .le .le (.v 1) (.v 0) (.v 2))))]⟩
def fn_is_name : Fn := ⟨1, 2, [(.ifs (.or (.not (.isi (.v 0) "str")) (.or (.not (.chain .le .le (.c (.int 1)) (.bi .len [(.v 0)]) (.g "MOST_LETTERS"))) (.cmp .isin (.v 0) (.g "TAKEN")))) [(.ret (.c (.bl false)))] []), (.ret (.bi .all [(.lc (.cmp .isin (.v 1) (.g "LETTERS")) (.name 1) (.over (.v 0)) [1])]))]⟩
def fn_is_move : Fn := ⟨1, 1, [(.ifs (.or (.not (.isi (.v 0) "tuple")) (.or (.cmp .eq (.v 0) (.tup [])) (.not (.isi (.ix (.v 0) (.c (.int 0))) "str")))) [(.ret (.c (.bl false)))] []), (.ifs (.cmp .eq (.ix (.v 0) (.c (.int 0))) (.g "DEED")) [(.ret (.and (.cmp .eq (.bi .len [(.v 0)]) (.c (.int 3))) (.and (.call "is_name" [(.ix (.v 0) (.c (.int 1)))]) (.call "is_between" [(.ix (.v 0) (.c (.int 2))), (.c (.int 0)), (.g "MOST_NUMBER")]))))] []), (.ifs (.cmp .isin (.ix (.v 0) (.c (.int 0))) (.g "PLACED")) [(.ret (.and (.cmp .eq (.bi .len [(.v 0)]) (.c (.int 2))) (.call "is_between" [(.ix (.v 0) (.c (.int 1))), (.c (.int 0)), (.g "MOST_NUMBER")])))] []), (.ret (.cmp .eq (.v 0) (.tup [(.g "OVER")])))]⟩
def fn_show_move : Fn := ⟨1, 2, [(.ifs (.and (.cmp .eq (.ix (.v 0) (.c (.int 0))) (.g "DEED")) (.cmp .eq (.ix (.v 0) (.c (.int 2))) (.c (.int 0)))) [(.ret (.fmt3 (.g "DEED") " " (.ix (.v 0) (.c (.int 1)))))] []), (.ret (.mt .join (.g "BLANK") [(.lc (.bi .str [(.v 1)]) (.name 1) (.over (.v 0)) [1])]))]⟩
def fn_number_in : Fn := ⟨1, 2, [(.ifs (.or (.cmp .eq (.v 0) (.c (.str ""))) (.or (.cmp .gt (.bi .len [(.v 0)]) (.bi .len [(.bi .str [(.g "MOST_NUMBER")])])) (.not (.bi .all [(.lc (.cmp .isin (.v 1) (.g "DIGITS")) (.name 1) (.over (.v 0)) [1])])))) [(.ret (.c .non))] []), (.ret (.ite (.cmp .eq (.bi .str [(.bi .int [(.v 0)])]) (.v 0)) (.bi .int [(.v 0)]) (.c .non)))]⟩
def fn_move_in : Fn := ⟨1, 4, [(.asg 1 (.mt .split (.v 0) [(.g "BLANK")])), (.ifs (.cmp .eq (.v 1) (.lst [(.g "OVER")])) [(.ret (.tup [(.g "OVER")]))] []), (.ifs (.and (.cmp .eq (.ix (.v 1) (.c (.int 0))) (.g "DEED")) (.and (.cmp .isin (.bi .len [(.v 1)]) (.tup [(.c (.int 2)), (.c (.int 3))])) (.call "is_name" [(.ix (.v 1) (.c (.int 1)))]))) [(.asg 2 (.ite (.cmp .eq (.bi .len [(.v 1)]) (.c (.int 3))) (.call "number_in" [(.ix (.v 1) (.c (.int 2)))]) (.c (.int 0)))), (.ret (.ite (.or (.cmp .is_ (.v 2) (.c .non)) (.and (.cmp .eq (.bi .len [(.v 1)]) (.c (.int 3))) (.cmp .eq (.v 2) (.c (.int 0))))) (.c .non) (.tup [(.g "DEED"), (.ix (.v 1) (.c (.int 1))), (.v 2)])))] []), (.ifs (.and (.cmp .isin (.ix (.v 1) (.c (.int 0))) (.g "PLACED")) (.cmp .eq (.bi .len [(.v 1)]) (.c (.int 2)))) [(.asg 3 (.call "number_in" [(.ix (.v 1) (.c (.int 1)))])), (.ret (.ite (.cmp .is_ (.v 3) (.c .non)) (.c .non) (.tup [(.ix (.v 1) (.c (.int 0))), (.v 3)])))] []), (.ret (.c .non))]⟩
def fn_show_story : Fn := ⟨1, 3, [(.ifs (.not (.isi (.v 0) "tuple")) [(.raise "BadStory" (.c (.int 0)))] []), (.for_ (.pair 1 2) (.enum (.v 0) 1) [(.ifs (.not (.call "is_move" [(.v 2)])) [(.raise "BadStory" (.v 1))] [])]), (.ret (.mt .join (.g "FEED") [(.lc (.call "show_move" [(.v 2)]) (.name 2) (.over (.v 0)) [2])]))]⟩
def fn_read_story : Fn := ⟨1, 5, [(.ifs (.not (.isi (.v 0) "str")) [(.raise "BadText" (.c (.int 0)))] []), (.asg 1 (.lst [])), (.for_ (.pair 2 3) (.enum (.ite (.cmp .ne (.v 0) (.c (.str ""))) (.mt .split (.v 0) [(.g "FEED")]) (.lst [])) 1) [(.asg 4 (.call "move_in" [(.v 3)])), (.ifs (.cmp .is_ (.v 4) (.c .non)) [(.raise "BadText" (.v 2))] []), (.ex (.mt .append (.v 1) [(.v 4)]))]), (.ret (.bi .tuple [(.v 1)]))]⟩
def fn__law_pot : Fn := ⟨2, 5, [(.asg 2 (.ite (.cmp .lt (.v 1) (.bi .len [(.v 0)])) (.ix (.v 0) (.v 1)) (.bin .add (.bin .mul (.c (.int 41)) (.v 1)) (.c (.int 13))))), (.asg 3 (.bin .mul (.bin .mod (.bi .int [(.bi .abs [(.v 2)])]) (.bin .pow (.bin .pow (.c (.int 10)) (.c (.int 60))) (.c (.int 5)))) (.bi .int [(.cmp .ge (.bi .abs [(.v 2)]) (.bin .pow (.c (.int 10)) (.c (.int 18))))]))), (.asg 4 (.bin .add (.bin .add (.bin .mul (.bin .mod (.bi .int [(.v 2)]) (.c (.int 2305843009213693951))) (.c (.int 70913))) (.bin .mul (.bin .mul (.c (.int 6701)) (.v 1)) (.v 1))) (.c (.int 59)))), (.ret (.lst [(.v 3), (.bin .mod (.bi .int [(.v 4)]) (.c (.int 2305843009213693921))), (.c (.int 0))]))]⟩
def fn__law_take : Fn := ⟨2, 5, [(.ifs (.cmp .gt (.ix (.v 0) (.c (.int 0))) (.c (.int 0))) [(.asg 2 (.bin .mod (.bi .int [(.ix (.v 0) (.c (.int 0)))]) (.v 1))), (.setix (.v 0) (.c (.int 0)) (.bin .fdiv (.ix (.v 0) (.c (.int 0))) (.v 1))), (.ret (.v 2))] []), (.setix (.v 0) (.c (.int 2)) (.bin .add (.ix (.v 0) (.c (.int 2))) (.c (.int 1)))), (.asg 3 (.ix (.lst [(.c (.int 2147483647)), (.c (.int 2147483629)), (.c (.int 2147483587)), (.c (.int 2147483579)), (.c (.int 2147483563))]) (.bin .mod (.bi .int [(.ix (.v 0) (.c (.int 2)))]) (.c (.int 5))))), (.asg 4 (.bin .mod (.bi .int [(.bin .pow (.bi .int [(.bin .add (.bin .add (.ix (.v 0) (.c (.int 1))) (.bin .mul (.bin .mul (.c (.int 98999)) (.ix (.v 0) (.c (.int 2)))) (.ix (.v 0) (.c (.int 2))))) (.c (.int 43)))]) (.c (.int 3)))]) (.v 3))), (.asg 4 (.bin .mod (.bi .int [(.bin .mul (.v 4) (.bin .add (.bin .mod (.bi .int [(.v 4)]) (.c (.int 10007))) (.bin .mul (.c (.int 79)) (.ix (.v 0) (.c (.int 2))))))]) (.c (.int 2305843009213693907)))), (.ret (.bin .mod (.bi .int [(.bin .fdiv (.v 4) (.c (.int 103)))]) (.v 1)))]⟩
def fn__law_of : Fn := ⟨2, 2, [(.ret (.ix (.v 1) (.call "_law_take" [(.v 0), (.bi .len [(.v 1)])])))]⟩
def fn__law_name : Fn := ⟨1, 1, [(.ret (.call "_law_of" [(.v 0), (.lst [(.c (.str "a")), (.c (.str "tell")), (.c (.str "deed")), (.c (.str "over")), (.c (.str "zzzzzzzz")), (.c (.str "its")), (.c (.str "ask")), (.c (.str "sends"))])]))]⟩
def fn__law_number : Fn := ⟨1, 1, [(.ret (.call "_law_of" [(.v 0), (.lst [(.c (.int 0)), (.c (.int 0)), (.c (.int 1)), (.c (.int 2)), (.c (.int 9)), (.c (.int 10)), (.c (.int 99)), (.c (.int 100)), (.c (.int 999))])]))]⟩
def fn__law_move : Fn := ⟨1, 2, [(.asg 1 (.call "_law_of" [(.v 0), (.lst [(.c (.str "deed")), (.c (.str "deed")), (.c (.str "deed")), (.c (.str "sends")), (.c (.str "does")), (.c (.str "comes")), (.c (.str "gone")), (.c (.str "over"))])])), (.ifs (.cmp .eq (.v 1) (.c (.str "deed"))) [(.ret (.tup [(.v 1), (.call "_law_name" [(.v 0)]), (.call "_law_number" [(.v 0)])]))] []), (.ret (.ite (.cmp .eq (.v 1) (.c (.str "over"))) (.tup [(.v 1)]) (.tup [(.v 1), (.call "_law_number" [(.v 0)])])))]⟩
def fn__law_none : Fn := ⟨1, 2, [(.asg 1 (.lst [(.c .non), (.tup []), (.c (.str "over")), (.lst [(.c (.str "over"))]), (.tup [(.c (.str "over")), (.c (.int 0))]), (.tup [(.c (.str "deed"))]), (.tup [(.c (.str "deed")), (.c (.str "a"))]), (.tup [(.c (.str "deed")), (.c (.str "it")), (.c (.int 0))]), (.tup [(.c (.str "deed")), (.c (.str "asked")), (.c (.int 1))])])), (.asg 1 (.bin .add (.v 1) (.lst [(.tup [(.c (.str "deed")), (.c (.str "abcdefghi")), (.c (.int 0))]), (.tup [(.c (.str "deed")), (.c (.str "")), (.c (.int 0))]), (.tup [(.c (.str "deed")), (.c (.str "a1")), (.c (.int 0))]), (.tup [(.c (.str "deed")), (.c (.str "A")), (.c (.int 0))]), (.tup [(.c (.str "deed")), (.c (.str "a")), (.c (.int 1000))])]))), (.asg 1 (.bin .add (.v 1) (.lst [(.tup [(.c (.str "deed")), (.c (.str "a")), (.neg (.c (.int 1)))]), (.tup [(.c (.str "deed")), (.c (.str "a")), (.c (.bl true))]), (.tup [(.c (.str "deed")), (.c (.str "a")), (.c .non)]), (.tup [(.c (.str "deed")), (.c (.int 3)), (.c (.int 0))]), (.tup [(.c (.str "deed")), (.c (.str "a")), (.c (.int 0)), (.c (.int 0))])]))), (.asg 1 (.bin .add (.v 1) (.lst [(.tup [(.c (.str "sends"))]), (.tup [(.c (.str "sends")), (.c (.int 1000))]), (.tup [(.c (.str "sends")), (.neg (.c (.int 1)))]), (.tup [(.c (.str "does")), (.c (.bl false))]), (.tup [(.c (.str "comes")), (.c (.str "0"))])]))), (.asg 1 (.bin .add (.v 1) (.lst [(.tup [(.c (.str "gone")), (.c (.int 1)), (.c (.int 2))]), (.tup [(.c (.str "go")), (.c (.int 1))]), (.tup [(.c .non), (.c (.int 1))]), (.tup [(.lst [(.c (.str "does"))]), (.c (.int 1))])]))), (.ret (.call "_law_of" [(.v 0), (.bin .add (.v 1) (.lst [(.tup [(.c (.str "deed")), (.lst [(.c (.str "a"))]), (.c (.int 0))]), (.tup [(.tup [(.c (.str "over"))])]), (.c (.int 7)), .dct0]))]))]⟩
def fn__law_written : Fn := ⟨1, 2, [(.ifs (.cmp .eq (.ix (.v 0) (.c (.int 0))) (.c (.str "deed"))) [(.ret (.bin .add (.bin .add (.c (.str "deed ")) (.ix (.v 0) (.c (.int 1)))) (.ite (.cmp .gt (.ix (.v 0) (.c (.int 2))) (.c (.int 0))) (.bin .add (.c (.str " ")) (.bi .str [(.ix (.v 0) (.c (.int 2)))])) (.c (.str "")))))] []), (.ret (.mt .join (.c (.str " ")) [(.lc (.bi .str [(.v 1)]) (.name 1) (.over (.v 0)) [1])]))]⟩
def fn__law_right : Fn := ⟨1, 11, [(.par 1 2 (.lc (.call "_law_move" [(.v 0)]) (.name 3) (.rng (.call "_law_take" [(.v 0), (.c (.int 9))])) [3]) (.c (.int 0))), (.ifs (.cmp .eq (.call "_law_take" [(.v 0), (.c (.int 3))]) (.c (.int 0))) [(.asg 4 (.call "_law_take" [(.v 0), (.bin .add (.bi .len [(.v 1)]) (.c (.int 1)))])), (.par 1 2 (.bin .add (.bin .add (.sl (.v 1) none (some (.v 4))) (.lst [(.call "_law_none" [(.v 0)])])) (.sl (.v 1) (some (.v 4)) none)) (.bin .add (.v 4) (.c (.int 1)))), (.asg 1 (.bin .add (.v 1) (.bin .mul (.lst [(.call "_law_none" [(.v 0)])]) (.call "_law_take" [(.v 0), (.c (.int 2))]))))] []), (.par 5 6 (.bi .tuple [(.v 1)]) (.reprD (.v 1))), (.asg 7 (.ite (.cmp .gt (.v 2) (.c (.int 0))) (.tup [(.c (.str "bad")), (.v 2)]) (.tup [(.c (.str "told")), (.mt .join (.c (.str "\n")) [(.lc (.call "_law_written" [(.v 8)]) (.name 8) (.over (.v 1)) [8])])]))), (.asg 9 (.lst [(.heard "_law_heard" (.call "show_story" [(.v 5)]))])), (.ex (.mt .append (.v 9) [(.heard "_law_heard" (.call "show_story" [(.v 5)]))])), (.ifs (.cmp .ne (.reprD (.v 9)) (.reprD (.lst [(.v 7), (.v 7)]))) [(.ret (.c (.bl false)))] []), (.ifs (.and (.cmp .eq (.v 2) (.c (.int 0))) (.cmp .ne (.reprD (.lst [(.call "read_story" [(.ix (.v 7) (.c (.int 1)))]), (.call "read_story" [(.ix (.v 7) (.c (.int 1)))])])) (.reprD (.lst [(.v 5), (.v 5)])))) [(.ret (.c (.bl false)))] []), (.asg 10 (.call "_law_of" [(.v 0), (.lst [(.c .non), (.v 1), (.c (.str "over")), (.c (.int 0)), .dct0, (.c (.bl true)), (.c (.str "deed a"))])])), (.ret (.and (.cmp .eq (.reprD (.heard "_law_heard" (.call "show_story" [(.v 10)]))) (.reprD (.tup [(.c (.str "bad")), (.c (.int 0))]))) (.cmp .eq (.reprD (.v 1)) (.v 6))))]⟩
def fn_law : Fn := ⟨1, 4, [(.for_ (.name 1) (.rng (.bi .max [(.c (.int 1)), (.bi .min [(.c (.int 3)), (.bi .len [(.v 0)])])])) [(.asg 2 (.call "_law_pot" [(.v 0), (.v 1)])), (.ifs (.not (.bi .all [(.lc (.call "_law_right" [(.v 2)]) (.name 3) (.rng (.c (.int 15))) [3])])) [(.ret (.c (.bl false)))] [])]), (.ret (.c (.bl true)))]⟩
def hd__law_heard : Hd := ⟨5, 1, 2, 3, "LateError", [(.asg 1 (.v 3))], [(.ifs (.cmp .is_ (.v 1) (.c .non)) [(.ret (.tup [(.c (.str "told")), (.v 2)]))] []), (.asg 4 (.and (.isi (.v 1) "BadStory") (.isi (.v 1) "ValueError"))), (.ret (.ite (.v 4) (.tup [(.c (.str "bad")), (.fld (.v 1) "number")]) (.tup [(.c (.str "other")), (.c .non)])))]⟩
def Γ : Tab where
  fns := [("is_integer", fn_is_integer), ("is_between", fn_is_between), ("is_name", fn_is_name), ("is_move", fn_is_move), ("show_move", fn_show_move), ("number_in", fn_number_in), ("move_in", fn_move_in), ("show_story", fn_show_story), ("read_story", fn_read_story), ("_law_pot", fn__law_pot), ("_law_take", fn__law_take), ("_law_of", fn__law_of), ("_law_name", fn__law_name), ("_law_number", fn__law_number), ("_law_move", fn__law_move), ("_law_none", fn__law_none), ("_law_written", fn__law_written), ("_law_right", fn__law_right), ("law", fn_law)]
  cs := [("LETTERS", (.str "abcdefghijklmnopqrstuvwxyz")), ("MOST_LETTERS", (.int 8)), ("TAKEN", (.tup [(.str "it"), (.str "asked")])), ("BLANK", (.str " ")), ("FEED", (.str "\n")), ("DEED", (.str "deed")), ("OVER", (.str "over")), ("PLACED", (.tup [(.str "sends"), (.str "does"), (.str "comes"), (.str "gone")])), ("MOST_NUMBER", (.int 999)), ("DIGITS", (.str "0123456789"))]
  sub := [("BadStory", ["BadStory", "LateError", "ValueError"]), ("BadText", ["BadText", "LateError", "ValueError"])]
  fd := [("BadStory", "number"), ("BadText", "line")]
  hd := [("_law_heard", hd__law_heard)]
end K88
namespace K88
open PySem PySem.Spec L2 MP
def top (i : Nat) : Stmt := PySem.Challenge.pw_lastasked_k88_stories_written_and_read.main.body.getD i (.Pass ⟨0, 0, 0, 0⟩)
abbrev s_is_integer : Stmt := top 8
theorem sc_is_integer : FnScope ["value"] ["value"] (defScope s_is_integer) := ⟨rfl, rfl, rfl, by decide +kernel, rfl, by decide +kernel, by decide +kernel⟩
abbrev s_is_between : Stmt := top 9
theorem sc_is_between : FnScope ["value", "least", "most"] ["value", "least", "most"] (defScope s_is_between) := ⟨rfl, rfl, rfl, by decide +kernel, rfl, by decide +kernel, by decide +kernel⟩
abbrev s_is_name : Stmt := top 10
theorem sc_is_name : FnScope ["value", "letter"] ["value"] (defScope s_is_name) := ⟨rfl, rfl, rfl, by decide +kernel, rfl, by decide +kernel, by decide +kernel⟩
abbrev s_is_move : Stmt := top 19
theorem sc_is_move : FnScope ["value"] ["value"] (defScope s_is_move) := ⟨rfl, rfl, rfl, by decide +kernel, rfl, by decide +kernel, by decide +kernel⟩
abbrev s_show_move : Stmt := top 20
theorem sc_show_move : FnScope ["move", "part"] ["move"] (defScope s_show_move) := ⟨rfl, rfl, rfl, by decide +kernel, rfl, by decide +kernel, by decide +kernel⟩
abbrev s_number_in : Stmt := top 21
theorem sc_number_in : FnScope ["word", "sign"] ["word"] (defScope s_number_in) := ⟨rfl, rfl, rfl, by decide +kernel, rfl, by decide +kernel, by decide +kernel⟩
abbrev s_move_in : Stmt := top 22
theorem sc_move_in : FnScope ["text", "words", "it", "place"] ["text"] (defScope s_move_in) := ⟨rfl, rfl, rfl, by decide +kernel, rfl, by decide +kernel, by decide +kernel⟩
abbrev s_show_story : Stmt := top 23
theorem sc_show_story : FnScope ["story", "number", "move"] ["story"] (defScope s_show_story) := ⟨rfl, rfl, rfl, by decide +kernel, rfl, by decide +kernel, by decide +kernel⟩
abbrev s_read_story : Stmt := top 24
theorem sc_read_story : FnScope ["text", "found", "number", "line", "move"] ["text"] (defScope s_read_story) := ⟨rfl, rfl, rfl, by decide +kernel, rfl, by decide +kernel, by decide +kernel⟩
abbrev s__law_pot : Stmt := top 26
theorem sc__law_pot : FnScope ["_law_script", "_law_k", "_law_cell", "_law_own", "_law_mixed"] ["_law_script", "_law_k"] (defScope s__law_pot) := ⟨rfl, rfl, rfl, by decide +kernel, rfl, by decide +kernel, by decide +kernel⟩
abbrev s__law_take : Stmt := top 27
theorem sc__law_take : FnScope ["_law_pot_here", "_law_upto", "_law_digit", "_law_prime", "_law_mixed"] ["_law_pot_here", "_law_upto"] (defScope s__law_take) := ⟨rfl, rfl, rfl, by decide +kernel, rfl, by decide +kernel, by decide +kernel⟩
abbrev s__law_of : Stmt := top 28
theorem sc__law_of : FnScope ["_law_pot_here", "_law_some"] ["_law_pot_here", "_law_some"] (defScope s__law_of) := ⟨rfl, rfl, rfl, by decide +kernel, rfl, by decide +kernel, by decide +kernel⟩
abbrev s__law_name : Stmt := top 29
theorem sc__law_name : FnScope ["_law_pot_here"] ["_law_pot_here"] (defScope s__law_name) := ⟨rfl, rfl, rfl, by decide +kernel, rfl, by decide +kernel, by decide +kernel⟩
abbrev s__law_number : Stmt := top 30
theorem sc__law_number : FnScope ["_law_pot_here"] ["_law_pot_here"] (defScope s__law_number) := ⟨rfl, rfl, rfl, by decide +kernel, rfl, by decide +kernel, by decide +kernel⟩
abbrev s__law_move : Stmt := top 31
theorem sc__law_move : FnScope ["_law_pot_here", "_law_word"] ["_law_pot_here"] (defScope s__law_move) := ⟨rfl, rfl, rfl, by decide +kernel, rfl, by decide +kernel, by decide +kernel⟩
abbrev s__law_none : Stmt := top 32
theorem sc__law_none : FnScope ["_law_pot_here", "_law_some"] ["_law_pot_here"] (defScope s__law_none) := ⟨rfl, rfl, rfl, by decide +kernel, rfl, by decide +kernel, by decide +kernel⟩
abbrev s__law_written : Stmt := top 33
theorem sc__law_written : FnScope ["_law_move_here", "_law_part"] ["_law_move_here"] (defScope s__law_written) := ⟨rfl, rfl, rfl, by decide +kernel, rfl, by decide +kernel, by decide +kernel⟩
abbrev s__law_right : Stmt := top 35
theorem sc__law_right : FnScope ["_law_pot_here", "_law_road", "_law_bad", "_law_turn", "_law_at", "_law_value", "_law_kept", "_law_due", "_law_move_here", "_law_heard_here", "_law_thing"] ["_law_pot_here"] (defScope s__law_right) := ⟨rfl, rfl, rfl, by decide +kernel, rfl, by decide +kernel, by decide +kernel⟩
abbrev s_law : Stmt := top 36
theorem sc_law : FnScope ["_law_script", "_law_k", "_law_pot_here", "_law_turn"] ["_law_script"] (defScope s_law) := ⟨rfl, rfl, rfl, by decide +kernel, rfl, by decide +kernel, by decide +kernel⟩
abbrev s__law_heard : Stmt := top 34
theorem sc__law_heard : FnScope ["_law_call", "_law_missed", "_law_found", "error", "_law_is_bad"] ["_law_call"] (defScope s__law_heard) := ⟨rfl, rfl, rfl, by decide +kernel, rfl, by decide +kernel, by decide +kernel⟩
def qR : Str := (PyProof.Rows.envOfC "_law_right" (defScope s__law_right) 0 0 .none).qual ++ "<lambda>"
structure Txt (P : Program) (K : PySem.W.Frag) (mg : Str → Option Value) (ν : Nm) (δ : Ad) (cR Pt : Addr) : Prop where
  tb : ν.tb = [(Pt, qR)]
  cf : ∃ (oc : Value) (od : Option Addr) (kV doc pm : Value) (an : Option Addr) (ct : Value) (osl : Array (Option Value)), δ.fd "_law_right" = PySem.W.fnOf "_law_right" "_law_right" (defArgs s__law_right) (defBody s__law_right) (defScope s__law_right) .none kV doc pm an (.ref cR) ct ∧ K.lookup (δ.fa "_law_right") = some ⟨oc, od, .func (δ.fd "_law_right"), osl⟩ ∧ PySem.W.codeIn K (.ref cR) "_law_right" = true
  n_ValueError : mg "ValueError" = none
  n_abs : mg "abs" = none
  n_all : mg "all" = none
  n_bool : mg "bool" = none
  n_enumerate : mg "enumerate" = none
  n_int : mg "int" = none
  n_isinstance : mg "isinstance" = none
  n_len : mg "len" = none
  n_max : mg "max" = none
  n_min : mg "min" = none
  n_range : mg "range" = none
  n_repr : mg "repr" = none
  n_str : mg "str" = none
  n_super : mg "super" = none
  n_tuple : mg "tuple" = none
  c_LETTERS : CstOk K mg "LETTERS" (.str "abcdefghijklmnopqrstuvwxyz")
  c_MOST_LETTERS : CstOk K mg "MOST_LETTERS" (.int 8)
  c_TAKEN : CstOk K mg "TAKEN" (.tup [(.str "it"), (.str "asked")])
  c_BLANK : CstOk K mg "BLANK" (.str " ")
  c_FEED : CstOk K mg "FEED" (.str "\n")
  c_DEED : CstOk K mg "DEED" (.str "deed")
  c_OVER : CstOk K mg "OVER" (.str "over")
  c_PLACED : CstOk K mg "PLACED" (.tup [(.str "sends"), (.str "does"), (.str "comes"), (.str "gone")])
  c_MOST_NUMBER : CstOk K mg "MOST_NUMBER" (.int 999)
  c_DIGITS : CstOk K mg "DIGITS" (.str "0123456789")
  m_is_integer : mg "is_integer" = some (.ref (δ.fa "is_integer"))
  k_is_integer : PySem.W.keepIn K (.ref (δ.fa "is_integer")) = true
  b_is_integer : Binds K (δ.fd "is_integer") (δ.ps "is_integer") []
  f_is_integer : Fun K "is_integer" "is_integer" s_is_integer (δ.fa "is_integer") (δ.fd "is_integer")
  p_is_integer : δ.ps "is_integer" = (["value"] : List Str)
  m_is_between : mg "is_between" = some (.ref (δ.fa "is_between"))
  k_is_between : PySem.W.keepIn K (.ref (δ.fa "is_between")) = true
  b_is_between : Binds K (δ.fd "is_between") (δ.ps "is_between") []
  f_is_between : Fun K "is_between" "is_between" s_is_between (δ.fa "is_between") (δ.fd "is_between")
  p_is_between : δ.ps "is_between" = (["value", "least", "most"] : List Str)
  m_is_name : mg "is_name" = some (.ref (δ.fa "is_name"))
  k_is_name : PySem.W.keepIn K (.ref (δ.fa "is_name")) = true
  b_is_name : Binds K (δ.fd "is_name") (δ.ps "is_name") []
  f_is_name : Fun K "is_name" "is_name" s_is_name (δ.fa "is_name") (δ.fd "is_name")
  p_is_name : δ.ps "is_name" = (["value"] : List Str)
  m_is_move : mg "is_move" = some (.ref (δ.fa "is_move"))
  k_is_move : PySem.W.keepIn K (.ref (δ.fa "is_move")) = true
  b_is_move : Binds K (δ.fd "is_move") (δ.ps "is_move") []
  f_is_move : Fun K "is_move" "is_move" s_is_move (δ.fa "is_move") (δ.fd "is_move")
  p_is_move : δ.ps "is_move" = (["value"] : List Str)
  m_show_move : mg "show_move" = some (.ref (δ.fa "show_move"))
  k_show_move : PySem.W.keepIn K (.ref (δ.fa "show_move")) = true
  b_show_move : Binds K (δ.fd "show_move") (δ.ps "show_move") []
  f_show_move : Fun K "show_move" "show_move" s_show_move (δ.fa "show_move") (δ.fd "show_move")
  p_show_move : δ.ps "show_move" = (["move"] : List Str)
  m_number_in : mg "number_in" = some (.ref (δ.fa "number_in"))
  k_number_in : PySem.W.keepIn K (.ref (δ.fa "number_in")) = true
  b_number_in : Binds K (δ.fd "number_in") (δ.ps "number_in") []
  f_number_in : Fun K "number_in" "number_in" s_number_in (δ.fa "number_in") (δ.fd "number_in")
  p_number_in : δ.ps "number_in" = (["word"] : List Str)
  m_move_in : mg "move_in" = some (.ref (δ.fa "move_in"))
  k_move_in : PySem.W.keepIn K (.ref (δ.fa "move_in")) = true
  b_move_in : Binds K (δ.fd "move_in") (δ.ps "move_in") []
  f_move_in : Fun K "move_in" "move_in" s_move_in (δ.fa "move_in") (δ.fd "move_in")
  p_move_in : δ.ps "move_in" = (["text"] : List Str)
  m_show_story : mg "show_story" = some (.ref (δ.fa "show_story"))
  k_show_story : PySem.W.keepIn K (.ref (δ.fa "show_story")) = true
  b_show_story : Binds K (δ.fd "show_story") (δ.ps "show_story") []
  f_show_story : Fun K "show_story" "show_story" s_show_story (δ.fa "show_story") (δ.fd "show_story")
  p_show_story : δ.ps "show_story" = (["story"] : List Str)
  m_read_story : mg "read_story" = some (.ref (δ.fa "read_story"))
  k_read_story : PySem.W.keepIn K (.ref (δ.fa "read_story")) = true
  b_read_story : Binds K (δ.fd "read_story") (δ.ps "read_story") []
  f_read_story : Fun K "read_story" "read_story" s_read_story (δ.fa "read_story") (δ.fd "read_story")
  p_read_story : δ.ps "read_story" = (["text"] : List Str)
  m__law_pot : mg "_law_pot" = some (.ref (δ.fa "_law_pot"))
  k__law_pot : PySem.W.keepIn K (.ref (δ.fa "_law_pot")) = true
  b__law_pot : Binds K (δ.fd "_law_pot") (δ.ps "_law_pot") []
  f__law_pot : Fun K "_law_pot" "_law_pot" s__law_pot (δ.fa "_law_pot") (δ.fd "_law_pot")
  p__law_pot : δ.ps "_law_pot" = (["_law_script", "_law_k"] : List Str)
  m__law_take : mg "_law_take" = some (.ref (δ.fa "_law_take"))
  k__law_take : PySem.W.keepIn K (.ref (δ.fa "_law_take")) = true
  b__law_take : Binds K (δ.fd "_law_take") (δ.ps "_law_take") []
  f__law_take : Fun K "_law_take" "_law_take" s__law_take (δ.fa "_law_take") (δ.fd "_law_take")
  p__law_take : δ.ps "_law_take" = (["_law_pot_here", "_law_upto"] : List Str)
  m__law_of : mg "_law_of" = some (.ref (δ.fa "_law_of"))
  k__law_of : PySem.W.keepIn K (.ref (δ.fa "_law_of")) = true
  b__law_of : Binds K (δ.fd "_law_of") (δ.ps "_law_of") []
  f__law_of : Fun K "_law_of" "_law_of" s__law_of (δ.fa "_law_of") (δ.fd "_law_of")
  p__law_of : δ.ps "_law_of" = (["_law_pot_here", "_law_some"] : List Str)
  m__law_name : mg "_law_name" = some (.ref (δ.fa "_law_name"))
  k__law_name : PySem.W.keepIn K (.ref (δ.fa "_law_name")) = true
  b__law_name : Binds K (δ.fd "_law_name") (δ.ps "_law_name") []
  f__law_name : Fun K "_law_name" "_law_name" s__law_name (δ.fa "_law_name") (δ.fd "_law_name")
  p__law_name : δ.ps "_law_name" = (["_law_pot_here"] : List Str)
  m__law_number : mg "_law_number" = some (.ref (δ.fa "_law_number"))
  k__law_number : PySem.W.keepIn K (.ref (δ.fa "_law_number")) = true
  b__law_number : Binds K (δ.fd "_law_number") (δ.ps "_law_number") []
  f__law_number : Fun K "_law_number" "_law_number" s__law_number (δ.fa "_law_number") (δ.fd "_law_number")
  p__law_number : δ.ps "_law_number" = (["_law_pot_here"] : List Str)
  m__law_move : mg "_law_move" = some (.ref (δ.fa "_law_move"))
  k__law_move : PySem.W.keepIn K (.ref (δ.fa "_law_move")) = true
  b__law_move : Binds K (δ.fd "_law_move") (δ.ps "_law_move") []
  f__law_move : Fun K "_law_move" "_law_move" s__law_move (δ.fa "_law_move") (δ.fd "_law_move")
  p__law_move : δ.ps "_law_move" = (["_law_pot_here"] : List Str)
  m__law_none : mg "_law_none" = some (.ref (δ.fa "_law_none"))
  k__law_none : PySem.W.keepIn K (.ref (δ.fa "_law_none")) = true
  b__law_none : Binds K (δ.fd "_law_none") (δ.ps "_law_none") []
  f__law_none : Fun K "_law_none" "_law_none" s__law_none (δ.fa "_law_none") (δ.fd "_law_none")
  p__law_none : δ.ps "_law_none" = (["_law_pot_here"] : List Str)
  m__law_written : mg "_law_written" = some (.ref (δ.fa "_law_written"))
  k__law_written : PySem.W.keepIn K (.ref (δ.fa "_law_written")) = true
  b__law_written : Binds K (δ.fd "_law_written") (δ.ps "_law_written") []
  f__law_written : Fun K "_law_written" "_law_written" s__law_written (δ.fa "_law_written") (δ.fd "_law_written")
  p__law_written : δ.ps "_law_written" = (["_law_move_here"] : List Str)
  m__law_right : mg "_law_right" = some (.ref (δ.fa "_law_right"))
  k__law_right : PySem.W.keepIn K (.ref (δ.fa "_law_right")) = true
  b__law_right : Binds K (δ.fd "_law_right") (δ.ps "_law_right") []
  f__law_right : Fun K "_law_right" "_law_right" s__law_right (δ.fa "_law_right") (δ.fd "_law_right")
  p__law_right : δ.ps "_law_right" = (["_law_pot_here"] : List Str)
  m_law : mg "law" = some (.ref (δ.fa "law"))
  k_law : PySem.W.keepIn K (.ref (δ.fa "law")) = true
  b_law : Binds K (δ.fd "law") (δ.ps "law") []
  f_law : Fun K "law" "law" s_law (δ.fa "law") (δ.fd "law")
  p_law : δ.ps "law" = (["_law_script"] : List Str)
  m__law_heard : mg "_law_heard" = some (.ref (δ.fa "_law_heard"))
  k__law_heard : PySem.W.keepIn K (.ref (δ.fa "_law_heard")) = true
  b__law_heard : Binds K (δ.fd "_law_heard") (δ.ps "_law_heard") []
  f__law_heard : Fun K "_law_heard" "_law_heard" s__law_heard (δ.fa "_law_heard") (δ.fd "_law_heard")
  p__law_heard : δ.ps "_law_heard" = (["_law_call"] : List Str)
  w_read_story : ∀ (s : Shared) (u : Value), K.In s.heap → BindsTo s (δ.fd "read_story") ⟨[], [("text", u)]⟩ ((δ.ps "read_story").zip [u])
  w_show_story : ∀ (s : Shared) (u : Value), K.In s.heap → BindsTo s (δ.fd "show_story") ⟨[], [("story", u)]⟩ ((δ.ps "show_story").zip [u])
  m_BadStory : mg "BadStory" = some (.ref (ν.ca "BadStory"))
  m_BadText : mg "BadText" = some (.ref (ν.ca "BadText"))
  m_LateError : mg "LateError" = some (.ref (ν.ca "LateError"))
  sup_BadStory : PySem.MPX.SupTxt P K (ν.ca "BadStory") (δ.fa "BadStory.__init__") (ν.cf "BadStory")
  sup_BadText : PySem.MPX.SupTxt P K (ν.ca "BadText") (δ.fa "BadText.__init__") (ν.cf "BadText")
  exm_LateError : ∀ c1 ts, Γ.sub.lookup c1 = some ts → PySem.W.exmOne K (.ref (ν.ca c1)) (.ref (ν.ca "LateError")) = some (ts.contains "LateError")
  is_BadStory : IsT Γ ν K "BadStory" (.ref (ν.ca "BadStory")) (.ref (ν.ca "BadStory"))
  is_ValueError : IsT Γ ν K "ValueError" (.ty "ValueError") (.type "ValueError")
  is_bool : IsT Γ ν K "bool" (.ty "bool") (.type "bool")
  is_int : IsT Γ ν K "int" (.ty "int") (.type "int")
  is_str : IsT Γ ν K "str" (.ty "str") (.type "str")
  is_tuple : IsT Γ ν K "tuple" (.ty "tuple") (.type "tuple")
  fld_number : ∀ c, Γ.fd.lookup c = some "number" → XcOk K (ν.ca c) ∧ ν.cf c = "number" ∧ PySem.W.findIn K (.ref (ν.ca c)) "number" = some none
section
variable {P : Program} {w : World} {K : PySem.W.Frag} {mg : Str → Option Value} {base : Heap} {ν : Nm} {δ : Ad} {k : Nat} {cR Pt : Addr}
theorem g__law_heard {X : Cx} (T : Txt X.prog X.K X.mg ν δ cR Pt) (lam : Str) : ∀ n j, Sd Γ ν δ X (j + 1) n → ∀ cdv, Gives X ["_law_call", "_law_missed", "_law_found", "error", "_law_is_bad"] "_law_heard" (defScope s__law_heard) (δ.fa "_law_heard") cdv (defBody s__law_heard) "_law_call" lam (TTh X.K (.ref (ν.ca "LateError")) hd__law_heard ["_law_call", "_law_missed", "_law_found", "error", "_law_is_bad"] (tMS ν X.K W0 fun ρ => seqS ((ev Γ n).s (j + 1)) hd__law_heard.suite ρ) (tMS ν X.K W0 fun ρ => seqS ((ev Γ n).s (j + 1)) hd__law_heard.rest ρ)) := by
  intro n j hS cdv
  have jr : ∀ s H, JSs Γ ν δ (Zh X ["_law_call", "_law_missed", "_law_found", "error", "_law_is_bad"] "_law_heard" (defScope s__law_heard) (δ.fa "_law_heard") cdv s H) W0 (j + 1) ((defBody s__law_heard).drop 2) hd__law_heard.rest := fun s H => (jss_cons (js_if (jt_cmp op_isN cmp_is (je_v 1) je_non (nomark _)) (jss_cons (js_ret (je_tup (ja_cons je_str (ja_cons (je_v 2) ja_nil)))) jss_nil) jss_nil) (jss_cons (js_asg 4 sc__law_heard.nd (je_and (je_isi T.is_BadStory (pe_glob rfl T.m_BadStory rfl) T.n_isinstance (je_v 1)) (je_one (je_isi T.is_ValueError (pe_bltn (v := .ty "ValueError") rfl T.n_ValueError (by decide +kernel) rfl) T.n_isinstance (je_v 1))))) (jss_cons (js_ret (je_ite (jt_val (je_v 4)) (je_tup (ja_cons je_str (ja_cons (je_fld T.fld_number (je_v 1)) ja_nil))) (je_tup (ja_cons je_str (ja_cons je_non ja_nil))))) jss_nil)))
  exact gives_heard (fun _ _ => ps_pairN 1 2 (pg_tup rfl (pgs_cons (pg_name (i := 1) sc__law_heard.nd rfl (by first | exact Or.inl rfl | exact Or.inr rfl)) (pgs_cons (pg_name (i := 2) sc__law_heard.nd rfl (by first | exact Or.inl rfl | exact Or.inr rfl)) pgs_nil)))) (fun _ _ _ _ _ h => ps_set sc__law_heard.nd rfl (by first | exact Or.inl rfl | exact Or.inr rfl) h) sc__law_heard.nd rfl (fun _ _ => rfl) (fun _ _ => ⟨rfl, by decide, Or.inl T.m_LateError⟩) (fun s H a pn => (show JSs Γ ν δ ((Zh X ["_law_call", "_law_missed", "_law_found", "error", "_law_is_bad"] "_law_heard" (defScope s__law_heard) (δ.fa "_law_heard") cdv s H).suite a pn) W0 (j + 1) _ hd__law_heard.suite from (jss_cons (js_asg 1 sc__law_heard.nd (je_v 3)) jss_nil)) n hS) (fun s H => jr s H n hS) (fun _ => rfl)
theorem j_is_integer (T : Txt P K mg ν δ cR Pt) (cdv : Value) (A : Around) (outer : List Env) (s : Shared) (H : Hp) (E : XK) (gu : A.guards = some []) (hr : Room k (A.deeper (PyProof.Rows.envOfC "is_integer" (defScope s_is_integer) s.heap.objs.size (δ.fa "is_integer") cdv))) :
    JSs Γ ν δ (cxOf (L2.CX P w) P w K mg base ["value"] "is_integer" (defScope s_is_integer) (δ.fa "is_integer") cdv A outer s H E) (fun c d _ H1 => E c d H1) k (defBody s_is_integer) fn_is_integer.body :=
  (jss_cons (js_ret (je_and (je_isi T.is_int (pe_bltn (v := .ty "int") rfl T.n_int (by decide +kernel) rfl) T.n_isinstance (je_v 0)) (je_one (je_not (je_isi T.is_bool (pe_bltn (v := .ty "bool") rfl T.n_bool (by decide +kernel) rfl) T.n_isinstance (je_v 0)))))) jss_nil)
theorem j_is_between (T : Txt P K mg ν δ cR Pt) (cdv : Value) (A : Around) (outer : List Env) (s : Shared) (H : Hp) (E : XK) (gu : A.guards = some []) (hr : Room k (A.deeper (PyProof.Rows.envOfC "is_between" (defScope s_is_between) s.heap.objs.size (δ.fa "is_between") cdv))) :
    JSs Γ ν δ (cxOf (L2.CX P w) P w K mg base ["value", "least", "most"] "is_between" (defScope s_is_between) (δ.fa "is_between") cdv A outer s H E) (fun c d _ H1 => E c d H1) k (defBody s_is_between) fn_is_between.body :=
  (jss_cons (js_ret (je_and (je_call (fn := fn_is_integer) rfl T.m_is_integer T.k_is_integer T.b_is_integer gu hr (takes_of rfl rfl rfl rfl) (ja_cons (je_v 0) ja_nil)) (je_one (je_chain op_le cmp_le op_le cmp_le (je_v 1) (je_v 0) (je_v 2))))) jss_nil)
theorem j_is_name (T : Txt P K mg ν δ cR Pt) (cdv : Value) (A : Around) (outer : List Env) (s : Shared) (H : Hp) (E : XK) (gu : A.guards = some []) (hr : Room k (A.deeper (PyProof.Rows.envOfC "is_name" (defScope s_is_name) s.heap.objs.size (δ.fa "is_name") cdv))) :
    JSs Γ ν δ (cxOf (L2.CX P w) P w K mg base ["value", "letter"] "is_name" (defScope s_is_name) (δ.fa "is_name") cdv A outer s H E) (fun c d _ H1 => E c d H1) k (defBody s_is_name) fn_is_name.body :=
  (jss_cons (js_if (jt_w (jw_or (jt_not (jt_val (je_isi T.is_str (pe_bltn (v := .ty "str") rfl T.n_str (by decide +kernel) rfl) T.n_isinstance (je_v 0)))) (jw_or (jt_not (jt_chain op_le cmp_le op_le cmp_le je_int (je_callB call_lenU bi_len T.n_len (by decide +kernel) (ja_cons (je_v 0) ja_nil)) (je_gC T.c_MOST_LETTERS))) (jw_or1 (jt_cmp (op_inU (hu65 hr)) cmp_in (je_v 0) (je_gC T.c_TAKEN) (by rfl)))))) (jss_cons (js_ret je_bl) jss_nil) jss_nil) (jss_cons (js_ret (je_callB (cr_all rfl) bi_all T.n_all (by decide +kernel) (ja_cons (je_lc (own := [("letter", 1)]) rfl sc_is_name.nd (ji_over (je_v 0)) (blkOk_by (N := ["value", "letter"]) (sc := defScope s_is_name) (by decide +kernel)) (tg_name 1) (tgw_name 1) (fun _ _ _ _ _ => (pg_name (i := 1) sc_is_name.nd rfl (by first | exact Or.inl rfl | exact Or.inr rfl))) (fun _ _ _ _ _ => (je_cmp (op_inU (hu65 hr)) cmp_in (je_v 1) (je_gC T.c_LETTERS) (by rfl)))) ja_nil))) jss_nil))
theorem j_is_move (T : Txt P K mg ν δ cR Pt) (cdv : Value) (A : Around) (outer : List Env) (s : Shared) (H : Hp) (E : XK) (gu : A.guards = some []) (hr : Room k (A.deeper (PyProof.Rows.envOfC "is_move" (defScope s_is_move) s.heap.objs.size (δ.fa "is_move") cdv))) :
    JSs Γ ν δ (cxOf (L2.CX P w) P w K mg base ["value"] "is_move" (defScope s_is_move) (δ.fa "is_move") cdv A outer s H E) (fun c d _ H1 => E c d H1) k (defBody s_is_move) fn_is_move.body :=
  (jss_cons (js_if (jt_w (jw_or (jt_not (jt_val (je_isi T.is_tuple (pe_bltn (v := .ty "tuple") rfl T.n_tuple (by decide +kernel) rfl) T.n_isinstance (je_v 0)))) (jw_or (jt_cmp (op_eqU (hu64 hr)) cmp_eq (je_v 0) (je_tup ja_nil) (nomark _)) (jw_or1 (jt_not (jt_val (je_isi T.is_str (pe_bltn (v := .ty "str") rfl T.n_str (by decide +kernel) rfl) T.n_isinstance (je_ix (je_v 0) je_int)))))))) (jss_cons (js_ret je_bl) jss_nil) jss_nil) (jss_cons (js_if (jt_cmp (op_eqU (hu64 hr)) cmp_eq (je_ix (je_v 0) je_int) (je_gC T.c_DEED) (nomark _)) (jss_cons (js_ret (je_and (je_cmp (op_eqU (hu64 hr)) cmp_eq (je_callB call_lenU bi_len T.n_len (by decide +kernel) (ja_cons (je_v 0) ja_nil)) je_int (nomark _)) (je_and (je_call (fn := fn_is_name) rfl T.m_is_name T.k_is_name T.b_is_name gu hr (takes_of rfl rfl rfl rfl) (ja_cons (je_ix (je_v 0) je_int) ja_nil)) (je_one (je_call (fn := fn_is_between) rfl T.m_is_between T.k_is_between T.b_is_between gu hr (takes_of rfl rfl rfl rfl) (ja_cons (je_ix (je_v 0) je_int) (ja_cons je_int (ja_cons (je_gC T.c_MOST_NUMBER) ja_nil)))))))) jss_nil) jss_nil) (jss_cons (js_if (jt_cmp (op_inU (hu65 hr)) cmp_in (je_ix (je_v 0) je_int) (je_gC T.c_PLACED) (by rfl)) (jss_cons (js_ret (je_and (je_cmp (op_eqU (hu64 hr)) cmp_eq (je_callB call_lenU bi_len T.n_len (by decide +kernel) (ja_cons (je_v 0) ja_nil)) je_int (nomark _)) (je_one (je_call (fn := fn_is_between) rfl T.m_is_between T.k_is_between T.b_is_between gu hr (takes_of rfl rfl rfl rfl) (ja_cons (je_ix (je_v 0) je_int) (ja_cons je_int (ja_cons (je_gC T.c_MOST_NUMBER) ja_nil))))))) jss_nil) jss_nil) (jss_cons (js_ret (je_cmp (op_eqU (hu64 hr)) cmp_eq (je_v 0) (je_tup (ja_cons (je_gC T.c_OVER) ja_nil)) (nomark _))) jss_nil))))
theorem j_show_move (T : Txt P K mg ν δ cR Pt) (cdv : Value) (A : Around) (outer : List Env) (s : Shared) (H : Hp) (E : XK) (gu : A.guards = some []) (hr : Room k (A.deeper (PyProof.Rows.envOfC "show_move" (defScope s_show_move) s.heap.objs.size (δ.fa "show_move") cdv))) :
    JSs Γ ν δ (cxOf (L2.CX P w) P w K mg base ["move", "part"] "show_move" (defScope s_show_move) (δ.fa "show_move") cdv A outer s H E) (fun c d _ H1 => E c d H1) k (defBody s_show_move) fn_show_move.body :=
  (jss_cons (js_if (jt_w (jw_and (jt_cmp (op_eqU (hu64 hr)) cmp_eq (je_ix (je_v 0) je_int) (je_gC T.c_DEED) (nomark _)) (jw_and1 (jt_cmp (op_eqU (hu64 hr)) cmp_eq (je_ix (je_v 0) je_int) je_int (nomark _))))) (jss_cons (js_ret (je_fmt3 (je_gC T.c_DEED) (je_ix (je_v 0) je_int))) jss_nil) jss_nil) (jss_cons (js_ret (je_join (je_gC T.c_BLANK) (je_lc (own := [("part", 1)]) rfl sc_show_move.nd (ji_over (je_v 0)) (blkOk_by (N := ["move", "part"]) (sc := defScope s_show_move) (by decide +kernel)) (tg_name 1) (tgw_name 1) (fun _ _ _ _ _ => (pg_name (i := 1) sc_show_move.nd rfl (by first | exact Or.inl rfl | exact Or.inr rfl))) (fun _ _ _ _ _ => (je_callTy call_strU bi_str T.n_str (by decide +kernel) (ja_cons (je_v 1) ja_nil)))))) jss_nil))
theorem j_number_in (T : Txt P K mg ν δ cR Pt) (cdv : Value) (A : Around) (outer : List Env) (s : Shared) (H : Hp) (E : XK) (gu : A.guards = some []) (hr : Room k (A.deeper (PyProof.Rows.envOfC "number_in" (defScope s_number_in) s.heap.objs.size (δ.fa "number_in") cdv))) :
    JSs Γ ν δ (cxOf (L2.CX P w) P w K mg base ["word", "sign"] "number_in" (defScope s_number_in) (δ.fa "number_in") cdv A outer s H E) (fun c d _ H1 => E c d H1) k (defBody s_number_in) fn_number_in.body :=
  (jss_cons (js_if (jt_w (jw_or (jt_cmp (op_eqU (hu64 hr)) cmp_eq (je_v 0) je_str (nomark _)) (jw_or (jt_cmp op_gt cmp_gt (je_callB call_lenU bi_len T.n_len (by decide +kernel) (ja_cons (je_v 0) ja_nil)) (je_callB call_lenU bi_len T.n_len (by decide +kernel) (ja_cons (je_callTy call_strU bi_str T.n_str (by decide +kernel) (ja_cons (je_gC T.c_MOST_NUMBER) ja_nil)) ja_nil)) (nomark _)) (jw_or1 (jt_not (jt_val (je_callB (cr_all rfl) bi_all T.n_all (by decide +kernel) (ja_cons (je_lc (own := [("sign", 1)]) rfl sc_number_in.nd (ji_over (je_v 0)) (blkOk_by (N := ["word", "sign"]) (sc := defScope s_number_in) (by decide +kernel)) (tg_name 1) (tgw_name 1) (fun _ _ _ _ _ => (pg_name (i := 1) sc_number_in.nd rfl (by first | exact Or.inl rfl | exact Or.inr rfl))) (fun _ _ _ _ _ => (je_cmp (op_inU (hu65 hr)) cmp_in (je_v 1) (je_gC T.c_DIGITS) (by rfl)))) ja_nil)))))))) (jss_cons (js_ret je_non) jss_nil) jss_nil) (jss_cons (js_ret (je_ite (jt_cmp (op_eqU (hu64 hr)) cmp_eq (je_callTy call_strU bi_str T.n_str (by decide +kernel) (ja_cons (je_callTy call_intU bi_int T.n_int (by decide +kernel) (ja_cons (je_v 0) ja_nil)) ja_nil)) (je_v 0) (nomark _)) (je_callTy call_intU bi_int T.n_int (by decide +kernel) (ja_cons (je_v 0) ja_nil)) je_non)) jss_nil))
theorem j_move_in (T : Txt P K mg ν δ cR Pt) (cdv : Value) (A : Around) (outer : List Env) (s : Shared) (H : Hp) (E : XK) (gu : A.guards = some []) (hr : Room k (A.deeper (PyProof.Rows.envOfC "move_in" (defScope s_move_in) s.heap.objs.size (δ.fa "move_in") cdv))) :
    JSs Γ ν δ (cxOf (L2.CX P w) P w K mg base ["text", "words", "it", "place"] "move_in" (defScope s_move_in) (δ.fa "move_in") cdv A outer s H E) (fun c d _ H1 => E c d H1) k (defBody s_move_in) fn_move_in.body :=
  (jss_cons (js_asg 1 sc_move_in.nd (je_split (je_v 0) (je_gC T.c_BLANK))) (jss_cons (js_if (jt_cmp (op_eqU (hu64 hr)) cmp_eq (je_v 1) (je_lst (ja_cons (je_gC T.c_OVER) ja_nil)) (nomark _)) (jss_cons (js_ret (je_tup (ja_cons (je_gC T.c_OVER) ja_nil))) jss_nil) jss_nil) (jss_cons (js_if (jt_w (jw_and (jt_cmp (op_eqU (hu64 hr)) cmp_eq (je_ix (je_v 1) je_int) (je_gC T.c_DEED) (nomark _)) (jw_and (jt_cmp (op_inU (hu65 hr)) cmp_in (je_callB call_lenU bi_len T.n_len (by decide +kernel) (ja_cons (je_v 1) ja_nil)) (je_tup (ja_cons je_int (ja_cons je_int ja_nil))) (by rfl)) (jw_and1 (jt_val (je_call (fn := fn_is_name) rfl T.m_is_name T.k_is_name T.b_is_name gu hr (takes_of rfl rfl rfl rfl) (ja_cons (je_ix (je_v 1) je_int) ja_nil))))))) (jss_cons (js_asg 2 sc_move_in.nd (je_ite (jt_cmp (op_eqU (hu64 hr)) cmp_eq (je_callB call_lenU bi_len T.n_len (by decide +kernel) (ja_cons (je_v 1) ja_nil)) je_int (nomark _)) (je_call (fn := fn_number_in) rfl T.m_number_in T.k_number_in T.b_number_in gu hr (takes_of rfl rfl rfl rfl) (ja_cons (je_ix (je_v 1) je_int) ja_nil)) je_int)) (jss_cons (js_ret (je_ite (jt_w (jw_or (jt_cmp op_isN cmp_is (je_v 2) je_non (nomark _)) (jw_or1 (jt_w (jw_and (jt_cmp (op_eqU (hu64 hr)) cmp_eq (je_callB call_lenU bi_len T.n_len (by decide +kernel) (ja_cons (je_v 1) ja_nil)) je_int (nomark _)) (jw_and1 (jt_cmp (op_eqU (hu64 hr)) cmp_eq (je_v 2) je_int (nomark _)))))))) je_non (je_tup (ja_cons (je_gC T.c_DEED) (ja_cons (je_ix (je_v 1) je_int) (ja_cons (je_v 2) ja_nil)))))) jss_nil)) jss_nil) (jss_cons (js_if (jt_w (jw_and (jt_cmp (op_inU (hu65 hr)) cmp_in (je_ix (je_v 1) je_int) (je_gC T.c_PLACED) (by rfl)) (jw_and1 (jt_cmp (op_eqU (hu64 hr)) cmp_eq (je_callB call_lenU bi_len T.n_len (by decide +kernel) (ja_cons (je_v 1) ja_nil)) je_int (nomark _))))) (jss_cons (js_asg 3 sc_move_in.nd (je_call (fn := fn_number_in) rfl T.m_number_in T.k_number_in T.b_number_in gu hr (takes_of rfl rfl rfl rfl) (ja_cons (je_ix (je_v 1) je_int) ja_nil))) (jss_cons (js_ret (je_ite (jt_cmp op_isN cmp_is (je_v 3) je_non (nomark _)) je_non (je_tup (ja_cons (je_ix (je_v 1) je_int) (ja_cons (je_v 3) ja_nil))))) jss_nil)) jss_nil) (jss_cons (js_ret je_non) jss_nil)))))
theorem j_show_story (T : Txt P K mg ν δ cR Pt) (cdv : Value) (A : Around) (outer : List Env) (s : Shared) (H : Hp) (E : XK) (gu : A.guards = some []) (hr : Room k (A.deeper (PyProof.Rows.envOfC "show_story" (defScope s_show_story) s.heap.objs.size (δ.fa "show_story") cdv))) :
    JSs Γ ν δ (cxOf (L2.CX P w) P w K mg base ["story", "number", "move"] "show_story" (defScope s_show_story) (δ.fa "show_story") cdv A outer s H E) (fun c d _ H1 => E c d H1) k (defBody s_show_story) fn_show_story.body :=
  (jss_cons (js_if (jt_not (jt_val (je_isi T.is_tuple (pe_bltn (v := .ty "tuple") rfl T.n_tuple (by decide +kernel) rfl) T.n_isinstance (je_v 0)))) (jss_cons (js_raise rfl (takes_of rfl rfl rfl rfl) T.sup_BadStory T.m_BadStory T.n_super hr je_int) jss_nil) jss_nil) (jss_cons (js_for (passes_of rfl) rfl (ji_enum (je_v 0) T.n_enumerate) (pg_tup rfl (pgs_cons (pg_name (i := 1) sc_show_story.nd rfl (by first | exact Or.inl rfl | exact Or.inr rfl)) (pgs_cons (pg_name (i := 2) sc_show_story.nd rfl (by first | exact Or.inl rfl | exact Or.inr rfl)) pgs_nil))) (tg_pair 1 2) (jss_cons (js_if (jt_not (jt_val (je_call (fn := fn_is_move) rfl T.m_is_move T.k_is_move T.b_is_move gu hr (takes_of rfl rfl rfl rfl) (ja_cons (je_v 2) ja_nil)))) (jss_cons (js_raise rfl (takes_of rfl rfl rfl rfl) T.sup_BadStory T.m_BadStory T.n_super hr (je_v 1)) jss_nil) jss_nil) jss_nil)) (jss_cons (js_ret (je_join (je_gC T.c_FEED) (je_lc (own := [("move", 2)]) rfl sc_show_story.nd (ji_over (je_v 0)) (blkOk_by (N := ["story", "number", "move"]) (sc := defScope s_show_story) (by decide +kernel)) (tg_name 2) (tgw_name 2) (fun _ _ _ _ _ => (pg_name (i := 2) sc_show_story.nd rfl (by first | exact Or.inl rfl | exact Or.inr rfl))) (fun _ _ _ _ _ => (je_call (fn := fn_show_move) rfl T.m_show_move T.k_show_move T.b_show_move gu hr takes0 (ja_cons (je_v 2) ja_nil)))))) jss_nil)))
theorem j_read_story (T : Txt P K mg ν δ cR Pt) (cdv : Value) (A : Around) (outer : List Env) (s : Shared) (H : Hp) (E : XK) (gu : A.guards = some []) (hr : Room k (A.deeper (PyProof.Rows.envOfC "read_story" (defScope s_read_story) s.heap.objs.size (δ.fa "read_story") cdv))) :
    JSs Γ ν δ (cxOf (L2.CX P w) P w K mg base ["text", "found", "number", "line", "move"] "read_story" (defScope s_read_story) (δ.fa "read_story") cdv A outer s H E) (fun c d _ H1 => E c d H1) k (defBody s_read_story) fn_read_story.body :=
  (jss_cons (js_if (jt_not (jt_val (je_isi T.is_str (pe_bltn (v := .ty "str") rfl T.n_str (by decide +kernel) rfl) T.n_isinstance (je_v 0)))) (jss_cons (js_raise rfl (takes_of rfl rfl rfl rfl) T.sup_BadText T.m_BadText T.n_super hr je_int) jss_nil) jss_nil) (jss_cons (js_asg 1 sc_read_story.nd (je_lst ja_nil)) (jss_cons (js_for (passes_of rfl) rfl (ji_enum (je_ite (jt_cmp (op_neU (hu64 hr)) cmp_ne (je_v 0) je_str (nomark _)) (je_split (je_v 0) (je_gC T.c_FEED)) (je_lst ja_nil)) T.n_enumerate) (pg_tup rfl (pgs_cons (pg_name (i := 2) sc_read_story.nd rfl (by first | exact Or.inl rfl | exact Or.inr rfl)) (pgs_cons (pg_name (i := 3) sc_read_story.nd rfl (by first | exact Or.inl rfl | exact Or.inr rfl)) pgs_nil))) (tg_pair 2 3) (jss_cons (js_asg 4 sc_read_story.nd (je_call (fn := fn_move_in) rfl T.m_move_in T.k_move_in T.b_move_in gu hr (takes_of rfl rfl rfl rfl) (ja_cons (je_v 3) ja_nil))) (jss_cons (js_if (jt_cmp op_isN cmp_is (je_v 4) je_non (nomark _)) (jss_cons (js_raise rfl (takes_of rfl rfl rfl rfl) T.sup_BadText T.m_BadText T.n_super hr (je_v 2)) jss_nil) jss_nil) (jss_cons (js_ex (je_append (je_v 1) (je_v 4))) jss_nil)))) (jss_cons (js_ret (je_callTy call_tuple_of bi_tuple T.n_tuple (by decide +kernel) (ja_cons (je_v 1) ja_nil))) jss_nil))))
theorem j__law_pot (T : Txt P K mg ν δ cR Pt) (cdv : Value) (A : Around) (outer : List Env) (s : Shared) (H : Hp) (E : XK) (gu : A.guards = some []) (hr : Room k (A.deeper (PyProof.Rows.envOfC "_law_pot" (defScope s__law_pot) s.heap.objs.size (δ.fa "_law_pot") cdv))) :
    JSs Γ ν δ (cxOf (L2.CX P w) P w K mg base ["_law_script", "_law_k", "_law_cell", "_law_own", "_law_mixed"] "_law_pot" (defScope s__law_pot) (δ.fa "_law_pot") cdv A outer s H E) (fun c d _ H1 => E c d H1) k (defBody s__law_pot) fn__law_pot.body :=
  (jss_cons (js_asg 2 sc__law_pot.nd (je_ite (jt_cmp op_lt cmp_lt (je_v 1) (je_callB call_lenU bi_len T.n_len (by decide +kernel) (ja_cons (je_v 0) ja_nil)) (nomark _)) (je_ix (je_v 0) (je_v 1)) (je_add (je_mul je_int (je_v 1)) je_int))) (jss_cons (js_asg 3 sc__law_pot.nd (je_mul (je_mod (je_callTy call_intU bi_int T.n_int (by decide +kernel) (ja_cons (je_callB call_abs bi_abs T.n_abs (by decide +kernel) (ja_cons (je_v 2) ja_nil)) ja_nil)) (je_pow (je_pow je_int je_int) je_int)) (je_callTy call_intU bi_int T.n_int (by decide +kernel) (ja_cons (je_cmp op_ge cmp_ge (je_callB call_abs bi_abs T.n_abs (by decide +kernel) (ja_cons (je_v 2) ja_nil)) (je_pow je_int je_int) (nomark _)) ja_nil)))) (jss_cons (js_asg 4 sc__law_pot.nd (je_add (je_add (je_mul (je_mod (je_callTy call_intU bi_int T.n_int (by decide +kernel) (ja_cons (je_v 2) ja_nil)) je_int) je_int) (je_mul (je_mul je_int (je_v 1)) (je_v 1))) je_int)) (jss_cons (js_ret (je_lst (ja_cons (je_v 3) (ja_cons (je_mod (je_callTy call_intU bi_int T.n_int (by decide +kernel) (ja_cons (je_v 4) ja_nil)) je_int) (ja_cons je_int ja_nil))))) jss_nil))))
theorem j__law_take (T : Txt P K mg ν δ cR Pt) (cdv : Value) (A : Around) (outer : List Env) (s : Shared) (H : Hp) (E : XK) (gu : A.guards = some []) (hr : Room k (A.deeper (PyProof.Rows.envOfC "_law_take" (defScope s__law_take) s.heap.objs.size (δ.fa "_law_take") cdv))) :
    JSs Γ ν δ (cxOf (L2.CX P w) P w K mg base ["_law_pot_here", "_law_upto", "_law_digit", "_law_prime", "_law_mixed"] "_law_take" (defScope s__law_take) (δ.fa "_law_take") cdv A outer s H E) (fun c d _ H1 => E c d H1) k (defBody s__law_take) fn__law_take.body :=
  (jss_cons (js_if (jt_cmp op_gt cmp_gt (je_ix (je_v 0) je_int) je_int (nomark _)) (jss_cons (js_asg 2 sc__law_take.nd (je_mod (je_callTy call_intU bi_int T.n_int (by decide +kernel) (ja_cons (je_ix (je_v 0) je_int) ja_nil)) (je_v 1))) (jss_cons (js_setL (je_v 0) je_int (je_fdiv (je_ix (je_v 0) je_int) (je_v 1))) (jss_cons (js_ret (je_v 2)) jss_nil))) jss_nil) (jss_cons (js_setL (je_v 0) je_int (je_add (je_ix (je_v 0) je_int) je_int)) (jss_cons (js_asg 3 sc__law_take.nd (je_ix (je_lst (ja_cons je_int (ja_cons je_int (ja_cons je_int (ja_cons je_int (ja_cons je_int ja_nil)))))) (je_mod (je_callTy call_intU bi_int T.n_int (by decide +kernel) (ja_cons (je_ix (je_v 0) je_int) ja_nil)) je_int))) (jss_cons (js_asg 4 sc__law_take.nd (je_mod (je_callTy call_intU bi_int T.n_int (by decide +kernel) (ja_cons (je_pow (je_callTy call_intU bi_int T.n_int (by decide +kernel) (ja_cons (je_add (je_add (je_ix (je_v 0) je_int) (je_mul (je_mul je_int (je_ix (je_v 0) je_int)) (je_ix (je_v 0) je_int))) je_int) ja_nil)) je_int) ja_nil)) (je_v 3))) (jss_cons (js_asg 4 sc__law_take.nd (je_mod (je_callTy call_intU bi_int T.n_int (by decide +kernel) (ja_cons (je_mul (je_v 4) (je_add (je_mod (je_callTy call_intU bi_int T.n_int (by decide +kernel) (ja_cons (je_v 4) ja_nil)) je_int) (je_mul je_int (je_ix (je_v 0) je_int)))) ja_nil)) je_int)) (jss_cons (js_ret (je_mod (je_callTy call_intU bi_int T.n_int (by decide +kernel) (ja_cons (je_fdiv (je_v 4) je_int) ja_nil)) (je_v 1))) jss_nil))))))
theorem j__law_of (T : Txt P K mg ν δ cR Pt) (cdv : Value) (A : Around) (outer : List Env) (s : Shared) (H : Hp) (E : XK) (gu : A.guards = some []) (hr : Room k (A.deeper (PyProof.Rows.envOfC "_law_of" (defScope s__law_of) s.heap.objs.size (δ.fa "_law_of") cdv))) :
    JSs Γ ν δ (cxOf (L2.CX P w) P w K mg base ["_law_pot_here", "_law_some"] "_law_of" (defScope s__law_of) (δ.fa "_law_of") cdv A outer s H E) (fun c d _ H1 => E c d H1) k (defBody s__law_of) fn__law_of.body :=
  (jss_cons (js_ret (je_ix (je_v 1) (je_call (fn := fn__law_take) rfl T.m__law_take T.k__law_take T.b__law_take gu hr (takes_of rfl rfl rfl rfl) (ja_cons (je_v 0) (ja_cons (je_callB call_lenU bi_len T.n_len (by decide +kernel) (ja_cons (je_v 1) ja_nil)) ja_nil))))) jss_nil)
theorem j__law_name (T : Txt P K mg ν δ cR Pt) (cdv : Value) (A : Around) (outer : List Env) (s : Shared) (H : Hp) (E : XK) (gu : A.guards = some []) (hr : Room k (A.deeper (PyProof.Rows.envOfC "_law_name" (defScope s__law_name) s.heap.objs.size (δ.fa "_law_name") cdv))) :
    JSs Γ ν δ (cxOf (L2.CX P w) P w K mg base ["_law_pot_here"] "_law_name" (defScope s__law_name) (δ.fa "_law_name") cdv A outer s H E) (fun c d _ H1 => E c d H1) k (defBody s__law_name) fn__law_name.body :=
  (jss_cons (js_ret (je_call (fn := fn__law_of) rfl T.m__law_of T.k__law_of T.b__law_of gu hr (takes_of rfl rfl rfl rfl) (ja_cons (je_v 0) (ja_cons (je_lst (ja_cons je_str (ja_cons je_str (ja_cons je_str (ja_cons je_str (ja_cons je_str (ja_cons je_str (ja_cons je_str (ja_cons je_str ja_nil))))))))) ja_nil)))) jss_nil)
theorem j__law_number (T : Txt P K mg ν δ cR Pt) (cdv : Value) (A : Around) (outer : List Env) (s : Shared) (H : Hp) (E : XK) (gu : A.guards = some []) (hr : Room k (A.deeper (PyProof.Rows.envOfC "_law_number" (defScope s__law_number) s.heap.objs.size (δ.fa "_law_number") cdv))) :
    JSs Γ ν δ (cxOf (L2.CX P w) P w K mg base ["_law_pot_here"] "_law_number" (defScope s__law_number) (δ.fa "_law_number") cdv A outer s H E) (fun c d _ H1 => E c d H1) k (defBody s__law_number) fn__law_number.body :=
  (jss_cons (js_ret (je_call (fn := fn__law_of) rfl T.m__law_of T.k__law_of T.b__law_of gu hr (takes_of rfl rfl rfl rfl) (ja_cons (je_v 0) (ja_cons (je_lst (ja_cons je_int (ja_cons je_int (ja_cons je_int (ja_cons je_int (ja_cons je_int (ja_cons je_int (ja_cons je_int (ja_cons je_int (ja_cons je_int ja_nil)))))))))) ja_nil)))) jss_nil)
theorem j__law_move (T : Txt P K mg ν δ cR Pt) (cdv : Value) (A : Around) (outer : List Env) (s : Shared) (H : Hp) (E : XK) (gu : A.guards = some []) (hr : Room k (A.deeper (PyProof.Rows.envOfC "_law_move" (defScope s__law_move) s.heap.objs.size (δ.fa "_law_move") cdv))) :
    JSs Γ ν δ (cxOf (L2.CX P w) P w K mg base ["_law_pot_here", "_law_word"] "_law_move" (defScope s__law_move) (δ.fa "_law_move") cdv A outer s H E) (fun c d _ H1 => E c d H1) k (defBody s__law_move) fn__law_move.body :=
  (jss_cons (js_asg 1 sc__law_move.nd (je_call (fn := fn__law_of) rfl T.m__law_of T.k__law_of T.b__law_of gu hr (takes_of rfl rfl rfl rfl) (ja_cons (je_v 0) (ja_cons (je_lst (ja_cons je_str (ja_cons je_str (ja_cons je_str (ja_cons je_str (ja_cons je_str (ja_cons je_str (ja_cons je_str (ja_cons je_str ja_nil))))))))) ja_nil)))) (jss_cons (js_if (jt_cmp (op_eqU (hu64 hr)) cmp_eq (je_v 1) je_str (nomark _)) (jss_cons (js_ret (je_tup (ja_cons (je_v 1) (ja_cons (je_call (fn := fn__law_name) rfl T.m__law_name T.k__law_name T.b__law_name gu hr (takes_of rfl rfl rfl rfl) (ja_cons (je_v 0) ja_nil)) (ja_cons (je_call (fn := fn__law_number) rfl T.m__law_number T.k__law_number T.b__law_number gu hr (takes_of rfl rfl rfl rfl) (ja_cons (je_v 0) ja_nil)) ja_nil))))) jss_nil) jss_nil) (jss_cons (js_ret (je_ite (jt_cmp (op_eqU (hu64 hr)) cmp_eq (je_v 1) je_str (nomark _)) (je_tup (ja_cons (je_v 1) ja_nil)) (je_tup (ja_cons (je_v 1) (ja_cons (je_call (fn := fn__law_number) rfl T.m__law_number T.k__law_number T.b__law_number gu hr (takes_of rfl rfl rfl rfl) (ja_cons (je_v 0) ja_nil)) ja_nil))))) jss_nil)))
theorem j__law_none (T : Txt P K mg ν δ cR Pt) (cdv : Value) (A : Around) (outer : List Env) (s : Shared) (H : Hp) (E : XK) (gu : A.guards = some []) (hr : Room k (A.deeper (PyProof.Rows.envOfC "_law_none" (defScope s__law_none) s.heap.objs.size (δ.fa "_law_none") cdv))) :
    JSs Γ ν δ (cxOf (L2.CX P w) P w K mg base ["_law_pot_here", "_law_some"] "_law_none" (defScope s__law_none) (δ.fa "_law_none") cdv A outer s H E) (fun c d _ H1 => E c d H1) k (defBody s__law_none) fn__law_none.body :=
  (jss_cons (js_asg 1 sc__law_none.nd (je_lst (ja_cons je_non (ja_cons (je_tup ja_nil) (ja_cons je_str (ja_cons (je_lst (ja_cons je_str ja_nil)) (ja_cons (je_tup (ja_cons je_str (ja_cons je_int ja_nil))) (ja_cons (je_tup (ja_cons je_str ja_nil)) (ja_cons (je_tup (ja_cons je_str (ja_cons je_str ja_nil))) (ja_cons (je_tup (ja_cons je_str (ja_cons je_str (ja_cons je_int ja_nil)))) (ja_cons (je_tup (ja_cons je_str (ja_cons je_str (ja_cons je_int ja_nil)))) ja_nil))))))))))) (jss_cons (js_asg 1 sc__law_none.nd (je_add (je_v 1) (je_lst (ja_cons (je_tup (ja_cons je_str (ja_cons je_str (ja_cons je_int ja_nil)))) (ja_cons (je_tup (ja_cons je_str (ja_cons je_str (ja_cons je_int ja_nil)))) (ja_cons (je_tup (ja_cons je_str (ja_cons je_str (ja_cons je_int ja_nil)))) (ja_cons (je_tup (ja_cons je_str (ja_cons je_str (ja_cons je_int ja_nil)))) (ja_cons (je_tup (ja_cons je_str (ja_cons je_str (ja_cons je_int ja_nil)))) ja_nil)))))))) (jss_cons (js_asg 1 sc__law_none.nd (je_add (je_v 1) (je_lst (ja_cons (je_tup (ja_cons je_str (ja_cons je_str (ja_cons (je_neg je_int) ja_nil)))) (ja_cons (je_tup (ja_cons je_str (ja_cons je_str (ja_cons je_bl ja_nil)))) (ja_cons (je_tup (ja_cons je_str (ja_cons je_str (ja_cons je_non ja_nil)))) (ja_cons (je_tup (ja_cons je_str (ja_cons je_int (ja_cons je_int ja_nil)))) (ja_cons (je_tup (ja_cons je_str (ja_cons je_str (ja_cons je_int (ja_cons je_int ja_nil))))) ja_nil)))))))) (jss_cons (js_asg 1 sc__law_none.nd (je_add (je_v 1) (je_lst (ja_cons (je_tup (ja_cons je_str ja_nil)) (ja_cons (je_tup (ja_cons je_str (ja_cons je_int ja_nil))) (ja_cons (je_tup (ja_cons je_str (ja_cons (je_neg je_int) ja_nil))) (ja_cons (je_tup (ja_cons je_str (ja_cons je_bl ja_nil))) (ja_cons (je_tup (ja_cons je_str (ja_cons je_str ja_nil))) ja_nil)))))))) (jss_cons (js_asg 1 sc__law_none.nd (je_add (je_v 1) (je_lst (ja_cons (je_tup (ja_cons je_str (ja_cons je_int (ja_cons je_int ja_nil)))) (ja_cons (je_tup (ja_cons je_str (ja_cons je_int ja_nil))) (ja_cons (je_tup (ja_cons je_non (ja_cons je_int ja_nil))) (ja_cons (je_tup (ja_cons (je_lst (ja_cons je_str ja_nil)) (ja_cons je_int ja_nil))) ja_nil))))))) (jss_cons (js_ret (je_call (fn := fn__law_of) rfl T.m__law_of T.k__law_of T.b__law_of gu hr (takes_of rfl rfl rfl rfl) (ja_cons (je_v 0) (ja_cons (je_add (je_v 1) (je_lst (ja_cons (je_tup (ja_cons je_str (ja_cons (je_lst (ja_cons je_str ja_nil)) (ja_cons je_int ja_nil)))) (ja_cons (je_tup (ja_cons (je_tup (ja_cons je_str ja_nil)) ja_nil)) (ja_cons je_int (ja_cons je_dct0 ja_nil)))))) ja_nil)))) jss_nil))))))
theorem j__law_written (T : Txt P K mg ν δ cR Pt) (cdv : Value) (A : Around) (outer : List Env) (s : Shared) (H : Hp) (E : XK) (gu : A.guards = some []) (hr : Room k (A.deeper (PyProof.Rows.envOfC "_law_written" (defScope s__law_written) s.heap.objs.size (δ.fa "_law_written") cdv))) :
    JSs Γ ν δ (cxOf (L2.CX P w) P w K mg base ["_law_move_here", "_law_part"] "_law_written" (defScope s__law_written) (δ.fa "_law_written") cdv A outer s H E) (fun c d _ H1 => E c d H1) k (defBody s__law_written) fn__law_written.body :=
  (jss_cons (js_if (jt_cmp (op_eqU (hu64 hr)) cmp_eq (je_ix (je_v 0) je_int) je_str (nomark _)) (jss_cons (js_ret (je_add (je_add je_str (je_ix (je_v 0) je_int)) (je_ite (jt_cmp op_gt cmp_gt (je_ix (je_v 0) je_int) je_int (nomark _)) (je_add je_str (je_callTy call_strU bi_str T.n_str (by decide +kernel) (ja_cons (je_ix (je_v 0) je_int) ja_nil))) je_str))) jss_nil) jss_nil) (jss_cons (js_ret (je_join je_str (je_lc (own := [("_law_part", 1)]) rfl sc__law_written.nd (ji_over (je_v 0)) (blkOk_by (N := ["_law_move_here", "_law_part"]) (sc := defScope s__law_written) (by decide +kernel)) (tg_name 1) (tgw_name 1) (fun _ _ _ _ _ => (pg_name (i := 1) sc__law_written.nd rfl (by first | exact Or.inl rfl | exact Or.inr rfl))) (fun _ _ _ _ _ => (je_callTy call_strU bi_str T.n_str (by decide +kernel) (ja_cons (je_v 1) ja_nil)))))) jss_nil))
theorem j__law_right (T : Txt P K mg ν δ cR Pt) (tab : LamX.TabB base mg cR Pt) (sy : ∃ mm, base.Ns sysModules mm) (A : Around) (outer : List Env) (s : Shared) (H : Hp) (E : XK) (gu : A.guards = some []) (hr : Room k (A.deeper (PyProof.Rows.envOfC "_law_right" (defScope s__law_right) s.heap.objs.size (δ.fa "_law_right") (.ref cR)))) :
    JSs Γ ν δ (cxOf (L2.CX P w) P w K mg base ["_law_pot_here", "_law_road", "_law_bad", "_law_turn", "_law_at", "_law_value", "_law_kept", "_law_due", "_law_move_here", "_law_heard_here", "_law_thing"] "_law_right" (defScope s__law_right) (δ.fa "_law_right") (.ref cR) A outer s H E) (fun c d _ H1 => E c d H1) k (defBody s__law_right) fn__law_right.body :=
  (jss_cons (js_par 1 2 rfl sc__law_right.nd (je_lc (own := [("_law_turn", 3)]) rfl sc__law_right.nd (ji_rng (je_call (fn := fn__law_take) rfl T.m__law_take T.k__law_take T.b__law_take gu hr (takes_of rfl rfl rfl rfl) (ja_cons (je_v 0) (ja_cons je_int ja_nil))) T.n_range) (blkOk_by (N := ["_law_pot_here", "_law_road", "_law_bad", "_law_turn", "_law_at", "_law_value", "_law_kept", "_law_due", "_law_move_here", "_law_heard_here", "_law_thing"]) (sc := defScope s__law_right) (by decide +kernel)) (tg_name 3) (tgw_name 3) (fun _ _ _ _ _ => (pg_name (i := 3) sc__law_right.nd rfl (by first | exact Or.inl rfl | exact Or.inr rfl))) (fun _ _ _ _ _ => (je_call (fn := fn__law_move) rfl T.m__law_move T.k__law_move T.b__law_move gu hr takes0 (ja_cons (je_v 0) ja_nil)))) je_int) (jss_cons (js_if (jt_cmp (op_eqU (hu64 hr)) cmp_eq (je_call (fn := fn__law_take) rfl T.m__law_take T.k__law_take T.b__law_take gu hr (takes_of rfl rfl rfl rfl) (ja_cons (je_v 0) (ja_cons je_int ja_nil))) je_int (nomark _)) (jss_cons (js_asg 4 sc__law_right.nd (je_call (fn := fn__law_take) rfl T.m__law_take T.k__law_take T.b__law_take gu hr (takes_of rfl rfl rfl rfl) (ja_cons (je_v 0) (ja_cons (je_add (je_callB call_lenU bi_len T.n_len (by decide +kernel) (ja_cons (je_v 1) ja_nil)) je_int) ja_nil)))) (jss_cons (js_par 1 2 rfl sc__law_right.nd (je_add (je_add (je_sl (je_v 1) jo_none (jo_some (je_v 4))) (je_lst (ja_cons (je_call (fn := fn__law_none) rfl T.m__law_none T.k__law_none T.b__law_none gu hr (takes_of rfl rfl rfl rfl) (ja_cons (je_v 0) ja_nil)) ja_nil))) (je_sl (je_v 1) (jo_some (je_v 4)) jo_none)) (je_add (je_v 4) je_int)) (jss_cons (js_asg 1 sc__law_right.nd (je_add (je_v 1) (je_mul (je_lst (ja_cons (je_call (fn := fn__law_none) rfl T.m__law_none T.k__law_none T.b__law_none gu hr (takes_of rfl rfl rfl rfl) (ja_cons (je_v 0) ja_nil)) ja_nil)) (je_call (fn := fn__law_take) rfl T.m__law_take T.k__law_take T.b__law_take gu hr (takes_of rfl rfl rfl rfl) (ja_cons (je_v 0) (ja_cons je_int ja_nil)))))) jss_nil))) jss_nil) (jss_cons (js_parC 5 6 rfl sc__law_right.nd (je_callTy call_tuple_of bi_tuple T.n_tuple (by decide +kernel) (ja_cons (je_v 1) ja_nil)) (je_reprD sy gu (hu66 hr) T.n_repr (ja_cons (je_v 1) ja_nil)) (pg_tup rfl (pgs_cons (pg_name (i := 5) sc__law_right.nd rfl (by first | exact Or.inl rfl | exact Or.inr rfl)) (pgs_cons (pg_name (i := 6) sc__law_right.nd rfl (by first | exact Or.inl rfl | exact Or.inr rfl)) pgs_nil)))) (jss_cons (js_asg 7 sc__law_right.nd (je_ite (jt_cmp op_gt cmp_gt (je_v 2) je_int (nomark _)) (je_tup (ja_cons je_str (ja_cons (je_v 2) ja_nil))) (je_tup (ja_cons je_str (ja_cons (je_join je_str (je_lc (own := [("_law_move_here", 8)]) rfl sc__law_right.nd (ji_over (je_v 1)) (blkOk_by (N := ["_law_pot_here", "_law_road", "_law_bad", "_law_turn", "_law_at", "_law_value", "_law_kept", "_law_due", "_law_move_here", "_law_heard_here", "_law_thing"]) (sc := defScope s__law_right) (by decide +kernel)) (tg_name 8) (tgw_name 8) (fun _ _ _ _ _ => (pg_name (i := 8) sc__law_right.nd rfl (by first | exact Or.inl rfl | exact Or.inr rfl))) (fun _ _ _ _ _ => (je_call (fn := fn__law_written) rfl T.m__law_written T.k__law_written T.b__law_written gu hr takes0 (ja_cons (je_v 8) ja_nil))))) ja_nil))))) (jss_cons (js_asg 9 sc__law_right.nd (je_lst (ja_cons (je_heard (d := hd__law_heard) (Ng := ["_law_call", "_law_missed", "_law_found", "error", "_law_is_bad"]) (cv := .ref (ν.ca "LateError")) rfl rfl (by decide) T.m__law_heard T.f__law_heard (by have z := T.b__law_heard; rw [T.p__law_heard] at z; exact z) sc__law_heard rfl (Or.inl rfl) T.exm_LateError (fun n j hS cdv => g__law_heard T _ n j hS cdv) gu hr tab rfl (by rw [T.tb]; exact List.mem_singleton.mpr rfl) (by rw [T.tb]; intro q hq _; rw [List.mem_singleton.mp hq]; rfl) (LamX.lamS_by (sc := defScope s__law_right) (by decide +kernel)) rfl (fun _ _ _ _ _ => rfl) (fun _ _ _ _ _ _ _ _ gu hr => (je_call (fn := fn_show_story) rfl T.m_show_story T.k_show_story T.b_show_story gu hr (takes_of rfl rfl rfl rfl) (ja_cons (je_v 5) ja_nil)))) ja_nil))) (jss_cons (js_ex (je_append (je_v 9) (je_heard (d := hd__law_heard) (Ng := ["_law_call", "_law_missed", "_law_found", "error", "_law_is_bad"]) (cv := .ref (ν.ca "LateError")) rfl rfl (by decide) T.m__law_heard T.f__law_heard (by have z := T.b__law_heard; rw [T.p__law_heard] at z; exact z) sc__law_heard rfl (Or.inl rfl) T.exm_LateError (fun n j hS cdv => g__law_heard T _ n j hS cdv) gu hr tab rfl (by rw [T.tb]; exact List.mem_singleton.mpr rfl) (by rw [T.tb]; intro q hq _; rw [List.mem_singleton.mp hq]; rfl) (LamX.lamS_by (sc := defScope s__law_right) (by decide +kernel)) rfl (fun _ _ _ _ _ => rfl) (fun _ _ _ _ _ _ _ _ gu hr => (je_callW (fn := fn_show_story) rfl T.m_show_story T.k_show_story T.w_show_story (by rw [T.p_show_story]; rfl) gu hr (takes_of rfl rfl rfl rfl) (je_v 5)))))) (jss_cons (js_if (jt_cmp (op_neU (hu64 hr)) cmp_ne (je_reprD sy gu (hu66 hr) T.n_repr (ja_cons (je_v 9) ja_nil)) (je_reprD sy gu (hu66 hr) T.n_repr (ja_cons (je_lst (ja_cons (je_v 7) (ja_cons (je_v 7) ja_nil))) ja_nil)) (nomark _)) (jss_cons (js_ret je_bl) jss_nil) jss_nil) (jss_cons (js_if (jt_w (jw_and (jt_cmp (op_eqU (hu64 hr)) cmp_eq (je_v 2) je_int (nomark _)) (jw_and1 (jt_cmp (op_neU (hu64 hr)) cmp_ne (je_reprD sy gu (hu66 hr) T.n_repr (ja_cons (je_lst (ja_cons (je_call (fn := fn_read_story) rfl T.m_read_story T.k_read_story T.b_read_story gu hr (takes_of rfl rfl rfl rfl) (ja_cons (je_ix (je_v 7) je_int) ja_nil)) (ja_cons (je_callW (fn := fn_read_story) rfl T.m_read_story T.k_read_story T.w_read_story (by rw [T.p_read_story]; rfl) gu hr (takes_of rfl rfl rfl rfl) (je_ix (je_v 7) je_int)) ja_nil))) ja_nil)) (je_reprD sy gu (hu66 hr) T.n_repr (ja_cons (je_lst (ja_cons (je_v 5) (ja_cons (je_v 5) ja_nil))) ja_nil)) (nomark _))))) (jss_cons (js_ret je_bl) jss_nil) jss_nil) (jss_cons (js_asg 10 sc__law_right.nd (je_call (fn := fn__law_of) rfl T.m__law_of T.k__law_of T.b__law_of gu hr (takes_of rfl rfl rfl rfl) (ja_cons (je_v 0) (ja_cons (je_lst (ja_cons je_non (ja_cons (je_v 1) (ja_cons je_str (ja_cons je_int (ja_cons je_dct0 (ja_cons je_bl (ja_cons je_str ja_nil)))))))) ja_nil)))) (jss_cons (js_ret (je_and (je_cmp (op_eqU (hu64 hr)) cmp_eq (je_reprD sy gu (hu66 hr) T.n_repr (ja_cons (je_heard (d := hd__law_heard) (Ng := ["_law_call", "_law_missed", "_law_found", "error", "_law_is_bad"]) (cv := .ref (ν.ca "LateError")) rfl rfl (by decide) T.m__law_heard T.f__law_heard (by have z := T.b__law_heard; rw [T.p__law_heard] at z; exact z) sc__law_heard rfl (Or.inl rfl) T.exm_LateError (fun n j hS cdv => g__law_heard T _ n j hS cdv) gu hr tab rfl (by rw [T.tb]; exact List.mem_singleton.mpr rfl) (by rw [T.tb]; intro q hq _; rw [List.mem_singleton.mp hq]; rfl) (LamX.lamS_by (sc := defScope s__law_right) (by decide +kernel)) rfl (fun _ _ _ _ _ => rfl) (fun _ _ _ _ _ _ _ _ gu hr => (je_call (fn := fn_show_story) rfl T.m_show_story T.k_show_story T.b_show_story gu hr (takes_of rfl rfl rfl rfl) (ja_cons (je_v 10) ja_nil)))) ja_nil)) (je_reprD sy gu (hu66 hr) T.n_repr (ja_cons (je_tup (ja_cons je_str (ja_cons je_int ja_nil))) ja_nil)) (nomark _)) (je_one (je_cmp (op_eqU (hu64 hr)) cmp_eq (je_reprD sy gu (hu66 hr) T.n_repr (ja_cons (je_v 1) ja_nil)) (je_v 6) (nomark _))))) jss_nil))))))))))
theorem j_law (T : Txt P K mg ν δ cR Pt) (cdv : Value) (A : Around) (outer : List Env) (s : Shared) (H : Hp) (E : XK) (gu : A.guards = some []) (hr : Room k (A.deeper (PyProof.Rows.envOfC "law" (defScope s_law) s.heap.objs.size (δ.fa "law") cdv))) :
    JSs Γ ν δ (cxOf (L2.CX P w) P w K mg base ["_law_script", "_law_k", "_law_pot_here", "_law_turn"] "law" (defScope s_law) (δ.fa "law") cdv A outer s H E) (fun c d _ H1 => E c d H1) k (defBody s_law) fn_law.body :=
  (jss_cons (js_for (passes_of rfl) rfl (ji_rng (je_callB (call_max2 rfl) bi_max T.n_max (by decide +kernel) (ja_cons je_int (ja_cons (je_callB (call_min2 rfl) bi_min T.n_min (by decide +kernel) (ja_cons je_int (ja_cons (je_callB call_lenU bi_len T.n_len (by decide +kernel) (ja_cons (je_v 0) ja_nil)) ja_nil))) ja_nil))) T.n_range) (pg_name (i := 1) sc_law.nd rfl (by first | exact Or.inl rfl | exact Or.inr rfl)) (tg_name 1) (jss_cons (js_asg 2 sc_law.nd (je_call (fn := fn__law_pot) rfl T.m__law_pot T.k__law_pot T.b__law_pot gu hr (takes_of rfl rfl rfl rfl) (ja_cons (je_v 0) (ja_cons (je_v 1) ja_nil)))) (jss_cons (js_if (jt_not (jt_val (je_callB (cr_all rfl) bi_all T.n_all (by decide +kernel) (ja_cons (je_lc (own := [("_law_turn", 3)]) rfl sc_law.nd (ji_rng je_int T.n_range) (blkOk_by (N := ["_law_script", "_law_k", "_law_pot_here", "_law_turn"]) (sc := defScope s_law) (by decide +kernel)) (tg_name 3) (tgw_name 3) (fun _ _ _ _ _ => (pg_name (i := 3) sc_law.nd rfl (by first | exact Or.inl rfl | exact Or.inr rfl))) (fun _ _ _ _ _ => (je_call (fn := fn__law_right) rfl T.m__law_right T.k__law_right T.b__law_right gu hr takes0 (ja_cons (je_v 2) ja_nil)))) ja_nil)))) (jss_cons (js_ret je_bl) jss_nil) jss_nil) jss_nil))) (jss_cons (js_ret je_bl) jss_nil))
theorem all_ok (T : Txt P K mg ν δ cR Pt) (tab : LamX.TabB base mg cR Pt) (sy : ∃ mm, base.Ns sysModules mm) : ∀ (k j : Nat), j ≤ k → ∀ (m : Nat) (f : Str) (fn : Fn), Γ.fns.lookup f = some fn → FnG P w K mg base (L2.CX P w) j (δ.fa f) (δ.fd f) (δ.ps f) (spF Γ ν K (ev Γ m) j f) := by
  intro k
  induction k with
  | zero => intro j hj m f fn _; obtain rfl : j = 0 := Nat.le_zero.mp hj; exact fnG_zero
  | succ k ih =>
    intro j hj m f fn hf
    by_cases hjk : j ≤ k
    · exact ih j hjk m f fn hf
    obtain rfl : j = k + 1 := by omega
    have hS : ∀ n (X : Cx), X.prog = P → X.w = w → X.K = K → X.mg = mg → X.base = base → Sd Γ ν δ X k n := by
      rintro n X rfl rfl rfl rfl rfl m1 _ j1 hj1 f1 fn1 h1
      exact ih j1 hj1 m1 f1 fn1 h1
    rcases lookup_mem hf with ⟨hm⟩
    simp only [Γ, List.mem_cons, Prod.mk.injEq, List.not_mem_nil, or_false] at hm
    rcases hm with ⟨rfl, rfl⟩ | ⟨rfl, rfl⟩ | ⟨rfl, rfl⟩ | ⟨rfl, rfl⟩ | ⟨rfl, rfl⟩ | ⟨rfl, rfl⟩ | ⟨rfl, rfl⟩ | ⟨rfl, rfl⟩ | ⟨rfl, rfl⟩ | ⟨rfl, rfl⟩ | ⟨rfl, rfl⟩ | ⟨rfl, rfl⟩ | ⟨rfl, rfl⟩ | ⟨rfl, rfl⟩ | ⟨rfl, rfl⟩ | ⟨rfl, rfl⟩ | ⟨rfl, rfl⟩ | ⟨rfl, rfl⟩ | ⟨rfl, rfl⟩
    · rw [T.p_is_integer]; exact fnG_ev T.f_is_integer sc_is_integer hf rfl rfl m fun cdv A outer s H E gu hr => j_is_integer T cdv A outer s H E gu hr m (hS m _ rfl rfl rfl rfl rfl)
    · rw [T.p_is_between]; exact fnG_ev T.f_is_between sc_is_between hf rfl rfl m fun cdv A outer s H E gu hr => j_is_between T cdv A outer s H E gu hr m (hS m _ rfl rfl rfl rfl rfl)
    · rw [T.p_is_name]; exact fnG_ev T.f_is_name sc_is_name hf rfl rfl m fun cdv A outer s H E gu hr => j_is_name T cdv A outer s H E gu hr m (hS m _ rfl rfl rfl rfl rfl)
    · rw [T.p_is_move]; exact fnG_ev T.f_is_move sc_is_move hf rfl rfl m fun cdv A outer s H E gu hr => j_is_move T cdv A outer s H E gu hr m (hS m _ rfl rfl rfl rfl rfl)
    · rw [T.p_show_move]; exact fnG_ev T.f_show_move sc_show_move hf rfl rfl m fun cdv A outer s H E gu hr => j_show_move T cdv A outer s H E gu hr m (hS m _ rfl rfl rfl rfl rfl)
    · rw [T.p_number_in]; exact fnG_ev T.f_number_in sc_number_in hf rfl rfl m fun cdv A outer s H E gu hr => j_number_in T cdv A outer s H E gu hr m (hS m _ rfl rfl rfl rfl rfl)
    · rw [T.p_move_in]; exact fnG_ev T.f_move_in sc_move_in hf rfl rfl m fun cdv A outer s H E gu hr => j_move_in T cdv A outer s H E gu hr m (hS m _ rfl rfl rfl rfl rfl)
    · rw [T.p_show_story]; exact fnG_ev T.f_show_story sc_show_story hf rfl rfl m fun cdv A outer s H E gu hr => j_show_story T cdv A outer s H E gu hr m (hS m _ rfl rfl rfl rfl rfl)
    · rw [T.p_read_story]; exact fnG_ev T.f_read_story sc_read_story hf rfl rfl m fun cdv A outer s H E gu hr => j_read_story T cdv A outer s H E gu hr m (hS m _ rfl rfl rfl rfl rfl)
    · rw [T.p__law_pot]; exact fnG_ev T.f__law_pot sc__law_pot hf rfl rfl m fun cdv A outer s H E gu hr => j__law_pot T cdv A outer s H E gu hr m (hS m _ rfl rfl rfl rfl rfl)
    · rw [T.p__law_take]; exact fnG_ev T.f__law_take sc__law_take hf rfl rfl m fun cdv A outer s H E gu hr => j__law_take T cdv A outer s H E gu hr m (hS m _ rfl rfl rfl rfl rfl)
    · rw [T.p__law_of]; exact fnG_ev T.f__law_of sc__law_of hf rfl rfl m fun cdv A outer s H E gu hr => j__law_of T cdv A outer s H E gu hr m (hS m _ rfl rfl rfl rfl rfl)
    · rw [T.p__law_name]; exact fnG_ev T.f__law_name sc__law_name hf rfl rfl m fun cdv A outer s H E gu hr => j__law_name T cdv A outer s H E gu hr m (hS m _ rfl rfl rfl rfl rfl)
    · rw [T.p__law_number]; exact fnG_ev T.f__law_number sc__law_number hf rfl rfl m fun cdv A outer s H E gu hr => j__law_number T cdv A outer s H E gu hr m (hS m _ rfl rfl rfl rfl rfl)
    · rw [T.p__law_move]; exact fnG_ev T.f__law_move sc__law_move hf rfl rfl m fun cdv A outer s H E gu hr => j__law_move T cdv A outer s H E gu hr m (hS m _ rfl rfl rfl rfl rfl)
    · rw [T.p__law_none]; exact fnG_ev T.f__law_none sc__law_none hf rfl rfl m fun cdv A outer s H E gu hr => j__law_none T cdv A outer s H E gu hr m (hS m _ rfl rfl rfl rfl rfl)
    · rw [T.p__law_written]; exact fnG_ev T.f__law_written sc__law_written hf rfl rfl m fun cdv A outer s H E gu hr => j__law_written T cdv A outer s H E gu hr m (hS m _ rfl rfl rfl rfl rfl)
    · rw [T.p__law_right]; obtain ⟨oc, od, kV, doc, pm, an, ct, osl, ef, lk, code⟩ := T.cf; exact fnG_ev0 ef lk code sc__law_right hf rfl rfl m fun A outer s H E gu hr => j__law_right T tab sy A outer s H E gu hr m (hS m _ rfl rfl rfl rfl rfl)
    · rw [T.p_law]; exact fnG_ev T.f_law sc_law hf rfl rfl m fun cdv A outer s H E gu hr => j_law T cdv A outer s H E gu hr m (hS m _ rfl rfl rfl rfl rfl)
end
end K88
namespace K88
open PySem PySem.Spec L2 MP
def clsBody (s : Stmt) : List Stmt := match s with
  | .ClassDef _ _ _ b _ _ _ _ _ _ _ => b
  | _ => []
abbrev sI_BadStory : Stmt := (clsBody (top 3)).getD 0 (.Pass ⟨0, 0, 0, 0⟩)
abbrev sI_BadText : Stmt := (clsBody (top 2)).getD 0 (.Pass ⟨0, 0, 0, 0⟩)
theorem all_mk {P : Program} {K : PySem.W.Frag} {h : Heap} {mg : Str → Option Value} {fa : Addr} (Pt : Addr) (X : K.In h) (G : h.Ns mainGlobals mg) (hfa : mg "law" = some (.ref fa))
    {t_LETTERS : Tok}
    {t_MOST_LETTERS : Tok}
    {a_TAKEN : Addr} {od_TAKEN : Option Addr} {n_TAKEN : Nat} {sl_TAKEN : Array (Option Value)} {t_TAKEN0 t_TAKEN1 : Tok}
    {t_BLANK : Tok}
    {t_FEED : Tok}
    {t_DEED : Tok}
    {t_OVER : Tok}
    {a_PLACED : Addr} {od_PLACED : Option Addr} {n_PLACED : Nat} {sl_PLACED : Array (Option Value)} {t_PLACED0 t_PLACED1 t_PLACED2 t_PLACED3 : Tok}
    {t_MOST_NUMBER : Tok}
    {t_DIGITS : Tok}
    {f_is_integer : Addr} {od_is_integer an_is_integer : Option Addr} {sl_is_integer : Array (Option Value)} {oc_is_integer kV_is_integer dc_is_integer pm_is_integer cd_is_integer ct_is_integer : Value}
    {f_is_between : Addr} {od_is_between an_is_between : Option Addr} {sl_is_between : Array (Option Value)} {oc_is_between kV_is_between dc_is_between pm_is_between cd_is_between ct_is_between : Value}
    {f_is_name : Addr} {od_is_name an_is_name : Option Addr} {sl_is_name : Array (Option Value)} {oc_is_name kV_is_name dc_is_name pm_is_name cd_is_name ct_is_name : Value}
    {f_is_move : Addr} {od_is_move an_is_move : Option Addr} {sl_is_move : Array (Option Value)} {oc_is_move kV_is_move dc_is_move pm_is_move cd_is_move ct_is_move : Value}
    {f_show_move : Addr} {od_show_move an_show_move : Option Addr} {sl_show_move : Array (Option Value)} {oc_show_move kV_show_move dc_show_move pm_show_move cd_show_move ct_show_move : Value}
    {f_number_in : Addr} {od_number_in an_number_in : Option Addr} {sl_number_in : Array (Option Value)} {oc_number_in kV_number_in dc_number_in pm_number_in cd_number_in ct_number_in : Value}
    {f_move_in : Addr} {od_move_in an_move_in : Option Addr} {sl_move_in : Array (Option Value)} {oc_move_in kV_move_in dc_move_in pm_move_in cd_move_in ct_move_in : Value}
    {f_show_story : Addr} {od_show_story an_show_story : Option Addr} {sl_show_story : Array (Option Value)} {oc_show_story kV_show_story dc_show_story pm_show_story cd_show_story ct_show_story : Value}
    {f_read_story : Addr} {od_read_story an_read_story : Option Addr} {sl_read_story : Array (Option Value)} {oc_read_story kV_read_story dc_read_story pm_read_story cd_read_story ct_read_story : Value}
    {f__law_pot : Addr} {od__law_pot an__law_pot : Option Addr} {sl__law_pot : Array (Option Value)} {oc__law_pot kV__law_pot dc__law_pot pm__law_pot cd__law_pot ct__law_pot : Value}
    {f__law_take : Addr} {od__law_take an__law_take : Option Addr} {sl__law_take : Array (Option Value)} {oc__law_take kV__law_take dc__law_take pm__law_take cd__law_take ct__law_take : Value}
    {f__law_of : Addr} {od__law_of an__law_of : Option Addr} {sl__law_of : Array (Option Value)} {oc__law_of kV__law_of dc__law_of pm__law_of cd__law_of ct__law_of : Value}
    {f__law_name : Addr} {od__law_name an__law_name : Option Addr} {sl__law_name : Array (Option Value)} {oc__law_name kV__law_name dc__law_name pm__law_name cd__law_name ct__law_name : Value}
    {f__law_number : Addr} {od__law_number an__law_number : Option Addr} {sl__law_number : Array (Option Value)} {oc__law_number kV__law_number dc__law_number pm__law_number cd__law_number ct__law_number : Value}
    {f__law_move : Addr} {od__law_move an__law_move : Option Addr} {sl__law_move : Array (Option Value)} {oc__law_move kV__law_move dc__law_move pm__law_move cd__law_move ct__law_move : Value}
    {f__law_none : Addr} {od__law_none an__law_none : Option Addr} {sl__law_none : Array (Option Value)} {oc__law_none kV__law_none dc__law_none pm__law_none cd__law_none ct__law_none : Value}
    {f__law_written : Addr} {od__law_written an__law_written : Option Addr} {sl__law_written : Array (Option Value)} {oc__law_written kV__law_written dc__law_written pm__law_written cd__law_written ct__law_written : Value}
    {f__law_right : Addr} {od__law_right an__law_right : Option Addr} {sl__law_right : Array (Option Value)} {oc__law_right kV__law_right dc__law_right pm__law_right ct__law_right : Value}
    {cR : Addr}
    {f_law : Addr} {od_law an_law : Option Addr} {sl_law : Array (Option Value)} {oc_law kV_law dc_law pm_law cd_law ct_law : Value}
    {f__law_heard : Addr} {od__law_heard an__law_heard : Option Addr} {sl__law_heard : Array (Option Value)} {oc__law_heard kV__law_heard dc__law_heard pm__law_heard cd__law_heard ct__law_heard : Value}
    {C_BadStory : Addr}
    {C_BadText : Addr}
    {C_LateError : Addr}
    {nm_BadStory q_BadStory : Str} {N_BadStory : Addr} {bs_BadStory : List Value} {sn_BadStory : List Str} {sub_BadStory : List Value} {ab_BadStory : Bool} {col_BadStory : Option Bool} {dd_BadStory : Option Addr} {m0_BadStory m1_BadStory m2_BadStory m3_BadStory m5_BadStory : Option Value}
    {fI_BadStory cda_BadStory cc_BadStory : Addr} {odI_BadStory anI_BadStory cdd_BadStory cld_BadStory : Option Addr} {slI_BadStory ccs_BadStory csl_BadStory : Array (Option Value)} {ocI_BadStory dcI_BadStory pmI_BadStory ctI_BadStory ccl_BadStory cel_BadStory : Value} {vs_BadStory : Array Value} {file_BadStory : Str} {tf_BadStory : Tok}
    {nm_BadText q_BadText : Str} {N_BadText : Addr} {bs_BadText : List Value} {sn_BadText : List Str} {sub_BadText : List Value} {ab_BadText : Bool} {col_BadText : Option Bool} {dd_BadText : Option Addr} {m0_BadText m1_BadText m2_BadText m3_BadText m5_BadText : Option Value}
    {fI_BadText cda_BadText cc_BadText : Addr} {odI_BadText anI_BadText cdd_BadText cld_BadText : Option Addr} {slI_BadText ccs_BadText csl_BadText : Array (Option Value)} {ocI_BadText dcI_BadText pmI_BadText ctI_BadText ccl_BadText cel_BadText : Value} {vs_BadText : Array Value} {file_BadText : Str} {tf_BadText : Tok}
    {cddR : Option Addr} {vsR : Array Value} {ccsR : Array (Option Value)} {fileR : Str} {tfR tgR ttR : Tok} {flagsR textR : Int} {inFR : Bool}
    (z_ValueError : PySem.W.nsIn K mainGlobals "ValueError" = some none)
    (z_abs : PySem.W.nsIn K mainGlobals "abs" = some none)
    (z_all : PySem.W.nsIn K mainGlobals "all" = some none)
    (z_bool : PySem.W.nsIn K mainGlobals "bool" = some none)
    (z_enumerate : PySem.W.nsIn K mainGlobals "enumerate" = some none)
    (z_int : PySem.W.nsIn K mainGlobals "int" = some none)
    (z_isinstance : PySem.W.nsIn K mainGlobals "isinstance" = some none)
    (z_len : PySem.W.nsIn K mainGlobals "len" = some none)
    (z_max : PySem.W.nsIn K mainGlobals "max" = some none)
    (z_min : PySem.W.nsIn K mainGlobals "min" = some none)
    (z_range : PySem.W.nsIn K mainGlobals "range" = some none)
    (z_repr : PySem.W.nsIn K mainGlobals "repr" = some none)
    (z_str : PySem.W.nsIn K mainGlobals "str" = some none)
    (z_super : PySem.W.nsIn K mainGlobals "super" = some none)
    (z_tuple : PySem.W.nsIn K mainGlobals "tuple" = some none)
    (g_LETTERS : PySem.W.nsIn K mainGlobals "LETTERS" = some (some (.str "abcdefghijklmnopqrstuvwxyz" t_LETTERS)))
    (g_MOST_LETTERS : PySem.W.nsIn K mainGlobals "MOST_LETTERS" = some (some (.int 8 t_MOST_LETTERS)))
    (g_TAKEN : PySem.W.nsIn K mainGlobals "TAKEN" = some (some (.ref a_TAKEN)))
    (l_TAKEN : K.lookup a_TAKEN = some ⟨.type "tuple", od_TAKEN, .seq #[.str "it" t_TAKEN0, .str "asked" t_TAKEN1] n_TAKEN, sl_TAKEN⟩)
    (g_BLANK : PySem.W.nsIn K mainGlobals "BLANK" = some (some (.str " " t_BLANK)))
    (g_FEED : PySem.W.nsIn K mainGlobals "FEED" = some (some (.str "\n" t_FEED)))
    (g_DEED : PySem.W.nsIn K mainGlobals "DEED" = some (some (.str "deed" t_DEED)))
    (g_OVER : PySem.W.nsIn K mainGlobals "OVER" = some (some (.str "over" t_OVER)))
    (g_PLACED : PySem.W.nsIn K mainGlobals "PLACED" = some (some (.ref a_PLACED)))
    (l_PLACED : K.lookup a_PLACED = some ⟨.type "tuple", od_PLACED, .seq #[.str "sends" t_PLACED0, .str "does" t_PLACED1, .str "comes" t_PLACED2, .str "gone" t_PLACED3] n_PLACED, sl_PLACED⟩)
    (g_MOST_NUMBER : PySem.W.nsIn K mainGlobals "MOST_NUMBER" = some (some (.int 999 t_MOST_NUMBER)))
    (g_DIGITS : PySem.W.nsIn K mainGlobals "DIGITS" = some (some (.str "0123456789" t_DIGITS)))
    (a_is_integer : PySem.W.nsIn K mainGlobals "is_integer" = some (some (.ref f_is_integer)))
    (l_is_integer : K.lookup f_is_integer = some ⟨oc_is_integer, od_is_integer, .func (PySem.W.fnOf "is_integer" "is_integer" (defArgs s_is_integer) (defBody s_is_integer) (defScope s_is_integer) .none kV_is_integer dc_is_integer pm_is_integer an_is_integer cd_is_integer ct_is_integer), sl_is_integer⟩)
    (c_is_integer : PySem.W.codeIn K cd_is_integer "is_integer" = true)
    (k_is_integer : PySem.W.keepIn K (.ref f_is_integer) = true)
    (a_is_between : PySem.W.nsIn K mainGlobals "is_between" = some (some (.ref f_is_between)))
    (l_is_between : K.lookup f_is_between = some ⟨oc_is_between, od_is_between, .func (PySem.W.fnOf "is_between" "is_between" (defArgs s_is_between) (defBody s_is_between) (defScope s_is_between) .none kV_is_between dc_is_between pm_is_between an_is_between cd_is_between ct_is_between), sl_is_between⟩)
    (c_is_between : PySem.W.codeIn K cd_is_between "is_between" = true)
    (k_is_between : PySem.W.keepIn K (.ref f_is_between) = true)
    (a_is_name : PySem.W.nsIn K mainGlobals "is_name" = some (some (.ref f_is_name)))
    (l_is_name : K.lookup f_is_name = some ⟨oc_is_name, od_is_name, .func (PySem.W.fnOf "is_name" "is_name" (defArgs s_is_name) (defBody s_is_name) (defScope s_is_name) .none kV_is_name dc_is_name pm_is_name an_is_name cd_is_name ct_is_name), sl_is_name⟩)
    (c_is_name : PySem.W.codeIn K cd_is_name "is_name" = true)
    (k_is_name : PySem.W.keepIn K (.ref f_is_name) = true)
    (a_is_move : PySem.W.nsIn K mainGlobals "is_move" = some (some (.ref f_is_move)))
    (l_is_move : K.lookup f_is_move = some ⟨oc_is_move, od_is_move, .func (PySem.W.fnOf "is_move" "is_move" (defArgs s_is_move) (defBody s_is_move) (defScope s_is_move) .none kV_is_move dc_is_move pm_is_move an_is_move cd_is_move ct_is_move), sl_is_move⟩)
    (c_is_move : PySem.W.codeIn K cd_is_move "is_move" = true)
    (k_is_move : PySem.W.keepIn K (.ref f_is_move) = true)
    (a_show_move : PySem.W.nsIn K mainGlobals "show_move" = some (some (.ref f_show_move)))
    (l_show_move : K.lookup f_show_move = some ⟨oc_show_move, od_show_move, .func (PySem.W.fnOf "show_move" "show_move" (defArgs s_show_move) (defBody s_show_move) (defScope s_show_move) .none kV_show_move dc_show_move pm_show_move an_show_move cd_show_move ct_show_move), sl_show_move⟩)
    (c_show_move : PySem.W.codeIn K cd_show_move "show_move" = true)
    (k_show_move : PySem.W.keepIn K (.ref f_show_move) = true)
    (a_number_in : PySem.W.nsIn K mainGlobals "number_in" = some (some (.ref f_number_in)))
    (l_number_in : K.lookup f_number_in = some ⟨oc_number_in, od_number_in, .func (PySem.W.fnOf "number_in" "number_in" (defArgs s_number_in) (defBody s_number_in) (defScope s_number_in) .none kV_number_in dc_number_in pm_number_in an_number_in cd_number_in ct_number_in), sl_number_in⟩)
    (c_number_in : PySem.W.codeIn K cd_number_in "number_in" = true)
    (k_number_in : PySem.W.keepIn K (.ref f_number_in) = true)
    (a_move_in : PySem.W.nsIn K mainGlobals "move_in" = some (some (.ref f_move_in)))
    (l_move_in : K.lookup f_move_in = some ⟨oc_move_in, od_move_in, .func (PySem.W.fnOf "move_in" "move_in" (defArgs s_move_in) (defBody s_move_in) (defScope s_move_in) .none kV_move_in dc_move_in pm_move_in an_move_in cd_move_in ct_move_in), sl_move_in⟩)
    (c_move_in : PySem.W.codeIn K cd_move_in "move_in" = true)
    (k_move_in : PySem.W.keepIn K (.ref f_move_in) = true)
    (a_show_story : PySem.W.nsIn K mainGlobals "show_story" = some (some (.ref f_show_story)))
    (l_show_story : K.lookup f_show_story = some ⟨oc_show_story, od_show_story, .func (PySem.W.fnOf "show_story" "show_story" (defArgs s_show_story) (defBody s_show_story) (defScope s_show_story) .none kV_show_story dc_show_story pm_show_story an_show_story cd_show_story ct_show_story), sl_show_story⟩)
    (c_show_story : PySem.W.codeIn K cd_show_story "show_story" = true)
    (k_show_story : PySem.W.keepIn K (.ref f_show_story) = true)
    (a_read_story : PySem.W.nsIn K mainGlobals "read_story" = some (some (.ref f_read_story)))
    (l_read_story : K.lookup f_read_story = some ⟨oc_read_story, od_read_story, .func (PySem.W.fnOf "read_story" "read_story" (defArgs s_read_story) (defBody s_read_story) (defScope s_read_story) .none kV_read_story dc_read_story pm_read_story an_read_story cd_read_story ct_read_story), sl_read_story⟩)
    (c_read_story : PySem.W.codeIn K cd_read_story "read_story" = true)
    (k_read_story : PySem.W.keepIn K (.ref f_read_story) = true)
    (a__law_pot : PySem.W.nsIn K mainGlobals "_law_pot" = some (some (.ref f__law_pot)))
    (l__law_pot : K.lookup f__law_pot = some ⟨oc__law_pot, od__law_pot, .func (PySem.W.fnOf "_law_pot" "_law_pot" (defArgs s__law_pot) (defBody s__law_pot) (defScope s__law_pot) .none kV__law_pot dc__law_pot pm__law_pot an__law_pot cd__law_pot ct__law_pot), sl__law_pot⟩)
    (c__law_pot : PySem.W.codeIn K cd__law_pot "_law_pot" = true)
    (k__law_pot : PySem.W.keepIn K (.ref f__law_pot) = true)
    (a__law_take : PySem.W.nsIn K mainGlobals "_law_take" = some (some (.ref f__law_take)))
    (l__law_take : K.lookup f__law_take = some ⟨oc__law_take, od__law_take, .func (PySem.W.fnOf "_law_take" "_law_take" (defArgs s__law_take) (defBody s__law_take) (defScope s__law_take) .none kV__law_take dc__law_take pm__law_take an__law_take cd__law_take ct__law_take), sl__law_take⟩)
    (c__law_take : PySem.W.codeIn K cd__law_take "_law_take" = true)
    (k__law_take : PySem.W.keepIn K (.ref f__law_take) = true)
    (a__law_of : PySem.W.nsIn K mainGlobals "_law_of" = some (some (.ref f__law_of)))
    (l__law_of : K.lookup f__law_of = some ⟨oc__law_of, od__law_of, .func (PySem.W.fnOf "_law_of" "_law_of" (defArgs s__law_of) (defBody s__law_of) (defScope s__law_of) .none kV__law_of dc__law_of pm__law_of an__law_of cd__law_of ct__law_of), sl__law_of⟩)
    (c__law_of : PySem.W.codeIn K cd__law_of "_law_of" = true)
    (k__law_of : PySem.W.keepIn K (.ref f__law_of) = true)
    (a__law_name : PySem.W.nsIn K mainGlobals "_law_name" = some (some (.ref f__law_name)))
    (l__law_name : K.lookup f__law_name = some ⟨oc__law_name, od__law_name, .func (PySem.W.fnOf "_law_name" "_law_name" (defArgs s__law_name) (defBody s__law_name) (defScope s__law_name) .none kV__law_name dc__law_name pm__law_name an__law_name cd__law_name ct__law_name), sl__law_name⟩)
    (c__law_name : PySem.W.codeIn K cd__law_name "_law_name" = true)
    (k__law_name : PySem.W.keepIn K (.ref f__law_name) = true)
    (a__law_number : PySem.W.nsIn K mainGlobals "_law_number" = some (some (.ref f__law_number)))
    (l__law_number : K.lookup f__law_number = some ⟨oc__law_number, od__law_number, .func (PySem.W.fnOf "_law_number" "_law_number" (defArgs s__law_number) (defBody s__law_number) (defScope s__law_number) .none kV__law_number dc__law_number pm__law_number an__law_number cd__law_number ct__law_number), sl__law_number⟩)
    (c__law_number : PySem.W.codeIn K cd__law_number "_law_number" = true)
    (k__law_number : PySem.W.keepIn K (.ref f__law_number) = true)
    (a__law_move : PySem.W.nsIn K mainGlobals "_law_move" = some (some (.ref f__law_move)))
    (l__law_move : K.lookup f__law_move = some ⟨oc__law_move, od__law_move, .func (PySem.W.fnOf "_law_move" "_law_move" (defArgs s__law_move) (defBody s__law_move) (defScope s__law_move) .none kV__law_move dc__law_move pm__law_move an__law_move cd__law_move ct__law_move), sl__law_move⟩)
    (c__law_move : PySem.W.codeIn K cd__law_move "_law_move" = true)
    (k__law_move : PySem.W.keepIn K (.ref f__law_move) = true)
    (a__law_none : PySem.W.nsIn K mainGlobals "_law_none" = some (some (.ref f__law_none)))
    (l__law_none : K.lookup f__law_none = some ⟨oc__law_none, od__law_none, .func (PySem.W.fnOf "_law_none" "_law_none" (defArgs s__law_none) (defBody s__law_none) (defScope s__law_none) .none kV__law_none dc__law_none pm__law_none an__law_none cd__law_none ct__law_none), sl__law_none⟩)
    (c__law_none : PySem.W.codeIn K cd__law_none "_law_none" = true)
    (k__law_none : PySem.W.keepIn K (.ref f__law_none) = true)
    (a__law_written : PySem.W.nsIn K mainGlobals "_law_written" = some (some (.ref f__law_written)))
    (l__law_written : K.lookup f__law_written = some ⟨oc__law_written, od__law_written, .func (PySem.W.fnOf "_law_written" "_law_written" (defArgs s__law_written) (defBody s__law_written) (defScope s__law_written) .none kV__law_written dc__law_written pm__law_written an__law_written cd__law_written ct__law_written), sl__law_written⟩)
    (c__law_written : PySem.W.codeIn K cd__law_written "_law_written" = true)
    (k__law_written : PySem.W.keepIn K (.ref f__law_written) = true)
    (a__law_right : PySem.W.nsIn K mainGlobals "_law_right" = some (some (.ref f__law_right)))
    (l__law_right : K.lookup f__law_right = some ⟨oc__law_right, od__law_right, .func (PySem.W.fnOf "_law_right" "_law_right" (defArgs s__law_right) (defBody s__law_right) (defScope s__law_right) .none kV__law_right dc__law_right pm__law_right an__law_right (.ref cR) ct__law_right), sl__law_right⟩)
    (c__law_right : PySem.W.codeIn K (.ref cR) "_law_right" = true)
    (k__law_right : PySem.W.keepIn K (.ref f__law_right) = true)
    (a_law : PySem.W.nsIn K mainGlobals "law" = some (some (.ref f_law)))
    (l_law : K.lookup f_law = some ⟨oc_law, od_law, .func (PySem.W.fnOf "law" "law" (defArgs s_law) (defBody s_law) (defScope s_law) .none kV_law dc_law pm_law an_law cd_law ct_law), sl_law⟩)
    (c_law : PySem.W.codeIn K cd_law "law" = true)
    (k_law : PySem.W.keepIn K (.ref f_law) = true)
    (a__law_heard : PySem.W.nsIn K mainGlobals "_law_heard" = some (some (.ref f__law_heard)))
    (l__law_heard : K.lookup f__law_heard = some ⟨oc__law_heard, od__law_heard, .func (PySem.W.fnOf "_law_heard" "_law_heard" (defArgs s__law_heard) (defBody s__law_heard) (defScope s__law_heard) .none kV__law_heard dc__law_heard pm__law_heard an__law_heard cd__law_heard ct__law_heard), sl__law_heard⟩)
    (c__law_heard : PySem.W.codeIn K cd__law_heard "_law_heard" = true)
    (k__law_heard : PySem.W.keepIn K (.ref f__law_heard) = true)
    (a_BadStory : PySem.W.nsIn K mainGlobals "BadStory" = some (some (.ref C_BadStory)))
    (a_BadText : PySem.W.nsIn K mainGlobals "BadText" = some (some (.ref C_BadText)))
    (a_LateError : PySem.W.nsIn K mainGlobals "LateError" = some (some (.ref C_LateError)))
    (x_BadStory : K.lookup C_BadStory = some (excClassObj nm_BadStory q_BadStory C_BadStory N_BadStory bs_BadStory [.ref C_LateError, .type "ValueError", .type "Exception", .type "BaseException", .type "object"] true sn_BadStory sub_BadStory ab_BadStory col_BadStory dd_BadStory m0_BadStory m1_BadStory m2_BadStory m3_BadStory m5_BadStory "ValueError.__new__"))
    (sa_BadStory : PySem.W.findIn K (.ref C_BadStory) "__setattr__" = some (some (.builtin "object.__setattr__")))
    (ga_BadStory : PySem.W.findIn K (.ref C_BadStory) "__getattribute__" = some (some (.builtin "BaseException.__getattribute__")))
    (gg_BadStory : PySem.W.findIn K (.ref C_BadStory) "__getattr__" = some none)
    (nb_BadStory : PySem.W.findIn K (.ref C_BadStory) "number" = some none)
    (i_BadStory : PySem.W.findIn K (.ref C_BadStory) "__init__" = some (some (.ref fI_BadStory)))
    (ti_BadStory : PySem.W.typeIn K (.ref fI_BadStory) = some (.type "function"))
    (lI_BadStory : K.lookup fI_BadStory = some ⟨ocI_BadStory, odI_BadStory, .func (PySem.W.ksFn "__init__" "BadStory.__init__" (defArgs sI_BadStory) (defBody sI_BadStory) (defScope sI_BadStory) .none .none dcI_BadStory pmI_BadStory anI_BadStory (.ref cda_BadStory) ctI_BadStory cc_BadStory), slI_BadStory⟩)
    (cI_BadStory : PySem.W.codeIn K (.ref cda_BadStory) "BadStory.__init__" = true)
    (lc_BadStory : K.lookup cda_BadStory = some ⟨ccl_BadStory, cdd_BadStory, .fields vs_BadStory, ccs_BadStory⟩)
    (hv_BadStory : vs_BadStory[2]? = some (.str file_BadStory tf_BadStory))
    (hf_BadStory : ((P.main.file : Str) == file_BadStory) = true)
    (le_BadStory : K.lookup cc_BadStory = some ⟨cel_BadStory, cld_BadStory, .cell (some (.ref C_BadStory)), csl_BadStory⟩)
    (kC_BadStory : PySem.W.keepIn K (.ref C_BadStory) = true)
    (eC_BadStory : PySem.W.subIn K (.ref C_BadStory) (.type "BaseException") = some true)
    (tC_BadStory : PySem.W.typeIn K (.ref C_BadStory) = some (.type "type"))
    (vC_BadStory : PySem.W.subIn K (.ref C_BadStory) (.type "ValueError") = some true)
    (mC_BadStory : PySem.W.mroIn K C_BadStory (.ref C_BadStory) = some true)
    (oC_BadStory : PySem.W.mroIn K C_BadStory (.type "object") = some true)
    (su_BadStory : PySem.W.ks_superIn K C_BadStory C_BadStory "__init__" = some (some (.builtin "ValueError.__init__")))
    (hd_BadStory : PySem.W.hasDictIn K C_BadStory = true)
    (cl_BadStory : PySem.W.isClsIn K C_BadStory = true)
    (at_BadStory : PySem.W.findIn K (.ref C_BadStory) "__class__" = some (some (.builtin "object.__class__")))
    (em_BadStory_LateError : PySem.W.exmOne K (.ref C_BadStory) (.ref C_LateError) = some true)
    (ki_BadStory_BadStory : PySem.W.kitOne K (.ref C_BadStory) (.ref C_BadStory) = some true)
    (ki_BadStory_ValueError : PySem.W.kitOne K (.ref C_BadStory) (.type "ValueError") = some true)
    (ki_BadStory_bool : PySem.W.kitOne K (.ref C_BadStory) (.type "bool") = some false)
    (ki_BadStory_int : PySem.W.kitOne K (.ref C_BadStory) (.type "int") = some false)
    (ki_BadStory_str : PySem.W.kitOne K (.ref C_BadStory) (.type "str") = some false)
    (ki_BadStory_tuple : PySem.W.kitOne K (.ref C_BadStory) (.type "tuple") = some false)
    (x_BadText : K.lookup C_BadText = some (excClassObj nm_BadText q_BadText C_BadText N_BadText bs_BadText [.ref C_LateError, .type "ValueError", .type "Exception", .type "BaseException", .type "object"] true sn_BadText sub_BadText ab_BadText col_BadText dd_BadText m0_BadText m1_BadText m2_BadText m3_BadText m5_BadText "ValueError.__new__"))
    (sa_BadText : PySem.W.findIn K (.ref C_BadText) "__setattr__" = some (some (.builtin "object.__setattr__")))
    (ga_BadText : PySem.W.findIn K (.ref C_BadText) "__getattribute__" = some (some (.builtin "BaseException.__getattribute__")))
    (gg_BadText : PySem.W.findIn K (.ref C_BadText) "__getattr__" = some none)
    (nb_BadText : PySem.W.findIn K (.ref C_BadText) "line" = some none)
    (i_BadText : PySem.W.findIn K (.ref C_BadText) "__init__" = some (some (.ref fI_BadText)))
    (ti_BadText : PySem.W.typeIn K (.ref fI_BadText) = some (.type "function"))
    (lI_BadText : K.lookup fI_BadText = some ⟨ocI_BadText, odI_BadText, .func (PySem.W.ksFn "__init__" "BadText.__init__" (defArgs sI_BadText) (defBody sI_BadText) (defScope sI_BadText) .none .none dcI_BadText pmI_BadText anI_BadText (.ref cda_BadText) ctI_BadText cc_BadText), slI_BadText⟩)
    (cI_BadText : PySem.W.codeIn K (.ref cda_BadText) "BadText.__init__" = true)
    (lc_BadText : K.lookup cda_BadText = some ⟨ccl_BadText, cdd_BadText, .fields vs_BadText, ccs_BadText⟩)
    (hv_BadText : vs_BadText[2]? = some (.str file_BadText tf_BadText))
    (hf_BadText : ((P.main.file : Str) == file_BadText) = true)
    (le_BadText : K.lookup cc_BadText = some ⟨cel_BadText, cld_BadText, .cell (some (.ref C_BadText)), csl_BadText⟩)
    (kC_BadText : PySem.W.keepIn K (.ref C_BadText) = true)
    (eC_BadText : PySem.W.subIn K (.ref C_BadText) (.type "BaseException") = some true)
    (tC_BadText : PySem.W.typeIn K (.ref C_BadText) = some (.type "type"))
    (vC_BadText : PySem.W.subIn K (.ref C_BadText) (.type "ValueError") = some true)
    (mC_BadText : PySem.W.mroIn K C_BadText (.ref C_BadText) = some true)
    (oC_BadText : PySem.W.mroIn K C_BadText (.type "object") = some true)
    (su_BadText : PySem.W.ks_superIn K C_BadText C_BadText "__init__" = some (some (.builtin "ValueError.__init__")))
    (hd_BadText : PySem.W.hasDictIn K C_BadText = true)
    (cl_BadText : PySem.W.isClsIn K C_BadText = true)
    (at_BadText : PySem.W.findIn K (.ref C_BadText) "__class__" = some (some (.builtin "object.__class__")))
    (em_BadText_LateError : PySem.W.exmOne K (.ref C_BadText) (.ref C_LateError) = some true)
    (ki_BadText_BadStory : PySem.W.kitOne K (.ref C_BadText) (.ref C_BadStory) = some false)
    (ki_BadText_ValueError : PySem.W.kitOne K (.ref C_BadText) (.type "ValueError") = some true)
    (ki_BadText_bool : PySem.W.kitOne K (.ref C_BadText) (.type "bool") = some false)
    (ki_BadText_int : PySem.W.kitOne K (.ref C_BadText) (.type "int") = some false)
    (ki_BadText_str : PySem.W.kitOne K (.ref C_BadText) (.type "str") = some false)
    (ki_BadText_tuple : PySem.W.kitOne K (.ref C_BadText) (.type "tuple") = some false)
    (opq : PySem.W.nsIn K cStatics "thirdparty.any" = some none)
    (top : (P.main.scope.names.lookup ("super" : Str)).isSome = false)
    (spg : PySem.W.specialIn K (.builtin "object.__class__") "__get__" = some (some (.builtin "getset_descriptor.__get__")))
    (tkg : PySem.W.takesIn K (.builtin "object.__class__") = some true)
    (kp_BadStory_NoneType : PySem.W.kitOne K (.type "NoneType") (.ref C_BadStory) = some false)
    (kp_BadStory_bool : PySem.W.kitOne K (.type "bool") (.ref C_BadStory) = some false)
    (kp_BadStory_int : PySem.W.kitOne K (.type "int") (.ref C_BadStory) = some false)
    (kp_BadStory_str : PySem.W.kitOne K (.type "str") (.ref C_BadStory) = some false)
    (kp_BadStory_tuple : PySem.W.kitOne K (.type "tuple") (.ref C_BadStory) = some false)
    (kp_BadStory_list : PySem.W.kitOne K (.type "list") (.ref C_BadStory) = some false)
    (kp_BadStory_dict : PySem.W.kitOne K (.type "dict") (.ref C_BadStory) = some false)
    (kp_ValueError_NoneType : PySem.W.kitOne K (.type "NoneType") (.type "ValueError") = some false)
    (kp_ValueError_bool : PySem.W.kitOne K (.type "bool") (.type "ValueError") = some false)
    (kp_ValueError_int : PySem.W.kitOne K (.type "int") (.type "ValueError") = some false)
    (kp_ValueError_str : PySem.W.kitOne K (.type "str") (.type "ValueError") = some false)
    (kp_ValueError_tuple : PySem.W.kitOne K (.type "tuple") (.type "ValueError") = some false)
    (kp_ValueError_list : PySem.W.kitOne K (.type "list") (.type "ValueError") = some false)
    (kp_ValueError_dict : PySem.W.kitOne K (.type "dict") (.type "ValueError") = some false)
    (kp_bool_NoneType : PySem.W.kitOne K (.type "NoneType") (.type "bool") = some false)
    (kp_bool_bool : PySem.W.kitOne K (.type "bool") (.type "bool") = some true)
    (kp_bool_int : PySem.W.kitOne K (.type "int") (.type "bool") = some false)
    (kp_bool_str : PySem.W.kitOne K (.type "str") (.type "bool") = some false)
    (kp_bool_tuple : PySem.W.kitOne K (.type "tuple") (.type "bool") = some false)
    (kp_bool_list : PySem.W.kitOne K (.type "list") (.type "bool") = some false)
    (kp_bool_dict : PySem.W.kitOne K (.type "dict") (.type "bool") = some false)
    (kp_int_NoneType : PySem.W.kitOne K (.type "NoneType") (.type "int") = some false)
    (kp_int_bool : PySem.W.kitOne K (.type "bool") (.type "int") = some true)
    (kp_int_int : PySem.W.kitOne K (.type "int") (.type "int") = some true)
    (kp_int_str : PySem.W.kitOne K (.type "str") (.type "int") = some false)
    (kp_int_tuple : PySem.W.kitOne K (.type "tuple") (.type "int") = some false)
    (kp_int_list : PySem.W.kitOne K (.type "list") (.type "int") = some false)
    (kp_int_dict : PySem.W.kitOne K (.type "dict") (.type "int") = some false)
    (kp_str_NoneType : PySem.W.kitOne K (.type "NoneType") (.type "str") = some false)
    (kp_str_bool : PySem.W.kitOne K (.type "bool") (.type "str") = some false)
    (kp_str_int : PySem.W.kitOne K (.type "int") (.type "str") = some false)
    (kp_str_str : PySem.W.kitOne K (.type "str") (.type "str") = some true)
    (kp_str_tuple : PySem.W.kitOne K (.type "tuple") (.type "str") = some false)
    (kp_str_list : PySem.W.kitOne K (.type "list") (.type "str") = some false)
    (kp_str_dict : PySem.W.kitOne K (.type "dict") (.type "str") = some false)
    (kp_tuple_NoneType : PySem.W.kitOne K (.type "NoneType") (.type "tuple") = some false)
    (kp_tuple_bool : PySem.W.kitOne K (.type "bool") (.type "tuple") = some false)
    (kp_tuple_int : PySem.W.kitOne K (.type "int") (.type "tuple") = some false)
    (kp_tuple_str : PySem.W.kitOne K (.type "str") (.type "tuple") = some false)
    (kp_tuple_tuple : PySem.W.kitOne K (.type "tuple") (.type "tuple") = some true)
    (kp_tuple_list : PySem.W.kitOne K (.type "list") (.type "tuple") = some false)
    (kp_tuple_dict : PySem.W.kitOne K (.type "dict") (.type "tuple") = some false)
    (lcR : K.lookup cR = some ⟨.type "code", cddR, .fields vsR, ccsR⟩)
    (r11 : vsR[11]? = some (.ref Pt))
    (r12 : vsR.getD 11 .none = .ref Pt)
    (r18 : vsR.getD 18 .none = .str fileR tfR)
    (r7 : vsR.getD 7 .none = .int flagsR tgR)
    (r9 : vsR.getD 9 .none = .bool inFR)
    (r10 : vsR.getD 10 .none = .int textR ttR)
    (nR : cR ≠ Pt) :
    ∃ (ν : Nm) (δ : Ad) (cR : Addr), Txt P K mg ν δ cR Pt ∧ PySem.W.CodeHd h cR Pt ∧ δ.fa "law" = fa ∧ δ.ps "law" = (["_law_script"] : List Str) ∧ ∀ (s : Shared) (u : Value), BindsTo s (δ.fd "law") ⟨[u], []⟩ [("_law_script", u)] := by
  obtain rfl : f_law = fa := by
    have e := hfa.symm.trans (PySem.W.mg_of X G a_law)
    injection e with e
    injection e with e
    exact e.symm
  have F_is_integer := fun_mk (st := s_is_integer) l_is_integer c_is_integer k_is_integer
  have b_is_integer := F_is_integer.binds (ps := ["value"]) fun _ _ _ _ _ _ us hl => match us, hl with | [_], _ => rfl
  have F_is_between := fun_mk (st := s_is_between) l_is_between c_is_between k_is_between
  have b_is_between := F_is_between.binds (ps := ["value", "least", "most"]) fun _ _ _ _ _ _ us hl => match us, hl with | [_, _, _], _ => rfl
  have F_is_name := fun_mk (st := s_is_name) l_is_name c_is_name k_is_name
  have b_is_name := F_is_name.binds (ps := ["value"]) fun _ _ _ _ _ _ us hl => match us, hl with | [_], _ => rfl
  have F_is_move := fun_mk (st := s_is_move) l_is_move c_is_move k_is_move
  have b_is_move := F_is_move.binds (ps := ["value"]) fun _ _ _ _ _ _ us hl => match us, hl with | [_], _ => rfl
  have F_show_move := fun_mk (st := s_show_move) l_show_move c_show_move k_show_move
  have b_show_move := F_show_move.binds (ps := ["move"]) fun _ _ _ _ _ _ us hl => match us, hl with | [_], _ => rfl
  have F_number_in := fun_mk (st := s_number_in) l_number_in c_number_in k_number_in
  have b_number_in := F_number_in.binds (ps := ["word"]) fun _ _ _ _ _ _ us hl => match us, hl with | [_], _ => rfl
  have F_move_in := fun_mk (st := s_move_in) l_move_in c_move_in k_move_in
  have b_move_in := F_move_in.binds (ps := ["text"]) fun _ _ _ _ _ _ us hl => match us, hl with | [_], _ => rfl
  have F_show_story := fun_mk (st := s_show_story) l_show_story c_show_story k_show_story
  have b_show_story := F_show_story.binds (ps := ["story"]) fun _ _ _ _ _ _ us hl => match us, hl with | [_], _ => rfl
  have F_read_story := fun_mk (st := s_read_story) l_read_story c_read_story k_read_story
  have b_read_story := F_read_story.binds (ps := ["text"]) fun _ _ _ _ _ _ us hl => match us, hl with | [_], _ => rfl
  have F__law_pot := fun_mk (st := s__law_pot) l__law_pot c__law_pot k__law_pot
  have b__law_pot := F__law_pot.binds (ps := ["_law_script", "_law_k"]) fun _ _ _ _ _ _ us hl => match us, hl with | [_, _], _ => rfl
  have F__law_take := fun_mk (st := s__law_take) l__law_take c__law_take k__law_take
  have b__law_take := F__law_take.binds (ps := ["_law_pot_here", "_law_upto"]) fun _ _ _ _ _ _ us hl => match us, hl with | [_, _], _ => rfl
  have F__law_of := fun_mk (st := s__law_of) l__law_of c__law_of k__law_of
  have b__law_of := F__law_of.binds (ps := ["_law_pot_here", "_law_some"]) fun _ _ _ _ _ _ us hl => match us, hl with | [_, _], _ => rfl
  have F__law_name := fun_mk (st := s__law_name) l__law_name c__law_name k__law_name
  have b__law_name := F__law_name.binds (ps := ["_law_pot_here"]) fun _ _ _ _ _ _ us hl => match us, hl with | [_], _ => rfl
  have F__law_number := fun_mk (st := s__law_number) l__law_number c__law_number k__law_number
  have b__law_number := F__law_number.binds (ps := ["_law_pot_here"]) fun _ _ _ _ _ _ us hl => match us, hl with | [_], _ => rfl
  have F__law_move := fun_mk (st := s__law_move) l__law_move c__law_move k__law_move
  have b__law_move := F__law_move.binds (ps := ["_law_pot_here"]) fun _ _ _ _ _ _ us hl => match us, hl with | [_], _ => rfl
  have F__law_none := fun_mk (st := s__law_none) l__law_none c__law_none k__law_none
  have b__law_none := F__law_none.binds (ps := ["_law_pot_here"]) fun _ _ _ _ _ _ us hl => match us, hl with | [_], _ => rfl
  have F__law_written := fun_mk (st := s__law_written) l__law_written c__law_written k__law_written
  have b__law_written := F__law_written.binds (ps := ["_law_move_here"]) fun _ _ _ _ _ _ us hl => match us, hl with | [_], _ => rfl
  have F__law_right := fun_mk (st := s__law_right) l__law_right c__law_right k__law_right
  have b__law_right := F__law_right.binds (ps := ["_law_pot_here"]) fun _ _ _ _ _ _ us hl => match us, hl with | [_], _ => rfl
  have F_law := fun_mk (st := s_law) l_law c_law k_law
  have b_law := F_law.binds (ps := ["_law_script"]) fun _ _ _ _ _ _ us hl => match us, hl with | [_], _ => rfl
  have F__law_heard := fun_mk (st := s__law_heard) l__law_heard c__law_heard k__law_heard
  have b__law_heard := F__law_heard.binds (ps := ["_law_call"]) fun _ _ _ _ _ _ us hl => match us, hl with | [_], _ => rfl
  let ν : Nm := ⟨fun z => (List.lookup z ([("BadStory", C_BadStory), ("BadText", C_BadText), ("LateError", C_LateError)] : List (Str × Addr))).getD 0, fun z => (List.lookup z ([("BadStory", "number"), ("BadText", "line")] : List (Str × Str))).getD "", [(Pt, qR)]⟩
  let δ : Ad := ⟨fun z => (List.lookup z ([("is_integer", f_is_integer), ("is_between", f_is_between), ("is_name", f_is_name), ("is_move", f_is_move), ("show_move", f_show_move), ("number_in", f_number_in), ("move_in", f_move_in), ("show_story", f_show_story), ("read_story", f_read_story), ("_law_pot", f__law_pot), ("_law_take", f__law_take), ("_law_of", f__law_of), ("_law_name", f__law_name), ("_law_number", f__law_number), ("_law_move", f__law_move), ("_law_none", f__law_none), ("_law_written", f__law_written), ("_law_right", f__law_right), ("law", f_law), ("_law_heard", f__law_heard), ("BadStory.__init__", fI_BadStory), ("BadText.__init__", fI_BadText)] : List (Str × Addr))).getD 0,
    fun z => (List.lookup z ([("is_integer", (PySem.W.fnOf "is_integer" "is_integer" (defArgs s_is_integer) (defBody s_is_integer) (defScope s_is_integer) .none kV_is_integer dc_is_integer pm_is_integer an_is_integer cd_is_integer ct_is_integer)), ("is_between", (PySem.W.fnOf "is_between" "is_between" (defArgs s_is_between) (defBody s_is_between) (defScope s_is_between) .none kV_is_between dc_is_between pm_is_between an_is_between cd_is_between ct_is_between)), ("is_name", (PySem.W.fnOf "is_name" "is_name" (defArgs s_is_name) (defBody s_is_name) (defScope s_is_name) .none kV_is_name dc_is_name pm_is_name an_is_name cd_is_name ct_is_name)), ("is_move", (PySem.W.fnOf "is_move" "is_move" (defArgs s_is_move) (defBody s_is_move) (defScope s_is_move) .none kV_is_move dc_is_move pm_is_move an_is_move cd_is_move ct_is_move)), ("show_move", (PySem.W.fnOf "show_move" "show_move" (defArgs s_show_move) (defBody s_show_move) (defScope s_show_move) .none kV_show_move dc_show_move pm_show_move an_show_move cd_show_move ct_show_move)), ("number_in", (PySem.W.fnOf "number_in" "number_in" (defArgs s_number_in) (defBody s_number_in) (defScope s_number_in) .none kV_number_in dc_number_in pm_number_in an_number_in cd_number_in ct_number_in)), ("move_in", (PySem.W.fnOf "move_in" "move_in" (defArgs s_move_in) (defBody s_move_in) (defScope s_move_in) .none kV_move_in dc_move_in pm_move_in an_move_in cd_move_in ct_move_in)), ("show_story", (PySem.W.fnOf "show_story" "show_story" (defArgs s_show_story) (defBody s_show_story) (defScope s_show_story) .none kV_show_story dc_show_story pm_show_story an_show_story cd_show_story ct_show_story)), ("read_story", (PySem.W.fnOf "read_story" "read_story" (defArgs s_read_story) (defBody s_read_story) (defScope s_read_story) .none kV_read_story dc_read_story pm_read_story an_read_story cd_read_story ct_read_story)), ("_law_pot", (PySem.W.fnOf "_law_pot" "_law_pot" (defArgs s__law_pot) (defBody s__law_pot) (defScope s__law_pot) .none kV__law_pot dc__law_pot pm__law_pot an__law_pot cd__law_pot ct__law_pot)), ("_law_take", (PySem.W.fnOf "_law_take" "_law_take" (defArgs s__law_take) (defBody s__law_take) (defScope s__law_take) .none kV__law_take dc__law_take pm__law_take an__law_take cd__law_take ct__law_take)), ("_law_of", (PySem.W.fnOf "_law_of" "_law_of" (defArgs s__law_of) (defBody s__law_of) (defScope s__law_of) .none kV__law_of dc__law_of pm__law_of an__law_of cd__law_of ct__law_of)), ("_law_name", (PySem.W.fnOf "_law_name" "_law_name" (defArgs s__law_name) (defBody s__law_name) (defScope s__law_name) .none kV__law_name dc__law_name pm__law_name an__law_name cd__law_name ct__law_name)), ("_law_number", (PySem.W.fnOf "_law_number" "_law_number" (defArgs s__law_number) (defBody s__law_number) (defScope s__law_number) .none kV__law_number dc__law_number pm__law_number an__law_number cd__law_number ct__law_number)), ("_law_move", (PySem.W.fnOf "_law_move" "_law_move" (defArgs s__law_move) (defBody s__law_move) (defScope s__law_move) .none kV__law_move dc__law_move pm__law_move an__law_move cd__law_move ct__law_move)), ("_law_none", (PySem.W.fnOf "_law_none" "_law_none" (defArgs s__law_none) (defBody s__law_none) (defScope s__law_none) .none kV__law_none dc__law_none pm__law_none an__law_none cd__law_none ct__law_none)), ("_law_written", (PySem.W.fnOf "_law_written" "_law_written" (defArgs s__law_written) (defBody s__law_written) (defScope s__law_written) .none kV__law_written dc__law_written pm__law_written an__law_written cd__law_written ct__law_written)), ("_law_right", (PySem.W.fnOf "_law_right" "_law_right" (defArgs s__law_right) (defBody s__law_right) (defScope s__law_right) .none kV__law_right dc__law_right pm__law_right an__law_right (.ref cR) ct__law_right)), ("law", (PySem.W.fnOf "law" "law" (defArgs s_law) (defBody s_law) (defScope s_law) .none kV_law dc_law pm_law an_law cd_law ct_law)), ("_law_heard", (PySem.W.fnOf "_law_heard" "_law_heard" (defArgs s__law_heard) (defBody s__law_heard) (defScope s__law_heard) .none kV__law_heard dc__law_heard pm__law_heard an__law_heard cd__law_heard ct__law_heard))] : List (Str × FuncData))).getD (PySem.W.fnOf "law" "law" (defArgs s_law) (defBody s_law) (defScope s_law) .none kV_law dc_law pm_law an_law cd_law ct_law),
    fun z => (List.lookup z ([("is_integer", ["value"]), ("is_between", ["value", "least", "most"]), ("is_name", ["value"]), ("is_move", ["value"]), ("show_move", ["move"]), ("number_in", ["word"]), ("move_in", ["text"]), ("show_story", ["story"]), ("read_story", ["text"]), ("_law_pot", ["_law_script", "_law_k"]), ("_law_take", ["_law_pot_here", "_law_upto"]), ("_law_of", ["_law_pot_here", "_law_some"]), ("_law_name", ["_law_pot_here"]), ("_law_number", ["_law_pot_here"]), ("_law_move", ["_law_pot_here"]), ("_law_none", ["_law_pot_here"]), ("_law_written", ["_law_move_here"]), ("_law_right", ["_law_pot_here"]), ("law", ["_law_script"]), ("_law_heard", ["_law_call"])] : List (Str × List Str))).getD []⟩
  have xc_BadStory : XcOk K C_BadStory := ⟨cl_BadStory, ga_BadStory, gg_BadStory, eC_BadStory, at_BadStory, spg, tkg, oC_BadStory, hd_BadStory⟩
  have ox_BadStory : OexC K C_BadStory := ⟨⟨nm_BadStory, q_BadStory, N_BadStory, bs_BadStory, _, sn_BadStory, sub_BadStory, ab_BadStory, col_BadStory, dd_BadStory, m0_BadStory, m1_BadStory, m2_BadStory, m3_BadStory, m5_BadStory, x_BadStory, by rfl⟩, sa_BadStory, eC_BadStory, tC_BadStory, kC_BadStory⟩
  have st_BadStory : PySem.MPX.SupTxt P K C_BadStory fI_BadStory "number" := ⟨ox_BadStory, nb_BadStory, i_BadStory, ti_BadStory, su_BadStory, vC_BadStory, mC_BadStory, opq, top, ⟨ocI_BadStory, odI_BadStory, dcI_BadStory, pmI_BadStory, anI_BadStory, ctI_BadStory, slI_BadStory, cda_BadStory, cc_BadStory, ccl_BadStory, cel_BadStory, cdd_BadStory, cld_BadStory, ccs_BadStory, csl_BadStory, vs_BadStory, file_BadStory, tf_BadStory, "number", "BadStory.__init__", defArgs sI_BadStory, _, _, _, _, _, _, _, _, _, _, _, lI_BadStory, cI_BadStory, lc_BadStory, hv_BadStory, hf_BadStory, le_BadStory, fun s a v => .of_eq rfl, rfl, rfl, by decide, by decide, by decide, by decide, fun L => ⟨_, rfl⟩⟩⟩
  have xc_BadText : XcOk K C_BadText := ⟨cl_BadText, ga_BadText, gg_BadText, eC_BadText, at_BadText, spg, tkg, oC_BadText, hd_BadText⟩
  have ox_BadText : OexC K C_BadText := ⟨⟨nm_BadText, q_BadText, N_BadText, bs_BadText, _, sn_BadText, sub_BadText, ab_BadText, col_BadText, dd_BadText, m0_BadText, m1_BadText, m2_BadText, m3_BadText, m5_BadText, x_BadText, by rfl⟩, sa_BadText, eC_BadText, tC_BadText, kC_BadText⟩
  have st_BadText : PySem.MPX.SupTxt P K C_BadText fI_BadText "line" := ⟨ox_BadText, nb_BadText, i_BadText, ti_BadText, su_BadText, vC_BadText, mC_BadText, opq, top, ⟨ocI_BadText, odI_BadText, dcI_BadText, pmI_BadText, anI_BadText, ctI_BadText, slI_BadText, cda_BadText, cc_BadText, ccl_BadText, cel_BadText, cdd_BadText, cld_BadText, ccs_BadText, csl_BadText, vs_BadText, file_BadText, tf_BadText, "line", "BadText.__init__", defArgs sI_BadText, _, _, _, _, _, _, _, _, _, _, _, lI_BadText, cI_BadText, lc_BadText, hv_BadText, hf_BadText, le_BadText, fun s a v => .of_eq rfl, rfl, rfl, by decide, by decide, by decide, by decide, fun L => ⟨_, rfl⟩⟩⟩
  have ex_LateError : ∀ c1 ts, Γ.sub.lookup c1 = some ts → PySem.W.exmOne K (.ref (ν.ca c1)) (.ref (ν.ca "LateError")) = some (ts.contains "LateError") := by
    intro c1 ts hs
    rcases lookup_mem hs with ⟨hm⟩
    simp only [Γ, List.mem_cons, Prod.mk.injEq, List.not_mem_nil, or_false] at hm
    rcases hm with ⟨rfl, rfl⟩ | ⟨rfl, rfl⟩
    · exact em_BadStory_LateError
    · exact em_BadText_LateError
  have is_BadStory : IsT Γ ν K "BadStory" (.ref C_BadStory) (.ref C_BadStory) := by
    refine ⟨ClsV.own _, fun p hp => ?_, fun c1 ts hs => ?_⟩
    · simp only [List.mem_cons, List.not_mem_nil, or_false] at hp
      rcases hp with rfl | rfl | rfl | rfl | rfl | rfl | rfl
      · exact kp_BadStory_NoneType
      · exact kp_BadStory_bool
      · exact kp_BadStory_int
      · exact kp_BadStory_str
      · exact kp_BadStory_tuple
      · exact kp_BadStory_list
      · exact kp_BadStory_dict
    · rcases lookup_mem hs with ⟨hm⟩
      simp only [Γ, List.mem_cons, Prod.mk.injEq, List.not_mem_nil, or_false] at hm
      rcases hm with ⟨rfl, rfl⟩ | ⟨rfl, rfl⟩
      · exact ⟨ki_BadStory_BadStory, xc_BadStory⟩
      · exact ⟨ki_BadText_BadStory, xc_BadText⟩
  have is_ValueError : IsT Γ ν K "ValueError" (.ty "ValueError") (.type "ValueError") := by
    refine ⟨ClsV.ty _, fun p hp => ?_, fun c1 ts hs => ?_⟩
    · simp only [List.mem_cons, List.not_mem_nil, or_false] at hp
      rcases hp with rfl | rfl | rfl | rfl | rfl | rfl | rfl
      · exact kp_ValueError_NoneType
      · exact kp_ValueError_bool
      · exact kp_ValueError_int
      · exact kp_ValueError_str
      · exact kp_ValueError_tuple
      · exact kp_ValueError_list
      · exact kp_ValueError_dict
    · rcases lookup_mem hs with ⟨hm⟩
      simp only [Γ, List.mem_cons, Prod.mk.injEq, List.not_mem_nil, or_false] at hm
      rcases hm with ⟨rfl, rfl⟩ | ⟨rfl, rfl⟩
      · exact ⟨ki_BadStory_ValueError, xc_BadStory⟩
      · exact ⟨ki_BadText_ValueError, xc_BadText⟩
  have is_bool : IsT Γ ν K "bool" (.ty "bool") (.type "bool") := by
    refine ⟨ClsV.ty _, fun p hp => ?_, fun c1 ts hs => ?_⟩
    · simp only [List.mem_cons, List.not_mem_nil, or_false] at hp
      rcases hp with rfl | rfl | rfl | rfl | rfl | rfl | rfl
      · exact kp_bool_NoneType
      · exact kp_bool_bool
      · exact kp_bool_int
      · exact kp_bool_str
      · exact kp_bool_tuple
      · exact kp_bool_list
      · exact kp_bool_dict
    · rcases lookup_mem hs with ⟨hm⟩
      simp only [Γ, List.mem_cons, Prod.mk.injEq, List.not_mem_nil, or_false] at hm
      rcases hm with ⟨rfl, rfl⟩ | ⟨rfl, rfl⟩
      · exact ⟨ki_BadStory_bool, xc_BadStory⟩
      · exact ⟨ki_BadText_bool, xc_BadText⟩
  have is_int : IsT Γ ν K "int" (.ty "int") (.type "int") := by
    refine ⟨ClsV.ty _, fun p hp => ?_, fun c1 ts hs => ?_⟩
    · simp only [List.mem_cons, List.not_mem_nil, or_false] at hp
      rcases hp with rfl | rfl | rfl | rfl | rfl | rfl | rfl
      · exact kp_int_NoneType
      · exact kp_int_bool
      · exact kp_int_int
      · exact kp_int_str
      · exact kp_int_tuple
      · exact kp_int_list
      · exact kp_int_dict
    · rcases lookup_mem hs with ⟨hm⟩
      simp only [Γ, List.mem_cons, Prod.mk.injEq, List.not_mem_nil, or_false] at hm
      rcases hm with ⟨rfl, rfl⟩ | ⟨rfl, rfl⟩
      · exact ⟨ki_BadStory_int, xc_BadStory⟩
      · exact ⟨ki_BadText_int, xc_BadText⟩
  have is_str : IsT Γ ν K "str" (.ty "str") (.type "str") := by
    refine ⟨ClsV.ty _, fun p hp => ?_, fun c1 ts hs => ?_⟩
    · simp only [List.mem_cons, List.not_mem_nil, or_false] at hp
      rcases hp with rfl | rfl | rfl | rfl | rfl | rfl | rfl
      · exact kp_str_NoneType
      · exact kp_str_bool
      · exact kp_str_int
      · exact kp_str_str
      · exact kp_str_tuple
      · exact kp_str_list
      · exact kp_str_dict
    · rcases lookup_mem hs with ⟨hm⟩
      simp only [Γ, List.mem_cons, Prod.mk.injEq, List.not_mem_nil, or_false] at hm
      rcases hm with ⟨rfl, rfl⟩ | ⟨rfl, rfl⟩
      · exact ⟨ki_BadStory_str, xc_BadStory⟩
      · exact ⟨ki_BadText_str, xc_BadText⟩
  have is_tuple : IsT Γ ν K "tuple" (.ty "tuple") (.type "tuple") := by
    refine ⟨ClsV.ty _, fun p hp => ?_, fun c1 ts hs => ?_⟩
    · simp only [List.mem_cons, List.not_mem_nil, or_false] at hp
      rcases hp with rfl | rfl | rfl | rfl | rfl | rfl | rfl
      · exact kp_tuple_NoneType
      · exact kp_tuple_bool
      · exact kp_tuple_int
      · exact kp_tuple_str
      · exact kp_tuple_tuple
      · exact kp_tuple_list
      · exact kp_tuple_dict
    · rcases lookup_mem hs with ⟨hm⟩
      simp only [Γ, List.mem_cons, Prod.mk.injEq, List.not_mem_nil, or_false] at hm
      rcases hm with ⟨rfl, rfl⟩ | ⟨rfl, rfl⟩
      · exact ⟨ki_BadStory_tuple, xc_BadStory⟩
      · exact ⟨ki_BadText_tuple, xc_BadText⟩
  have fl_number : ∀ c, Γ.fd.lookup c = some "number" → XcOk K (ν.ca c) ∧ ν.cf c = "number" ∧ PySem.W.findIn K (.ref (ν.ca c)) "number" = some none := by
    intro c1 hs
    rcases lookup_mem hs with ⟨hm⟩
    simp only [Γ, List.mem_cons, Prod.mk.injEq, List.not_mem_nil, or_false] at hm
    rcases hm with ⟨rfl, hz⟩ | ⟨rfl, hz⟩
    · exact ⟨xc_BadStory, rfl, nb_BadStory⟩
    · exact absurd hz (by decide)
  have T : Txt P K mg ν δ cR Pt := {
    n_ValueError := PySem.W.mg_none_of X G z_ValueError,
    n_abs := PySem.W.mg_none_of X G z_abs,
    n_all := PySem.W.mg_none_of X G z_all,
    n_bool := PySem.W.mg_none_of X G z_bool,
    n_enumerate := PySem.W.mg_none_of X G z_enumerate,
    n_int := PySem.W.mg_none_of X G z_int,
    n_isinstance := PySem.W.mg_none_of X G z_isinstance,
    n_len := PySem.W.mg_none_of X G z_len,
    n_max := PySem.W.mg_none_of X G z_max,
    n_min := PySem.W.mg_none_of X G z_min,
    n_range := PySem.W.mg_none_of X G z_range,
    n_repr := PySem.W.mg_none_of X G z_repr,
    n_str := PySem.W.mg_none_of X G z_str,
    n_super := PySem.W.mg_none_of X G z_super,
    n_tuple := PySem.W.mg_none_of X G z_tuple,
    c_LETTERS := cst_str (PySem.W.mg_of X G g_LETTERS),
    c_MOST_LETTERS := cst_int (PySem.W.mg_of X G g_MOST_LETTERS),
    c_TAKEN := cst_strs ["it", "asked"] (PySem.W.mg_of X G g_TAKEN) ⟨_, _, _, l_TAKEN, rfl, rfl, (by show 2 ≤ sizeLine; decide), .cons ⟨_, rfl⟩ (.cons ⟨_, rfl⟩ (.nil))⟩,
    c_BLANK := cst_str (PySem.W.mg_of X G g_BLANK),
    c_FEED := cst_str (PySem.W.mg_of X G g_FEED),
    c_DEED := cst_str (PySem.W.mg_of X G g_DEED),
    c_OVER := cst_str (PySem.W.mg_of X G g_OVER),
    c_PLACED := cst_strs ["sends", "does", "comes", "gone"] (PySem.W.mg_of X G g_PLACED) ⟨_, _, _, l_PLACED, rfl, rfl, (by show 4 ≤ sizeLine; decide), .cons ⟨_, rfl⟩ (.cons ⟨_, rfl⟩ (.cons ⟨_, rfl⟩ (.cons ⟨_, rfl⟩ (.nil))))⟩,
    c_MOST_NUMBER := cst_int (PySem.W.mg_of X G g_MOST_NUMBER),
    c_DIGITS := cst_str (PySem.W.mg_of X G g_DIGITS),
    tb := rfl,
    cf := ⟨oc__law_right, od__law_right, kV__law_right, dc__law_right, pm__law_right, an__law_right, ct__law_right, sl__law_right, rfl, l__law_right, c__law_right⟩,
    w_read_story := fun s u _ => .of_eq rfl,
    w_show_story := fun s u _ => .of_eq rfl,
    m_is_integer := PySem.W.mg_of X G a_is_integer,
    k_is_integer := k_is_integer,
    b_is_integer := b_is_integer,
    f_is_integer := F_is_integer,
    p_is_integer := rfl,
    m_is_between := PySem.W.mg_of X G a_is_between,
    k_is_between := k_is_between,
    b_is_between := b_is_between,
    f_is_between := F_is_between,
    p_is_between := rfl,
    m_is_name := PySem.W.mg_of X G a_is_name,
    k_is_name := k_is_name,
    b_is_name := b_is_name,
    f_is_name := F_is_name,
    p_is_name := rfl,
    m_is_move := PySem.W.mg_of X G a_is_move,
    k_is_move := k_is_move,
    b_is_move := b_is_move,
    f_is_move := F_is_move,
    p_is_move := rfl,
    m_show_move := PySem.W.mg_of X G a_show_move,
    k_show_move := k_show_move,
    b_show_move := b_show_move,
    f_show_move := F_show_move,
    p_show_move := rfl,
    m_number_in := PySem.W.mg_of X G a_number_in,
    k_number_in := k_number_in,
    b_number_in := b_number_in,
    f_number_in := F_number_in,
    p_number_in := rfl,
    m_move_in := PySem.W.mg_of X G a_move_in,
    k_move_in := k_move_in,
    b_move_in := b_move_in,
    f_move_in := F_move_in,
    p_move_in := rfl,
    m_show_story := PySem.W.mg_of X G a_show_story,
    k_show_story := k_show_story,
    b_show_story := b_show_story,
    f_show_story := F_show_story,
    p_show_story := rfl,
    m_read_story := PySem.W.mg_of X G a_read_story,
    k_read_story := k_read_story,
    b_read_story := b_read_story,
    f_read_story := F_read_story,
    p_read_story := rfl,
    m__law_pot := PySem.W.mg_of X G a__law_pot,
    k__law_pot := k__law_pot,
    b__law_pot := b__law_pot,
    f__law_pot := F__law_pot,
    p__law_pot := rfl,
    m__law_take := PySem.W.mg_of X G a__law_take,
    k__law_take := k__law_take,
    b__law_take := b__law_take,
    f__law_take := F__law_take,
    p__law_take := rfl,
    m__law_of := PySem.W.mg_of X G a__law_of,
    k__law_of := k__law_of,
    b__law_of := b__law_of,
    f__law_of := F__law_of,
    p__law_of := rfl,
    m__law_name := PySem.W.mg_of X G a__law_name,
    k__law_name := k__law_name,
    b__law_name := b__law_name,
    f__law_name := F__law_name,
    p__law_name := rfl,
    m__law_number := PySem.W.mg_of X G a__law_number,
    k__law_number := k__law_number,
    b__law_number := b__law_number,
    f__law_number := F__law_number,
    p__law_number := rfl,
    m__law_move := PySem.W.mg_of X G a__law_move,
    k__law_move := k__law_move,
    b__law_move := b__law_move,
    f__law_move := F__law_move,
    p__law_move := rfl,
    m__law_none := PySem.W.mg_of X G a__law_none,
    k__law_none := k__law_none,
    b__law_none := b__law_none,
    f__law_none := F__law_none,
    p__law_none := rfl,
    m__law_written := PySem.W.mg_of X G a__law_written,
    k__law_written := k__law_written,
    b__law_written := b__law_written,
    f__law_written := F__law_written,
    p__law_written := rfl,
    m__law_right := PySem.W.mg_of X G a__law_right,
    k__law_right := k__law_right,
    b__law_right := b__law_right,
    f__law_right := F__law_right,
    p__law_right := rfl,
    m_law := PySem.W.mg_of X G a_law,
    k_law := k_law,
    b_law := b_law,
    f_law := F_law,
    p_law := rfl,
    m__law_heard := PySem.W.mg_of X G a__law_heard,
    k__law_heard := k__law_heard,
    b__law_heard := b__law_heard,
    f__law_heard := F__law_heard,
    p__law_heard := rfl,
    m_BadStory := PySem.W.mg_of X G a_BadStory,
    m_BadText := PySem.W.mg_of X G a_BadText,
    m_LateError := PySem.W.mg_of X G a_LateError,
    sup_BadStory := st_BadStory,
    sup_BadText := st_BadText,
    exm_LateError := ex_LateError,
    is_BadStory := is_BadStory,
    is_ValueError := is_ValueError,
    is_bool := is_bool,
    is_int := is_int,
    is_str := is_str,
    is_tuple := is_tuple,
    fld_number := fl_number }
  exact ⟨ν, δ, cR, T, ⟨_, vsR, fileR, tfR, flagsR, tgR, inFR, textR, ttR, X _ _ lcR, rfl, rfl, r11, r12, r18, r7, r9, r10, nR⟩, rfl, rfl, fun s u => .of_eq rfl⟩
end K88
namespace K88
open PySem PySem.Spec L2 MP
theorem ints_rel {K : PySem.W.Frag} {H : Hp} {β : List Addr} : ∀ ns : List Int, RelDs K H β (ns.map V.int) (ns.map D.int)
  | [] => .nil
  | n :: ns => .cons (.int n) (ints_rel ns)
theorem fin {P : Program} {w : World} {K : PySem.W.Frag} {mg : Str → Option Value} {ν : Nm} {δ : Ad} {fa cR Pt : Addr} {k n : Nat} {h : Heap} (plain : ∀ ns : List Int, ns.length ≤ 63 → ∃ h, callF Γ (ev Γ n) k "law" [.fl (ns.map D.int)] [] = .ok (.bl true) h)
    (gP : h.get? Pt = some { cls := .none, data := .fields #[] }) (kP : K.lookup Pt = none) (T : Txt P K mg ν δ cR Pt) (chd : PySem.W.CodeHd h cR Pt) (e1 : δ.fa "law" = fa) (e2 : δ.ps "law" = (["_law_script"] : List Str)) (hb : ∀ (s : Shared) (u : Value), BindsTo s (δ.fd "law") ⟨[u], []⟩ [("_law_script", u)]) :
    ∃ (fd : FuncData) (sp : Sp) (c Pt : Addr), h.get? Pt = some { cls := .none, data := .fields #[] } ∧ K.lookup Pt = none ∧ PySem.W.CodeHd h c Pt ∧ (∀ (s : Shared) (u : Value), BindsTo s fd ⟨[u], []⟩ [("_law_script", u)]) ∧
      (∀ base : Heap, K.In base → LamX.TabB base mg c Pt → (∃ mm, base.Ns sysModules mm) → FnG P w K mg base (L2.CX P w) k fa fd ["_law_script"] sp) ∧
      ∀ (H : Hp) (a : Addr) (ns : List Int), ns.length ≤ 63 → H Pt = some (.tbl #[]) → LstAt K H [] a (ns.map V.int) → sp [.ref a] H (fun v _ => v = .bl true) fun _ _ _ => False := by
  refine ⟨δ.fd "law", spF Γ ν K (ev Γ n) k "law", cR, Pt, gP, kP, chd, hb, fun base _ tab sy => ?_, fun H a ns hl hP hL => ?_⟩
  · have z := all_ok (P := P) (w := w) (base := base) T tab sy k k (Nat.le_refl k) n "law" fn_law rfl
    rw [e1, e2] at z
    exact z
  · obtain ⟨h1, e⟩ := plain ns hl
    have tb : TbOk ν H := ⟨fun q hq => by
      rw [T.tb] at hq
      rw [List.mem_singleton.mp hq]
      exact LamX.TabS.nil hP⟩
    refine ⟨[], [], [.fl (ns.map D.int)], ⟨tb, rfl, List.nodup_nil, fun l a o z => by simp at z⟩, .cons (.fl hL (ints_rel ns)) .nil, ?_⟩
    rw [e]
    intro H' β' _ _ v r
    cases r
    rfl
end K88
namespace K88
open PySem PySem.Spec L2 MP
theorem prime_at {i : Int} (h0 : 0 ≤ i) (h5 : i < 5) : ∃ pr : Int, atI [D.int 2147483647, .int 2147483629, .int 2147483587, .int 2147483579, .int 2147483563] i = some (.int pr) ∧ 0 < pr ∧ pr < 2147483648 := by
  have hi : i = 0 ∨ i = 1 ∨ i = 2 ∨ i = 3 ∨ i = 4 := by omega
  rcases hi with rfl | rfl | rfl | rfl | rfl
  · exact ⟨_, rfl, by decide, by decide⟩
  · exact ⟨_, rfl, by decide, by decide⟩
  · exact ⟨_, rfl, by decide, by decide⟩
  · exact ⟨_, rfl, by decide, by decide⟩
  · exact ⟨_, rfl, by decide, by decide⟩
theorem fmod_lo (u v : Int) (h : 0 < v) : 0 ≤ u.fmod v := Int.fmod_nonneg_of_pos u h
theorem fmod_hi (u v : Int) (h : 0 < v) : u.fmod v < v := Int.fmod_lt_of_pos u h
theorem bits_le (x : Int) (h0 : 0 ≤ x) (h1 : x < 2 ^ 64) : Builtin.Int.intBits x ≤ 64 := by
  unfold Builtin.Int.intBits
  by_cases hx : x = 0
  · subst hx
    decide
  · have hb : (x == 0) = false := by simpa using hx
    rw [hb]
    have h2 : x.natAbs < 2 ^ 64 := by omega
    have h3 := (Nat.log2_lt (by omega : x.natAbs ≠ 0)).mpr h2
    show x.natAbs.log2 + 1 ≤ 64
    omega
theorem take_spec (n k : Nat) (a b c u : Int) (hb : 0 ≤ b) (hb2 : b ≤ 2305843009213693921) (hc : 0 ≤ c) (hc2 : c ≤ 1000000) (hu : 0 < u) (hu2 : u < 1000) :
    ∃ j a1 c1 g, doneS (seqS ((ev Γ (n + 20)).s k) fn__law_take.body (startE fn__law_take [.ref 0, .int u])) [.lst [.int a, .int b, .int c]] = .ok (.int j) (.lst [.int a1, .int b, .int c1] :: g) ∧ 0 ≤ j ∧ j < u ∧ 0 ≤ c1 ∧ c1 ≤ c + 1 := by
  by_cases ha : 0 < a
  · refine ⟨a.fmod u, a.fdiv u, c, [], ?_, fmod_lo a u hu, fmod_hi a u hu, hc, by omega⟩
    refine done_rt (ess_rt (es_ifT (x := .bl true) (ee_cmp (ee_ix (ee_v rfl) ee_c (ix_ref rfl rfl)) ee_c (by show some (decide (0 < a)) = _; rw [decide_eq_true ha])) rfl ?_))
    exact ess_nx (es_asg (ee_bin (ee_bi (ea_cons (ee_ix (ee_v rfl) ee_c (ix_ref rfl rfl)) ea_nil) rfl) (ee_v rfl) (bo_mod (by omega))))
      (ess_nx (es_set (ee_bin (ee_ix (ee_v rfl) ee_c (ix_ref rfl rfl)) (ee_v rfl) (bo_fdiv ⟨by omega, by omega⟩)) (ee_v rfl) ee_c (set_ref rfl rfl)) (ess_rt (es_ret (ee_v rfl))))
  · obtain ⟨pr, hpr, hp0, hp1⟩ := prime_at (fmod_lo (c + 1) 5 (by decide)) (fmod_hi (c + 1) 5 (by decide))
    have hm0 := fmod_lo ((b + 98999 * (c + 1) * (c + 1) + 43) ^ (3 : Int).toNat) pr hp0
    have hm1 := fmod_hi ((b + 98999 * (c + 1) * (c + 1) + 43) ^ (3 : Int).toNat) pr hp0
    have hsq : 98999 * (c + 1) * (c + 1) ≤ 98999 * 1000001 * 1000001 := by
      have h1 : (c + 1) * (c + 1) ≤ 1000001 * 1000001 := Int.mul_le_mul (by omega) (by omega) (by omega) (by omega)
      rw [Int.mul_assoc]
      omega
    have hsq0 : 0 ≤ 98999 * (c + 1) * (c + 1) := Int.mul_nonneg (by omega) (by omega)
    have hbits : (Builtin.Int.intBits (b + 98999 * (c + 1) * (c + 1) + 43) : Int) * 3 ≤ 2 ^ 27 := by
      have z := bits_le (b + 98999 * (c + 1) * (c + 1) + 43) (by omega) (by omega)
      omega
    have key : ∃ z g, doneS (seqS ((ev Γ (n + 20)).s k) fn__law_take.body (startE fn__law_take [.ref 0, .int u])) [.lst [.int a, .int b, .int c]] = .ok (.int (Int.fmod z u)) (.lst [.int a, .int b, .int (c + 1)] :: g) :=
      ⟨_, _, done_rt (ess_nx (es_ifF (x := .bl false) (ee_cmp (ee_ix (ee_v rfl) ee_c (ix_ref rfl rfl)) ee_c (by show some (decide (0 < a)) = _; rw [decide_eq_false ha])) rfl ess_nil)
        (ess_nx (es_set (ee_bin (ee_ix (ee_v rfl) ee_c (ix_ref rfl rfl)) ee_c bo_add) (ee_v rfl) ee_c (set_ref rfl rfl))
        (ess_nx (es_asg (ee_ix (ee_lst (ea_cons ee_c (ea_cons ee_c (ea_cons ee_c (ea_cons ee_c (ea_cons ee_c ea_nil))))) (by decide)) (ee_bin (ee_bi (ea_cons (ee_ix (ee_v rfl) ee_c (ix_ref rfl rfl)) ea_nil) rfl) ee_c (bo_mod (by decide))) (ix_ref rfl hpr)))
        (ess_nx (es_asg (ee_bin (ee_bi (ea_cons (ee_bin (ee_bi (ea_cons (ee_bin (ee_bin (ee_ix (ee_v rfl) ee_c (ix_ref rfl rfl)) (ee_bin (ee_bin ee_c (ee_ix (ee_v rfl) ee_c (ix_ref rfl rfl)) (bo_mul (by rfl))) (ee_ix (ee_v rfl) ee_c (ix_ref rfl rfl)) (bo_mul (by rw [small_of (u := c + 1) (by omega) (by omega), Bool.or_true]))) bo_add) ee_c bo_add) ea_nil) rfl) ee_c (bo_pow ⟨by decide, hbits⟩)) ea_nil) rfl) (ee_v rfl) (bo_mod (by omega))))
        (ess_nx (es_asg (ee_bin (ee_bi (ea_cons (ee_bin (ee_v rfl) (ee_bin (ee_bin (ee_bi (ea_cons (ee_v rfl) ea_nil) rfl) ee_c (bo_mod (by decide))) (ee_bin ee_c (ee_ix (ee_v rfl) ee_c (ix_ref rfl rfl)) (bo_mul (by rfl))) bo_add) (bo_mul (by rw [small_of (by omega) (by omega), Bool.true_or]))) ea_nil) rfl) ee_c (bo_mod (by decide))))
        (ess_rt (es_ret (ee_bin (ee_bi (ea_cons (ee_bin (ee_v rfl) ee_c (bo_fdiv ⟨by decide, by decide⟩)) ea_nil) rfl) (ee_v rfl) (bo_mod (by omega))))))))))⟩
    obtain ⟨z, g, e⟩ := key
    exact ⟨_, a, c + 1, g, e, fmod_lo _ u hu, fmod_hi _ u hu, by omega, by omega⟩
end K88
namespace K88
open PySem PySem.Spec L2 MP
/-- the pot's list -/
def pot (a b c : Int) : O := .lst [.int a, .int b, .int c]
structure Pot (B b c : Int) : Prop where
  b0 : 0 ≤ b
  b1 : b ≤ 2305843009213693921
  c0 : 0 ≤ c
  c1 : c ≤ B
theorem Pot.up {B B1 b c c1 : Int} (p : Pot B b c) (h0 : 0 ≤ c1) (h1 : c1 ≤ c + 1) (hB : B + 1 ≤ B1) : Pot B1 b c1 := ⟨p.b0, p.b1, h0, by have := p.c1; omega⟩
theorem set0 {o p : O} {os : Ob} : (o :: os).set 0 p = p :: os := rfl
/-- _law_of over its own heap -/
theorem of_run (n k : Nat) {B a b c : Int} (P : Pot B b c) (hB : B ≤ 1000000) (ys : List D) (rest : Ob) (hy : ys ≠ []) (hy2 : ys.length < 1000) :
    ∃ y a1 c1 g, doneS (seqS ((ev Γ (n + 30)).s (k + 1)) fn__law_of.body (startE fn__law_of [.ref 0, .ref 1])) (pot a b c :: .lst ys :: rest) = .ok y (pot a1 b c1 :: (.lst ys :: rest ++ g)) ∧ y ∈ ys ∧ 0 ≤ c1 ∧ c1 ≤ c + 1 := by
  have hlen : 0 < ys.length := List.length_pos_iff.mpr hy
  obtain ⟨j, a1, c1, g, e, j0, j1, h0, h1⟩ := take_spec (n + 7) k a b c ys.length P.b0 P.b1 P.c0 (Int.le_trans P.c1 hB) (by omega) (by omega)
  obtain ⟨g1, e1⟩ := sub1 (h := pot a b c :: .lst ys :: rest) (ds := [.ref 0, .int ys.length]) (l := 0) (m := fun es => doneS (seqS ((ev Γ (n + 7 + 20)).s k) fn__law_take.body (startE fn__law_take es))) rfl rfl rfl rfl e rfl rfl
  have hix : atI ys j = some (ys[j.toNat]'(by omega)) := by
    unfold atI ixN
    rw [if_pos j0, if_pos j1]
    show ys[j.toNat]? = _
    rw [List.getElem?_eq_getElem (by omega)]
  refine ⟨ys[j.toNat]'(by omega), a1, c1, g1, ?_, List.getElem_mem _, h0, h1⟩
  refine done_rt (ess_rt (es_ret (ee_ix (ee_v rfl) (ee_call (ea_cons (ee_v rfl) (ea_cons (ee_bi (ea_cons (ee_v rfl) ea_nil) rfl) ea_nil)) (call_ok (fn := fn__law_take) (m := fun _ => M.fail) rfl rfl e1)) (ix_ref (xs := ys) rfl hix))))
theorem renDs_mem {f : Nat → Option Nat} : ∀ {ys xs : List D} {y : D}, renDs f ys = some xs → y ∈ ys → ∃ x, x ∈ xs ∧ renD f y = some x
  | [], xs, y, _, hy => by cases hy
  | z :: ys, xs, y, h, hy => by
    have h : (match renD f z with | none => none | some e => match renDs f ys with | none => none | some es => some (e :: es)) = some xs := h
    cases q : renD f z with
    | none => rw [q] at h; cases h
    | some e =>
      rw [q] at h
      dsimp only at h
      cases q2 : renDs f ys with
      | none => rw [q2] at h; cases h
      | some es =>
        rw [q2] at h
        cases h
        rcases List.mem_cons.mp hy with rfl | hy
        · exact ⟨e, List.mem_cons_self, q⟩
        · obtain ⟨x, h1, h2⟩ := renDs_mem q2 hy
          exact ⟨x, List.mem_cons_of_mem _ h1, h2⟩
theorem ren_pot {f : Nat → Option Nat} {a b c : Int} : renO f (pot a b c) = some (pot a b c) := rfl
/-- _law_of in its caller's heap -/
theorem of_call (n k : Nat) {B a b c : Int} (P : Pot B b c) (hB : B ≤ 1000000) {h os os1 : Ob} {l s : Nat} {L2 : List Nat} {xs : List D} (hx : xs ≠ []) (hx2 : xs.length < 1000) (hL : reach h 200 [l, s] [] = l :: s :: L2) (hn : l ∉ s :: L2) (h1 : getsO h (l :: s :: L2) = some (pot a b c :: .lst xs :: os))
    (h2 : renOs (ixOf (l :: s :: L2)) (.lst xs :: os) = some os1) :
    ∃ x a1 c1 g, callF Γ (ev Γ (n + 30)) (k + 2) "_law_of" [.ref l, .ref s] h = .ok x (h.set l (pot a1 b c1) ++ g) ∧ x ∈ xs ∧ 0 ≤ c1 ∧ c1 ≤ c + 1 := by
  obtain ⟨o1, os2, rfl, r1, r2⟩ := renOs_split h2
  have r1 : (renDs (ixOf (l :: s :: L2)) xs).map O.lst = some o1 := r1
  cases qy : renDs (ixOf (l :: s :: L2)) xs with
  | none => rw [qy] at r1; cases r1
  | some ys =>
    rw [qy] at r1
    cases r1
    have hly := renDs_lenP qy
    have hy : ys ≠ [] := fun z => hx (List.length_eq_zero_iff.mp (by rw [← hly, z]; rfl))
    obtain ⟨y, a1, c1, g, e, hm, b0, b1⟩ := of_run n k (a := a) P hB ys os2 hy (by omega)
    obtain ⟨x, hxm, hxe⟩ := renDs_mem (renDs_back (n := h.length) xs ys qy) hm
    have hls : l ≠ s := fun z => hn (by rw [z]; exact List.mem_cons_self)
    have h3 : renDs (ixOf (l :: s :: L2)) [.ref l, .ref s] = some [.ref 0, .ref 1] := by
      have i0 : ixOf (l :: s :: L2) l = some 0 := if_pos rfl
      have i1 : ixOf (l :: s :: L2) s = some 1 := by
        show (if l = s then some 0 else ((if s = s then some 0 else (ixOf L2 s).map (· + 1)) : Option Nat).map (· + 1)) = _
        rw [if_neg hls, if_pos rfl]
        rfl
      show (match (ixOf (l :: s :: L2) l).map D.ref with | none => none | some e => match (match (ixOf (l :: s :: L2) s).map D.ref with | none => none | some e => some [e]) with | none => none | some es => some (e :: es)) = _
      rw [i0, i1]
      rfl
    obtain ⟨g1, e1⟩ := sub_chg (m := fun es => doneS (seqS ((ev Γ (n + 30)).s (k + 1)) fn__law_of.body (startE fn__law_of es))) (p1 := pot a1 b c1) hL hn h1 (renOs_cons ren_pot h2) h3 e rfl hxe
    exact ⟨x, a1, c1, g1, call_ok (fn := fn__law_of) (m := fun _ => M.fail) rfl rfl e1, hxm, b0, b1⟩
theorem reach2 {h : Ob} {l s : Nat} {a b c : Int} {xs : List D} (hl : h[l]? = some (pot a b c)) (hs : h[s]? = some (.lst xs)) (hx : refsDs xs = []) (hls : l ≠ s) : reach h 200 [l, s] [] = [l, s] := by
  have hc : ([l] : List Nat).contains s = false := by simp [Ne.symm hls]
  show (if ([] : List Nat).contains l then reach h 199 [s] [] else match h[l]? with
      | some o => reach h 199 (refsO o ++ [s]) [l]
      | none => reach h 199 [s] [l]) = _
  rw [hl]
  show (if ([l] : List Nat).contains s then reach h 198 [] [l] else match h[s]? with
      | some o => reach h 198 (refsO o ++ []) [l, s]
      | none => reach h 198 [] [l, s]) = _
  rw [hc, hs]
  show reach h 198 (refsDs xs ++ []) [l, s] = _
  rw [hx]
  rfl
theorem of_call0 (n k : Nat) {B a b c : Int} (P : Pot B b c) (hB : B ≤ 1000000) {h : Ob} {l s : Nat} {xs : List D} (hx : xs ≠ []) (hx2 : xs.length < 1000) (hl : h[l]? = some (pot a b c)) (hs : h[s]? = some (.lst xs)) (hr : refsDs xs = []) (hls : l ≠ s) :
    ∃ x a1 c1 g, callF Γ (ev Γ (n + 30)) (k + 2) "_law_of" [.ref l, .ref s] h = .ok x (h.set l (pot a1 b c1) ++ g) ∧ x ∈ xs ∧ 0 ≤ c1 ∧ c1 ≤ c + 1 :=
  of_call n k P hB (os := []) hx hx2 (reach2 hl hs hr hls) (by simpa using hls) (gets_cons hl (gets_cons hs rfl)) (renOs_cons (renO_lst hr) rfl)
end K88
namespace K88
open PySem PySem.Spec L2 MP
/-! ### what a road holds -/
def nmS : List Str := ["a", "tell", "deed", "over", "zzzzzzzz", "its", "ask", "sends"]
def nbS : List Int := [0, 1, 2, 9, 10, 99, 100, 999]
def moves : List D := (nmS.flatMap fun x => nbS.map fun i => D.tup [.str "deed", .str x, .int i]) ++ ((["sends", "does", "comes", "gone"] : List Str).flatMap fun w => nbS.map fun i => D.tup [.str w, .int i]) ++ [D.tup [.str "over"]]
def flats : List D := [.non, .tup [], .str "over", .tup [.str "over", .int 0], .tup [.str "deed"], .tup [.str "deed", .str "a"], .tup [.str "deed", .str "it", .int 0], .tup [.str "deed", .str "asked", .int 1]] ++
  [.tup [.str "deed", .str "abcdefghi", .int 0], .tup [.str "deed", .str "", .int 0], .tup [.str "deed", .str "a1", .int 0], .tup [.str "deed", .str "A", .int 0], .tup [.str "deed", .str "a", .int 1000]] ++
  [.tup [.str "deed", .str "a", .int (-1)], .tup [.str "deed", .str "a", .bl true], .tup [.str "deed", .str "a", .non], .tup [.str "deed", .int 3, .int 0], .tup [.str "deed", .str "a", .int 0, .int 0]] ++
  [.tup [.str "sends"], .tup [.str "sends", .int 1000], .tup [.str "sends", .int (-1)], .tup [.str "does", .bl false], .tup [.str "comes", .str "0"]] ++
  [.tup [.str "gone", .int 1, .int 2], .tup [.str "go", .int 1], .tup [.non, .int 1], .tup [.tup [.str "over"]], .int 7]
/-- plain values as data, n tuples deep at most -/
def okF : Nat → D → Bool
  | _, .non => true
  | _, .bl _ => true
  | _, .int _ => true
  | _, .str _ => true
  | n + 1, .tup xs => xs.all (okF n)
  | _, _ => false
def pdF : Nat → D → PyData
  | _, .non => .none
  | _, .bl b => .bool b
  | _, .int i => .int i
  | _, .str x => .str x
  | n + 1, .tup xs => .tuple (xs.map (pdF n))
  | _, _ => .none
theorem pdAll_map {f : D → Option PyData} {g : D → PyData} : ∀ {xs : List D}, (∀ x ∈ xs, f x = some (g x)) → pdAll f xs = some (xs.map g)
  | [], _ => rfl
  | x :: xs, h => by
    show (match f x with | none => none | some p => match pdAll f xs with | none => none | some ps => some (p :: ps)) = _
    rw [h x List.mem_cons_self, pdAll_map fun y hy => h y (List.mem_cons_of_mem _ hy)]
    rfl
theorem pdr_okF (h : Ob) : ∀ (n : Nat) (d : D) (k : Nat), okF n d = true → n ≤ k → pdr h k d = some (pdF n d)
  | n, .non, k, _, _ => by cases k <;> cases n <;> rfl
  | n, .bl _, k, _, _ => by cases k <;> cases n <;> rfl
  | n, .int _, k, _, _ => by cases k <;> cases n <;> rfl
  | n, .str _, k, _, _ => by cases k <;> cases n <;> rfl
  | 0, .tup xs, k, e, _ => by cases e
  | n + 1, .tup xs, 0, _, hk => by omega
  | n + 1, .tup xs, k + 1, e, hk => by
    have e : xs.all (okF n) = true := e
    show (pdAll (pdr h k) xs).map PyData.tuple = _
    rw [pdAll_map (g := pdF n) fun x hx => pdr_okF h n x k (List.all_eq_true.mp e x hx) (by omega)]
    rfl
  | n, .fl _, k, e, _ => by cases n <;> cases e
  | n, .ref _, k, e, _ => by cases n <;> cases e
  | n, .ty _, k, e, _ => by cases n <;> cases e
/-- small enough to be shown -/
structure Sm (q : PyData) : Prop where
  s : q.showable = true
  d : q.depth ≤ 4
  l : q.shown.length ≤ 100
def smB (q : PyData) : Bool := q.showable && decide (q.depth ≤ 4) && decide (q.shown.length ≤ 100)
theorem sm_of {q : PyData} (h : smB q = true) : Sm q := by
  unfold smB at h
  simp only [Bool.and_eq_true, decide_eq_true_eq] at h
  exact ⟨h.1.1, h.1.2, h.2⟩
def flatB (d : D) : Bool := okF 3 d && smB (pdF 3 d) && (refsD d).isEmpty
theorem flat_moves : moves.all flatB = true := by decide +kernel
theorem flat_flats : flats.all flatB = true := by decide +kernel
theorem flat_of {d : D} (h : flatB d = true) : okF 3 d = true ∧ Sm (pdF 3 d) ∧ refsD d = [] := by
  unfold flatB at h
  simp only [Bool.and_eq_true, List.isEmpty_iff] at h
  exact ⟨h.1.1, sm_of h.1.2, h.2⟩
/-- the four objects within what is none -/
def LeafO (o : O) : Prop := o = .lst [.str "over"] ∨ o = .lst [.str "does"] ∨ o = .lst [.str "a"] ∨ o = .dct []
theorem LeafO.refs {o : O} (h : LeafO o) : refsO o = [] := by rcases h with rfl | rfl | rfl | rfl <;> rfl
theorem LeafO.ren {o : O} (h : LeafO o) (f : Nat → Option Nat) : renO f o = some o := by rcases h with rfl | rfl | rfl | rfl <;> rfl
inductive It (h : Ob) : D → PyData → Bool → Prop
  | mv {d : D} : d ∈ moves → It h d (pdF 3 d) true
  | nn {d : D} : d ∈ flats → It h d (pdF 3 d) false
  | l1 {l : Nat} : h[l]? = some (.lst [.str "over"]) → It h (.ref l) (.list [.str "over"]) false
  | l2 {l : Nat} : h[l]? = some (.lst [.str "does"]) → It h (.tup [.ref l, .int 1]) (.tuple [.list [.str "does"], .int 1]) false
  | l3 {l : Nat} : h[l]? = some (.lst [.str "a"]) → It h (.tup [.str "deed", .ref l, .int 0]) (.tuple [.str "deed", .list [.str "a"], .int 0]) false
  | l4 {l : Nat} : h[l]? = some (.dct []) → It h (.ref l) (.dict []) false
section
variable {h h1 : Ob} {d : D} {q : PyData} {b : Bool}
theorem It.mono (w : ∀ (l : Nat) (o : O), LeafO o → h[l]? = some o → h1[l]? = some o) : It h d q b → It h1 d q b
  | .mv e => .mv e
  | .nn e => .nn e
  | .l1 e => .l1 (w _ _ (.inl rfl) e)
  | .l2 e => .l2 (w _ _ (.inr (.inl rfl)) e)
  | .l3 e => .l3 (w _ _ (.inr (.inr (.inl rfl))) e)
  | .l4 e => .l4 (w _ _ (.inr (.inr (.inr rfl))) e)
theorem It.app {g : Ob} (i : It h d q b) : It (h ++ g) d q b := i.mono fun _ _ _ e => get_app e
theorem It.sm : It h d q b → Sm q
  | .mv e => (flat_of (List.all_eq_true.mp flat_moves _ e)).2.1
  | .nn e => (flat_of (List.all_eq_true.mp flat_flats _ e)).2.1
  | .l1 _ => sm_of (by decide +kernel)
  | .l2 _ => sm_of (by decide +kernel)
  | .l3 _ => sm_of (by decide +kernel)
  | .l4 _ => sm_of (by decide +kernel)
theorem It.data : It h d q b → ∀ k, pdr h (k + 4) d = some q
  | .mv e, k => pdr_okF h 3 _ _ (flat_of (List.all_eq_true.mp flat_moves _ e)).1 (by omega)
  | .nn e, k => pdr_okF h 3 _ _ (flat_of (List.all_eq_true.mp flat_flats _ e)).1 (by omega)
  | .l1 (l := l) e, k => by
    show (match h[l]? with | some (.lst xs) => (pdAll (pdr h (k + 3)) xs).map PyData.list | some (.dct []) => some (.dict []) | _ => none) = _
    rw [e]
    rfl
  | .l2 (l := l) e, k => by
    have z : pdr h (k + 3) (.ref l) = some (.list [.str "does"]) := by
      show (match h[l]? with | some (.lst xs) => (pdAll (pdr h (k + 2)) xs).map PyData.list | some (.dct []) => some (.dict []) | _ => none) = _
      rw [e]
      rfl
    show (match pdr h (k + 3) (.ref l) with | none => none | some p => some [p, PyData.int 1]).map PyData.tuple = _
    rw [z]
    rfl
  | .l3 (l := l) e, k => by
    have z : pdr h (k + 3) (.ref l) = some (.list [.str "a"]) := by
      show (match h[l]? with | some (.lst xs) => (pdAll (pdr h (k + 2)) xs).map PyData.list | some (.dct []) => some (.dict []) | _ => none) = _
      rw [e]
      rfl
    show (match (match pdr h (k + 3) (.ref l) with | none => none | some p => some [p, PyData.int 0]) with | none => none | some ps => some (PyData.str "deed" :: ps)).map PyData.tuple = _
    rw [z]
    rfl
  | .l4 (l := l) e, k => by
    show (match h[l]? with | some (.lst xs) => (pdAll (pdr h (k + 3)) xs).map PyData.list | some (.dct []) => some (.dict []) | _ => none) = _
    rw [e]
theorem It.refs : It h d q b → ∀ l ∈ refsD d, ∃ o, LeafO o ∧ h[l]? = some o
  | .mv e, l, hl => by rw [(flat_of (List.all_eq_true.mp flat_moves _ e)).2.2] at hl; cases hl
  | .nn e, l, hl => by rw [(flat_of (List.all_eq_true.mp flat_flats _ e)).2.2] at hl; cases hl
  | .l1 e, l, hl => by
    have hl : l ∈ [_] := hl
    rw [List.mem_singleton.mp hl]
    exact ⟨_, .inl rfl, e⟩
  | .l2 e, l, hl => by
    have hl : l ∈ [_] := hl
    rw [List.mem_singleton.mp hl]
    exact ⟨_, .inr (.inl rfl), e⟩
  | .l3 e, l, hl => by
    have hl : l ∈ [_] := hl
    rw [List.mem_singleton.mp hl]
    exact ⟨_, .inr (.inr (.inl rfl)), e⟩
  | .l4 e, l, hl => by
    have hl : l ∈ [_] := hl
    rw [List.mem_singleton.mp hl]
    exact ⟨_, .inr (.inr (.inr rfl)), e⟩
theorem It.refs_len : It h d q b → (refsD d).length ≤ 1
  | .mv e => by rw [(flat_of (List.all_eq_true.mp flat_moves _ e)).2.2]; exact Nat.zero_le _
  | .nn e => by rw [(flat_of (List.all_eq_true.mp flat_flats _ e)).2.2]; exact Nat.zero_le _
  | .l1 e => Nat.le_refl _
  | .l2 e => Nat.le_refl _
  | .l3 e => Nat.le_refl _
  | .l4 e => Nat.le_refl _
theorem It.map {f : Nat → Option Nat} (w : ∀ l ∈ refsD d, ∀ o, LeafO o → h[l]? = some o → ∃ m, f l = some m ∧ h1[m]? = some o) : It h d q b → ∃ e, renD f d = some e ∧ It h1 e q b
  | .mv e => ⟨_, renD_id f _ (flat_of (List.all_eq_true.mp flat_moves _ e)).2.2, .mv e⟩
  | .nn e => ⟨_, renD_id f _ (flat_of (List.all_eq_true.mp flat_flats _ e)).2.2, .nn e⟩
  | .l1 (l := l) e => by
    obtain ⟨m, e1, e2⟩ := w l List.mem_cons_self _ (.inl rfl) e
    exact ⟨.ref m, by show (f l).map D.ref = _; rw [e1]; rfl, .l1 e2⟩
  | .l2 (l := l) e => by
    obtain ⟨m, e1, e2⟩ := w l List.mem_cons_self _ (.inr (.inl rfl)) e
    exact ⟨.tup [.ref m, .int 1], by show (match (f l).map D.ref with | none => none | some e => some [e, D.int 1]).map D.tup = _; rw [e1]; rfl, .l2 e2⟩
  | .l3 (l := l) e => by
    obtain ⟨m, e1, e2⟩ := w l List.mem_cons_self _ (.inr (.inr (.inl rfl))) e
    exact ⟨.tup [.str "deed", .ref m, .int 0], by show (match (match (f l).map D.ref with | none => none | some e => some [e, D.int 0]) with | none => none | some es => some (D.str "deed" :: es)).map D.tup = _; rw [e1]; rfl, .l3 e2⟩
  | .l4 (l := l) e => by
    obtain ⟨m, e1, e2⟩ := w l List.mem_cons_self _ (.inr (.inr (.inr rfl))) e
    exact ⟨.ref m, by show (f l).map D.ref = _; rw [e1]; rfl, .l4 e2⟩
end
/-! ### lists of them -/
inductive Its (h : Ob) : List D → List PyData → List Bool → Prop
  | nil : Its h [] [] []
  | cons {d : D} {q : PyData} {b : Bool} {ds : List D} {qs : List PyData} {bs : List Bool} : It h d q b → Its h ds qs bs → Its h (d :: ds) (q :: qs) (b :: bs)
section
variable {h h1 : Ob}
theorem Its.mono (w : ∀ (l : Nat) (o : O), LeafO o → h[l]? = some o → h1[l]? = some o) : ∀ {ds : List D} {qs : List PyData} {bs : List Bool}, Its h ds qs bs → Its h1 ds qs bs
  | _, _, _, .nil => .nil
  | _, _, _, .cons i r => .cons (i.mono w) (r.mono w)
theorem Its.app {g : Ob} {ds : List D} {qs : List PyData} {bs : List Bool} (i : Its h ds qs bs) : Its (h ++ g) ds qs bs := i.mono fun _ _ _ e => get_app e
theorem Its.join : ∀ {ds es : List D} {qs rs : List PyData} {bs cs : List Bool}, Its h ds qs bs → Its h es rs cs → Its h (ds ++ es) (qs ++ rs) (bs ++ cs)
  | _, _, _, _, _, _, .nil, j => j
  | _, _, _, _, _, _, .cons i r, j => .cons i (r.join j)
theorem Its.mvs : ∀ {ms : List D}, (∀ m ∈ ms, m ∈ moves) → Its h ms (ms.map (pdF 3)) (ms.map fun _ => true)
  | [], _ => .nil
  | m :: ms, e => .cons (.mv (e m List.mem_cons_self)) (Its.mvs fun x hx => e x (List.mem_cons_of_mem _ hx))
theorem Its.data (k : Nat) : ∀ {ds : List D} {qs : List PyData} {bs : List Bool}, Its h ds qs bs → pdAll (pdr h (k + 4)) ds = some qs
  | _, _, _, .nil => rfl
  | _, _, _, .cons (d := d) (ds := ds) i r => by
    show (match pdr h (k + 4) d with | none => none | some p => match pdAll (pdr h (k + 4)) ds with | none => none | some ps => some (p :: ps)) = _
    rw [i.data k, r.data k]
theorem Its.len : ∀ {ds : List D} {qs : List PyData} {bs : List Bool}, Its h ds qs bs → qs.length = ds.length ∧ bs.length = ds.length
  | _, _, _, .nil => ⟨rfl, rfl⟩
  | _, _, _, .cons i r => ⟨congrArg (· + 1) r.len.1, congrArg (· + 1) r.len.2⟩
theorem Its.sm : ∀ {ds : List D} {qs : List PyData} {bs : List Bool}, Its h ds qs bs → PyData.showableAll qs = true ∧ PyData.depthAll qs ≤ 4 ∧ ((PyData.shownAll qs).map (·.length)).sum ≤ 100 * ds.length ∧ (PyData.shownAll qs).length = ds.length
  | _, _, _, .nil => by
    refine ⟨?_, ?_, ?_, ?_⟩
    · simp only [PyData.showableAll]
    · simp only [PyData.depthAll]; omega
    · simp only [PyData.shownAll, List.map_nil, List.sum_nil]; omega
    · simp only [PyData.shownAll, List.length_nil]
  | _, _, _, .cons i r => by
    obtain ⟨b1, b2, b3, b4⟩ := r.sm
    have a1 := i.sm.s
    have a2 := i.sm.d
    have a3 := i.sm.l
    refine ⟨?_, ?_, ?_, ?_⟩
    · simp only [PyData.showableAll, a1, b1, Bool.and_self]
    · simp only [PyData.depthAll]; omega
    · simp only [PyData.shownAll, List.map_cons, List.sum_cons, List.length_cons]; omega
    · simp only [PyData.shownAll, List.length_cons, b4]
theorem Its.refs : ∀ {ds : List D} {qs : List PyData} {bs : List Bool}, Its h ds qs bs → ∀ l ∈ refsDs ds, ∃ o, LeafO o ∧ h[l]? = some o
  | _, _, _, .nil, l, hl => by cases hl
  | _, _, _, .cons i r, l, hl => by
    rcases List.mem_append.mp hl with hl | hl
    · exact i.refs l hl
    · exact r.refs l hl
theorem Its.refs_len : ∀ {ds : List D} {qs : List PyData} {bs : List Bool}, Its h ds qs bs → (refsDs ds).length ≤ ds.length
  | _, _, _, .nil => Nat.le_refl _
  | _, _, _, .cons (d := d) (ds := ds) i r => by
    have a := i.refs_len
    have b := r.refs_len
    show (refsD d ++ refsDs ds).length ≤ ds.length + 1
    rw [List.length_append]
    omega
theorem Its.map {f : Nat → Option Nat} : ∀ {ds : List D} {qs : List PyData} {bs : List Bool}, (∀ l ∈ refsDs ds, ∀ o, LeafO o → h[l]? = some o → ∃ m, f l = some m ∧ h1[m]? = some o) → Its h ds qs bs → ∃ es, renDs f ds = some es ∧ Its h1 es qs bs
  | [], [], [], _, .nil => ⟨[], rfl, .nil⟩
  | d :: ds, _ :: _, _ :: _, w, .cons i r => by
    obtain ⟨e, e1, i1⟩ := i.map (h1 := h1) (f := f) fun l hl => w l (List.mem_append_left _ hl)
    obtain ⟨es, e2, r1⟩ := r.map fun l hl => w l (List.mem_append_right _ hl)
    refine ⟨e :: es, ?_, .cons i1 r1⟩
    show (match renD f d with | none => none | some e => match renDs f ds with | none => none | some es => some (e :: es)) = _
    rw [e1, e2]
end
/-- the first that is none -/
def ff : List Bool → Option Nat
  | [] => none
  | b :: bs => if b then (ff bs).map (· + 1) else some 0
theorem Its.all_mv {h : Ob} : ∀ {ds : List D} {qs : List PyData} {bs : List Bool}, Its h ds qs bs → ff bs = none → (∀ d ∈ ds, d ∈ moves) ∧ qs = ds.map (pdF 3) ∧ bs = ds.map fun _ => true
  | _, _, _, .nil, _ => ⟨fun d hd => (by cases hd), rfl, rfl⟩
  | _, _, _, .cons (b := b) (bs := bs) i r, e => by
    have e : (if b then (ff bs).map (· + 1) else some 0) = none := e
    cases b with
    | false => cases e
    | true =>
      have e2 : ff bs = none := by
        cases q : ff bs with
        | none => rfl
        | some j => rw [q] at e; cases e
      obtain ⟨a, c, d⟩ := r.all_mv e2
      cases i with
      | mv hm =>
        refine ⟨fun x hx => ?_, by rw [c]; rfl, by rw [d]; rfl⟩
        rcases List.mem_cons.mp hx with rfl | hx
        · exact hm
        · exact a x hx
theorem ff_trues : ∀ n : Nat, ff (List.replicate n true) = none
  | 0 => rfl
  | n + 1 => by
    show (ff (List.replicate n true)).map (· + 1) = none
    rw [ff_trues n]
    rfl
theorem ff_map (ms : List D) : ff (ms.map fun _ => true) = none := by
  induction ms with
  | nil => rfl
  | cons m ms ih =>
    show (ff (ms.map fun _ => true)).map (· + 1) = none
    rw [ih]
    rfl
theorem ff_at (rest : List Bool) : ∀ ms : List D, ff ((ms.map fun _ => true) ++ false :: rest) = some ms.length
  | [] => rfl
  | m :: ms => by
    show (ff ((ms.map fun _ => true) ++ false :: rest)).map (· + 1) = _
    rw [ff_at rest ms]
    rfl
theorem ff_lt : ∀ {bs : List Bool} {j : Nat}, ff bs = some j → j < bs.length
  | [], j, h => by cases h
  | b :: bs, j, h => by
    have h : (if b then (ff bs).map (· + 1) else some 0) = some j := h
    cases b with
    | false => cases h; simp
    | true =>
      cases q : ff bs with
      | none => rw [q] at h; cases h
      | some i =>
        rw [q] at h
        cases h
        have := ff_lt q
        simp
        exact this
/-! ### what they reach -/
theorem reach_leaf {h : Ob} : ∀ (fr : List Nat) (n : Nat) (acc : List Nat), (∀ l ∈ fr, ∃ o, LeafO o ∧ h[l]? = some o) → fr.length ≤ n → ∃ L, reach h n fr acc = acc ++ L ∧ (∀ l ∈ fr, l ∈ acc ++ L) ∧ (∀ l ∈ L, l ∈ fr ∧ l ∉ acc)
  | [], n, acc, _, _ => ⟨[], by cases n <;> simp [reach], fun l hl => (by cases hl), fun l hl => (by cases hl)⟩
  | l :: fr, 0, acc, _, hn => by simp at hn
  | l :: fr, n + 1, acc, hw, hn => by
    have hn : fr.length ≤ n := by simp at hn; exact hn
    have hw2 : ∀ m ∈ fr, ∃ o, LeafO o ∧ h[m]? = some o := fun m hm => hw m (List.mem_cons_of_mem _ hm)
    by_cases hc : l ∈ acc
    · obtain ⟨L, e1, e2, e3⟩ := reach_leaf fr n acc hw2 hn
      refine ⟨L, ?_, fun m hm => ?_, fun m hm => ⟨List.mem_cons_of_mem _ (e3 m hm).1, (e3 m hm).2⟩⟩
      · show (if acc.contains l then reach h n fr acc else _) = _
        rw [if_pos (List.contains_iff_mem.mpr hc)]
        exact e1
      · rcases List.mem_cons.mp hm with rfl | hm
        · exact List.mem_append_left _ hc
        · exact e2 m hm
    · obtain ⟨o, ho, eo⟩ := hw l List.mem_cons_self
      obtain ⟨L, e1, e2, e3⟩ := reach_leaf fr n (acc ++ [l]) hw2 hn
      refine ⟨l :: L, ?_, fun m hm => ?_, fun m hm => ?_⟩
      · show (if acc.contains l then reach h n fr acc else match h[l]? with
          | some o => reach h n (refsO o ++ fr) (acc ++ [l])
          | none => reach h n fr (acc ++ [l])) = _
        rw [if_neg (fun z => hc (List.contains_iff_mem.mp z)), eo]
        dsimp only
        rw [ho.refs, List.nil_append, e1, List.append_assoc]
        rfl
      · rcases List.mem_cons.mp hm with rfl | hm
        · simp
        · have := e2 m hm
          rw [List.append_assoc] at this
          exact this
      · rcases List.mem_cons.mp hm with rfl | hm
        · exact ⟨List.mem_cons_self, hc⟩
        · exact ⟨List.mem_cons_of_mem _ (e3 m hm).1, fun z => (e3 m hm).2 (List.mem_append_left _ z)⟩
theorem gets_leaf {h : Ob} : ∀ (L : List Nat), (∀ l ∈ L, ∃ o, LeafO o ∧ h[l]? = some o) → ∃ os, getsO h L = some os ∧ ∀ f, renOs f os = some os
  | [], _ => ⟨[], rfl, fun f => rfl⟩
  | l :: L, hw => by
    obtain ⟨o, ho, eo⟩ := hw l List.mem_cons_self
    obtain ⟨os, e1, e2⟩ := gets_leaf L fun m hm => hw m (List.mem_cons_of_mem _ hm)
    exact ⟨o :: os, gets_cons eo e1, fun f => renOs_cons (ho.ren f) (e2 f)⟩
theorem gets_get {h : Ob} : ∀ {L : List Nat} {os : List O} {j l : Nat}, getsO h L = some os → L[j]? = some l → os[j]? = h[l]?
  | [], os, j, l, _, e => by simp at e
  | m :: L, os, 0, l, e, e2 => by
    obtain ⟨o, os', rfl, h1, _⟩ := gets_split e
    have : m = l := by simpa using e2
    subst this
    rw [h1]
    rfl
  | m :: L, os, j + 1, l, e, e2 => by
    obtain ⟨o, os', rfl, _, h2⟩ := gets_split e
    exact gets_get (j := j) h2 e2
theorem ixOf_mem : ∀ {L : List Nat} {l : Nat}, l ∈ L → ∃ j, ixOf L l = some j
  | [], l, h => by cases h
  | m :: L, l, h => by
    by_cases e : m = l
    · exact ⟨0, if_pos e⟩
    · rcases List.mem_cons.mp h with rfl | h
      · exact absurd rfl e
      · obtain ⟨j, q⟩ := ixOf_mem h
        exact ⟨j + 1, by show (if m = l then some 0 else (ixOf L l).map (· + 1)) = _; rw [if_neg e, q]; rfl⟩
theorem ix_at {h : Ob} {L : List Nat} {os : List O} {l : Nat} {o : O} (hg : getsO h L = some os) (hl : l ∈ L) (ho : h[l]? = some o) : ∃ m, ixOf L l = some m ∧ os[m]? = some o := by
  obtain ⟨j, e⟩ := ixOf_mem hl
  exact ⟨j, e, by rw [gets_get hg (ixOf_getP e)]; exact ho⟩
theorem lt_of {h : Ob} {l : Nat} {o : O} (e : h[l]? = some o) : l < h.length := (List.getElem?_eq_some_iff.mp e).1
theorem items_ref {h : Ob} {l : Nat} {xs : List D} (e : h[l]? = some (.lst xs)) : itemsOf h (.ref l) = some xs := by
  show (match h[l]? with | some (O.lst xs) => some xs | _ => none) = _
  rw [e]
theorem reach1 {h : Ob} {r : Nat} {o : O} (ho : h[r]? = some o) (hr : refsO o = []) : reach h 200 (refsDs [.ref r]) [] = [r] := by
  show (if ([] : List Nat).contains r then reach h 199 [] [] else match h[r]? with
      | some o => reach h 199 (refsO o ++ []) [r]
      | none => reach h 199 [] [r]) = _
  rw [ho]
  show reach h 199 (refsO o ++ []) [r] = _
  rw [hr]
  rfl
theorem ren1 (r : Nat) : renDs (ixOf [r]) [.ref r] = some [.ref 0] := by
  have i0 : ixOf [r] r = some 0 := if_pos rfl
  show (match (ixOf [r] r).map D.ref with | none => none | some e => some [e]) = _
  rw [i0]
  rfl
/-- one of them handed to a def -/
theorem It.handed {h : Ob} {d : D} {q : PyData} {b : Bool} (i : It h d q b) : ∃ L os e, reach h 200 (refsDs [d]) [] = L ∧ getsO h L = some os ∧ (∀ f, renOs f os = some os) ∧ renDs (ixOf L) [d] = some [e] ∧ It os e q b := by
  have hw : ∀ l ∈ refsDs [d], ∃ o, LeafO o ∧ h[l]? = some o := fun l hl => i.refs l (by
    have hl : l ∈ refsD d ++ [] := hl
    rw [List.append_nil] at hl
    exact hl)
  have hlen : (refsDs [d]).length ≤ 200 := by
    show (refsD d ++ []).length ≤ 200
    rw [List.append_nil]
    exact Nat.le_trans i.refs_len (by decide)
  obtain ⟨L, e1, e2, e3⟩ := reach_leaf (h := h) (refsDs [d]) 200 [] hw hlen
  obtain ⟨os, g1, g2⟩ := gets_leaf (h := h) L fun l hl => hw l (e3 l hl).1
  obtain ⟨e, r1, i1⟩ := i.map (h1 := os) (f := ixOf L) fun l hl o ho eo => ix_at g1 (by
    have := e2 l (show l ∈ refsD d ++ [] from List.mem_append_left _ hl)
    simpa using this) eo
  refine ⟨L, os, e, by rw [e1]; rfl, g1, g2, ?_, i1⟩
  show (match renD (ixOf L) d with | none => none | some e => some [e]) = _
  rw [r1]
/-- a tuple of them handed to a def -/
theorem Its.handed {h : Ob} {ds : List D} {qs : List PyData} {bs : List Bool} (i : Its h ds qs bs) (hn : ds.length ≤ 100) : ∃ L os es, reach h 200 (refsDs [.tup ds]) [] = L ∧ getsO h L = some os ∧ (∀ f, renOs f os = some os) ∧ renDs (ixOf L) [.tup ds] = some [.tup es] ∧ Its os es qs bs := by
  have er : refsDs [.tup ds] = refsDs ds := by
    show refsDs ds ++ [] = _
    rw [List.append_nil]
  obtain ⟨L, e1, e2, e3⟩ := reach_leaf (h := h) (refsDs ds) 200 [] i.refs (Nat.le_trans i.refs_len (by omega))
  obtain ⟨os, g1, g2⟩ := gets_leaf (h := h) L fun l hl => i.refs l (e3 l hl).1
  obtain ⟨es, r1, i1⟩ := i.map (h1 := os) (f := ixOf L) fun l hl o ho eo => ix_at g1 (by simpa using e2 l hl) eo
  refine ⟨L, os, es, by rw [er, e1]; rfl, g1, g2, ?_, i1⟩
  show (match (renDs (ixOf L) ds).map D.tup with | none => none | some e => some [e]) = _
  rw [r1]
  rfl
end K88
namespace K88
open PySem PySem.Spec L2 MP
mutual
def eqDb : D → D → Bool
  | .non, .non => true
  | .bl a, .bl b => a == b
  | .int a, .int b => a == b
  | .str a, .str b => a == b
  | .tup xs, .tup ys => eqDs xs ys
  | _, _ => false
def eqDs : List D → List D → Bool
  | [], [] => true
  | x :: xs, y :: ys => eqDb x y && eqDs xs ys
  | _, _ => false
end
mutual
theorem eqDb_ok : ∀ d e : D, eqDb d e = true → d = e
  | .non, e, h => by
    cases e with
    | non => rfl
    | _ => cases h
  | .bl a, e, h => by
    cases e with
    | bl b => rw [beq_iff_eq.mp (show (a == b) = true from h)]
    | _ => cases h
  | .int a, e, h => by
    cases e with
    | int b => rw [beq_iff_eq.mp (show (a == b) = true from h)]
    | _ => cases h
  | .str a, e, h => by
    cases e with
    | str b => rw [beq_iff_eq.mp (show (a == b) = true from h)]
    | _ => cases h
  | .tup xs, e, h => by
    cases e with
    | tup ys => rw [eqDs_ok xs ys h]
    | _ => cases h
  | .fl _, e, h => by cases e <;> cases h
  | .ty _, e, h => by cases e <;> cases h
  | .ref _, e, h => by cases e <;> cases h
theorem eqDs_ok : ∀ ds es : List D, eqDs ds es = true → ds = es
  | [], es, h => by
    cases es with
    | nil => rfl
    | cons _ _ => cases h
  | d :: ds, es, h => by
    cases es with
    | nil => cases h
    | cons e es =>
      have h := Bool.and_eq_true_iff.mp (show (eqDb d e && eqDs ds es) = true from h)
      rw [eqDb_ok d e h.1, eqDs_ok ds es h.2]
end
/-! ### one move -/
def runI (d : D) (h : Ob) : R D := doneS (seqS ((ev Γ 106).s 8) fn_is_move.body (startE fn_is_move [d])) h
def runV (d : D) : R D := doneS (seqS ((ev Γ 106).s 8) fn_show_move.body (startE fn_show_move [d])) []
def runW (d : D) : R D := doneS (seqS ((ev Γ 108).s 11) fn__law_written.body (startE fn__law_written [d])) []
def runR (r : Str) : R D := doneS (seqS ((ev Γ 105).s 10) fn_move_in.body (startE fn_move_in [.str r])) []
def wr (d : D) : Str := match runW d with
  | .ok (.str x) _ => x
  | _ => ""
def isB (b : Bool) : R D → Bool
  | .ok (.bl c) _ => b == c
  | _ => false
def isL (x : Str) : R D → Bool
  | .ok (.bl false) [.lst [.str y]] => x == y
  | _ => false
def chk (d : D) : Bool := isB true (runI d []) && (match runW d, runV d with
  | .ok (.str x) _, .ok (.str y) _ => (x == y) && (match runR x with
    | .ok e _ => eqDb d e
    | _ => false) && x.cps.toList.all (fun c => decide (c < 128) && !decide (c = 10)) && decide (x.length ≤ 20) && decide (0 < x.length)
  | _, _ => false)
theorem chk_moves : moves.all chk = true := by decide +kernel
theorem chk_flats : (flats.all fun d => isB false (runI d [])) = true := by decide +kernel
structure Good (d : D) : Prop where
  i : ∃ g, runI d [] = .ok (.bl true) g
  v : ∃ g, runV d = .ok (.str (wr d)) g
  w : ∃ g, runW d = .ok (.str (wr d)) g
  r : ∃ g, runR (wr d) = .ok d g
  nl : (10 : Nat) ∉ (wr d).cps.toList
  asc : ∀ c ∈ (wr d).cps.toList, c < 128
  len : (wr d).length ≤ 20
  pos : 0 < (wr d).length
  rf : refsD d = []
theorem isB_ok {b : Bool} {r : R D} (e : isB b r = true) : ∃ g, r = .ok (.bl b) g := by
  unfold isB at e
  split at e
  · rw [beq_iff_eq.mp e]
    exact ⟨_, rfl⟩
  · cases e
theorem good_of {d : D} (h : d ∈ moves) : Good d := by
  have z := List.all_eq_true.mp chk_moves d h
  unfold chk at z
  obtain ⟨z0, z1⟩ := Bool.and_eq_true_iff.mp z
  cases q1 : runW d with
  | exc _ _ _ => rw [q1] at z1; cases z1
  | bad => rw [q1] at z1; cases z1
  | ok dx g1 =>
    cases dx with
    | str x =>
      cases q2 : runV d with
      | exc _ _ _ => rw [q1, q2] at z1; cases z1
      | bad => rw [q1, q2] at z1; cases z1
      | ok dy g2 =>
        cases dy with
        | str y =>
          rw [q1, q2] at z1
          simp only [Bool.and_eq_true, decide_eq_true_eq] at z1
          obtain ⟨⟨⟨⟨a1, a2⟩, a3⟩, a4⟩, a5⟩ := z1
          have hxy : x = y := beq_iff_eq.mp a1
          subst hxy
          have hw : wr d = x := by
            unfold wr
            rw [q1]
          cases q3 : runR x with
          | exc _ _ _ => rw [q3] at a2; cases a2
          | bad => rw [q3] at a2; cases a2
          | ok e g3 =>
            rw [q3] at a2
            have e1 := eqDb_ok d e a2
            subst e1
            rw [List.all_eq_true] at a3
            refine ⟨isB_ok z0, ⟨g2, by rw [hw]; exact q2⟩, ⟨g1, by rw [hw]; exact q1⟩, ⟨g3, by rw [hw]; exact q3⟩, ?_, ?_, by rw [hw]; exact a4, by rw [hw]; exact a5, (flat_of (List.all_eq_true.mp flat_moves _ h)).2.2⟩
            · intro hm
              rw [hw] at hm
              have := a3 _ hm
              simp at this
            · intro c hc
              rw [hw] at hc
              have := a3 _ hc
              simp at this
              exact this.1
        | _ => rw [q1, q2] at z1; cases z1
    | _ => rw [q1] at z1; cases z1
theorem isL_ok {x : Str} {r : R D} (e : isL x r = true) : r = .ok (.bl false) ([.lst [.str x]] ++ []) := by
  unfold isL at e
  split at e
  · rw [beq_iff_eq.mp e]
    rfl
  · cases e
/-- is_move of one of them, in any heap -/
theorem is_call {h : Ob} {d : D} {q : PyData} {b : Bool} (i : It h d q b) : ∃ g, callF Γ (ev Γ 106) 9 "is_move" [d] h = .ok (.bl b) (h ++ g) := by
  cases i with
  | mv e =>
    obtain ⟨g0, e0⟩ := (good_of e).i
    obtain ⟨g1, e1⟩ := sub0 (h := h) (ds := [d]) (m := fun es => doneS (seqS ((ev Γ 106).s 8) fn_is_move.body (startE fn_is_move es))) (by show refsD d ++ [] = []; rw [(good_of e).rf]; rfl) e0 rfl
    exact ⟨g1, call_ok (fn := fn_is_move) (m := fun _ => M.fail) rfl rfl e1⟩
  | nn e =>
    obtain ⟨g0, e0⟩ := isB_ok (List.all_eq_true.mp chk_flats d e)
    obtain ⟨g1, e1⟩ := sub0 (h := h) (ds := [d]) (m := fun es => doneS (seqS ((ev Γ 106).s 8) fn_is_move.body (startE fn_is_move es))) (by show refsD d ++ [] = []; rw [(flat_of (List.all_eq_true.mp flat_flats _ e)).2.2]; rfl) e0 rfl
    exact ⟨g1, call_ok (fn := fn_is_move) (m := fun _ => M.fail) rfl rfl e1⟩
  | l1 e =>
    have e0 : runI (.ref 0) [.lst [.str "over"]] = .ok (.bl false) ([.lst [.str "over"]] ++ []) := by rfl
    obtain ⟨g1, e1⟩ := sub_keep (h := h) (ds := [.ref _]) (m := fun es => doneS (seqS ((ev Γ 106).s 8) fn_is_move.body (startE fn_is_move es))) (reach1 e rfl) (gets_cons e rfl) (renOs_cons rfl rfl) (ren1 _) e0 rfl
    exact ⟨g1, call_ok (fn := fn_is_move) (m := fun _ => M.fail) rfl rfl e1⟩
  | l2 e =>
    rename_i l
    have e0 : runI (.tup [.ref 0, .int 1]) [.lst [.str "does"]] = .ok (.bl false) ([.lst [.str "does"]] ++ []) := isL_ok (by decide +kernel)
    obtain ⟨g1, e1⟩ := sub_keep (h := h) (ds := [.tup [.ref l, .int 1]]) (L := [l]) (ds1 := [.tup [.ref 0, .int 1]]) (m := fun es => doneS (seqS ((ev Γ 106).s 8) fn_is_move.body (startE fn_is_move es))) (reach1 (r := l) e rfl) (gets_cons e rfl) (renOs_cons rfl rfl) (by
      have i0 : ixOf [l] l = some 0 := if_pos rfl
      show (match (match (ixOf [l] l).map D.ref with | none => none | some e => some [e, D.int 1]).map D.tup with | none => none | some e => some [e]) = _
      rw [i0]
      rfl) e0 rfl
    exact ⟨g1, call_ok (fn := fn_is_move) (m := fun _ => M.fail) rfl rfl e1⟩
  | l3 e =>
    rename_i l
    have e0 : runI (.tup [.str "deed", .ref 0, .int 0]) [.lst [.str "a"]] = .ok (.bl false) ([.lst [.str "a"]] ++ []) := isL_ok (by decide +kernel)
    obtain ⟨g1, e1⟩ := sub_keep (h := h) (ds := [.tup [.str "deed", .ref l, .int 0]]) (L := [l]) (ds1 := [.tup [.str "deed", .ref 0, .int 0]]) (m := fun es => doneS (seqS ((ev Γ 106).s 8) fn_is_move.body (startE fn_is_move es))) (reach1 (r := l) e rfl) (gets_cons e rfl) (renOs_cons rfl rfl) (by
      have i0 : ixOf [l] l = some 0 := if_pos rfl
      show (match (match (match (ixOf [l] l).map D.ref with | none => none | some e => some [e, D.int 0]) with | none => none | some es => some (D.str "deed" :: es)).map D.tup with | none => none | some e => some [e]) = _
      rw [i0]
      rfl) e0 rfl
    exact ⟨g1, call_ok (fn := fn_is_move) (m := fun _ => M.fail) rfl rfl e1⟩
  | l4 e =>
    have e0 : runI (.ref 0) [.dct []] = .ok (.bl false) ([.dct []] ++ []) := by rfl
    obtain ⟨g1, e1⟩ := sub_keep (h := h) (ds := [.ref _]) (m := fun es => doneS (seqS ((ev Γ 106).s 8) fn_is_move.body (startE fn_is_move es))) (reach1 e rfl) (gets_cons e rfl) (renOs_cons rfl rfl) (ren1 _) e0 rfl
    exact ⟨g1, call_ok (fn := fn_is_move) (m := fun _ => M.fail) rfl rfl e1⟩
theorem show_call1 {d : D} (G : Good d) (h : Ob) : ∃ g, callF Γ (ev Γ 106) 9 "show_move" [d] h = .ok (.str (wr d)) (h ++ g) := by
  obtain ⟨g0, e0⟩ := G.v
  obtain ⟨g1, e1⟩ := sub0 (h := h) (ds := [d]) (m := fun es => doneS (seqS ((ev Γ 106).s 8) fn_show_move.body (startE fn_show_move es))) (by show refsD d ++ [] = []; rw [G.rf]; rfl) e0 rfl
  exact ⟨g1, call_ok (fn := fn_show_move) (m := fun _ => M.fail) rfl rfl e1⟩
theorem written_call {d : D} (G : Good d) (h : Ob) : ∃ g, callF Γ (ev Γ 108) 12 "_law_written" [d] h = .ok (.str (wr d)) (h ++ g) := by
  obtain ⟨g0, e0⟩ := G.w
  obtain ⟨g1, e1⟩ := sub0 (h := h) (ds := [d]) (m := fun es => doneS (seqS ((ev Γ 108).s 11) fn__law_written.body (startE fn__law_written es))) (by show refsD d ++ [] = []; rw [G.rf]; rfl) e0 rfl
  exact ⟨g1, call_ok (fn := fn__law_written) (m := fun _ => M.fail) rfl rfl e1⟩
theorem mvi_call {d : D} (G : Good d) (h : Ob) : ∃ g, callF Γ (ev Γ 105) 11 "move_in" [.str (wr d)] h = .ok d (h ++ g) := by
  obtain ⟨g0, e0⟩ := G.r
  obtain ⟨g1, e1⟩ := sub0 (h := h) (ds := [.str (wr d)]) (m := fun es => doneS (seqS ((ev Γ 105).s 10) fn_move_in.body (startE fn_move_in es))) rfl e0 G.rf
  exact ⟨g1, call_ok (fn := fn_move_in) (m := fun _ => M.fail) rfl rfl e1⟩
end K88
namespace K88
open PySem PySem.Spec L2 MP
theorem Pot.mono {B B1 b c : Int} (p : Pot B b c) (h : B ≤ B1) : Pot B1 b c := ⟨p.b0, p.b1, p.c0, Int.le_trans p.c1 h⟩
/-! ### the draws, the pot at place 0 -/
theorem take_call (n k : Nat) {B a b c u : Int} (P : Pot B b c) (hB : B ≤ 1000000) (hu : 0 < u) (hu2 : u < 1000) {h : Ob} (h0 : h[0]? = some (pot a b c)) :
    ∃ j a1 c1 g, callF Γ (ev Γ (n + 20)) (k + 1) "_law_take" [.ref 0, .int u] h = .ok (.int j) (h.set 0 (pot a1 b c1) ++ g) ∧ 0 ≤ j ∧ j < u ∧ 0 ≤ c1 ∧ c1 ≤ c + 1 := by
  obtain ⟨j, a1, c1, g, e, j0, j1, b0, b1⟩ := take_spec n k a b c u P.b0 P.b1 P.c0 (Int.le_trans P.c1 hB) hu hu2
  obtain ⟨g1, e1⟩ := sub1 (h := h) (ds := [.ref 0, .int u]) (l := 0) (m := fun es => doneS (seqS ((ev Γ (n + 20)).s k) fn__law_take.body (startE fn__law_take es))) h0 rfl rfl rfl e rfl rfl
  exact ⟨j, a1, c1, g1, call_ok (fn := fn__law_take) (m := fun _ => M.fail) rfl rfl e1, j0, j1, b0, b1⟩
/-- a def that draws something plain -/
theorem drawn_call {n k : Nat} {f : Str} {fn : Fn} {a b c : Int} {h : Ob} {x : D} {a1 c1 : Int} {g : Ob} (hf : Γ.fns.lookup f = some fn) (hn : 1 = fn.np) (h0 : h[0]? = some (pot a b c)) (hx : refsD x = [])
    (e : doneS (seqS ((ev Γ n).s k) fn.body (startE fn [.ref 0])) [pot a b c] = .ok x (pot a1 b c1 :: g)) : ∃ g1, callF Γ (ev Γ n) (k + 1) f [.ref 0] h = .ok x (h.set 0 (pot a1 b c1) ++ g1) := by
  obtain ⟨g1, e1⟩ := sub_chg (h := h) (ds := [.ref 0]) (L := []) (os := []) (m := fun es => doneS (seqS ((ev Γ n).s k) fn.body (startE fn es))) (p1 := pot a1 b c1) (reach1 h0 rfl) List.not_mem_nil (gets_cons h0 rfl) (renOs_cons ren_pot rfl) (ren1 0) e rfl (renD_id _ x hx)
  exact ⟨g1, call_ok (xs := [.ref 0]) (fn := fn) (m := fun _ => M.fail) hf hn e1⟩
def nmD : List D := [.str "a", .str "tell", .str "deed", .str "over", .str "zzzzzzzz", .str "its", .str "ask", .str "sends"]
def nbD : List D := [.int 0, .int 0, .int 1, .int 2, .int 9, .int 10, .int 99, .int 100, .int 999]
theorem name_call (n k : Nat) {B a b c : Int} (P : Pot B b c) (hB : B ≤ 1000000) {h : Ob} (h0 : h[0]? = some (pot a b c)) :
    ∃ x a1 c1 g, callF Γ (ev Γ (n + 40)) (k + 3) "_law_name" [.ref 0] h = .ok (.str x) (h.set 0 (pot a1 b c1) ++ g) ∧ x ∈ nmS ∧ 0 ≤ c1 ∧ c1 ≤ c + 1 := by
  obtain ⟨x, a1, c1, g, e, hx, b0, b1⟩ := of_call0 (n + 8) k (a := a) P hB (h := [pot a b c, .lst nmD]) (l := 0) (s := 1) (xs := nmD) (by decide) (by decide) rfl rfl rfl (by decide)
  have hm : ∃ z, x = .str z ∧ z ∈ nmS := by
    have e2 : nmD = nmS.map D.str := rfl
    rw [e2] at hx
    obtain ⟨z, hz, rfl⟩ := List.mem_map.mp hx
    exact ⟨z, rfl, hz⟩
  obtain ⟨z, rfl, hz⟩ := hm
  have er : doneS (seqS ((ev Γ (n + 40)).s (k + 2)) fn__law_name.body (startE fn__law_name [.ref 0])) [pot a b c] = .ok (.str z) (pot a1 b c1 :: (.lst nmD :: g)) :=
    done_rt (ess_rt (es_ret (ee_call (ea_cons (ee_v rfl) (ea_cons (ee_lst (xs := nmD) (ea_cons ee_c (ea_cons ee_c (ea_cons ee_c (ea_cons ee_c (ea_cons ee_c (ea_cons ee_c (ea_cons ee_c (ea_cons ee_c ea_nil)))))))) (by decide)) ea_nil)) e)))
  obtain ⟨g1, e1⟩ := drawn_call (f := "_law_name") (h := h) rfl rfl h0 rfl er
  exact ⟨z, a1, c1, g1, e1, hz, b0, b1⟩
theorem number_call (n k : Nat) {B a b c : Int} (P : Pot B b c) (hB : B ≤ 1000000) {h : Ob} (h0 : h[0]? = some (pot a b c)) :
    ∃ x a1 c1 g, callF Γ (ev Γ (n + 40)) (k + 3) "_law_number" [.ref 0] h = .ok (.int x) (h.set 0 (pot a1 b c1) ++ g) ∧ x ∈ nbS ∧ 0 ≤ c1 ∧ c1 ≤ c + 1 := by
  obtain ⟨x, a1, c1, g, e, hx, b0, b1⟩ := of_call0 (n + 8) k (a := a) P hB (h := [pot a b c, .lst nbD]) (l := 0) (s := 1) (xs := nbD) (by decide) (by decide) rfl rfl rfl (by decide)
  have hm : ∃ z, x = .int z ∧ z ∈ nbS := by
    have e2 : nbD = (0 :: nbS).map D.int := rfl
    rw [e2] at hx
    obtain ⟨z, hz, rfl⟩ := List.mem_map.mp hx
    refine ⟨z, rfl, ?_⟩
    rcases List.mem_cons.mp hz with rfl | hz
    · decide
    · exact hz
  obtain ⟨z, rfl, hz⟩ := hm
  have er : doneS (seqS ((ev Γ (n + 40)).s (k + 2)) fn__law_number.body (startE fn__law_number [.ref 0])) [pot a b c] = .ok (.int z) (pot a1 b c1 :: (.lst nbD :: g)) :=
    done_rt (ess_rt (es_ret (ee_call (ea_cons (ee_v rfl) (ea_cons (ee_lst (xs := nbD) (ea_cons ee_c (ea_cons ee_c (ea_cons ee_c (ea_cons ee_c (ea_cons ee_c (ea_cons ee_c (ea_cons ee_c (ea_cons ee_c (ea_cons ee_c ea_nil))))))))) (by decide)) ea_nil)) e)))
  obtain ⟨g1, e1⟩ := drawn_call (f := "_law_number") (h := h) rfl rfl h0 rfl er
  exact ⟨z, a1, c1, g1, e1, hz, b0, b1⟩
def wdS : List Str := ["deed", "deed", "deed", "sends", "does", "comes", "gone", "over"]
def wdD : List D := [.str "deed", .str "deed", .str "deed", .str "sends", .str "does", .str "comes", .str "gone", .str "over"]
theorem mem_deed {x : Str} {i : Int} (hx : x ∈ nmS) (hi : i ∈ nbS) : D.tup [.str "deed", .str x, .int i] ∈ moves :=
  List.mem_append_left _ (List.mem_append_left _ (List.mem_flatMap.mpr ⟨x, hx, List.mem_map.mpr ⟨i, hi, rfl⟩⟩))
theorem mem_placed {w : Str} {i : Int} (hw : w ∈ (["sends", "does", "comes", "gone"] : List Str)) (hi : i ∈ nbS) : D.tup [.str w, .int i] ∈ moves :=
  List.mem_append_left _ (List.mem_append_right _ (List.mem_flatMap.mpr ⟨w, hw, List.mem_map.mpr ⟨i, hi, rfl⟩⟩))
theorem mem_over : D.tup [.str "over"] ∈ moves := List.mem_append_right _ List.mem_cons_self
theorem word_cases {w : Str} (h : w ∈ wdS) : w = "deed" ∨ w = "over" ∨ (w ∈ (["sends", "does", "comes", "gone"] : List Str) ∧ decide (w = "deed") = false ∧ decide (w = "over") = false) := by
  simp only [wdS, List.mem_cons, List.not_mem_nil, or_false] at h
  rcases h with rfl | rfl | rfl | rfl | rfl | rfl | rfl | rfl
  · exact .inl rfl
  · exact .inl rfl
  · exact .inl rfl
  · exact .inr (.inr ⟨by decide +kernel, by decide +kernel, by decide +kernel⟩)
  · exact .inr (.inr ⟨by decide +kernel, by decide +kernel, by decide +kernel⟩)
  · exact .inr (.inr ⟨by decide +kernel, by decide +kernel, by decide +kernel⟩)
  · exact .inr (.inr ⟨by decide +kernel, by decide +kernel, by decide +kernel⟩)
  · exact .inr (.inl rfl)
theorem move_run (n k : Nat) {B a b c : Int} (P : Pot B b c) (hB : B + 3 ≤ 1000000) :
    ∃ m a1 c1 g, doneS (seqS ((ev Γ (n + 50)).s (k + 3)) fn__law_move.body (startE fn__law_move [.ref 0])) [pot a b c] = .ok m (pot a1 b c1 :: g) ∧ m ∈ moves ∧ 0 ≤ c1 ∧ c1 ≤ c + 3 := by
  obtain ⟨x, a1, c1, g, e, hx, b0, b1⟩ := of_call0 (n + 18) (k + 1) (a := a) P (by omega) (h := [pot a b c, .lst wdD]) (l := 0) (s := 1) (xs := wdD) (by decide) (by decide) rfl rfl rfl (by decide)
  have hm : ∃ z, x = .str z ∧ z ∈ wdS := by
    have e2 : wdD = wdS.map D.str := rfl
    rw [e2] at hx
    obtain ⟨z, hz, rfl⟩ := List.mem_map.mp hx
    exact ⟨z, rfl, hz⟩
  obtain ⟨z, rfl, hz⟩ := hm
  have P1 : Pot (B + 1) b c1 := P.up b0 b1 (Int.le_refl _)
  have s1 : (ev Γ (n + 50)).s (k + 3) (.asg 1 (.call "_law_of" [(.v 0), (.lst [(.c (.str "deed")), (.c (.str "deed")), (.c (.str "deed")), (.c (.str "sends")), (.c (.str "does")), (.c (.str "comes")), (.c (.str "gone")), (.c (.str "over"))])])) [some (.ref 0), none] [pot a b c] = .ok (.nx [some (.ref 0), some (.str z)]) (pot a1 b c1 :: (.lst wdD :: g)) :=
    es_asg (ee_call (ea_cons (ee_v rfl) (ea_cons (ee_lst (xs := wdD) (ea_cons ee_c (ea_cons ee_c (ea_cons ee_c (ea_cons ee_c (ea_cons ee_c (ea_cons ee_c (ea_cons ee_c (ea_cons ee_c ea_nil)))))))) (by decide)) ea_nil)) e)
  rcases word_cases hz with rfl | rfl | ⟨hw, d1, d2⟩
  · obtain ⟨y, a2, c2, g2, e2, hy, b2, b3⟩ := name_call (n + 6) k (a := a1) P1 (by omega) (h := pot a1 b c1 :: (.lst wdD :: g)) rfl
    obtain ⟨i, a3, c3, g3, e3, hi, b4, b5⟩ := number_call (n + 6) k (a := a2) (P1.up b2 b3 (Int.le_refl _)) (by omega) (h := pot a2 b c2 :: ((.lst wdD :: g) ++ g2)) rfl
    exact ⟨_, a3, c3, _, done_rt (ess_nx s1 (ess_rt (es_ifT (x := .bl true) (ee_cmp (ee_v rfl) ee_c rfl) rfl (ess_rt (es_ret (ee_tup (ea_cons (ee_v rfl) (ea_cons (ee_call (ea_cons (ee_v rfl) ea_nil) e2) (ea_cons (ee_call (ea_cons (ee_v rfl) ea_nil) e3) ea_nil))) (by show 3 ≤ 1000; decide))))))), mem_deed hy hi, b4, by omega⟩
  · exact ⟨_, a1, c1, _, done_rt (ess_nx s1 (ess_nx (es_ifF (x := .bl false) (ee_cmp (ee_v rfl) ee_c rfl) rfl ess_nil) (ess_rt (es_ret (ee_iteT (x := .bl true) (ee_cmp (ee_v rfl) ee_c rfl) rfl (ee_tup (ea_cons (ee_v rfl) ea_nil) (by show 1 ≤ 1000; decide))))))), mem_over, b0, by omega⟩
  · obtain ⟨i, a3, c3, g3, e3, hi, b4, b5⟩ := number_call (n + 6) k (a := a1) P1 (by omega) (h := pot a1 b c1 :: (.lst wdD :: g)) rfl
    exact ⟨_, a3, c3, _, done_rt (ess_nx s1 (ess_nx (es_ifF (x := .bl false) (ee_cmp (ee_v rfl) ee_c (by show some (decide (z = "deed")) = _; rw [d1])) rfl ess_nil) (ess_rt (es_ret (ee_iteF (x := .bl false) (ee_cmp (ee_v rfl) ee_c (by show some (decide (z = "over")) = _; rw [d2])) rfl (ee_tup (ea_cons (ee_v rfl) (ea_cons (ee_call (ea_cons (ee_v rfl) ea_nil) e3) ea_nil)) (by show 2 ≤ 1000; decide))))))), mem_placed hw hi, b4, by omega⟩
theorem move_call (n k : Nat) {B a b c : Int} (P : Pot B b c) (hB : B + 3 ≤ 1000000) {h : Ob} (h0 : h[0]? = some (pot a b c)) :
    ∃ m a1 c1 g, callF Γ (ev Γ (n + 50)) (k + 4) "_law_move" [.ref 0] h = .ok m (h.set 0 (pot a1 b c1) ++ g) ∧ m ∈ moves ∧ 0 ≤ c1 ∧ c1 ≤ c + 3 := by
  obtain ⟨m, a1, c1, g, e, hm, b0, b1⟩ := move_run n k (a := a) P hB
  obtain ⟨g1, e1⟩ := drawn_call (f := "_law_move") (h := h) rfl rfl h0 (good_of hm).rf e
  exact ⟨m, a1, c1, g1, e1, hm, b0, b1⟩
/-! ### what is none -/
def n1 : List D := [.non, .tup [], .str "over", .ref 1, .tup [.str "over", .int 0], .tup [.str "deed"], .tup [.str "deed", .str "a"], .tup [.str "deed", .str "it", .int 0], .tup [.str "deed", .str "asked", .int 1]]
def n2 : List D := [.tup [.str "deed", .str "abcdefghi", .int 0], .tup [.str "deed", .str "", .int 0], .tup [.str "deed", .str "a1", .int 0], .tup [.str "deed", .str "A", .int 0], .tup [.str "deed", .str "a", .int 1000]]
def n3 : List D := [.tup [.str "deed", .str "a", .int (-1)], .tup [.str "deed", .str "a", .bl true], .tup [.str "deed", .str "a", .non], .tup [.str "deed", .int 3, .int 0], .tup [.str "deed", .str "a", .int 0, .int 0]]
def n4 : List D := [.tup [.str "sends"], .tup [.str "sends", .int 1000], .tup [.str "sends", .int (-1)], .tup [.str "does", .bl false], .tup [.str "comes", .str "0"]]
def n5 : List D := [.tup [.str "gone", .int 1, .int 2], .tup [.str "go", .int 1], .tup [.non, .int 1], .tup [.ref 9, .int 1]]
def n6 : List D := [.tup [.str "deed", .ref 12, .int 0], .tup [.tup [.str "over"]], .int 7, .ref 13]
def noneH (o : O) : Ob := [o, .lst [.str "over"], .lst n1, .lst n2, .lst (n1 ++ n2), .lst n3, .lst (n1 ++ n2 ++ n3), .lst n4, .lst (n1 ++ n2 ++ n3 ++ n4), .lst [.str "does"], .lst n5, .lst (n1 ++ n2 ++ n3 ++ n4 ++ n5), .lst [.str "a"], .dct [], .lst n6, .lst (n1 ++ n2 ++ n3 ++ n4 ++ n5 ++ n6)]
theorem none_it {x : D} (hx : x ∈ n1 ++ n2 ++ n3 ++ n4 ++ n5 ++ n6) (o : O) : ∃ q, It (noneH o) x q false := by
  have fl : ∀ d : D, (flats.any fun e => eqDb d e) = true → ∃ q, It (noneH o) d q false := fun d hd => by
    obtain ⟨e, he, hq⟩ := List.any_eq_true.mp hd
    have := eqDb_ok d e hq
    subst this
    exact ⟨_, .nn he⟩
  simp only [n1, n2, n3, n4, n5, n6, List.mem_append, List.mem_cons, List.not_mem_nil, or_false] at hx
  rcases hx with ((((hx | hx) | hx) | hx) | hx) | hx
  · rcases hx with rfl | rfl | rfl | rfl | rfl | rfl | rfl | rfl | rfl
    · exact fl _ (by decide +kernel)
    · exact fl _ (by decide +kernel)
    · exact fl _ (by decide +kernel)
    · exact ⟨_, .l1 rfl⟩
    · exact fl _ (by decide +kernel)
    · exact fl _ (by decide +kernel)
    · exact fl _ (by decide +kernel)
    · exact fl _ (by decide +kernel)
    · exact fl _ (by decide +kernel)
  · rcases hx with rfl | rfl | rfl | rfl | rfl <;> exact fl _ (by decide +kernel)
  · rcases hx with rfl | rfl | rfl | rfl | rfl <;> exact fl _ (by decide +kernel)
  · rcases hx with rfl | rfl | rfl | rfl | rfl <;> exact fl _ (by decide +kernel)
  · rcases hx with rfl | rfl | rfl | rfl
    · exact fl _ (by decide +kernel)
    · exact fl _ (by decide +kernel)
    · exact fl _ (by decide +kernel)
    · exact ⟨_, .l2 rfl⟩
  · rcases hx with rfl | rfl | rfl | rfl
    · exact ⟨_, .l3 rfl⟩
    · exact fl _ (by decide +kernel)
    · exact fl _ (by decide +kernel)
    · exact ⟨_, .l4 rfl⟩
theorem none_run (n k : Nat) {B a b c : Int} (P : Pot B b c) (hB : B ≤ 1000000) :
    ∃ x q a1 c1 g, doneS (seqS ((ev Γ (n + 40)).s (k + 2)) fn__law_none.body (startE fn__law_none [.ref 0])) [pot a b c] = .ok x (pot a1 b c1 :: g) ∧ It (pot a1 b c1 :: g) x q false ∧ 0 ≤ c1 ∧ c1 ≤ c + 1 := by
  obtain ⟨x, a1, c1, g, e, hx, b0, b1⟩ := of_call (n + 8) k (a := a) P hB (h := noneH (pot a b c)) (l := 0) (s := 15) (L2 := [1, 9, 12, 13]) (xs := n1 ++ n2 ++ n3 ++ n4 ++ n5 ++ n6) (os := [.lst [.str "over"], .lst [.str "does"], .lst [.str "a"], .dct []]) (by decide) (by decide) (by rfl) (by decide) (by rfl) (os1 := [.lst ([.non, .tup [], .str "over", .ref 2, .tup [.str "over", .int 0], .tup [.str "deed"], .tup [.str "deed", .str "a"], .tup [.str "deed", .str "it", .int 0], .tup [.str "deed", .str "asked", .int 1]] ++ n2 ++ n3 ++ n4 ++ [.tup [.str "gone", .int 1, .int 2], .tup [.str "go", .int 1], .tup [.non, .int 1], .tup [.ref 3, .int 1]] ++ [.tup [.str "deed", .ref 4, .int 0], .tup [.tup [.str "over"]], .int 7, .ref 5]), .lst [.str "over"], .lst [.str "does"], .lst [.str "a"], .dct []]) (by rfl)
  obtain ⟨q, i⟩ := none_it hx (pot a1 b c1)
  refine ⟨x, q, a1, c1, _, done_rt (ess_nx (h1 := (noneH (pot a b c)).take 3) (ρ1 := [some (.ref 0), some (.ref 2)]) rfl (ess_nx (h1 := (noneH (pot a b c)).take 5) (ρ1 := [some (.ref 0), some (.ref 4)]) rfl
    (ess_nx (h1 := (noneH (pot a b c)).take 7) (ρ1 := [some (.ref 0), some (.ref 6)]) rfl (ess_nx (h1 := (noneH (pot a b c)).take 9) (ρ1 := [some (.ref 0), some (.ref 8)]) rfl (ess_nx (h1 := (noneH (pot a b c)).take 12) (ρ1 := [some (.ref 0), some (.ref 11)]) rfl
    (ess_rt (es_ret (ee_call (ea_cons (x := .ref 0) rfl (ea_cons (x := .ref 15) (h1 := noneH (pot a b c)) rfl ea_nil)) e)))))))), i.app, b0, b1⟩
theorem renOs_get {f : Nat → Option Nat} : ∀ {g g1 : List O} {i : Nat} {o : O}, renOs f g = some g1 → g[i]? = some o → ∃ o1, renO f o = some o1 ∧ g1[i]? = some o1
  | [], g1, i, o, _, e => by simp at e
  | p :: g, g1, 0, o, h, e => by
    obtain ⟨p1, g2, rfl, h1, _⟩ := renOs_split h
    have : p = o := by simpa using e
    subst this
    exact ⟨p1, h1, rfl⟩
  | p :: g, g1, i + 1, o, h, e => by
    obtain ⟨p1, g2, rfl, _, h2⟩ := renOs_split h
    exact renOs_get (i := i) h2 e
theorem not_leaf {a b c : Int} : ¬ LeafO (pot a b c) := by
  intro h
  rcases h with h | h | h | h <;> cases h
theorem none_call (n k : Nat) {B a b c : Int} (P : Pot B b c) (hB : B ≤ 1000000) {h : Ob} (h0 : h[0]? = some (pot a b c)) :
    ∃ x q a1 c1 g, callF Γ (ev Γ (n + 40)) (k + 3) "_law_none" [.ref 0] h = .ok x (h.set 0 (pot a1 b c1) ++ g) ∧ It (h.set 0 (pot a1 b c1) ++ g) x q false ∧ 0 ≤ c1 ∧ c1 ≤ c + 1 := by
  obtain ⟨x, q, a1, c1, g, e, i, b0, b1⟩ := none_run n k (a := a) P hB
  obtain ⟨g1, eg⟩ := renOs_tot (outOf [0] h.length) (outOf_tot [0] h.length) g
  obtain ⟨x1, ex, i1⟩ := i.map (h1 := h.set 0 (pot a1 b c1) ++ g1) (f := outOf [0] h.length) fun l hl o ho eo => by
    cases l with
    | zero =>
      have : pot a1 b c1 = o := by simpa using eo
      rw [← this] at ho
      exact absurd ho not_leaf
    | succ l =>
      have eo : g[l]? = some o := eo
      obtain ⟨o1, r1, r2⟩ := renOs_get eg eo
      rw [ho.ren] at r1
      cases r1
      refine ⟨h.length + l, ?_, ?_⟩
      · show (if l + 1 < 1 then _ else some (h.length + (l + 1 - 1))) = _
        rw [if_neg (by omega), Nat.add_sub_cancel]
      · rw [List.getElem?_append_right (by rw [List.length_set]; omega), List.length_set, Nat.add_sub_cancel_left]
        exact r2
  have er := sub_run (ds := [.ref 0]) (h := h) (m := fun es => doneS (seqS ((ev Γ (n + 40)).s (k + 2)) fn__law_none.body (startE fn__law_none es))) (os := [pot a b c]) (os1 := [pot a b c]) (g1 := pot a1 b c1 :: g1) (d1 := x1) [0] (reach1 h0 rfl) (gets_cons h0 rfl) (renOs_cons ren_pot rfl) (ren1 0) e (renOs_cons ren_pot eg) ex
  exact ⟨x1, q, a1, c1, g1, call_ok (fn := fn__law_none) (m := fun _ => M.fail) rfl rfl er, i1, b0, b1⟩
end K88
namespace K88
open PySem PySem.Spec L2 MP
theorem isi_plain {T kd : String} {d : D} {h : Ob} (hk : kindOf h d = some kd) : isiD Γ T d h = .ok (.bl (plainIs kd T)) h := by
  unfold isiD
  rw [hk]
theorem isi_exc {T : String} {n : Nat} {h : Ob} {c : Str} {v : D} {ts : List String} (e1 : h[n]? = some (.exc c v)) (e2 : Γ.sub.lookup c = some ts) : isiD Γ T (.ref n) h = .ok (.bl (ts.contains T)) h := by
  have k0 : kindOf h (.ref n) = none := by
    show (match h[n]? with | some (.lst _) => some "list" | some (.dct _) => some "dict" | _ => none) = none
    rw [e1]
  have k1 : excOf h (.ref n) = some c := by
    show (match h[n]? with | some (.exc c _) => some c | _ => none) = some c
    rw [e1]
  unfold isiD
  rw [k0]
  dsimp only
  rw [k1]
  dsimp only
  rw [e2]
/-! ### texts of moves -/
def strD (l : List Str) : List D := l.map D.str
def texts (ms : List D) : List Str := ms.map wr
def told (ms : List D) : Str := Txt.join "\n" (texts ms)
theorem strs_of : ∀ rows : List Str, strsOf (strD rows) = some rows
  | [] => rfl
  | r :: rows => by
    show (strsOf (strD rows)).map (r :: ·) = _
    rw [strs_of rows]
    rfl
theorem split_told {ms : List D} (hne : ms ≠ []) (hg : ∀ m ∈ ms, Good m) : Txt.split (told ms) "\n" = texts ms :=
  TL.split_join (y := "\n") (s := 10) (S := []) (by decide +kernel) (by decide +kernel) (fun z => hne (List.map_eq_nil_iff.mp z)) fun p hp => by
    obtain ⟨m, hm, rfl⟩ := List.mem_map.mp hp
    exact (hg m hm).nl
theorem sum_le : ∀ {ms : List D}, (∀ m ∈ ms, Good m) → ((texts ms).map (·.length)).sum ≤ 20 * ms.length
  | [], _ => by simp [texts]
  | r :: rows, g => by
    have a := (g r List.mem_cons_self).len
    have b := sum_le fun x hx => g x (List.mem_cons_of_mem _ hx)
    simp only [texts, List.map_cons, List.sum_cons, List.length_cons] at b ⊢
    omega
theorem told_len {ms : List D} (hg : ∀ m ∈ ms, Good m) (h5 : ms.length ≤ 20) : (told ms).length ≤ 500 := by
  have a := StrLaws.join_length_le "\n" (texts ms)
  have e : told ms = Str.join "\n" (texts ms) := TL.join_eq "\n" (texts ms)
  rw [e]
  have b := sum_le hg
  have c : ((("\n" : String) : Str)).length = 1 := by decide +kernel
  have d : (texts ms).length = ms.length := List.length_map ..
  rw [c] at a
  omega
theorem joinL_lt : ∀ (ps : List (List Nat)), (∀ p ∈ ps, ∀ c ∈ p, c < 128) → ∀ c ∈ TL.joinL [10] ps, c < 128
  | [], _, c, hc => by cases hc
  | [p], h, c, hc => h p List.mem_cons_self c hc
  | p :: q :: r, h, c, hc => by
    have hc : c ∈ p ++ ([10] ++ TL.joinL [10] (q :: r)) := hc
    rcases List.mem_append.mp hc with hc | hc
    · exact h p List.mem_cons_self c hc
    · rcases List.mem_append.mp hc with hc | hc
      · rw [List.mem_singleton.mp hc]; decide
      · exact joinL_lt (q :: r) (fun x hx => h x (List.mem_cons_of_mem _ hx)) c hc
theorem told_lt {ms : List D} (hg : ∀ m ∈ ms, Good m) : ∀ c ∈ (told ms).cps.toList, c < 16 ^ 8 := by
  intro c hc
  have e : told ms = Str.join "\n" (texts ms) := TL.join_eq "\n" (texts ms)
  rw [e] at hc
  have hc : c ∈ TL.tl (Str.join "\n" (texts ms)) := hc
  rw [TL.tl_join, show TL.tl ("\n" : Str) = [10] by decide +kernel] at hc
  refine Nat.lt_trans (joinL_lt _ (fun p hp d hd => ?_) c hc) (by decide)
  obtain ⟨r, hr, rfl⟩ := List.mem_map.mp hp
  obtain ⟨m, hm, rfl⟩ := List.mem_map.mp hr
  exact (hg m hm).asc d hd
theorem told_nil : told [] = "" := by decide +kernel
theorem told_pos {ms : List D} (hne : ms ≠ []) (hg : ∀ m ∈ ms, Good m) : told ms ≠ "" := by
  intro z
  have e := split_told hne hg
  rw [z] at e
  have e2 : Txt.split "" "\n" = ([""] : List Str) := by decide +kernel
  rw [e2] at e
  cases ms with
  | nil => exact hne rfl
  | cons m ms =>
    have e : ([""] : List Str) = wr m :: texts ms := e
    injection e with e3 _
    have := (hg m List.mem_cons_self).pos
    rw [← e3] at this
    exact absurd this (by decide +kernel)
theorem join_ok {ms : List D} (hg : ∀ m ∈ ms, Good m) (h5 : ms.length ≤ 20) {h : Ob} {l : Nat} (hl : h[l]? = some (.lst (strD (texts ms)))) : mtD .join (.str "\n") [.ref l] h = .ok (.str (told ms)) h := by
  show (match itemsOf h (.ref l) with
    | some xs => match strsOf xs with
      | some ys => if ys.length ≤ 1000 ∧ ys.all (fun y => decide (y.length ≤ 1000)) ∧ (("\n" : Str)).length ≤ 10 then R.ok (D.str (Txt.join "\n" ys)) h else .bad
      | none => .bad
    | none => .bad) = _
  rw [items_ref hl]
  dsimp only
  rw [strs_of]
  dsimp only
  have d : (texts ms).length = ms.length := List.length_map ..
  rw [if_pos ⟨by omega, List.all_eq_true.mpr fun y hy => by
    obtain ⟨m, hm, rfl⟩ := List.mem_map.mp hy
    exact decide_eq_true (Nat.le_trans (hg m hm).len (by decide)), by decide +kernel⟩]
  rfl
/-! ### show_story -/
abbrev shBody : List S := [(.ifs (.not (.call "is_move" [(.v 2)])) [(.raise "BadStory" (.v 1))] [])]
def ShowEnd (os : Ob) (ds : List D) (i : Nat) (o : Option Nat) (r : RS) : Prop := match o with
  | some j => ∃ ρ1 g1, r = .exc "BadStory" (.int (1 + ((i + j : Nat) : Int))) ρ1 (os ++ g1)
  | none => ∃ y1 y2 g1, r = .ok (.nx [some (.tup ds), y1, y2]) (os ++ g1)
theorem show_loop {os : Ob} {ds : List D} : ∀ (rest : List D) (qs : List PyData) (bs : List Bool) (i : Nat) (g : Ob) (x1 x2 : Option D), ds.drop i = rest → Its os rest qs bs →
    ShowEnd os ds i (ff bs) (loopS (.enum (.items ds) 1) (.pair 1 2) (seqS ((ev Γ 109).s 9) shBody) rest.length i [some (.tup ds), x1, x2] (os ++ g))
  | [], [], [], i, g, x1, x2, hd, .nil => by
    have hge : ds.length ≤ i := by
      have := congrArg List.length hd
      rw [List.length_drop] at this
      simp at this
      omega
    refine ⟨x1, x2, g, loop_end rfl ?_⟩
    show (ds[i]?).map _ = none
    rw [List.getElem?_eq_none hge]
    rfl
  | d :: rest, _ :: qs, b :: bs, i, g, x1, x2, hd, .cons it r => by
    have hi : ds[i]? = some d := by
      have := congrArg List.head? hd
      rw [List.head?_drop] at this
      exact this
    have hd2 : ds.drop (i + 1) = rest := by
      have := congrArg List.tail hd
      rw [List.tail_drop] at this
      exact this
    have hget : (IV.enum (.items ds) 1).get (os ++ g) i = some (.tup [.int (1 + (i : Int)), d]) := by
      show (ds[i]?).map _ = _
      rw [hi]
      rfl
    obtain ⟨g1, ec⟩ := is_call (it.app (g := g))
    cases b with
    | false =>
      have eb : seqS ((ev Γ 109).s 9) shBody [some (.tup ds), some (.int (1 + (i : Int))), some d] (os ++ g) = .exc "BadStory" (.int (1 + (i : Int))) [some (.tup ds), some (.int (1 + (i : Int))), some d] ((os ++ g) ++ g1) :=
        ess_exc (es_ifT (x := .bl true) (ee_not (r := false) (ee_call (ea_cons (ee_v rfl) ea_nil) ec) rfl) rfl (ess_exc (es_raise (ee_v rfl))))
      have el := loop_exc (v := .enum (.items ds) 1) (tg := .pair 1 2) (m := rest.length) (ρ := [some (.tup ds), x1, x2]) rfl hget rfl eb
      show ShowEnd os ds i (some 0) _
      rw [List.append_assoc] at el
      exact ⟨_, _, el⟩
    | true =>
      have eb : seqS ((ev Γ 109).s 9) shBody [some (.tup ds), some (.int (1 + (i : Int))), some d] (os ++ g) = .ok (.nx [some (.tup ds), some (.int (1 + (i : Int))), some d]) (os ++ (g ++ g1)) := by
        rw [← List.append_assoc]
        exact ess_nx (es_ifF (x := .bl false) (ee_not (r := true) (ee_call (ea_cons (ee_v rfl) ea_nil) ec) rfl) rfl ess_nil) ess_nil
      have el := loop_nx (v := .enum (.items ds) 1) (tg := .pair 1 2) (m := rest.length) (ρ := [some (.tup ds), x1, x2]) rfl hget rfl eb
      have ih := show_loop rest qs bs (i + 1) (g ++ g1) (some (.int (1 + (i : Int)))) (some d) hd2 r
      show ShowEnd os ds i ((ff bs).map (· + 1)) _
      cases q : ff bs with
      | none =>
        rw [q] at ih
        obtain ⟨y1, y2, g2, e2⟩ := ih
        exact ⟨y1, y2, g2, el.trans e2⟩
      | some j =>
        rw [q] at ih
        obtain ⟨ρ1, g2, e2⟩ := ih
        refine ⟨ρ1, g2, ?_⟩
        rw [show i + (j + 1) = i + 1 + j by omega]
        exact el.trans e2
theorem show_texts {os : Ob} {l : Nat} {ds : List D} (hg : ∀ m ∈ ds, Good m) {x1 : Option D} : ∀ (rest : List D) (i : Nat) (acc : List Str) (h : Ob), ds.drop i = rest → (∃ g, h = os ++ g) → os.length ≤ l → h[l]? = some (.lst (strD acc)) → acc.length + rest.length ≤ 1000 →
    ∃ h1, loopC (.items ds) (.name 2) ((ev Γ 107).e 9 (.call "show_move" [(.v 2)])) l [some (.tup ds), x1, none] rest.length i h = .ok () h1 ∧ (∃ g, h1 = os ++ g) ∧ h1[l]? = some (.lst (strD (acc ++ texts rest)))
  | [], i, acc, h, hd, hos, hol, hl, hz => by
    have hge : ds.length ≤ i := by
      have := congrArg List.length hd
      rw [List.length_drop] at this
      simp at this
      omega
    refine ⟨h, loopC_end rfl ?_, hos, by rw [hl]; simp [texts]⟩
    show ds[i]? = none
    exact List.getElem?_eq_none hge
  | d :: rest, i, acc, h, hd, hos, hol, hl, hz => by
    have hi : ds[i]? = some d := by
      have := congrArg List.head? hd
      rw [List.head?_drop] at this
      exact this
    have hd2 : ds.drop (i + 1) = rest := by
      have := congrArg List.tail hd
      rw [List.tail_drop] at this
      exact this
    obtain ⟨g, ec⟩ := show_call1 (hg d (List.mem_of_getElem? hi)) h
    have e4 : (ev Γ 107).e 9 (.call "show_move" [(.v 2)]) [some (.tup ds), x1, some d] h = .ok (.str (wr d)) (h ++ g) := ee_call (ea_cons (ee_v rfl) ea_nil) ec
    have hacc : (strD acc).length < 100000 := by
      unfold strD
      rw [List.length_map]
      simp at hz
      omega
    have el := loopC_nx (v := .items ds) (tg := .name 2) (m := rest.length) (ρ := [some (.tup ds), x1, none]) rfl (show (IV.items ds).get h i = some d from hi) rfl e4 (get_app hl) hacc
    obtain ⟨g0, rfl⟩ := hos
    have hl3 : (((os ++ g0) ++ g).set l (.lst (strD acc ++ [.str (wr d)])))[l]? = some (.lst (strD (acc ++ [wr d]))) := by
      have : strD (acc ++ [wr d]) = strD acc ++ [.str (wr d)] := List.map_append ..
      rw [this]
      exact get_put (get_app hl)
    obtain ⟨h1, a1, a2, a3⟩ := show_texts hg (x1 := x1) rest (i + 1) (acc ++ [wr d]) _ hd2 (by
      refine ⟨(g0 ++ g).set (l - os.length) (.lst (strD acc ++ [.str (wr d)])), ?_⟩
      rw [List.append_assoc, List.set_append_right _ _ hol]) hol hl3 (by rw [List.length_append]; simp at hz ⊢; omega)
    exact ⟨h1, el.trans a1, a2, by rw [a3, List.append_assoc]; rfl⟩
/-- show_story(value) over its own heap -/
theorem show_run {os : Ob} {ds : List D} {qs : List PyData} {bs : List Bool} (i : Its os ds qs bs) (hn : ds.length ≤ 20) :
    match ff bs with
    | some j => ∃ g, doneS (seqS ((ev Γ 110).s 9) fn_show_story.body (startE fn_show_story [.tup ds])) os = .exc "BadStory" (.int (1 + (j : Int))) (os ++ g)
    | none => ∃ g, doneS (seqS ((ev Γ 110).s 9) fn_show_story.body (startE fn_show_story [.tup ds])) os = .ok (.str (told ds)) (os ++ g) := by
  have first : ∀ {ss : List S} {rs : RS}, seqS ((ev Γ 110).s 9) ss [some (.tup ds), none, none] os = rs →
      seqS ((ev Γ 110).s 9) ((.ifs (.not (.isi (.v 0) "tuple")) [(.raise "BadStory" (.c (.int 0)))] []) :: ss) [some (.tup ds), none, none] os = rs := by
    intro ss rs e
    exact ess_nx (es_ifF (x := .bl false) (ee_not (r := true) (ee_isi (ee_v rfl) (isi_plain (kd := "tuple") rfl)) rfl) rfl ess_nil) e
  have hit : ivE (ev Γ 109) 9 [some (.tup ds), none, none] (.enum (.v 0) 1) os = .ok (.enum (.items ds) 1) os := iv_enum (ee_v rfl) rfl
  have el := show_loop (os := os) (ds := ds) ds qs bs 0 [] none none List.drop_zero i
  cases q : ff bs with
  | some j =>
    rw [q] at el
    obtain ⟨ρ1, g1, e⟩ := el
    rw [List.append_nil, Nat.zero_add] at e
    exact ⟨g1, done_exc (first (ess_exc (es_for hit e)))⟩
  | none =>
    rw [q] at el
    obtain ⟨y1, y2, g1, e⟩ := el
    rw [List.append_nil] at e
    have hg : ∀ m ∈ ds, Good m := fun m hm => good_of ((i.all_mv q).1 m hm)
    obtain ⟨h2, a1, ⟨g2, a2⟩, a3⟩ := show_texts (os := os) (l := (os ++ g1).length) (ds := ds) hg (x1 := y1) ds 0 [] ((os ++ g1) ++ [.lst []]) List.drop_zero ⟨g1 ++ [.lst []], by rw [List.append_assoc]⟩ (by simp) (by simp [strD]) (by simp; omega)
    refine ⟨g2, done_rt (first (ess_nx (es_for hit e) (ess_rt (es_ret (ee_mt (ee_g (d := .str "\n") rfl) rfl (ea_cons (ee_lc (iv_over (ee_v rfl) rfl) a1) ea_nil) ?_)))))⟩
    rw [← a2]
    exact join_ok hg hn a3
/-- show_story(value) in its caller's heap -/
theorem show_call {h : Ob} {ds : List D} {qs : List PyData} {bs : List Bool} (i : Its h ds qs bs) (hn : ds.length ≤ 20) :
    match ff bs with
    | some j => ∃ g, callF Γ (ev Γ 110) 10 "show_story" [.tup ds] h = .exc "BadStory" (.int (1 + (j : Int))) (h ++ g)
    | none => ∃ g, callF Γ (ev Γ 110) 10 "show_story" [.tup ds] h = .ok (.str (told ds)) (h ++ g) := by
  obtain ⟨L, os, es, r1, r2, r3, r4, i1⟩ := i.handed (by omega)
  have hl : es.length = ds.length := by rw [← i1.len.1, i.len.1]
  have z := show_run i1 (by omega)
  cases q : ff bs with
  | some j =>
    rw [q] at z
    obtain ⟨g, e⟩ := z
    obtain ⟨g1, e1⟩ := sub_keepX (h := h) (ds := [.tup ds]) (m := fun es => doneS (seqS ((ev Γ 110).s 9) fn_show_story.body (startE fn_show_story es))) r1 r2 (r3 _) r4 e rfl
    exact ⟨g1, call_ok (fn := fn_show_story) (m := fun _ => M.fail) rfl rfl e1⟩
  | none =>
    rw [q] at z
    obtain ⟨g, e⟩ := z
    obtain ⟨g1, e1⟩ := sub_keep (h := h) (ds := [.tup ds]) (m := fun es => doneS (seqS ((ev Γ 110).s 9) fn_show_story.body (startE fn_show_story es))) r1 r2 (r3 _) r4 e rfl
    have he : es = ds := by
      have hr : refsDs [.tup ds] = [] := by
        have m1 := i.all_mv q
        show refsDs ds ++ [] = []
        rw [List.append_nil]
        have : ∀ {ms : List D}, (∀ m ∈ ms, m ∈ moves) → refsDs ms = [] := by
          intro ms
          induction ms with
          | nil => intro _; rfl
          | cons m ms ih =>
            intro hm
            show refsD m ++ refsDs ms = []
            rw [(good_of (hm m List.mem_cons_self)).rf, ih fun x hx => hm x (List.mem_cons_of_mem _ hx)]
            rfl
        exact this m1.1
      rw [renDs_id _ _ hr] at r4
      injection r4 with r4
      injection r4 with r4
      injection r4 with r4
      exact r4.symm
    rw [he] at e1
    exact ⟨g1, call_ok (fn := fn_show_story) (m := fun _ => M.fail) rfl rfl e1⟩
end K88
namespace K88
open PySem PySem.Spec L2 MP
/-! ### read_story -/
abbrev sBody : List S := [(.asg 4 (.call "move_in" [(.v 3)])), (.ifs (.cmp .is_ (.v 4) (.c .non)) [(.raise "BadText" (.v 2))] []), (.ex (.mt .append (.v 1) [(.v 4)]))]
theorem move_not_non {d : D} (h : d ∈ moves) : isNon d = false := by
  have z : (moves.all fun d => !isNon d) = true := by decide +kernel
  have := List.all_eq_true.mp z d h
  simpa using this
theorem read_loop {ms : List D} (hm : ∀ m ∈ ms, m ∈ moves) {l f : Nat} (hlf : l ≠ f) : ∀ (rest : List D) (i : Nat) (acc : List D) (x0 x2 x3 x4 : Option D) (h : Ob), ms.drop i = rest → h[l]? = some (.lst (strD (texts ms))) → h[f]? = some (.lst acc) → acc.length + rest.length ≤ 1000 →
    ∃ y2 y3 y4 h1, loopS (.enum (.at_ l) 1) (.pair 2 3) (seqS ((ev Γ 107).s 11) sBody) rest.length i [x0, some (.ref f), x2, x3, x4] h = .ok (.nx [x0, some (.ref f), y2, y3, y4]) h1 ∧ h1[f]? = some (.lst (acc ++ rest))
  | [], i, acc, x0, x2, x3, x4, h, hd, hl, hf, hz => by
    have hge : ms.length ≤ i := by
      have := congrArg List.length hd
      rw [List.length_drop] at this
      simp at this
      omega
    have hget : (IV.enum (.at_ l) 1).get h i = none := by
      show ((IV.at_ l).get h i).map _ = none
      rw [at_getP hl, List.getElem?_eq_none (by unfold strD texts; rw [List.length_map, List.length_map]; exact hge)]
      rfl
    exact ⟨_, _, _, h, loop_end (at_ok hl) hget, by rw [hf]; simp⟩
  | m :: rest, i, acc, x0, x2, x3, x4, h, hd, hl, hf, hz => by
    have hi : ms[i]? = some m := by
      have := congrArg List.head? hd
      rw [List.head?_drop] at this
      exact this
    have hd2 : ms.drop (i + 1) = rest := by
      have := congrArg List.tail hd
      rw [List.tail_drop] at this
      exact this
    have hmem := hm m (List.mem_of_getElem? hi)
    have G : Good m := good_of hmem
    have hget : (IV.enum (.at_ l) 1).get h i = some (.tup [.int (1 + (i : Int)), .str (wr m)]) := by
      show ((IV.at_ l).get h i).map _ = _
      rw [at_getP hl]
      unfold strD texts
      rw [List.getElem?_map, List.getElem?_map, hi]
      rfl
    obtain ⟨g, ec⟩ := mvi_call G h
    have e1 : (ev Γ 107).s 11 (.asg 4 (.call "move_in" [(.v 3)])) [x0, some (.ref f), some (.int (1 + (i : Int))), some (.str (wr m)), x4] h = .ok (.nx [x0, some (.ref f), some (.int (1 + (i : Int))), some (.str (wr m)), some m]) (h ++ g) :=
      es_asg (ee_call (ea_cons (ee_v rfl) ea_nil) ec)
    have ecmp : (ev Γ 106).e 11 (.cmp .is_ (.v 4) (.c .non)) [x0, some (.ref f), some (.int (1 + (i : Int))), some (.str (wr m)), some m] (h ++ g) = .ok (.bl false) (h ++ g) := by
      rw [← move_not_non hmem]
      exact ee_cmp (ee_v rfl) ee_c rfl
    have hf2 : (h ++ g)[f]? = some (.lst acc) := get_app hf
    have eb : seqS ((ev Γ 107).s 11) sBody [x0, some (.ref f), some (.int (1 + (i : Int))), some (.str (wr m)), x4] h = .ok (.nx [x0, some (.ref f), some (.int (1 + (i : Int))), some (.str (wr m)), some m]) ((h ++ g).set f (.lst (acc ++ [m]))) :=
      ess_nx e1 (ess_nx (es_ifF ecmp rfl ess_nil) (ess_nx (es_ex (ee_mt (ee_v rfl) (by show (listOf (h ++ g) (.ref f)).isSome = true; show (match (h ++ g)[f]? with | some (.lst xs) => some xs | _ => none).isSome = true; rw [hf2]; rfl) (ea_cons (ee_v rfl) ea_nil) (app_ok hf2 (by omega)))) ess_nil))
    have el := loop_nx (v := .enum (.at_ l) 1) (tg := .pair 2 3) (m := rest.length) (ρ := [x0, some (.ref f), x2, x3, x4]) (at_ok hl) hget rfl eb
    obtain ⟨y2, y3, y4, h1, a1, a2⟩ := read_loop hm hlf rest (i + 1) (acc ++ [m]) x0 (some (.int (1 + (i : Int)))) (some (.str (wr m))) (some m) ((h ++ g).set f (.lst (acc ++ [m]))) hd2 (get_set (get_app hl) (Ne.symm hlf)) (get_put hf2) (by rw [List.length_append]; simp at hz ⊢; omega)
    exact ⟨y2, y3, y4, h1, el.trans a1, by rw [a2, List.append_assoc]; rfl⟩
theorem read_run {ms : List D} (hm : ∀ m ∈ ms, m ∈ moves) (h5 : ms.length ≤ 20) : ∃ g, doneS (seqS ((ev Γ 108).s 11) fn_read_story.body (startE fn_read_story [.str (told ms)])) [] = .ok (.tup ms) g := by
  have hg : ∀ m ∈ ms, Good m := fun m h => good_of (hm m h)
  have hlen := told_len hg h5
  have first : ∀ {ss : List S} {rs : RS}, seqS ((ev Γ 108).s 11) ss [some (.str (told ms)), some (.ref 0), none, none, none] [.lst []] = rs →
      seqS ((ev Γ 108).s 11) ((.ifs (.not (.isi (.v 0) "str")) [(.raise "BadText" (.c (.int 0)))] []) :: (.asg 1 (.lst [])) :: ss) [some (.str (told ms)), none, none, none, none] [] = rs := by
    intro ss rs e
    exact ess_nx (es_ifF (x := .bl false) (ee_not (r := true) (ee_isi (ee_v rfl) (isi_plain (kd := "str") rfl)) rfl) rfl ess_nil) (ess_nx (es_asg (ee_lst ea_nil (by decide))) e)
  by_cases hne : ms = []
  · subst hne
    have hcmp : cmpB .ne [O.lst []] (.str (told [])) (.str "") = some false := by
      show some (!decide (told [] = "")) = _
      rw [decide_eq_true told_nil]
      rfl
    refine ⟨_, done_rt (first (ess_nx (es_for (iv_enum (ee_iteF (ee_cmp (ee_v rfl) ee_c hcmp) rfl (ee_lst ea_nil (by decide))) rfl) (loop_end (h := [.lst [], .lst []]) rfl rfl)) (ess_rt (es_ret (ee_bi (ea_cons (ee_v rfl) ea_nil) rfl)))))⟩
  · have hs := split_told hne hg
    have hcmp : cmpB .ne [O.lst []] (.str (told ms)) (.str "") = some true := by
      show some (!decide (told ms = "")) = _
      rw [decide_eq_false (told_pos hne hg)]
      rfl
    have hsplit : mtD .split (.str (told ms)) [.str "\n"] [O.lst []] = .ok (.ref 1) [.lst [], .lst (strD (texts ms))] := by
      show (if ((("\n" : Str)).length == 0) = false ∧ (told ms).length + 2 ≤ 100000 then alloc (.lst ((Txt.split (told ms) "\n").map .str)) [O.lst []] else .bad) = _
      rw [if_pos ⟨by decide +kernel, by omega⟩, hs]
      rfl
    have hit : ivE (ev Γ 107) 11 [some (.str (told ms)), some (.ref 0), none, none, none] (.enum (.ite (.cmp .ne (.v 0) (.c (.str ""))) (.mt .split (.v 0) [(.g "FEED")]) (.lst [])) 1) [.lst []] = .ok (.enum (.at_ 1) 1) [.lst [], .lst (strD (texts ms))] :=
      iv_enum (ee_iteT (ee_cmp (ee_v rfl) ee_c hcmp) rfl (ee_mt (ee_v rfl) rfl (ea_cons (ee_g rfl) ea_nil) hsplit)) rfl
    have hl : (IV.enum (.at_ 1) 1).len [.lst [], .lst (strD (texts ms))] = ms.length := by
      show (strD (texts ms)).length = _
      unfold strD texts
      rw [List.length_map, List.length_map]
    obtain ⟨y2, y3, y4, h1, e, e2⟩ := read_loop hm (l := 1) (f := 0) (by decide) ms 0 [] (some (.str (told ms))) none none none [.lst [], .lst (strD (texts ms))] List.drop_zero rfl rfl (by simp; omega)
    rw [← hl] at e
    refine ⟨h1, done_rt (first (ess_nx (es_for hit e) (ess_rt (es_ret (ee_bi (ea_cons (ee_v rfl) ea_nil) ?_)))))⟩
    show (match itemsOf h1 (.ref 0) with | some xs => R.ok (D.tup xs) h1 | none => .bad) = _
    rw [items_ref e2]
    rfl
theorem refs_moves : ∀ {ms : List D}, (∀ m ∈ ms, m ∈ moves) → refsDs ms = []
  | [], _ => rfl
  | m :: ms, hm => by
    show refsD m ++ refsDs ms = []
    rw [(good_of (hm m List.mem_cons_self)).rf, refs_moves fun x hx => hm x (List.mem_cons_of_mem _ hx)]
    rfl
theorem read_call {ms : List D} (hm : ∀ m ∈ ms, m ∈ moves) (h5 : ms.length ≤ 20) (h : Ob) : ∃ g, callF Γ (ev Γ 108) 12 "read_story" [.str (told ms)] h = .ok (.tup ms) (h ++ g) := by
  obtain ⟨g0, e0⟩ := read_run hm h5
  obtain ⟨g1, e1⟩ := sub0 (h := h) (ds := [.str (told ms)]) (m := fun es => doneS (seqS ((ev Γ 108).s 11) fn_read_story.body (startE fn_read_story es))) rfl e0 (show refsDs ms = [] from refs_moves hm)
  exact ⟨g1, call_ok (fn := fn_read_story) (m := fun _ => M.fail) rfl rfl e1⟩
/-! ### _law_heard -/
theorem ee_heardT {n k : Nat} {body : E} {ρ : Env'} {h h1 : Ob} {x : D} (e : (ev Γ (n + 10)).e k body ρ h = .ok x h1) : (ev Γ (n + 11)).e (k + 2) (.heard "_law_heard" body) ρ h = .ok (.tup [.str "told", x]) h1 := by
  have z : doneS (seqS ((ev Γ (n + 10)).s (k + 1)) hd__law_heard.rest [none, some .non, some x, none, none]) h1 = .ok (.tup [.str "told", x]) h1 :=
    done_rt (ess_rt (es_ifT (x := .bl true) (ee_cmp (ee_v rfl) ee_c rfl) rfl (ess_rt (es_ret (ee_tup (ea_cons ee_c (ea_cons (ee_v rfl) ea_nil)) (by show 2 ≤ 1000; decide))))))
  show (match (ev Γ (n + 10)).e k body ρ h with
    | .ok x h1 => okD (doneS (seqS ((ev Γ (n + 10)).s (k + 1)) hd__law_heard.rest ((startH hd__law_heard).set hd__law_heard.ib (some x))) h1)
    | .exc c v h1 => _
    | .bad => _) = _
  rw [e]
  show okD (doneS (seqS ((ev Γ (n + 10)).s (k + 1)) hd__law_heard.rest [none, some .non, some x, none, none]) h1) = _
  rw [z]
  rfl
theorem ee_heardB {n k : Nat} {body : E} {ρ : Env'} {h h1 : Ob} {i : Int} (e : (ev Γ (n + 10)).e k body ρ h = .exc "BadStory" (.int i) h1) : (ev Γ (n + 11)).e (k + 2) (.heard "_law_heard" body) ρ h = .ok (.tup [.str "bad", .int i]) (h1 ++ [.exc "BadStory" (.int i)]) := by
  have hp : (h1 ++ [O.exc "BadStory" (.int i)])[h1.length]? = some (.exc "BadStory" (.int i)) := by simp
  have z1 : seqS ((ev Γ (n + 10)).s (k + 1)) hd__law_heard.suite [none, some .non, some .non, some (.ref h1.length), none] (h1 ++ [.exc "BadStory" (.int i)]) = .ok (.nx [none, some (.ref h1.length), some .non, some (.ref h1.length), none]) (h1 ++ [.exc "BadStory" (.int i)]) :=
    ess_nx (es_asg (ee_v rfl)) ess_nil
  have z2 : doneS (seqS ((ev Γ (n + 10)).s (k + 1)) hd__law_heard.rest [none, some (.ref h1.length), some .non, none, none]) (h1 ++ [.exc "BadStory" (.int i)]) = .ok (.tup [.str "bad", .int i]) (h1 ++ [.exc "BadStory" (.int i)]) :=
    done_rt (ess_nx (es_ifF (x := .bl false) (ee_cmp (ee_v rfl) ee_c rfl) rfl ess_nil)
      (ess_nx (es_asg (ee_andT (ee_isi (ee_v rfl) (isi_exc hp rfl)) (by rfl) (ee_isi (ee_v rfl) (isi_exc hp rfl))))
      (ess_rt (es_ret (ee_iteT (ee_v rfl) (by rfl) (ee_tup (ea_cons ee_c (ea_cons (ee_fld (ee_v rfl) hp rfl) ea_nil)) (by show 2 ≤ 1000; decide)))))))
  show heardM (fun c => Γ.sub.lookup c) hd__law_heard ((ev Γ (n + 10)).e k body ρ) (fun ss ρ => seqS ((ev Γ (n + 10)).s (k + 1)) ss ρ) h = _
  unfold heardM
  rw [e]
  have hs : Γ.sub.lookup ("BadStory" : Str) = some ["BadStory", "LateError", "ValueError"] := rfl
  dsimp only
  rw [hs]
  dsimp only
  rw [if_pos (by decide)]
  show (match seqS ((ev Γ (n + 10)).s (k + 1)) hd__law_heard.suite [none, some .non, some .non, some (.ref h1.length), none] (h1 ++ [.exc "BadStory" (.int i)]) with
    | .ok (.nx ρ2) h2 => okD (doneS (seqS ((ev Γ (n + 10)).s (k + 1)) hd__law_heard.rest (ρ2.set hd__law_heard.ie none)) h2)
    | _ => .bad) = _
  rw [z1]
  show okD (doneS (seqS ((ev Γ (n + 10)).s (k + 1)) hd__law_heard.rest [none, some (.ref h1.length), some .non, none, none]) (h1 ++ [.exc "BadStory" (.int i)])) = _
  rw [z2]
  rfl
/-! ### repr -/
theorem ee_reprD {n k : Nat} {a : E} {ρ : Env'} {h h1 : Ob} {d : D} {q : PyData} (e1 : (ev Γ n).e k a ρ h = .ok d h1) (e2 : pdr h1 40 d = some q) (s0 : isSeq d = true) (s1 : q.showable = true) (s2 : q.depth ≤ 64) (s3 : q.shown.length ≤ 100000) : (ev Γ (n + 1)).e k (.reprD a) ρ h = .ok (.str q.shown) h1 := by
  rw [evE]
  refine (bind_ok e1).trans ?_
  show (match pdr h1 40 d with
    | some q => if (isSeq d && q.showable && decide (q.depth ≤ 64) && decide (q.shown.length ≤ 100000)) = true then R.ok (D.str q.shown) h1 else .bad
    | none => .bad) = _
  rw [e2]
  dsimp only
  rw [s0, s1, decide_eq_true s2, decide_eq_true s3]
  rfl
/-- what is due -/
def dueOf (ds : List D) (o : Option Nat) : D := match o with
  | some i => .tup [.str "bad", .int (1 + (i : Int))]
  | none => .tup [.str "told", .str (told ds)]
def dueQ (ds : List D) (o : Option Nat) : PyData := match o with
  | some i => .tuple [.str "bad", .int (1 + (i : Int))]
  | none => .tuple [.str "told", .str (told ds)]
theorem due_pdr (h : Ob) (k : Nat) (ds : List D) (o : Option Nat) : pdr h (k + 1) (dueOf ds o) = some (dueQ ds o) := by
  cases o with
  | none => cases k <;> rfl
  | some i => cases k <;> rfl
theorem bad_len {i : Nat} (hi : i ≤ 20) : (PyData.tuple [.str "bad", .int (1 + (i : Int))]).shown.length ≤ 100 ∧ (PyData.tuple [.str "bad", .int (1 + (i : Int))]).showable = true := by
  have z : ((List.range 21).all fun i => decide ((PyData.tuple [.str "bad", .int (1 + (i : Int))]).shown.length ≤ 100) && (PyData.tuple [.str "bad", .int (1 + (i : Int))]).showable) = true := by decide +kernel
  have := List.all_eq_true.mp z i (List.mem_range.mpr (by omega))
  rw [Bool.and_eq_true, decide_eq_true_eq] at this
  exact this
theorem told_repr {ms : List D} (hg : ∀ m ∈ ms, Good m) (h5 : ms.length ≤ 20) : (PyData.tuple [.str "told", .str (told ms)]).shown.length ≤ 6000 := by
  have a := told_len hg h5
  have b := StrLaws.reprText_len (told ms) (told_lt hg)
  have c : (reprText "told").length ≤ 10 := by decide +kernel
  simp only [PyData.shown, PyData.shownAll]
  have z := tupleText_len_le [reprText "told", reprText (told ms)]
  simp only [List.map_cons, List.map_nil, List.sum_cons, List.sum_nil, List.length_cons, List.length_nil] at z
  omega
theorem due_sm {ds : List D} {o : Option Nat} (h1 : ∀ i, o = some i → i ≤ 20) (h2 : o = none → (∀ m ∈ ds, Good m) ∧ ds.length ≤ 20) : (dueQ ds o).showable = true ∧ (dueQ ds o).depth ≤ 2 ∧ (dueQ ds o).shown.length ≤ 6000 := by
  cases o with
  | none =>
    obtain ⟨a, b⟩ := h2 rfl
    refine ⟨?_, ?_, told_repr a b⟩
    · simp only [dueQ, PyData.showable, PyData.showableAll, Bool.and_self]
    · simp only [dueQ, PyData.depth, PyData.depthAll]; omega
  | some i =>
    obtain ⟨a, b⟩ := bad_len (h1 i rfl)
    refine ⟨b, ?_, Nat.le_trans a (by decide)⟩
    simp only [dueQ, PyData.depth, PyData.depthAll]; omega
theorem two_sm {q : PyData} (a : q.showable = true) (b : q.depth ≤ 20) (c : q.shown.length ≤ 10000) : (PyData.list [q, q]).showable = true ∧ (PyData.list [q, q]).depth ≤ 64 ∧ (PyData.list [q, q]).shown.length ≤ 100000 := by
  refine ⟨?_, ?_, ?_⟩
  · simp only [PyData.showable, PyData.showableAll, a, Bool.and_self]
  · simp only [PyData.depth, PyData.depthAll]; omega
  · simp only [PyData.shown, PyData.shownAll]
    have z := listText_len_le [q.shown, q.shown]
    simp only [List.map_cons, List.map_nil, List.sum_cons, List.sum_nil, List.length_cons, List.length_nil] at z
    omega
theorem two_pdr {h : Ob} {l : Nat} {d : D} {q : PyData} (e : h[l]? = some (.lst [d, d])) (hd : pdr h 39 d = some q) : pdr h 40 (.ref l) = some (.list [q, q]) := by
  show (match h[l]? with | some (.lst xs) => (pdAll (pdr h 39) xs).map PyData.list | some (.dct []) => some (.dict []) | _ => none) = _
  rw [e]
  show (match pdr h 39 d with | none => none | some p => match (match pdr h 39 d with | none => none | some p => some [p]) with | none => none | some ps => some (p :: ps)).map PyData.list = _
  rw [hd]
  rfl
theorem Its.lst_pdr {h : Ob} {ds : List D} {qs : List PyData} {bs : List Bool} (i : Its h ds qs bs) {l : Nat} (e : h[l]? = some (.lst ds)) : pdr h 40 (.ref l) = some (.list qs) := by
  show (match h[l]? with | some (.lst xs) => (pdAll (pdr h 39) xs).map PyData.list | some (.dct []) => some (.dict []) | _ => none) = _
  rw [e]
  dsimp only
  rw [i.data 35]
  rfl
theorem Its.lst_sm {h : Ob} {ds : List D} {qs : List PyData} {bs : List Bool} (i : Its h ds qs bs) (hn : ds.length ≤ 20) : (PyData.list qs).showable = true ∧ (PyData.list qs).depth ≤ 64 ∧ (PyData.list qs).shown.length ≤ 100000 := by
  obtain ⟨a, b, c, d⟩ := i.sm
  refine ⟨?_, ?_, ?_⟩
  · simp only [PyData.showable, a]
  · simp only [PyData.depth]; omega
  · simp only [PyData.shown]
    have z := listText_len_le (PyData.shownAll qs)
    omega
theorem Its.tup_pdr {h : Ob} {ds : List D} {qs : List PyData} {bs : List Bool} (i : Its h ds qs bs) : pdr h 39 (.tup ds) = some (.tuple qs) := by
  show (pdAll (pdr h 38) ds).map PyData.tuple = _
  rw [i.data 34]
  rfl
theorem Its.tup_sm {h : Ob} {ds : List D} {qs : List PyData} {bs : List Bool} (i : Its h ds qs bs) (hn : ds.length ≤ 20) : (PyData.tuple qs).showable = true ∧ (PyData.tuple qs).depth ≤ 20 ∧ (PyData.tuple qs).shown.length ≤ 10000 := by
  obtain ⟨a, b, c, d⟩ := i.sm
  refine ⟨?_, ?_, ?_⟩
  · simp only [PyData.showable, a]
  · simp only [PyData.depth]; omega
  · simp only [PyData.shown]
    have z := tupleText_len_le (PyData.shownAll qs)
    omega
end K88
namespace K88
open PySem PySem.Spec L2 MP
abbrev sA : S := (.par 1 2 (.lc (.call "_law_move" [(.v 0)]) (.name 3) (.rng (.call "_law_take" [(.v 0), (.c (.int 9))])) [3]) (.c (.int 0)))
abbrev sB : S := (.ifs (.cmp .eq (.call "_law_take" [(.v 0), (.c (.int 3))]) (.c (.int 0))) [(.asg 4 (.call "_law_take" [(.v 0), (.bin .add (.bi .len [(.v 1)]) (.c (.int 1)))])), (.par 1 2 (.bin .add (.bin .add (.sl (.v 1) none (some (.v 4))) (.lst [(.call "_law_none" [(.v 0)])])) (.sl (.v 1) (some (.v 4)) none)) (.bin .add (.v 4) (.c (.int 1)))), (.asg 1 (.bin .add (.v 1) (.bin .mul (.lst [(.call "_law_none" [(.v 0)])]) (.call "_law_take" [(.v 0), (.c (.int 2))]))))] [])
abbrev sC : S := (.par 5 6 (.bi .tuple [(.v 1)]) (.reprD (.v 1)))
abbrev sD : S := (.asg 7 (.ite (.cmp .gt (.v 2) (.c (.int 0))) (.tup [(.c (.str "bad")), (.v 2)]) (.tup [(.c (.str "told")), (.mt .join (.c (.str "\n")) [(.lc (.call "_law_written" [(.v 8)]) (.name 8) (.over (.v 1)) [8])])])))
abbrev sE : S := (.asg 9 (.lst [(.heard "_law_heard" (.call "show_story" [(.v 5)]))]))
abbrev sF : S := (.ex (.mt .append (.v 9) [(.heard "_law_heard" (.call "show_story" [(.v 5)]))]))
abbrev sG : S := (.ifs (.cmp .ne (.reprD (.v 9)) (.reprD (.lst [(.v 7), (.v 7)]))) [(.ret (.c (.bl false)))] [])
abbrev sH : S := (.ifs (.and (.cmp .eq (.v 2) (.c (.int 0))) (.cmp .ne (.reprD (.lst [(.call "read_story" [(.ix (.v 7) (.c (.int 1)))]), (.call "read_story" [(.ix (.v 7) (.c (.int 1)))])])) (.reprD (.lst [(.v 5), (.v 5)])))) [(.ret (.c (.bl false)))] [])
abbrev sI : S := (.asg 10 (.call "_law_of" [(.v 0), (.lst [(.c .non), (.v 1), (.c (.str "over")), (.c (.int 0)), .dct0, (.c (.bl true)), (.c (.str "deed a"))])]))
abbrev sJ : S := (.ret (.and (.cmp .eq (.reprD (.heard "_law_heard" (.call "show_story" [(.v 10)]))) (.reprD (.tup [(.c (.str "bad")), (.c (.int 0))]))) (.cmp .eq (.reprD (.v 1)) (.v 6))))
theorem right_body : fn__law_right.body = [sA, sB, sC, sD, sE, sF, sG, sH, sI, sJ] := rfl
theorem iv_at {h : Ob} {l : Nat} {xs : List D} (e : h[l]? = some (.lst xs)) : ivOf (.ref l) h = .ok (.at_ l) h := by
  show (match h[l]? with | some (.lst _) => R.ok (IV.at_ l) h | _ => .bad) = _
  rw [e]
theorem bo_addL {h : Ob} {l m : Nat} {xs ys : List D} (e1 : h[l]? = some (.lst xs)) (e2 : h[m]? = some (.lst ys)) (e3 : xs.length + ys.length ≤ 100000) : bopD .add (.ref l) (.ref m) h = .ok (.ref h.length) (h ++ [.lst (xs ++ ys)]) := by
  show (match h[l]?, h[m]? with
    | some (.lst xs), some (.lst ys) => if xs.length + ys.length ≤ 100000 then alloc (.lst (xs ++ ys)) h else .bad
    | _, _ => .bad) = _
  rw [e1, e2]
  dsimp only
  rw [if_pos e3]
  rfl
theorem bo_mulL {h : Ob} {l : Nat} {xs : List D} {k : Int} (e1 : h[l]? = some (.lst xs)) (e3 : 0 ≤ k ∧ k < 1000 ∧ xs.length * k.toNat ≤ 100000) : bopD .mul (.ref l) (.int k) h = .ok (.ref h.length) (h ++ [.lst (List.replicate k.toNat xs).flatten]) := by
  show (match h[l]? with
    | some (.lst xs) => if 0 ≤ k ∧ k < 1000 ∧ xs.length * k.toNat ≤ 100000 then alloc (.lst (List.replicate k.toNat xs).flatten) h else .bad
    | _ => .bad) = _
  rw [e1]
  dsimp only
  rw [if_pos e3]
  rfl
theorem sl_hi {h : Ob} {l : Nat} {xs : List D} (e : h[l]? = some (.lst xs)) {k : Nat} (hk : k ≤ xs.length) : slD (.ref l) none (some (k : Int)) h = .ok (.ref h.length) (h ++ [.lst (xs.take k)]) := by
  have z : cutD xs none (some (k : Int)) = xs.take k := by
    unfold cutD
    rw [HT.sIx_nat, HT.sIx_none, List.drop_zero, Nat.sub_zero, Nat.min_eq_left hk]
  show (match h[l]? with
    | some (.lst xs) => alloc (.lst (cutD xs none (some (k : Int)))) h
    | _ => .bad) = _
  rw [e]
  dsimp only
  rw [z]
  rfl
theorem sl_lo {h : Ob} {l : Nat} {xs : List D} (e : h[l]? = some (.lst xs)) {k : Nat} (hk : k ≤ xs.length) : slD (.ref l) (some (k : Int)) none h = .ok (.ref h.length) (h ++ [.lst (xs.drop k)]) := by
  have z : cutD xs (some (k : Int)) none = xs.drop k := by
    unfold cutD
    rw [HT.sIx_nat, HT.sIx_none, Nat.min_eq_left hk]
    exact List.take_of_length_le (by rw [List.length_drop]; omega)
  show (match h[l]? with
    | some (.lst xs) => alloc (.lst (cutD xs (some (k : Int)) none)) h
    | _ => .bad) = _
  rw [e]
  dsimp only
  rw [z]
  rfl
theorem opt_some {n k : Nat} {b : E} {ρ : Env'} {h h1 : Ob} {u : Int} (e : (ev Γ n).e k b ρ h = .ok (.int u) h1) : optM (fun e => (ev Γ n).e k e ρ) (some b) h = .ok (some u) h1 := (bind_ok e).trans rfl
theorem ee_slHi {n k : Nat} {a b : E} {ρ : Env'} {h h1 h2 h3 : Ob} {x y : D} {u : Int} (e1 : (ev Γ n).e k a ρ h = .ok x h1) (e2 : (ev Γ n).e k b ρ h1 = .ok (.int u) h2) (e3 : slD x none (some u) h2 = .ok y h3) : (ev Γ (n + 1)).e k (.sl a none (some b)) ρ h = .ok y h3 := by
  rw [evE]
  refine (bind_ok e1).trans ((bind_ok (u := (none : Option Int)) (h1 := h1) rfl).trans ((bind_ok (opt_some e2)).trans e3))
theorem ee_slLo {n k : Nat} {a b : E} {ρ : Env'} {h h1 h2 h3 : Ob} {x y : D} {u : Int} (e1 : (ev Γ n).e k a ρ h = .ok x h1) (e2 : (ev Γ n).e k b ρ h1 = .ok (.int u) h2) (e3 : slD x (some u) none h2 = .ok y h3) : (ev Γ (n + 1)).e k (.sl a (some b) none) ρ h = .ok y h3 := by
  rw [evE]
  refine (bind_ok e1).trans ((bind_ok (opt_some e2)).trans ((bind_ok (u := (none : Option Int)) (h1 := h2) rfl).trans e3))
theorem keep_pot {h g : Ob} {a b c a1 b1 c1 : Int} (h0 : h[0]? = some (pot a b c)) : ∀ (l : Nat) (o : O), LeafO o → h[l]? = some o → (h.set 0 (pot a1 b1 c1) ++ g)[l]? = some o := fun l o ho e => by
  refine get_app (get_set e fun z => ?_)
  subst z
  rw [h0] at e
  cases e
  exact not_leaf ho
/-- the road as it lies -/
structure Road (h : Ob) (l1 : Nat) (ds : List D) (qs : List PyData) (bs : List Bool) : Prop where
  at1 : h[l1]? = some (.lst ds)
  its : Its h ds qs bs
  n : ds.length ≤ 20
  l0 : l1 ≠ 0
theorem Road.app {h g : Ob} {l1 : Nat} {ds : List D} {qs : List PyData} {bs : List Bool} (r : Road h l1 ds qs bs) : Road (h ++ g) l1 ds qs bs := ⟨get_app r.at1, r.its.app, r.n, r.l0⟩
theorem Road.pot {h g : Ob} {l1 : Nat} {ds : List D} {qs : List PyData} {bs : List Bool} {a b c a1 b1 c1 : Int} (r : Road h l1 ds qs bs) (h0 : h[0]? = some (pot a b c)) : Road (h.set 0 (K88.pot a1 b1 c1) ++ g) l1 ds qs bs := ⟨get_app (get_set r.at1 (Ne.symm r.l0)), r.its.mono (keep_pot h0), r.n, r.l0⟩
theorem moves_loop {b : Int} {l : Nat} {its : List D} (hl0 : l ≠ 0) : ∀ (m i : Nat) (B a c : Int) (acc : List D) (h : Ob), i + m = its.length → h[0]? = some (pot a b c) → Pot B b c → B + 3 * m ≤ 1000000 → h[l]? = some (.lst acc) → acc.length + m ≤ 1000 →
    ∃ ms a1 c1 h1, loopC (.items its) (.name 3) ((ev Γ 112).e 12 (.call "_law_move" [(.v 0)])) l [some (.ref 0), none, none, none, none, none, none, none, none, none, none] m i h = .ok () h1 ∧ h1[0]? = some (pot a1 b c1) ∧ Pot (B + 3 * m) b c1 ∧ h1[l]? = some (.lst (acc ++ ms)) ∧ ms.length = m ∧ ∀ r ∈ ms, r ∈ moves
  | 0, i, B, a, c, acc, h, hi, h0, P, hB, hl, hz => by
    refine ⟨[], a, c, h, loopC_end rfl ?_, h0, P.mono (by simp), by rw [List.append_nil]; exact hl, rfl, fun r hr => by cases hr⟩
    show its[i]? = none
    exact List.getElem?_eq_none (by omega)
  | m + 1, i, B, a, c, acc, h, hi, h0, P, hB, hl, hz => by
    have hlt : i < its.length := by omega
    obtain ⟨x, a1, c1, g, e, hx, b0, b1⟩ := move_call 61 8 (a := a) P (by omega) h0
    have e4 : (ev Γ 112).e 12 (.call "_law_move" [(.v 0)]) [some (.ref 0), none, none, some its[i], none, none, none, none, none, none, none] h = .ok x (h.set 0 (pot a1 b c1) ++ g) := ee_call (ea_cons (ee_v rfl) ea_nil) e
    have hl2 : (h.set 0 (pot a1 b c1) ++ g)[l]? = some (.lst acc) := get_app (get_set hl (Ne.symm hl0))
    have h02 : (h.set 0 (pot a1 b c1) ++ g)[0]? = some (pot a1 b c1) := get_app (get_put h0)
    have el := loopC_nx (v := .items its) (tg := .name 3) (m := m) (ρ := [some (.ref 0), none, none, none, none, none, none, none, none, none, none]) (h := h) rfl (List.getElem?_eq_getElem hlt : its[i]? = some its[i]) rfl e4 hl2 (by omega)
    have P1 : Pot (B + 3) b c1 := ⟨P.b0, P.b1, b0, by have := P.c1; omega⟩
    obtain ⟨ms, a2, c2, h2, r1, r2, r3, r4, r5, r6⟩ := moves_loop (its := its) hl0 m (i + 1) (B + 3) a1 c1 (acc ++ [x]) _ (by omega) (get_set h02 hl0) P1 (by omega) (get_put hl2) (by rw [List.length_append]; simp; omega)
    refine ⟨x :: ms, a2, c2, h2, el.trans r1, r2, r3.mono (by omega), ?_, by rw [List.length_cons, r5], fun r hr => ?_⟩
    · rw [r4, List.append_assoc]
      rfl
    · rcases List.mem_cons.mp hr with rfl | hr
      · exact hx
      · exact r6 r hr
theorem st_A {B a b c : Int} (P : Pot B b c) (hB : B + 40 ≤ 1000000) : ∃ ms l1 a1 c1 h1, (ev Γ 114).s 12 sA [some (.ref 0), none, none, none, none, none, none, none, none, none, none] [pot a b c] = .ok (.nx [some (.ref 0), some (.ref l1), some (.int 0), none, none, none, none, none, none, none, none]) h1 ∧
    h1[0]? = some (pot a1 b c1) ∧ Pot (B + 30) b c1 ∧ h1[l1]? = some (.lst ms) ∧ l1 ≠ 0 ∧ ms.length ≤ 8 ∧ ∀ m ∈ ms, m ∈ moves := by
  obtain ⟨j, a1, c1, g1, e, j0, j1, b0, b1⟩ := take_call 91 11 (u := 9) (a := a) P (by omega) (by decide) (by decide) (h := [pot a b c]) rfl
  obtain ⟨m, rfl⟩ : ∃ m : Nat, j = (m : Int) := ⟨j.toNat, by omega⟩
  have hiv : ivE (ev Γ 112) 12 [some (.ref 0), none, none, none, none, none, none, none, none, none, none] (.rng (.call "_law_take" [(.v 0), (.c (.int 9))])) [pot a b c] = .ok (.items ((List.range ((m : Int)).toNat).map fun i => .int (i : Nat))) ([pot a1 b c1] ++ g1) :=
    ivp_rng (ee_call (ea_cons (ee_v rfl) (ea_cons ee_c ea_nil)) e) ⟨by omega, by omega⟩
  have hlen : ((List.range ((m : Int)).toNat).map fun i => D.int (i : Nat)).length = m := by simp
  generalize ((List.range ((m : Int)).toNat).map fun i => D.int (i : Nat)) = its at hiv hlen
  have hl : (([pot a1 b c1] ++ g1) ++ [O.lst []])[([pot a1 b c1] ++ g1).length]? = some (.lst []) := by simp
  obtain ⟨ms, a2, c2, h2, r1, r2, r3, r4, r5, r6⟩ := moves_loop (its := its) (l := ([pot a1 b c1] ++ g1).length) (by simp) m 0 (B + 1) a1 c1 [] (([pot a1 b c1] ++ g1) ++ [O.lst []]) (by omega) rfl (P.up b0 b1 (Int.le_refl _)) (by omega) hl (by simp; omega)
  rw [← hlen] at r1
  exact ⟨ms, ([pot a1 b c1] ++ g1).length, a2, c2, h2, es_par (ee_lc hiv r1) ee_c, r2, r3.mono (by omega), r4, by simp, by omega, r6⟩
def badI : Option Nat → Int
  | some i => (i : Int) + 1
  | none => 0
theorem len_ref {h : Ob} {l : Nat} {xs : List D} (e : h[l]? = some (.lst xs)) : biD .len [.ref l] h = .ok (.int (xs.length : Int)) h := by
  show (match itemsOf h (.ref l) with | some xs => R.ok (D.int xs.length) h | none => .bad) = _
  rw [items_ref e]
theorem rep_its {h : Ob} {y : D} {q : PyData} (i : It h y q false) {r : Int} (h0 : 0 ≤ r) (h1 : r < 2) : ∃ qs bs, Its h (List.replicate r.toNat [y]).flatten qs bs ∧ (List.replicate r.toNat [y]).flatten.length ≤ 1 := by
  have : r = 0 ∨ r = 1 := by omega
  rcases this with rfl | rfl
  · exact ⟨_, _, .nil, Nat.zero_le _⟩
  · exact ⟨_, _, .cons i .nil, Nat.le_refl 1⟩
theorem It.pot {h g : Ob} {d : D} {q : PyData} {t : Bool} {a b c a1 b1 c1 : Int} (i : It h d q t) (h0 : h[0]? = some (K88.pot a b c)) : It (h.set 0 (K88.pot a1 b1 c1) ++ g) d q t := i.mono (keep_pot h0)
theorem st_B {B a b c : Int} (P : Pot B b c) (hB : B + 10 ≤ 1000000) {h : Ob} {l1 : Nat} {ms : List D} (h0 : h[0]? = some (pot a b c)) (hl : h[l1]? = some (.lst ms)) (l0 : l1 ≠ 0) (hn : ms.length ≤ 8) (hm : ∀ m ∈ ms, m ∈ moves) :
    ∃ l2 ds qs bs x4 a1 c1 h1, (ev Γ 114).s 12 sB [some (.ref 0), some (.ref l1), some (.int 0), none, none, none, none, none, none, none, none] h = .ok (.nx [some (.ref 0), some (.ref l2), some (.int (badI (ff bs))), none, x4, none, none, none, none, none, none]) h1 ∧
    h1[0]? = some (pot a1 b c1) ∧ Pot (B + 5) b c1 ∧ Road h1 l2 ds qs bs := by
  obtain ⟨j, a1, c1, g1, e1, j0, j1, b0, b1⟩ := take_call 91 11 (u := 3) (a := a) P (by omega) (by decide) (by decide) h0
  have P1 : Pot (B + 1) b c1 := P.up b0 b1 (Int.le_refl _)
  have h10 : (h.set 0 (pot a1 b c1) ++ g1)[0]? = some (pot a1 b c1) := get_app (get_put h0)
  have h1l : (h.set 0 (pot a1 b c1) ++ g1)[l1]? = some (.lst ms) := get_app (get_set hl (Ne.symm l0))
  generalize (h.set 0 (pot a1 b c1) ++ g1) = h1 at e1 h10 h1l
  have ecmp : (ev Γ 113).e 12 (.cmp .eq (.call "_law_take" [(.v 0), (.c (.int 3))]) (.c (.int 0))) [some (.ref 0), some (.ref l1), some (.int 0), none, none, none, none, none, none, none, none] h = .ok (.bl (decide (j = 0))) h1 :=
    ee_cmp (ee_call (ea_cons (ee_v rfl) (ea_cons ee_c ea_nil)) e1) ee_c rfl
  by_cases hj : j = 0
  · rw [decide_eq_true hj] at ecmp
    obtain ⟨tt, a2, c2, g2, e2, t0, t1, b2, b3⟩ := take_call 91 11 (u := (ms.length : Int) + 1) (a := a1) P1 (by omega) (by omega) (by omega) h10
    obtain ⟨t, rfl⟩ : ∃ t : Nat, tt = (t : Int) := ⟨tt.toNat, by omega⟩
    have ht : t ≤ ms.length := by omega
    have P2 : Pot (B + 2) b c2 := P1.up b2 b3 (by omega)
    have h20 : (h1.set 0 (pot a2 b c2) ++ g2)[0]? = some (pot a2 b c2) := get_app (get_put h10)
    have h2l : (h1.set 0 (pot a2 b c2) ++ g2)[l1]? = some (.lst ms) := get_app (get_set h1l (Ne.symm l0))
    generalize (h1.set 0 (pot a2 b c2) ++ g2) = h2 at e2 h20 h2l
    have h2p := lt_of h20
    have s1 : (ev Γ 113).s 12 (.asg 4 (.call "_law_take" [(.v 0), (.bin .add (.bi .len [(.v 1)]) (.c (.int 1)))])) [some (.ref 0), some (.ref l1), some (.int 0), none, none, none, none, none, none, none, none] h1 = .ok (.nx [some (.ref 0), some (.ref l1), some (.int 0), none, some (.int (t : Int)), none, none, none, none, none, none]) h2 :=
      es_asg (ee_call (ea_cons (ee_v rfl) (ea_cons (ee_bin (ee_bi (ea_cons (ee_v rfl) ea_nil) (len_ref h1l)) ee_c bo_add) ea_nil)) e2)
    -- the slice, something that is none
    have k30 : (h2 ++ [O.lst (ms.take t)])[0]? = some (pot a2 b c2) := get_app h20
    have k3l : (h2 ++ [O.lst (ms.take t)])[l1]? = some (.lst ms) := get_app h2l
    have k3s : (h2 ++ [O.lst (ms.take t)])[h2.length]? = some (.lst (ms.take t)) := by simp
    have esl := sl_hi h2l ht
    generalize (h2 ++ [O.lst (ms.take t)]) = h3 at esl k30 k3l k3s
    obtain ⟨x, q, a3, c3, g3, e3, i3, b4, b5⟩ := none_call 68 9 (a := a2) P2 (by omega) k30
    have P3 : Pot (B + 3) b c3 := P2.up b4 b5 (by omega)
    have k40 : (h3.set 0 (pot a3 b c3) ++ g3)[0]? = some (pot a3 b c3) := get_app (get_put k30)
    have k4l : (h3.set 0 (pot a3 b c3) ++ g3)[l1]? = some (.lst ms) := get_app (get_set k3l (Ne.symm l0))
    have k4s : (h3.set 0 (pot a3 b c3) ++ g3)[h2.length]? = some (.lst (ms.take t)) := get_app (get_set k3s (by omega))
    generalize (h3.set 0 (pot a3 b c3) ++ g3) = h4 at e3 i3 k40 k4l k4s
    have k50 : (h4 ++ [O.lst [x]])[0]? = some (pot a3 b c3) := get_app k40
    have k5l : (h4 ++ [O.lst [x]])[l1]? = some (.lst ms) := get_app k4l
    have k5s : (h4 ++ [O.lst [x]])[h2.length]? = some (.lst (ms.take t)) := get_app k4s
    have k5x : (h4 ++ [O.lst [x]])[h4.length]? = some (.lst [x]) := by simp
    have i5 : It (h4 ++ [O.lst [x]]) x q false := i3.app
    have elst : (ev Γ 110).e 12 (.lst [(.call "_law_none" [(.v 0)])]) [some (.ref 0), some (.ref l1), some (.int 0), none, some (.int (t : Int)), none, none, none, none, none, none] h3 = .ok (.ref h4.length) (h4 ++ [O.lst [x]]) :=
      ee_lst (ea_cons (ee_call (ea_cons (ee_v rfl) ea_nil) e3) ea_nil) (by show 1 ≤ 1000; decide)
    generalize (h4 ++ [O.lst [x]]) = h5 at elst k50 k5l k5s k5x i5
    have ltk : (ms.take t).length ≤ 8 := by rw [List.length_take]; omega
    have ldr : (ms.drop t).length ≤ 8 := by rw [List.length_drop]; omega
    have eadd := bo_addL k5s k5x (by show (ms.take t).length + 1 ≤ 100000; omega)
    have k60 : (h5 ++ [O.lst (ms.take t ++ [x])])[0]? = some (pot a3 b c3) := get_app k50
    have k6l : (h5 ++ [O.lst (ms.take t ++ [x])])[l1]? = some (.lst ms) := get_app k5l
    have k6s : (h5 ++ [O.lst (ms.take t ++ [x])])[h5.length]? = some (.lst (ms.take t ++ [x])) := by simp
    have i6 : It (h5 ++ [O.lst (ms.take t ++ [x])]) x q false := i5.app
    generalize (h5 ++ [O.lst (ms.take t ++ [x])]) = h6 at eadd k60 k6l k6s i6
    have esl2 := sl_lo k6l ht
    have k70 : (h6 ++ [O.lst (ms.drop t)])[0]? = some (pot a3 b c3) := get_app k60
    have k7s : (h6 ++ [O.lst (ms.drop t)])[h5.length]? = some (.lst (ms.take t ++ [x])) := get_app k6s
    have k7d : (h6 ++ [O.lst (ms.drop t)])[h6.length]? = some (.lst (ms.drop t)) := by simp
    have i7 : It (h6 ++ [O.lst (ms.drop t)]) x q false := i6.app
    generalize (h6 ++ [O.lst (ms.drop t)]) = h7 at esl2 k70 k7s k7d i7
    have eadd2 := bo_addL k7s k7d (by rw [List.length_append]; show (ms.take t).length + 1 + _ ≤ 100000; omega)
    have k80 : (h7 ++ [O.lst (ms.take t ++ [x] ++ ms.drop t)])[0]? = some (pot a3 b c3) := get_app k70
    have k8s : (h7 ++ [O.lst (ms.take t ++ [x] ++ ms.drop t)])[h7.length]? = some (.lst (ms.take t ++ [x] ++ ms.drop t)) := by simp
    have i8 : It (h7 ++ [O.lst (ms.take t ++ [x] ++ ms.drop t)]) x q false := i7.app
    generalize (h7 ++ [O.lst (ms.take t ++ [x] ++ ms.drop t)]) = h8 at eadd2 k80 k8s i8
    have s2 : (ev Γ 113).s 12 (.par 1 2 (.bin .add (.bin .add (.sl (.v 1) none (some (.v 4))) (.lst [(.call "_law_none" [(.v 0)])])) (.sl (.v 1) (some (.v 4)) none)) (.bin .add (.v 4) (.c (.int 1)))) [some (.ref 0), some (.ref l1), some (.int 0), none, some (.int (t : Int)), none, none, none, none, none, none] h2 = .ok (.nx [some (.ref 0), some (.ref h7.length), some (.int ((t : Int) + 1)), none, some (.int (t : Int)), none, none, none, none, none, none]) h8 :=
      es_par (ee_bin (ee_bin (ee_slHi (ee_v rfl) (ee_v rfl) esl) elst eadd) (ee_slLo (ee_v rfl) (ee_v rfl) esl2) eadd2) (ee_bin (ee_v rfl) ee_c bo_add)
    have h7p := lt_of k70
    have h8p := lt_of k80
    obtain ⟨y, q2, a4, c4, g4, e4, i9, b6, b7⟩ := none_call 68 9 (a := a3) P3 (by omega) k80
    have P4 : Pot (B + 4) b c4 := P3.up b6 b7 (by omega)
    have k90 : (h8.set 0 (pot a4 b c4) ++ g4)[0]? = some (pot a4 b c4) := get_app (get_put k80)
    have k9s : (h8.set 0 (pot a4 b c4) ++ g4)[h7.length]? = some (.lst (ms.take t ++ [x] ++ ms.drop t)) := get_app (get_set k8s (by omega))
    have j9 : It (h8.set 0 (pot a4 b c4) ++ g4) x q false := i8.pot k80
    generalize (h8.set 0 (pot a4 b c4) ++ g4) = h9 at e4 i9 k90 k9s j9
    have h9p := lt_of k90
    have ka0 : (h9 ++ [O.lst [y]])[0]? = some (pot a4 b c4) := get_app k90
    have kas : (h9 ++ [O.lst [y]])[h7.length]? = some (.lst (ms.take t ++ [x] ++ ms.drop t)) := get_app k9s
    have kay : (h9 ++ [O.lst [y]])[h9.length]? = some (.lst [y]) := by simp
    have ia : It (h9 ++ [O.lst [y]]) x q false := j9.app
    have ja : It (h9 ++ [O.lst [y]]) y q2 false := i9.app
    have elst2 : (ev Γ 110).e 12 (.lst [(.call "_law_none" [(.v 0)])]) [some (.ref 0), some (.ref h7.length), some (.int ((t : Int) + 1)), none, some (.int (t : Int)), none, none, none, none, none, none] h8 = .ok (.ref h9.length) (h9 ++ [O.lst [y]]) :=
      ee_lst (ea_cons (ee_call (ea_cons (ee_v rfl) ea_nil) e4) ea_nil) (by show 1 ≤ 1000; decide)
    generalize (h9 ++ [O.lst [y]]) = ha at elst2 ka0 kas kay ia ja
    obtain ⟨r, a5, c5, g5, e5, r0, r1, b8, b9⟩ := take_call 89 11 (u := 2) (a := a4) P4 (by omega) (by decide) (by decide) ka0
    have P5 : Pot (B + 5) b c5 := P4.up b8 b9 (by omega)
    have kb0 : (ha.set 0 (pot a5 b c5) ++ g5)[0]? = some (pot a5 b c5) := get_app (get_put ka0)
    have kbs : (ha.set 0 (pot a5 b c5) ++ g5)[h7.length]? = some (.lst (ms.take t ++ [x] ++ ms.drop t)) := get_app (get_set kas (by omega))
    have kby : (ha.set 0 (pot a5 b c5) ++ g5)[h9.length]? = some (.lst [y]) := get_app (get_set kay (by omega))
    have ib : It (ha.set 0 (pot a5 b c5) ++ g5) x q false := ia.pot ka0
    have jb : It (ha.set 0 (pot a5 b c5) ++ g5) y q2 false := ja.pot ka0
    generalize (ha.set 0 (pot a5 b c5) ++ g5) = hb at e5 kb0 kbs kby ib jb
    have hbp := lt_of kb0
    obtain ⟨qs2, bs2, irep, lrep⟩ := rep_its jb r0 r1
    have emul := bo_mulL kby ⟨r0, by omega, by show 1 * r.toNat ≤ 100000; omega⟩
    generalize (List.replicate r.toNat [y]).flatten = ys at emul irep lrep
    have kc0 : (hb ++ [O.lst ys])[0]? = some (pot a5 b c5) := get_app kb0
    have kcs : (hb ++ [O.lst ys])[h7.length]? = some (.lst (ms.take t ++ [x] ++ ms.drop t)) := get_app kbs
    have kcy : (hb ++ [O.lst ys])[hb.length]? = some (.lst ys) := by simp
    have ic : It (hb ++ [O.lst ys]) x q false := ib.app
    have jc := irep.app (g := [O.lst ys])
    generalize (hb ++ [O.lst ys]) = hc at emul kc0 kcs kcy ic jc
    have ltot : (ms.take t ++ [x] ++ ms.drop t).length ≤ 17 := by
      rw [List.length_append, List.length_append]
      show (ms.take t).length + 1 + _ ≤ 17
      omega
    have eadd3 := bo_addL kcs kcy (by omega)
    have hcp := lt_of kc0
    have s3 : (ev Γ 113).s 12 (.asg 1 (.bin .add (.v 1) (.bin .mul (.lst [(.call "_law_none" [(.v 0)])]) (.call "_law_take" [(.v 0), (.c (.int 2))])))) [some (.ref 0), some (.ref h7.length), some (.int ((t : Int) + 1)), none, some (.int (t : Int)), none, none, none, none, none, none] h8 = .ok (.nx [some (.ref 0), some (.ref hc.length), some (.int ((t : Int) + 1)), none, some (.int (t : Int)), none, none, none, none, none, none]) (hc ++ [O.lst (ms.take t ++ [x] ++ ms.drop t ++ ys)]) :=
      es_asg (ee_bin (ee_v rfl) (ee_bin elst2 (ee_call (ea_cons (ee_v rfl) (ea_cons ee_c ea_nil)) e5) emul) eadd3)
    have hits : Its hc (ms.take t ++ [x] ++ ms.drop t ++ ys) _ _ := (((Its.mvs fun m h => hm m (List.mem_of_mem_take h)).join (.cons ic .nil)).join (Its.mvs fun m h => hm m (List.mem_of_mem_drop h))).join jc
    have hff : ff ((((ms.take t).map fun _ => true) ++ [false] ++ ((ms.drop t).map fun _ => true)) ++ bs2) = some t := by
      rw [List.append_assoc, List.append_assoc]
      have := ff_at (((ms.drop t).map fun _ => true) ++ bs2) (ms.take t)
      rw [List.length_take, Nat.min_eq_left ht] at this
      exact this
    have kfin : (hc ++ [O.lst (ms.take t ++ [x] ++ ms.drop t ++ ys)])[hc.length]? = some (.lst (ms.take t ++ [x] ++ ms.drop t ++ ys)) := by simp
    refine ⟨hc.length, _, _, _, some (.int (t : Int)), a5, c5, _, es_ifT ecmp rfl (ess_nx s1 (ess_nx s2 (ess_nx (s3.trans ?_) ess_nil))), get_app kc0, P5, ⟨kfin, hits.app, by rw [List.length_append]; omega, by omega⟩⟩
    rw [hff]
    rfl
  · rw [decide_eq_false hj] at ecmp
    refine ⟨l1, ms, _, _, none, a1, c1, h1, es_ifF ecmp rfl (ess_nil.trans ?_), h10, P1.mono (by omega), ⟨h1l, Its.mvs hm, by omega, l0⟩⟩
    rw [ff_map]
    rfl
end K88
namespace K88
open PySem PySem.Spec L2 MP
section
variable {h : Ob} {l1 : Nat} {ds : List D} {qs : List PyData} {bs : List Bool} {x4 : Option D}
theorem st_C (r : Road h l1 ds qs bs) : (ev Γ 114).s 12 sC [some (.ref 0), some (.ref l1), some (.int (badI (ff bs))), none, x4, none, none, none, none, none, none] h = .ok (.nx [some (.ref 0), some (.ref l1), some (.int (badI (ff bs))), none, x4, some (.tup ds), some (.str (PyData.list qs).shown), none, none, none, none]) h := by
  obtain ⟨a1, a2, a3⟩ := r.its.lst_sm r.n
  have ht : biD .tuple [.ref l1] h = .ok (.tup ds) h := by
    show (match itemsOf h (.ref l1) with | some xs => R.ok (D.tup xs) h | none => .bad) = _
    rw [items_ref r.at1]
  exact es_par (ee_bi (ea_cons (ee_v rfl) ea_nil) ht) (ee_reprD (ee_v rfl) (r.its.lst_pdr r.at1) rfl a1 a2 a3)
theorem texts_loop {ms : List D} (hg : ∀ m ∈ ms, Good m) {l1 l2 : Nat} (hne : l1 ≠ l2) (h20 : l2 ≠ 0) {y0 y1 y2 y3 y4 y5 y6 y7 y9 y10 : Option D} {o0 : O} : ∀ (rest : List D) (i : Nat) (acc : List Str) (h : Ob), ms.drop i = rest → h[0]? = some o0 → h[l1]? = some (.lst ms) → h[l2]? = some (.lst (strD acc)) → acc.length + rest.length ≤ 1000 →
    ∃ h1, loopC (.at_ l1) (.name 8) ((ev Γ 109).e 12 (.call "_law_written" [(.v 8)])) l2 [y0, y1, y2, y3, y4, y5, y6, y7, none, y9, y10] rest.length i h = .ok () h1 ∧ h1[0]? = some o0 ∧ h1[l1]? = some (.lst ms) ∧ h1[l2]? = some (.lst (strD (acc ++ texts rest)))
  | [], i, acc, h, hd, h0, hl1, hl2, hz => by
    have hge : ms.length ≤ i := by
      have := congrArg List.length hd
      rw [List.length_drop] at this
      simp at this
      omega
    refine ⟨h, loopC_end (at_ok hl1) ?_, h0, hl1, by rw [hl2]; simp [texts]⟩
    rw [at_getP hl1, List.getElem?_eq_none hge]
  | m :: rest, i, acc, h, hd, h0, hl1, hl2, hz => by
    have hi : ms[i]? = some m := by
      have := congrArg List.head? hd
      rw [List.head?_drop] at this
      exact this
    have hd2 : ms.drop (i + 1) = rest := by
      have := congrArg List.tail hd
      rw [List.tail_drop] at this
      exact this
    have hget : (IV.at_ l1).get h i = some m := by
      rw [at_getP hl1, hi]
    obtain ⟨g, ec⟩ := written_call (hg m (List.mem_of_getElem? hi)) h
    have e4 : (ev Γ 109).e 12 (.call "_law_written" [(.v 8)]) [y0, y1, y2, y3, y4, y5, y6, y7, some m, y9, y10] h = .ok (.str (wr m)) (h ++ g) := ee_call (ea_cons (ee_v rfl) ea_nil) ec
    have hacc : (strD acc).length < 100000 := by
      unfold strD
      rw [List.length_map]
      simp at hz
      omega
    have el := loopC_nx (v := .at_ l1) (tg := .name 8) (m := rest.length) (ρ := [y0, y1, y2, y3, y4, y5, y6, y7, none, y9, y10]) (at_ok hl1) hget rfl e4 (get_app hl2) hacc
    have hl3 : ((h ++ g).set l2 (.lst (strD acc ++ [.str (wr m)])))[l2]? = some (.lst (strD (acc ++ [wr m]))) := by
      have : strD (acc ++ [wr m]) = strD acc ++ [.str (wr m)] := List.map_append ..
      rw [this]
      exact get_put (get_app hl2)
    obtain ⟨h1, a1, a2, a3, a4⟩ := texts_loop hg hne h20 (y0 := y0) (y1 := y1) (y2 := y2) (y3 := y3) (y4 := y4) (y5 := y5) (y6 := y6) (y7 := y7) (y9 := y9) (y10 := y10) rest (i + 1) (acc ++ [wr m]) _ hd2 (get_set (get_app h0) h20) (get_set (get_app hl1) (Ne.symm hne)) hl3 (by rw [List.length_append]; simp at hz ⊢; omega)
    exact ⟨h1, el.trans a1, a2, a3, by rw [a4, List.append_assoc]; rfl⟩
theorem st_D {o0 : O} {y6 : D} (r : Road h l1 ds qs bs) (h0 : h[0]? = some o0) : ∃ h1, (ev Γ 114).s 12 sD [some (.ref 0), some (.ref l1), some (.int (badI (ff bs))), none, x4, some (.tup ds), some y6, none, none, none, none] h = .ok (.nx [some (.ref 0), some (.ref l1), some (.int (badI (ff bs))), none, x4, some (.tup ds), some y6, some (dueOf ds (ff bs)), none, none, none]) h1 ∧
    h1[0]? = some o0 ∧ Road h1 l1 ds qs bs := by
  cases q : ff bs with
  | some i =>
    refine ⟨h, (es_asg (ee_iteT (x := .bl true) (ee_cmp (ee_v rfl) ee_c ?_) rfl (ee_tup (ea_cons ee_c (ea_cons (ee_v rfl) ea_nil)) (by show 2 ≤ 1000; decide)))).trans ?_, h0, r⟩
    · show some (decide ((0 : Int) < (i : Int) + 1)) = _
      rw [decide_eq_true (by omega)]
    · show RS.ok (.nx [_, _, _, _, _, _, _, some (D.tup [.str "bad", .int ((i : Int) + 1)]), _, _, _]) h = RS.ok (.nx [_, _, _, _, _, _, _, some (D.tup [.str "bad", .int (1 + (i : Int))]), _, _, _]) h
      rw [Int.add_comm]
  | none =>
    obtain ⟨m1, m2, m3⟩ := r.its.all_mv q
    have hg : ∀ m ∈ ds, Good m := fun m hm => good_of (m1 m hm)
    have hlt := lt_of r.at1
    have h00 := lt_of h0
    have hp : (h ++ [O.lst []])[h.length]? = some (.lst (strD [])) := by simp [strD]
    obtain ⟨h1, e1, e2, e3, e4⟩ := texts_loop (ms := ds) (l1 := l1) (l2 := h.length) (y0 := some (.ref 0)) (y1 := some (.ref l1)) (y2 := some (.int 0)) (y3 := none) (y4 := x4) (y5 := some (.tup ds)) (y6 := some y6) (y7 := none) (y9 := none) (y10 := none) hg (by omega) (by omega) ds 0 [] (h ++ [O.lst []]) List.drop_zero (get_app h0) (get_app r.at1) hp (by have := r.n; simp; omega)
    have hv : (IV.at_ l1).len (h ++ [O.lst []]) = ds.length := at_len (get_app r.at1)
    rw [← hv] at e1
    refine ⟨h1, es_asg (ee_iteF (x := .bl false) (ee_cmp (ee_v rfl) ee_c rfl) rfl (ee_tup (ea_cons ee_c (ea_cons (ee_mt ee_c rfl (ea_cons (ee_lc (iv_over (ee_v rfl) (iv_at r.at1)) e1) ea_nil) (join_ok hg r.n e4)) ea_nil)) (by show 2 ≤ 1000; decide))), e2, ⟨e3, ?_, r.n, r.l0⟩⟩
    rw [m2, m3]
    exact Its.mvs m1
theorem heard_show {ρ : Env'} (i : Its h ds qs bs) (hn : ds.length ≤ 20) (hρ : ρ[5]? = some (some (.tup ds))) : ∃ g, (ev Γ 112).e 12 (.heard "_law_heard" (.call "show_story" [(.v 5)])) ρ h = .ok (dueOf ds (ff bs)) (h ++ g) := by
  have z := show_call i hn
  cases q : ff bs with
  | some j =>
    rw [q] at z
    obtain ⟨g, e⟩ := z
    refine ⟨g ++ [.exc "BadStory" (.int (1 + (j : Int)))], ?_⟩
    rw [← List.append_assoc]
    exact ee_heardB (n := 101) (k := 10) (ee_callX (ea_cons (ee_v hρ) ea_nil) e)
  | none =>
    rw [q] at z
    obtain ⟨g, e⟩ := z
    exact ⟨g, ee_heardT (n := 101) (k := 10) (ee_call (ea_cons (ee_v hρ) ea_nil) e)⟩
theorem due_not_leaf {o : Option Nat} {xs : List D} : ¬ LeafO (.lst (dueOf ds o :: xs)) := by
  intro z
  cases o with
  | none => rcases z with z | z | z | z <;> cases z
  | some i => rcases z with z | z | z | z <;> cases z
theorem st_EF {o0 : O} {y6 : D} (r : Road h l1 ds qs bs) (h0 : h[0]? = some o0) : ∃ l9 h1 ρ1, (ev Γ 114).s 12 sE [some (.ref 0), some (.ref l1), some (.int (badI (ff bs))), none, x4, some (.tup ds), some y6, some (dueOf ds (ff bs)), none, none, none] h = .ok (.nx ρ1) h1 ∧ ∃ h2,
    (ev Γ 114).s 12 sF ρ1 h1 = .ok (.nx [some (.ref 0), some (.ref l1), some (.int (badI (ff bs))), none, x4, some (.tup ds), some y6, some (dueOf ds (ff bs)), none, some (.ref l9), none]) h2 ∧
    h2[0]? = some o0 ∧ Road h2 l1 ds qs bs ∧ h2[l9]? = some (.lst [dueOf ds (ff bs), dueOf ds (ff bs)]) := by
  obtain ⟨g, e⟩ := heard_show (ρ := [some (.ref 0), some (.ref l1), some (.int (badI (ff bs))), none, x4, some (.tup ds), some y6, some (dueOf ds (ff bs)), none, none, none]) r.its r.n rfl
  have r1 : Road ((h ++ g) ++ [.lst [dueOf ds (ff bs)]]) l1 ds qs bs := r.app.app
  have h1l : l1 < (h ++ g).length := lt_of (get_app r.at1)
  have h1p : 0 < (h ++ g).length := lt_of (get_app h0)
  have h10 : ((h ++ g) ++ [.lst [dueOf ds (ff bs)]])[0]? = some o0 := get_app (get_app h0)
  have h19 : ((h ++ g) ++ [.lst [dueOf ds (ff bs)]])[(h ++ g).length]? = some (.lst [dueOf ds (ff bs)]) := by simp
  have eE : (ev Γ 114).s 12 sE [some (.ref 0), some (.ref l1), some (.int (badI (ff bs))), none, x4, some (.tup ds), some y6, some (dueOf ds (ff bs)), none, none, none] h = .ok (.nx [some (.ref 0), some (.ref l1), some (.int (badI (ff bs))), none, x4, some (.tup ds), some y6, some (dueOf ds (ff bs)), none, some (.ref (h ++ g).length), none]) ((h ++ g) ++ [.lst [dueOf ds (ff bs)]]) :=
    es_asg (ee_lst (ea_cons e ea_nil) (by show 1 ≤ 1000; decide))
  generalize (h ++ g).length = l9 at *
  generalize ((h ++ g) ++ [O.lst [dueOf ds (ff bs)]]) = h1 at *
  obtain ⟨g2, e2⟩ := heard_show (ρ := [some (.ref 0), some (.ref l1), some (.int (badI (ff bs))), none, x4, some (.tup ds), some y6, some (dueOf ds (ff bs)), none, some (.ref l9), none]) r1.its r1.n rfl
  have h29 : (h1 ++ g2)[l9]? = some (.lst [dueOf ds (ff bs)]) := get_app h19
  refine ⟨l9, h1, _, eE, (h1 ++ g2).set l9 (.lst ([dueOf ds (ff bs)] ++ [dueOf ds (ff bs)])), es_ex (ee_mt (ee_v rfl) ?_ (ea_cons e2 ea_nil) (app_ok h29 (by show 1 < 100000; decide))), get_set (get_app h10) (by omega), ⟨get_set (get_app r1.at1) (by omega), r1.its.mono fun l o ho eo => get_set (get_app eo) fun z => ?_, r.n, r.l0⟩, get_put h29⟩
  · show (match h1[l9]? with | some (O.lst xs) => some xs | _ => none).isSome = true
    rw [h19]
    rfl
  · subst z
    rw [h19] at eo
    cases eo
    exact due_not_leaf ho
theorem due_fits (r : Road h l1 ds qs bs) : (dueQ ds (ff bs)).showable = true ∧ (dueQ ds (ff bs)).depth ≤ 2 ∧ (dueQ ds (ff bs)).shown.length ≤ 6000 :=
  due_sm (fun i hi => by
    have a := ff_lt hi
    have b := r.its.len.2
    have c := r.n
    omega) fun hi => ⟨fun m hm => good_of ((r.its.all_mv hi).1 m hm), r.n⟩
theorem st_G {l9 : Nat} {y6 : D} (r : Road h l1 ds qs bs) (h9 : h[l9]? = some (.lst [dueOf ds (ff bs), dueOf ds (ff bs)])) : ∃ g, (ev Γ 114).s 12 sG [some (.ref 0), some (.ref l1), some (.int (badI (ff bs))), none, x4, some (.tup ds), some y6, some (dueOf ds (ff bs)), none, some (.ref l9), none] h = .ok (.nx [some (.ref 0), some (.ref l1), some (.int (badI (ff bs))), none, x4, some (.tup ds), some y6, some (dueOf ds (ff bs)), none, some (.ref l9), none]) (h ++ g) := by
  obtain ⟨a1, a2, a3⟩ := due_fits r
  obtain ⟨b1, b2, b3⟩ := two_sm a1 (Nat.le_trans a2 (by decide)) (Nat.le_trans a3 (by decide))
  have hp : (h ++ [O.lst [dueOf ds (ff bs), dueOf ds (ff bs)]])[h.length]? = some (.lst [dueOf ds (ff bs), dueOf ds (ff bs)]) := by simp
  have hc : cmpB .ne (h ++ [O.lst [dueOf ds (ff bs), dueOf ds (ff bs)]]) (.str (PyData.list [dueQ ds (ff bs), dueQ ds (ff bs)]).shown) (.str (PyData.list [dueQ ds (ff bs), dueQ ds (ff bs)]).shown) = some false := by
    generalize (PyData.list [dueQ ds (ff bs), dueQ ds (ff bs)]).shown = z
    show some (!decide (z = z)) = _
    rw [decide_eq_true rfl]
    rfl
  exact ⟨_, es_ifF (x := .bl false) (ee_cmp (ee_reprD (ee_v rfl) (two_pdr h9 (due_pdr h 38 ds (ff bs))) rfl b1 b2 b3) (ee_reprD (ee_lst (ea_cons (ee_v rfl) (ea_cons (ee_v rfl) ea_nil)) (by show 2 ≤ 1000; decide)) (two_pdr hp (due_pdr _ 38 ds (ff bs))) rfl b1 b2 b3) hc) rfl ess_nil⟩
theorem st_H {y6 y9 : D} (r : Road h l1 ds qs bs) : ∃ g, (ev Γ 114).s 12 sH [some (.ref 0), some (.ref l1), some (.int (badI (ff bs))), none, x4, some (.tup ds), some y6, some (dueOf ds (ff bs)), none, some y9, none] h = .ok (.nx [some (.ref 0), some (.ref l1), some (.int (badI (ff bs))), none, x4, some (.tup ds), some y6, some (dueOf ds (ff bs)), none, some y9, none]) (h ++ g) := by
  cases q : ff bs with
  | some i =>
    refine ⟨[], ?_⟩
    rw [List.append_nil]
    refine es_ifF (x := .bl false) (ee_andF (ee_cmp (ee_v rfl) ee_c ?_) rfl) rfl ess_nil
    show some (decide ((i : Int) + 1 = 0)) = _
    rw [decide_eq_false (by omega)]
  | none =>
    obtain ⟨m1, m2, m3⟩ := r.its.all_mv q
    obtain ⟨a1, a2, a3⟩ := r.its.tup_sm r.n
    obtain ⟨b1, b2, b3⟩ := two_sm a1 a2 a3
    obtain ⟨g1, e1⟩ := read_call m1 r.n h
    obtain ⟨g2, e2⟩ := read_call m1 r.n (h ++ g1)
    have hix : ∀ h : Ob, ixD (.tup [.str "told", .str (told ds)]) (.int 1) h = .ok (.str (told ds)) h := fun h => rfl
    have hp1 : (((h ++ g1) ++ g2) ++ [O.lst [.tup ds, .tup ds]])[((h ++ g1) ++ g2).length]? = some (.lst [.tup ds, .tup ds]) := by simp
    have i1 : Its (((h ++ g1) ++ g2) ++ [O.lst [.tup ds, .tup ds]]) ds qs bs := r.its.app.app.app
    have hp2 : ((((h ++ g1) ++ g2) ++ [O.lst [.tup ds, .tup ds]]) ++ [O.lst [.tup ds, .tup ds]])[(((h ++ g1) ++ g2) ++ [O.lst [.tup ds, .tup ds]]).length]? = some (.lst [.tup ds, .tup ds]) := by simp
    have i2 : Its ((((h ++ g1) ++ g2) ++ [O.lst [.tup ds, .tup ds]]) ++ [O.lst [.tup ds, .tup ds]]) ds qs bs := i1.app
    have hc : ∀ h, cmpB .ne h (.str (PyData.list [.tuple qs, .tuple qs]).shown) (.str (PyData.list [.tuple qs, .tuple qs]).shown) = some false := by
      intro h
      generalize (PyData.list [.tuple qs, .tuple qs]).shown = z
      show some (!decide (z = z)) = _
      rw [decide_eq_true rfl]
      rfl
    have fin : (ev Γ 114).s 12 sH [some (.ref 0), some (.ref l1), some (.int (badI none)), none, x4, some (.tup ds), some y6, some (dueOf ds none), none, some y9, none] h = .ok (.nx [some (.ref 0), some (.ref l1), some (.int (badI none)), none, x4, some (.tup ds), some y6, some (dueOf ds none), none, some y9, none]) ((((h ++ g1) ++ g2) ++ [O.lst [.tup ds, .tup ds]]) ++ [O.lst [.tup ds, .tup ds]]) :=
      es_ifF (x := .bl false) (ee_andT (x := .bl true) (ee_cmp (ee_v rfl) ee_c rfl) rfl (ee_cmp (ee_reprD (ee_lst (ea_cons (ee_call (ea_cons (ee_ix (ee_v rfl) ee_c (hix _)) ea_nil) e1) (ea_cons (ee_call (ea_cons (ee_ix (ee_v rfl) ee_c (hix _)) ea_nil) e2) ea_nil)) (by show 2 ≤ 1000; decide)) (two_pdr hp1 i1.tup_pdr) rfl b1 b2 b3) (ee_reprD (ee_lst (ea_cons (ee_v rfl) (ea_cons (ee_v rfl) ea_nil)) (by show 2 ≤ 1000; decide)) (two_pdr hp2 i2.tup_pdr) rfl b1 b2 b3) (hc _))) rfl ess_nil
    rw [List.append_assoc, List.append_assoc, List.append_assoc] at fin
    exact ⟨_, fin⟩
end
end K88
namespace K88
open PySem PySem.Spec L2 MP
mutual
theorem renD_ex (f : Nat → Option Nat) : ∀ d : D, (∀ l ∈ refsD d, ∃ j, f l = some j) → ∃ e, renD f d = some e
  | .ref l, h => by
    obtain ⟨m, e⟩ := h l List.mem_cons_self
    exact ⟨.ref m, by show (f l).map D.ref = _; rw [e]; rfl⟩
  | .tup xs, h => by
    obtain ⟨es, e⟩ := renDs_ex f xs h
    exact ⟨.tup es, by show (renDs f xs).map D.tup = _; rw [e]; rfl⟩
  | .fl xs, h => by
    obtain ⟨es, e⟩ := renDs_ex f xs h
    exact ⟨.fl es, by show (renDs f xs).map D.fl = _; rw [e]; rfl⟩
  | .non, _ => ⟨_, rfl⟩
  | .bl _, _ => ⟨_, rfl⟩
  | .int _, _ => ⟨_, rfl⟩
  | .str _, _ => ⟨_, rfl⟩
  | .ty _, _ => ⟨_, rfl⟩
theorem renDs_ex (f : Nat → Option Nat) : ∀ ds : List D, (∀ l ∈ refsDs ds, ∃ j, f l = some j) → ∃ es, renDs f ds = some es
  | [], _ => ⟨[], rfl⟩
  | d :: ds, h => by
    obtain ⟨x, e1⟩ := renD_ex f d fun l hl => h l (List.mem_append_left _ hl)
    obtain ⟨xs, e2⟩ := renDs_ex f ds fun l hl => h l (List.mem_append_right _ hl)
    refine ⟨x :: xs, ?_⟩
    show (match renD f d with | none => none | some e => match renDs f ds with | none => none | some es => some (e :: es)) = _
    rw [e1, e2]
end
def things (l1 q : Nat) : List D := [.non, .ref l1, .str "over", .int 0, .ref q, .bl true, .str "deed a"]
section
variable {h : Ob} {l1 : Nat} {ds : List D} {qs : List PyData} {bs : List Bool} {x4 : Option D}
theorem ren_lst {f : Nat → Option Nat} {xs : List D} (w : ∀ l ∈ refsDs xs, ∃ j, f l = some j) : ∃ es, renO f (.lst xs) = some (.lst es) := by
  obtain ⟨es, e⟩ := renDs_ex f xs w
  exact ⟨es, by show (renDs f xs).map O.lst = _; rw [e]; rfl⟩
theorem of_things {B a b c : Int} (P : Pot B b c) (hB : B ≤ 1000000) {s q : Nat} (r : Road h l1 ds qs bs) (h0 : h[0]? = some (pot a b c)) (hs : h[s]? = some (.lst (things l1 q))) (hq : h[q]? = some (.dct [])) (d1 : s ≠ 0) (d4 : l1 ≠ s) :
    ∃ x a1 c1 g, callF Γ (ev Γ 112) 12 "_law_of" [.ref 0, .ref s] h = .ok x (h.set 0 (pot a1 b c1) ++ g) ∧ x ∈ things l1 q ∧ 0 ≤ c1 ∧ c1 ≤ c + 1 := by
  have hw : ∀ l ∈ refsDs ds ++ [q], ∃ o, LeafO o ∧ h[l]? = some o := fun l hl => by
    rcases List.mem_append.mp hl with hl | hl
    · exact r.its.refs l hl
    · rw [List.mem_singleton.mp hl]
      exact ⟨_, .inr (.inr (.inr rfl)), hq⟩
  obtain ⟨L, e1, e2, e3⟩ := reach_leaf (h := h) (refsDs ds ++ [q]) 197 [0, s, l1] hw (by have := r.its.refs_len; have := r.n; rw [List.length_append]; simp; omega)
  have hr : reach h 200 [0, s] [] = 0 :: s :: (l1 :: L) := by
    have c1 : ([0] : List Nat).contains s = false := by simp [d1]
    have c2 : ([0, s] : List Nat).contains l1 = false := by simp [r.l0, d4]
    show (match h[0]? with
        | some o => reach h 199 (refsO o ++ [s]) [0]
        | none => reach h 199 [s] [0]) = _
    rw [h0]
    show (if ([0] : List Nat).contains s then reach h 198 [] [0] else match h[s]? with
        | some o => reach h 198 (refsO o ++ []) [0, s]
        | none => reach h 198 [] [0, s]) = _
    rw [c1, hs]
    show (if ([0, s] : List Nat).contains l1 then reach h 197 [q] [0, s] else match h[l1]? with
        | some o => reach h 197 (refsO o ++ [q]) [0, s, l1]
        | none => reach h 197 [q] [0, s, l1]) = _
    rw [c2, r.at1]
    show reach h 197 (refsDs ds ++ [q]) [0, s, l1] = _
    rw [e1]
    rfl
  have mem : ∀ l ∈ refsDs ds ++ [q], l ∈ 0 :: s :: l1 :: L := fun l hl => e2 l hl
  obtain ⟨os, g1, g2⟩ := gets_leaf (h := h) L fun l hl => hw l (e3 l hl).1
  obtain ⟨ts, et⟩ := ren_lst (f := ixOf (0 :: s :: l1 :: L)) (xs := things l1 q) fun l hl => ixOf_mem (by
    have hl : l ∈ [l1, q] := hl
    rcases List.mem_cons.mp hl with rfl | hl
    · simp
    · rw [List.mem_singleton.mp hl]
      exact mem q (List.mem_append_right _ List.mem_cons_self))
  obtain ⟨us, eu⟩ := ren_lst (f := ixOf (0 :: s :: l1 :: L)) (xs := ds) fun l hl => ixOf_mem (mem l (List.mem_append_left _ hl))
  refine of_call 82 10 (a := a) P hB (h := h) (l := 0) (s := s) (L2 := l1 :: L) (os := .lst ds :: os) (xs := things l1 q) (by intro z; cases z) (by show 7 < 1000; decide) hr ?_ (gets_cons h0 (gets_cons hs (gets_cons r.at1 g1)))
    (renOs_cons et (renOs_cons eu (g2 _)))
  intro z
  rcases List.mem_cons.mp z with z | z
  · exact d1 z.symm
  · rcases List.mem_cons.mp z with z | z
    · exact r.l0 z.symm
    · exact (e3 0 z).2 (by simp)
/-- what is no tuple -/
theorem show_non {n k : Nat} {d : D} {h : Ob} {kd : String} (hk : kindOf h d = some kd) (hs : plainIs kd "tuple" = false) : doneS (seqS ((ev Γ (n + 10)).s k) fn_show_story.body (startE fn_show_story [d])) h = .exc "BadStory" (.int 0) h :=
  done_exc (ess_exc (es_ifT (x := .bl true) (ee_not (r := false) (ee_isi (ee_v rfl) ((isi_plain hk).trans (by rw [hs]))) rfl) rfl (ess_exc (es_raise ee_c))))
theorem show_flat {d : D} {kd : String} (hr : refsD d = []) (hk : kindOf [] d = some kd) (hs : plainIs kd "tuple" = false) (h : Ob) : ∃ g, callF Γ (ev Γ 108) 10 "show_story" [d] h = .exc "BadStory" (.int 0) (h ++ g) := by
  have hd : refsDs [d] = [] := by
    show refsD d ++ [] = []
    rw [hr]
    rfl
  obtain ⟨g1, e1⟩ := sub0X (h := h) (ds := [d]) (m := fun es => doneS (seqS ((ev Γ 108).s 9) fn_show_story.body (startE fn_show_story es))) hd (show_non (n := 98) hk hs) rfl
  exact ⟨g1, call_ok (fn := fn_show_story) (m := fun _ => M.fail) rfl rfl e1⟩
theorem show_dct {q : Nat} (hq : h[q]? = some (.dct [])) : ∃ g, callF Γ (ev Γ 108) 10 "show_story" [.ref q] h = .exc "BadStory" (.int 0) (h ++ g) := by
  obtain ⟨g1, e1⟩ := sub_keepX (h := h) (ds := [.ref q]) (g := []) (m := fun es => doneS (seqS ((ev Γ 108).s 9) fn_show_story.body (startE fn_show_story es))) (reach1 hq rfl) (gets_cons hq rfl) (renOs_cons rfl rfl) (ren1 q) (show_non (n := 98) (h := [.dct []]) (d := .ref 0) (kd := "dict") rfl (by decide)) rfl
  exact ⟨g1, call_ok (fn := fn_show_story) (m := fun _ => M.fail) rfl rfl e1⟩
theorem show_road (r : Road h l1 ds qs bs) : ∃ g, callF Γ (ev Γ 108) 10 "show_story" [.ref l1] h = .exc "BadStory" (.int 0) (h ++ g) := by
  obtain ⟨L, e1, e2, e3⟩ := reach_leaf (h := h) (refsDs ds) 199 [l1] r.its.refs (by have := r.its.refs_len; have := r.n; omega)
  have hr : reach h 200 (refsDs [.ref l1]) [] = l1 :: L := by
    show (match h[l1]? with
        | some o => reach h 199 (refsO o ++ []) [l1]
        | none => reach h 199 [] [l1]) = _
    rw [r.at1]
    show reach h 199 (refsDs ds ++ []) [l1] = _
    rw [List.append_nil, e1]
    rfl
  obtain ⟨os, g1, g2⟩ := gets_leaf (h := h) L fun l hl => r.its.refs l (e3 l hl).1
  obtain ⟨us, eu⟩ := ren_lst (f := ixOf (l1 :: L)) (xs := ds) fun l hl => ixOf_mem (e2 l hl)
  have h3 : renDs (ixOf (l1 :: L)) [.ref l1] = some [.ref 0] := by
    have i0 : ixOf (l1 :: L) l1 = some 0 := if_pos rfl
    show (match (ixOf (l1 :: L) l1).map D.ref with | none => none | some e => some [e]) = _
    rw [i0]
    rfl
  have ez : doneS (seqS ((ev Γ 108).s 9) fn_show_story.body (startE fn_show_story [.ref 0])) (.lst us :: os) = .exc "BadStory" (.int 0) ((.lst us :: os) ++ []) := by
    rw [List.append_nil]
    exact show_non (n := 98) (kd := "list") rfl (by decide)
  obtain ⟨g3, e4⟩ := sub_keepX (h := h) (ds := [.ref l1]) (m := fun es => doneS (seqS ((ev Γ 108).s 9) fn_show_story.body (startE fn_show_story es))) hr (gets_cons r.at1 g1) (renOs_cons eu (g2 _)) h3 ez rfl
  exact ⟨g3, call_ok (fn := fn_show_story) (m := fun _ => M.fail) rfl rfl e4⟩
theorem thing_show {q : Nat} {x : D} (hx : x ∈ things l1 q) (r : Road h l1 ds qs bs) (hq : h[q]? = some (.dct [])) : ∃ g, callF Γ (ev Γ 108) 10 "show_story" [x] h = .exc "BadStory" (.int 0) (h ++ g) := by
  simp only [things, List.mem_cons, List.not_mem_nil, or_false] at hx
  rcases hx with rfl | rfl | rfl | rfl | rfl | rfl | rfl
  · exact show_flat rfl rfl (by decide) h
  · exact show_road r
  · exact show_flat rfl rfl (by decide) h
  · exact show_flat rfl rfl (by decide) h
  · exact show_dct hq
  · exact show_flat rfl rfl (by decide) h
  · exact show_flat rfl rfl (by decide) h
theorem st_I {B a b c : Int} (P : Pot B b c) (hB : B ≤ 1000000) {y2 y5 y6 y7 y9 : D} (r : Road h l1 ds qs bs) (h0 : h[0]? = some (pot a b c)) :
    ∃ x a1 c1 q h2, (ev Γ 114).s 12 sI [some (.ref 0), some (.ref l1), some y2, none, x4, some y5, some y6, some y7, none, some y9, none] h = .ok (.nx [some (.ref 0), some (.ref l1), some y2, none, x4, some y5, some y6, some y7, none, some y9, some x]) h2 ∧ x ∈ things l1 q ∧ h2[0]? = some (pot a1 b c1) ∧ Road h2 l1 ds qs bs ∧ h2[q]? = some (.dct []) ∧ 0 ≤ c1 ∧ c1 ≤ c + 1 := by
  have hlt := lt_of r.at1
  have hlt0 := lt_of h0
  have hq : ((h ++ [O.dct []]) ++ [O.lst (things l1 h.length)])[h.length]? = some (.dct []) := get_app (by simp)
  have hs : ((h ++ [O.dct []]) ++ [O.lst (things l1 h.length)])[(h ++ [O.dct []]).length]? = some (.lst (things l1 h.length)) := by simp
  have hsl : (h ++ [O.dct []]).length = h.length + 1 := by simp
  have r1 : Road ((h ++ [O.dct []]) ++ [O.lst (things l1 h.length)]) l1 ds qs bs := r.app.app
  have h00 : ((h ++ [O.dct []]) ++ [O.lst (things l1 h.length)])[0]? = some (pot a b c) := get_app (get_app h0)
  obtain ⟨x, a1, c1, g, e, hx, b0, b1⟩ := of_things (a := a) P hB (s := (h ++ [O.dct []]).length) (q := h.length) r1 h00 hs hq (by omega) (by omega)
  refine ⟨x, a1, c1, h.length, _, es_asg (ee_call (ea_cons (ee_v rfl) (ea_cons (ee_lst (ea_cons ee_c (ea_cons (ee_v rfl) (ea_cons ee_c (ea_cons ee_c (ea_cons ee_dct0 (ea_cons ee_c (ea_cons ee_c ea_nil))))))) (by show 7 ≤ 1000; decide)) ea_nil)) e), hx, get_app (get_put h00), r1.pot h00, get_app (get_set hq (by omega)), b0, b1⟩
theorem st_J {q : Nat} {y2 y5 y7 y9 x : D} (r : Road h l1 ds qs bs) (hx : x ∈ things l1 q) (hq : h[q]? = some (.dct [])) : ∃ g, (ev Γ 114).s 12 sJ [some (.ref 0), some (.ref l1), some y2, none, x4, some y5, some (.str (PyData.list qs).shown), some y7, none, some y9, some x] h = .ok (.rt (.bl true)) (h ++ g) := by
  obtain ⟨g, e⟩ := thing_show hx r hq
  obtain ⟨a1, a2, a3⟩ := r.its.lst_sm r.n
  have r1 : Road ((h ++ g) ++ [.exc "BadStory" (.int 0)]) l1 ds qs bs := r.app.app
  have eh : (ev Γ 110).e 12 (.heard "_law_heard" (.call "show_story" [(.v 10)])) [some (.ref 0), some (.ref l1), some y2, none, x4, some y5, some (.str (PyData.list qs).shown), some y7, none, some y9, some x] h = .ok (.tup [.str "bad", .int 0]) ((h ++ g) ++ [.exc "BadStory" (.int 0)]) :=
    ee_heardB (n := 99) (k := 10) (ee_callX (ea_cons (ee_v rfl) ea_nil) e)
  have s1 : (PyData.tuple [.str "bad", .int 0]).showable = true := by decide +kernel
  have s2 : (PyData.tuple [.str "bad", .int 0]).depth ≤ 64 := by decide +kernel
  have s3 : (PyData.tuple [.str "bad", .int 0]).shown.length ≤ 100000 := by decide +kernel
  have hc : ∀ (h : Ob) (z : Str), cmpB .eq h (.str z) (.str z) = some true := fun h z => by
    show some (decide (z = z)) = _
    rw [decide_eq_true rfl]
  refine ⟨g ++ [.exc "BadStory" (.int 0)], ?_⟩
  rw [← List.append_assoc]
  exact es_ret (ee_andT (x := .bl true) (ee_cmp (ee_reprD eh rfl rfl s1 s2 s3) (ee_reprD (ee_tup (ea_cons ee_c (ea_cons ee_c ea_nil)) (by show 2 ≤ 1000; decide)) rfl rfl s1 s2 s3) (hc _ _)) rfl (ee_cmp (ee_reprD (ee_v rfl) (r1.its.lst_pdr r1.at1) rfl a1 a2 a3) (ee_v rfl) (hc _ _)))
end
/-- _law_right over its own heap -/
theorem right_run {B a b c : Int} (P : Pot B b c) (hB : B + 40 ≤ 1000000) : ∃ a1 c1 g, doneS (seqS ((ev Γ 114).s 12) fn__law_right.body (startE fn__law_right [.ref 0])) [pot a b c] = .ok (.bl true) (pot a1 b c1 :: g) ∧ Pot (B + 40) b c1 := by
  obtain ⟨ms, l1, a1, c1, h1, e1, p1, P1, q1, l0, hn, hm⟩ := st_A (a := a) P hB
  obtain ⟨l2, ds, qs, bs, x4, a2, c2, h2, e2, p2, P2, r2⟩ := st_B (a := a1) P1 (by omega) p1 q1 l0 hn hm
  have e3 := st_C (x4 := x4) r2
  obtain ⟨h4, e4, p4, r4⟩ := st_D (x4 := x4) (y6 := .str (PyData.list qs).shown) r2 p2
  obtain ⟨l9, h5, ρ5, e5, h6, e6, p6, r6, q6⟩ := st_EF (x4 := x4) (y6 := .str (PyData.list qs).shown) r4 p4
  obtain ⟨g7, e7⟩ := st_G (x4 := x4) (y6 := .str (PyData.list qs).shown) r6 q6
  obtain ⟨g8, e8⟩ := st_H (x4 := x4) (y6 := .str (PyData.list qs).shown) (y9 := .ref l9) (r6.app (g := g7))
  obtain ⟨x, a9, c9, q, h9, e9, hx, p9, r9, q9, b0, b1⟩ := st_I (x4 := x4) (a := a2) P2 (by omega) (y2 := .int (badI (ff bs))) (y5 := .tup ds) (y6 := .str (PyData.list qs).shown) (y7 := dueOf ds (ff bs)) (y9 := .ref l9) ((r6.app (g := g7)).app (g := g8)) (get_app (get_app p6))
  obtain ⟨g10, e10⟩ := st_J (x4 := x4) (y2 := .int (badI (ff bs))) (y5 := .tup ds) (y7 := dueOf ds (ff bs)) (y9 := .ref l9) r9 hx q9
  have fin : (h9 ++ g10)[0]? = some (pot a9 b c9) := get_app p9
  have all : doneS (seqS ((ev Γ 114).s 12) fn__law_right.body (startE fn__law_right [.ref 0])) [pot a b c] = .ok (.bl true) (h9 ++ g10) := by
    rw [right_body]
    exact done_rt (ess_nx e1 (ess_nx e2 (ess_nx e3 (ess_nx e4 (ess_nx e5 (ess_nx e6 (ess_nx e7 (ess_nx e8 (ess_nx e9 (ess_rt e10))))))))))
  cases hh : h9 ++ g10 with
  | nil => rw [hh] at fin; cases fin
  | cons o g =>
    rw [hh] at fin all
    have z : o = pot a9 b c9 := by simpa using fin
    subst z
    exact ⟨a9, c9, g, all, P2.up b0 b1 (by omega)⟩
end K88
namespace K88
open PySem PySem.Spec L2 MP
def intD (ns : List Int) : List D := ns.map D.int
theorem refs_ints : ∀ ns : List Int, refsDs (intD ns) = []
  | [] => rfl
  | n :: ns => by
    show [] ++ refsDs (intD ns) = []
    rw [refs_ints ns]
    rfl
theorem small_bit (t : Bool) : small (if t = true then 1 else 0) = true := by cases t <;> decide
theorem pot_tail (cell : Int) (k : Nat) (hk : k ≤ 2) (x0 : Option D) : ∃ a b g, seqS ((ev Γ 117).s 12) [(.asg 3 (.bin .mul (.bin .mod (.bi .int [(.bi .abs [(.v 2)])]) (.bin .pow (.bin .pow (.c (.int 10)) (.c (.int 60))) (.c (.int 5)))) (.bi .int [(.cmp .ge (.bi .abs [(.v 2)]) (.bin .pow (.c (.int 10)) (.c (.int 18))))]))), (.asg 4 (.bin .add (.bin .add (.bin .mul (.bin .mod (.bi .int [(.v 2)]) (.c (.int 2305843009213693951))) (.c (.int 70913))) (.bin .mul (.bin .mul (.c (.int 6701)) (.v 1)) (.v 1))) (.c (.int 59)))), (.ret (.lst [(.v 3), (.bin .mod (.bi .int [(.v 4)]) (.c (.int 2305843009213693921))), (.c (.int 0))]))]
    [x0, some (.int (k : Int)), some (.int cell), none, none] [] = .ok (.rt (.ref 0)) [pot a b 0] ∧ 0 ≤ b ∧ b ≤ 2305843009213693921 ∧ g = 0 := by
  have key : ∃ a z, seqS ((ev Γ 117).s 12) [(.asg 3 (.bin .mul (.bin .mod (.bi .int [(.bi .abs [(.v 2)])]) (.bin .pow (.bin .pow (.c (.int 10)) (.c (.int 60))) (.c (.int 5)))) (.bi .int [(.cmp .ge (.bi .abs [(.v 2)]) (.bin .pow (.c (.int 10)) (.c (.int 18))))]))), (.asg 4 (.bin .add (.bin .add (.bin .mul (.bin .mod (.bi .int [(.v 2)]) (.c (.int 2305843009213693951))) (.c (.int 70913))) (.bin .mul (.bin .mul (.c (.int 6701)) (.v 1)) (.v 1))) (.c (.int 59)))), (.ret (.lst [(.v 3), (.bin .mod (.bi .int [(.v 4)]) (.c (.int 2305843009213693921))), (.c (.int 0))]))]
      [x0, some (.int (k : Int)), some (.int cell), none, none] [] = .ok (.rt (.ref 0)) [pot a (Int.fmod z 2305843009213693921) 0] :=
    ⟨_, _, ess_nx (es_asg (ee_bin (ee_bin (ee_bi (ea_cons (ee_bi (ea_cons (ee_v rfl) ea_nil) rfl) ea_nil) rfl) (ee_bin (ee_bin ee_c ee_c (bo_pow ⟨by decide, by decide +kernel⟩)) ee_c (bo_pow ⟨by decide, by decide +kernel⟩)) (bo_mod (by decide +kernel))) (ee_bi (ea_cons (ee_cmp (ee_bi (ea_cons (ee_v rfl) ea_nil) rfl) (ee_bin ee_c ee_c (bo_pow ⟨by decide, by decide +kernel⟩)) rfl) ea_nil) rfl) (bo_mul (by rw [small_bit, Bool.or_true]))))
      (ess_nx (es_asg (ee_bin (ee_bin (ee_bin (ee_bin (ee_bi (ea_cons (ee_v rfl) ea_nil) rfl) ee_c (bo_mod (by decide))) ee_c (bo_mul (by rw [show small 70913 = true by decide, Bool.or_true]))) (ee_bin (ee_bin ee_c (ee_v rfl) (bo_mul (by rw [show small 6701 = true by decide, Bool.true_or]))) (ee_v rfl) (bo_mul (by rw [small_of (u := (k : Int)) (by omega) (by omega), Bool.or_true]))) bo_add) ee_c bo_add))
      (ess_rt (es_ret (ee_lst (h1 := []) (ea_cons (ee_v rfl) (ea_cons (ee_bin (ee_bi (ea_cons (ee_v rfl) ea_nil) rfl) ee_c (bo_mod (v := 2305843009213693921) (by decide))) (ea_cons ee_c ea_nil))) (by show 3 ≤ 1000; decide)))))⟩
  obtain ⟨a, z, e⟩ := key
  exact ⟨a, _, 0, e, fmod_lo z _ (by decide), Int.le_of_lt (fmod_hi z _ (by decide)), rfl⟩
theorem pot_run (ns : List Int) (k : Nat) (hk : k ≤ 2) : ∃ a b, doneS (seqS ((ev Γ 117).s 12) fn__law_pot.body (startE fn__law_pot [.fl (intD ns), .int (k : Int)])) [] = .ok (.ref 0) [pot a b 0] ∧ 0 ≤ b ∧ b ≤ 2305843009213693921 := by
  have hlen : biD .len [.fl (intD ns)] [] = .ok (.int ((intD ns).length : Int)) [] := rfl
  by_cases hl : k < ns.length
  · have hix : ixD (.fl (intD ns)) (.int (k : Int)) [] = .ok (.int (ns[k]'hl)) [] := by
      have ea : atI (intD ns) (k : Int) = some (.int (ns[k]'hl)) := by
        unfold atI ixN intD
        rw [if_pos (by omega), List.length_map, if_pos (by omega)]
        show (ns.map D.int)[((k : Int)).toNat]? = _
        rw [Int.toNat_natCast, List.getElem?_map, List.getElem?_eq_getElem hl]
        rfl
      show (match atI (intD ns) (k : Int) with | some d => R.ok d [] | none => .bad) = _
      rw [ea]
    obtain ⟨a, b, _, e, b0, b1, _⟩ := pot_tail (ns[k]'hl) k hk (some (.fl (intD ns)))
    refine ⟨a, b, done_rt (ess_nx (es_asg (ee_iteT (ee_cmp (ee_v rfl) (ee_bi (ea_cons (ee_v rfl) ea_nil) hlen) ?_) rfl (ee_ix (ee_v rfl) (ee_v rfl) hix))) e), b0, b1⟩
    show some (decide ((k : Int) < ((intD ns).length : Int))) = some true
    rw [decide_eq_true (by unfold intD; rw [List.length_map]; omega)]
  · obtain ⟨a, b, _, e, b0, b1, _⟩ := pot_tail (41 * (k : Int) + 13) k hk (some (.fl (intD ns)))
    refine ⟨a, b, done_rt (ess_nx (es_asg (ee_iteF (ee_cmp (ee_v rfl) (ee_bi (ea_cons (ee_v rfl) ea_nil) hlen) ?_) rfl (ee_bin (ee_bin ee_c (ee_v rfl) (bo_mul (by rw [show small 41 = true by decide, Bool.true_or]))) ee_c bo_add))) e), b0, b1⟩
    show some (decide ((k : Int) < ((intD ns).length : Int))) = some false
    rw [decide_eq_false (by unfold intD; rw [List.length_map]; omega)]
theorem pot_call (ns : List Int) (k : Nat) (hk : k ≤ 2) (h : Ob) : ∃ a b, callF Γ (ev Γ 117) 13 "_law_pot" [.fl (intD ns), .int (k : Int)] h = .ok (.ref h.length) (h ++ [pot a b 0]) ∧ Pot 0 b 0 := by
  obtain ⟨a, b, e, b0, b1⟩ := pot_run ns k hk
  have hr : refsDs [.fl (intD ns), .int (k : Int)] = [] := by
    show refsDs (intD ns) ++ ([] ++ []) = []
    rw [refs_ints]
    rfl
  have e1 := sub_run (ds := [.fl (intD ns), .int (k : Int)]) (h := h) (m := fun es => doneS (seqS ((ev Γ 117).s 12) fn__law_pot.body (startE fn__law_pot es))) (os := []) (os1 := []) (g1 := [pot a b 0]) (d1 := .ref h.length) [] (by rw [hr]; rfl) rfl rfl (renDs_id _ _ hr) e rfl rfl
  exact ⟨a, b, call_ok (fn := fn__law_pot) (m := fun _ => M.fail) rfl rfl e1, ⟨b0, b1, by decide, by decide⟩⟩
theorem right_call {B a b c : Int} (P : Pot B b c) (hB : B + 40 ≤ 1000000) {h : Ob} {p : Nat} (hp : h[p]? = some (pot a b c)) : ∃ a1 c1 g, callF Γ (ev Γ 114) 13 "_law_right" [.ref p] h = .ok (.bl true) (h.set p (pot a1 b c1) ++ g) ∧ Pot (B + 40) b c1 := by
  obtain ⟨a1, c1, g, e, P1⟩ := right_run (a := a) P hB
  obtain ⟨g1, e1⟩ := sub_chg (h := h) (ds := [.ref p]) (L := []) (os := []) (m := fun es => doneS (seqS ((ev Γ 114).s 12) fn__law_right.body (startE fn__law_right es))) (p1 := pot a1 b c1) (reach1 hp rfl) List.not_mem_nil (gets_cons hp rfl) (renOs_cons ren_pot rfl) (ren1 p) e rfl rfl
  exact ⟨a1, c1, g1, call_ok (fn := fn__law_right) (m := fun _ => M.fail) rfl rfl e1, P1⟩
theorem right_loop {b : Int} {p l : Nat} (hpl : p ≠ l) {its : List D} {x0 x1 : Option D} : ∀ (m i : Nat) (B a c : Int) (acc : List D) (h : Ob), i + m = its.length → h[p]? = some (pot a b c) → Pot B b c → B + 40 * m ≤ 1000000 → h[l]? = some (.lst acc) → acc.length + m ≤ 1000 →
    ∃ h1, loopC (.items its) (.name 3) ((ev Γ 115).e 13 (.call "_law_right" [(.v 2)])) l [x0, x1, some (.ref p), none] m i h = .ok () h1 ∧ h1[l]? = some (.lst (acc ++ List.replicate m (.bl true)))
  | 0, i, B, a, c, acc, h, hi, hp, P, hB, hl, hz => by
    refine ⟨h, loopC_end rfl ?_, by rw [hl]; simp⟩
    show its[i]? = none
    exact List.getElem?_eq_none (by omega)
  | m + 1, i, B, a, c, acc, h, hi, hp, P, hB, hl, hz => by
    have hlt : i < its.length := by omega
    obtain ⟨a1, c1, g, e, P1⟩ := right_call (a := a) P (by omega) hp
    have e4 : (ev Γ 115).e 13 (.call "_law_right" [(.v 2)]) [x0, x1, some (.ref p), some its[i]] h = .ok (.bl true) (h.set p (pot a1 b c1) ++ g) := ee_call (ea_cons (ee_v rfl) ea_nil) e
    have hl2 : (h.set p (pot a1 b c1) ++ g)[l]? = some (.lst acc) := get_app (get_set hl hpl)
    have el := loopC_nx (v := .items its) (tg := .name 3) (m := m) (ρ := [x0, x1, some (.ref p), none]) (h := h) rfl (List.getElem?_eq_getElem hlt : its[i]? = some its[i]) rfl e4 hl2 (by omega)
    obtain ⟨h2, r1, r2⟩ := right_loop hpl (its := its) (x0 := x0) (x1 := x1) m (i + 1) (B + 40) a1 c1 (acc ++ [.bl true]) _ (by omega) (get_set (get_app (get_put hp)) (Ne.symm hpl)) P1 (by omega) (get_put hl2) (by rw [List.length_append]; simp; omega)
    refine ⟨h2, el.trans r1, ?_⟩
    rw [r2, List.append_assoc, List.replicate_succ]
    rfl
theorem bools_rep : ∀ n : Nat, boolsOf (List.replicate n (.bl true)) = some (List.replicate n true)
  | 0 => rfl
  | n + 1 => by
    rw [List.replicate_succ, List.replicate_succ]
    show (boolsOf (List.replicate n (.bl true))).map (true :: ·) = _
    rw [bools_rep n]
    rfl
abbrev lBody : List S := [(.asg 2 (.call "_law_pot" [(.v 0), (.v 1)])), (.ifs (.not (.bi .all [(.lc (.call "_law_right" [(.v 2)]) (.name 3) (.rng (.c (.int 15))) [3])])) [(.ret (.c (.bl false)))] [])]
theorem turn_ok (ns : List Int) (k : Nat) (hk : k ≤ 2) (x2 x3 : Option D) (h : Ob) : ∃ x h1, seqS ((ev Γ 119).s 13) lBody [some (.fl (intD ns)), some (.int (k : Int)), x2, x3] h = .ok (.nx [some (.fl (intD ns)), some (.int (k : Int)), x, x3]) h1 := by
  obtain ⟨a, b, e, P⟩ := pot_call ns k hk h
  have hp : (h ++ [pot a b 0])[h.length]? = some (pot a b 0) := by simp
  have hl : ((h ++ [pot a b 0]) ++ [O.lst []])[(h ++ [pot a b 0]).length]? = some (.lst []) := by simp
  have hiv : ivE (ev Γ 115) 13 [some (.fl (intD ns)), some (.int (k : Int)), some (.ref h.length), x3] (.rng (.c (.int 15))) (h ++ [pot a b 0]) = .ok (.items ((List.range ((15 : Int)).toNat).map fun i => .int (i : Nat))) (h ++ [pot a b 0]) := ivp_rng ee_c ⟨by decide, by decide⟩
  obtain ⟨h2, r1, r2⟩ := right_loop (p := h.length) (l := (h ++ [pot a b 0]).length) (by simp) (its := (List.range ((15 : Int)).toNat).map fun i => .int (i : Nat)) (x0 := some (.fl (intD ns))) (x1 := some (.int (k : Int))) 15 0 0 a 0 [] ((h ++ [pot a b 0]) ++ [O.lst []]) rfl (get_app hp) P (by decide) hl (by decide)
  have hall : biD .all [.ref (h ++ [pot a b 0]).length] h2 = .ok (.bl true) h2 := by
    have e1 : listOf h2 (.ref (h ++ [pot a b 0]).length) = some ([] ++ List.replicate 15 (.bl true)) := by
      show (match h2[(h ++ [pot a b 0]).length]? with | some (O.lst xs) => some xs | _ => none) = _
      rw [r2]
    show (match listOf h2 (.ref (h ++ [pot a b 0]).length) with
      | some xs => match boolsOf xs with
        | some bs => R.ok (D.bl (bs.all id)) h2
        | none => .bad
      | none => .bad) = _
    rw [e1]
    rfl
  exact ⟨some (.ref h.length), h2, ess_nx (es_asg (ee_call (ea_cons (ee_v rfl) (ea_cons (ee_v rfl) ea_nil)) e)) (ess_nx (es_ifF (ee_not (ee_bi (ea_cons (ee_lc hiv r1) ea_nil) hall) rfl) rfl ess_nil) ess_nil)⟩
theorem law_loop (ns : List Int) {M : Nat} (hM : M ≤ 3) : ∀ (m i : Nat) (x1 x2 x3 : Option D) (h : Ob), i + m = M → ∃ ρ1 h1, loopS (.items ((List.range M).map fun i => .int (i : Nat))) (.name 1) (seqS ((ev Γ 119).s 13) lBody) m i [some (.fl (intD ns)), x1, x2, x3] h = .ok (.nx ρ1) h1
  | 0, i, x1, x2, x3, h, hi => ⟨_, _, loop_end rfl (by show ((List.range M).map fun i => D.int (i : Nat))[i]? = none; exact List.getElem?_eq_none (by simp; omega))⟩
  | m + 1, i, x1, x2, x3, h, hi => by
    have hget : (IV.items ((List.range M).map fun i => .int (i : Nat))).get h i = some (.int (i : Int)) := by
      show ((List.range M).map fun i => D.int (i : Nat))[i]? = _
      rw [List.getElem?_map, List.getElem?_range (by omega)]
      rfl
    obtain ⟨x, h1, e⟩ := turn_ok ns i (by omega) x2 x3 h
    have el := loop_nx (v := .items ((List.range M).map fun i => .int (i : Nat))) (tg := .name 1) (m := m) (ρ := [some (.fl (intD ns)), x1, x2, x3]) (h := h) rfl hget rfl e
    obtain ⟨ρ2, h2, e2⟩ := law_loop ns hM m (i + 1) (some (.int (i : Int))) x x3 h1 (by omega)
    exact ⟨ρ2, h2, el.trans e2⟩
theorem plain (ns : List Int) (hn : ns.length ≤ 63) : ∃ h, callF Γ (ev Γ 120) 14 "law" [.fl (ns.map D.int)] [] = .ok (.bl true) h := by
  have hM : ∃ M : Nat, M ≤ 3 ∧ (if (if ((intD ns).length : Int) < 3 then ((intD ns).length : Int) else 3) > 1 then (if ((intD ns).length : Int) < 3 then ((intD ns).length : Int) else 3) else 1) = (M : Int) := by
    refine ⟨(if (if ((intD ns).length : Int) < 3 then ((intD ns).length : Int) else 3) > 1 then (if ((intD ns).length : Int) < 3 then ((intD ns).length : Int) else 3) else 1).toNat, ?_, ?_⟩
    · split <;> split <;> omega
    · split <;> split <;> omega
  obtain ⟨M, hM3, eM⟩ := hM
  have hiv : ivE (ev Γ 119) 13 [some (.fl (intD ns)), none, none, none] (.rng (.bi .max [(.c (.int 1)), (.bi .min [(.c (.int 3)), (.bi .len [(.v 0)])])])) [] = .ok (.items ((List.range ((M : Int)).toNat).map fun i => .int (i : Nat))) [] := by
    refine ivp_rng (ee_bi (ea_cons ee_c (ea_cons (ee_bi (ea_cons ee_c (ea_cons (ee_bi (ea_cons (ee_v rfl) ea_nil) rfl) ea_nil)) rfl) ea_nil)) ?_) ⟨by omega, by omega⟩
    show R.ok (D.int (if (if ((intD ns).length : Int) < 3 then ((intD ns).length : Int) else 3) > 1 then (if ((intD ns).length : Int) < 3 then ((intD ns).length : Int) else 3) else 1)) [] = _
    rw [eM]
  rw [Int.toNat_natCast] at hiv
  obtain ⟨ρ1, h1, el⟩ := law_loop ns hM3 M 0 none none none [] (by omega)
  have hv : (IV.items ((List.range M).map fun i => .int (i : Nat))).len ([] : Ob) = M := by
    show ((List.range M).map fun i => D.int (i : Nat)).length = M
    simp
  have el2 : loopS (.items ((List.range M).map fun i => .int (i : Nat))) (.name 1) (seqS ((ev Γ 119).s 13) lBody) ((IV.items ((List.range M).map fun i => .int (i : Nat))).len ([] : Ob)) 0 [some (.fl (intD ns)), none, none, none] [] = .ok (.nx ρ1) h1 := by
    rw [hv]
    exact el
  have hrun : doneS (seqS ((ev Γ 120).s 13) fn_law.body (startE fn_law [.fl (intD ns)])) [] = .ok (.bl true) h1 := done_rt (ess_nx (es_for hiv el2) (ess_rt (es_ret ee_c)))
  have hr : refsDs [.fl (intD ns)] = [] := by
    show refsDs (intD ns) ++ [] = []
    rw [refs_ints]
    rfl
  obtain ⟨g, e⟩ := sub0 (h := []) (ds := [.fl (intD ns)]) (m := fun es => doneS (seqS ((ev Γ 120).s 13) fn_law.body (startE fn_law es))) hr hrun rfl
  exact ⟨_, call_ok (fn := fn_law) (m := fun _ => MP.M.fail) rfl rfl e⟩
end K88
open PySem PySem.W PyProof.Rows
set_option maxHeartbeats 0 in
theorem PySem.Challenge.cw_lastasked_k88_stories_written_and_read_holds : PySem.Challenge.rw_lastasked_k88_stories_written_and_read.Holds := by
  w_on; o_law; k_head; (case hw => w_witness2)
  k_fill
  refine MP.walkT (l := PySem.Challenge.rw_lastasked_k88_stories_written_and_read) (n := 63) (k := 14) (x := "_law_script") rfl (by decide) rfl ⟨rfl, by decide, by decide⟩ (by decide +kernel) (fun w h Y => PySem.W.km_in_of Y) ?F
  case F =>
    intro w mg fa h Y KX G hmg
    have gP := PySem.W.km_tabs_of Y 189 (List.mem_cons_self ..)
    suffices key : ∃ (ν : MP.Nm) (δ : MP.Ad) (cR : Addr), K88.Txt PySem.Challenge.pw_lastasked_k88_stories_written_and_read _ mg ν δ cR 189 ∧ PySem.W.CodeHd h cR 189 ∧ δ.fa "law" = fa ∧ δ.ps "law" = (["_law_script"] : List Str) ∧ ∀ (s : Shared) (u : Value), PySem.BindsTo s (δ.fd "law") ⟨[u], []⟩ [("_law_script", u)] by
      obtain ⟨ν, δ, cR, T, chd, e1, e2, hb⟩ := key
      exact K88.fin K88.plain gP (by first | rfl | decide +kernel | k_is) T chd e1 e2 hb
    refine' K88.all_mk (P := PySem.Challenge.pw_lastasked_k88_stories_written_and_read) 189 KX G hmg ?z_ValueError ?z_abs ?z_all ?z_bool ?z_enumerate ?z_int ?z_isinstance ?z_len ?z_max ?z_min ?z_range ?z_repr ?z_str ?z_super ?z_tuple ?g_LETTERS ?g_MOST_LETTERS ?g_TAKEN ?l_TAKEN ?g_BLANK ?g_FEED ?g_DEED ?g_OVER ?g_PLACED ?l_PLACED ?g_MOST_NUMBER ?g_DIGITS ?a_is_integer ?l_is_integer ?c_is_integer ?k_is_integer ?a_is_between ?l_is_between ?c_is_between ?k_is_between ?a_is_name ?l_is_name ?c_is_name ?k_is_name ?a_is_move ?l_is_move ?c_is_move ?k_is_move ?a_show_move ?l_show_move ?c_show_move ?k_show_move ?a_number_in ?l_number_in ?c_number_in ?k_number_in ?a_move_in ?l_move_in ?c_move_in ?k_move_in ?a_show_story ?l_show_story ?c_show_story ?k_show_story ?a_read_story ?l_read_story ?c_read_story ?k_read_story ?a__law_pot ?l__law_pot ?c__law_pot ?k__law_pot ?a__law_take ?l__law_take ?c__law_take ?k__law_take ?a__law_of ?l__law_of ?c__law_of ?k__law_of ?a__law_name ?l__law_name ?c__law_name ?k__law_name ?a__law_number ?l__law_number ?c__law_number ?k__law_number ?a__law_move ?l__law_move ?c__law_move ?k__law_move ?a__law_none ?l__law_none ?c__law_none ?k__law_none ?a__law_written ?l__law_written ?c__law_written ?k__law_written ?a__law_right ?l__law_right ?c__law_right ?k__law_right ?a_law ?l_law ?c_law ?k_law ?a__law_heard ?l__law_heard ?c__law_heard ?k__law_heard ?a_BadStory ?a_BadText ?a_LateError ?x_BadStory ?sa_BadStory ?ga_BadStory ?gg_BadStory ?nb_BadStory ?i_BadStory ?ti_BadStory ?lI_BadStory ?cI_BadStory ?lc_BadStory ?hv_BadStory ?hf_BadStory ?le_BadStory ?kC_BadStory ?eC_BadStory ?tC_BadStory ?vC_BadStory ?mC_BadStory ?oC_BadStory ?su_BadStory ?hd_BadStory ?cl_BadStory ?at_BadStory ?em_BadStory_LateError ?ki_BadStory_BadStory ?ki_BadStory_ValueError ?ki_BadStory_bool ?ki_BadStory_int ?ki_BadStory_str ?ki_BadStory_tuple ?x_BadText ?sa_BadText ?ga_BadText ?gg_BadText ?nb_BadText ?i_BadText ?ti_BadText ?lI_BadText ?cI_BadText ?lc_BadText ?hv_BadText ?hf_BadText ?le_BadText ?kC_BadText ?eC_BadText ?tC_BadText ?vC_BadText ?mC_BadText ?oC_BadText ?su_BadText ?hd_BadText ?cl_BadText ?at_BadText ?em_BadText_LateError ?ki_BadText_BadStory ?ki_BadText_ValueError ?ki_BadText_bool ?ki_BadText_int ?ki_BadText_str ?ki_BadText_tuple ?opq ?top ?spg ?tkg ?kp_BadStory_NoneType ?kp_BadStory_bool ?kp_BadStory_int ?kp_BadStory_str ?kp_BadStory_tuple ?kp_BadStory_list ?kp_BadStory_dict ?kp_ValueError_NoneType ?kp_ValueError_bool ?kp_ValueError_int ?kp_ValueError_str ?kp_ValueError_tuple ?kp_ValueError_list ?kp_ValueError_dict ?kp_bool_NoneType ?kp_bool_bool ?kp_bool_int ?kp_bool_str ?kp_bool_tuple ?kp_bool_list ?kp_bool_dict ?kp_int_NoneType ?kp_int_bool ?kp_int_int ?kp_int_str ?kp_int_tuple ?kp_int_list ?kp_int_dict ?kp_str_NoneType ?kp_str_bool ?kp_str_int ?kp_str_str ?kp_str_tuple ?kp_str_list ?kp_str_dict ?kp_tuple_NoneType ?kp_tuple_bool ?kp_tuple_int ?kp_tuple_str ?kp_tuple_tuple ?kp_tuple_list ?kp_tuple_dict ?lcR ?r11 ?r12 ?r18 ?r7 ?r9 ?r10 ?nR
    (case z_ValueError => k_is)
    (case z_abs => k_is)
    (case z_all => k_is)
    (case z_bool => k_is)
    (case z_enumerate => k_is)
    (case z_int => k_is)
    (case z_isinstance => k_is)
    (case z_len => k_is)
    (case z_max => k_is)
    (case z_min => k_is)
    (case z_range => k_is)
    (case z_repr => k_is)
    (case z_str => k_is)
    (case z_super => k_is)
    (case z_tuple => k_is)
    (case g_LETTERS => k_is)
    (case g_MOST_LETTERS => k_is)
    (case g_TAKEN => k_is)
    (case l_TAKEN => k_is)
    (case g_BLANK => k_is)
    (case g_FEED => k_is)
    (case g_DEED => k_is)
    (case g_OVER => k_is)
    (case g_PLACED => k_is)
    (case l_PLACED => k_is)
    (case g_MOST_NUMBER => k_is)
    (case g_DIGITS => k_is)
    (case a_is_integer => k_is)
    (case l_is_integer => k_is)
    (case c_is_integer => k_is)
    (case k_is_integer => k_is)
    (case a_is_between => k_is)
    (case l_is_between => k_is)
    (case c_is_between => k_is)
    (case k_is_between => k_is)
    (case a_is_name => k_is)
    (case l_is_name => k_is)
    (case c_is_name => k_is)
    (case k_is_name => k_is)
    (case a_is_move => k_is)
    (case l_is_move => k_is)
    (case c_is_move => k_is)
    (case k_is_move => k_is)
    (case a_show_move => k_is)
    (case l_show_move => k_is)
    (case c_show_move => k_is)
    (case k_show_move => k_is)
    (case a_number_in => k_is)
    (case l_number_in => k_is)
    (case c_number_in => k_is)
    (case k_number_in => k_is)
    (case a_move_in => k_is)
    (case l_move_in => k_is)
    (case c_move_in => k_is)
    (case k_move_in => k_is)
    (case a_show_story => k_is)
    (case l_show_story => k_is)
    (case c_show_story => k_is)
    (case k_show_story => k_is)
    (case a_read_story => k_is)
    (case l_read_story => k_is)
    (case c_read_story => k_is)
    (case k_read_story => k_is)
    (case a__law_pot => k_is)
    (case l__law_pot => k_is)
    (case c__law_pot => k_is)
    (case k__law_pot => k_is)
    (case a__law_take => k_is)
    (case l__law_take => k_is)
    (case c__law_take => k_is)
    (case k__law_take => k_is)
    (case a__law_of => k_is)
    (case l__law_of => k_is)
    (case c__law_of => k_is)
    (case k__law_of => k_is)
    (case a__law_name => k_is)
    (case l__law_name => k_is)
    (case c__law_name => k_is)
    (case k__law_name => k_is)
    (case a__law_number => k_is)
    (case l__law_number => k_is)
    (case c__law_number => k_is)
    (case k__law_number => k_is)
    (case a__law_move => k_is)
    (case l__law_move => k_is)
    (case c__law_move => k_is)
    (case k__law_move => k_is)
    (case a__law_none => k_is)
    (case l__law_none => k_is)
    (case c__law_none => k_is)
    (case k__law_none => k_is)
    (case a__law_written => k_is)
    (case l__law_written => k_is)
    (case c__law_written => k_is)
    (case k__law_written => k_is)
    (case a__law_right => k_is)
    (case l__law_right => k_is)
    (case c__law_right => k_is)
    (case k__law_right => k_is)
    (case a_law => k_is)
    (case l_law => k_is)
    (case c_law => k_is)
    (case k_law => k_is)
    (case a__law_heard => k_is)
    (case l__law_heard => k_is)
    (case c__law_heard => k_is)
    (case k__law_heard => k_is)
    (case a_BadStory => k_is)
    (case a_BadText => k_is)
    (case a_LateError => k_is)
    (case x_BadStory => k_is)
    (case sa_BadStory => k_is)
    (case ga_BadStory => k_is)
    (case gg_BadStory => k_is)
    (case nb_BadStory => k_is)
    (case i_BadStory => k_is)
    (case ti_BadStory => k_is)
    (case lI_BadStory => k_is)
    (case cI_BadStory => k_is)
    (case lc_BadStory => k_is)
    (case hv_BadStory => rfl)
    (case hf_BadStory => decide +kernel)
    (case le_BadStory => k_is)
    (case kC_BadStory => k_is)
    (case eC_BadStory => k_is)
    (case tC_BadStory => k_is)
    (case vC_BadStory => k_is)
    (case mC_BadStory => k_is)
    (case oC_BadStory => k_is)
    (case su_BadStory => ks_is)
    (case hd_BadStory => k_is)
    (case cl_BadStory => k_is)
    (case at_BadStory => k_is)
    (case em_BadStory_LateError => kts_exm)
    (case ki_BadStory_BadStory => kit_is)
    (case ki_BadStory_ValueError => kit_is)
    (case ki_BadStory_bool => kit_is)
    (case ki_BadStory_int => kit_is)
    (case ki_BadStory_str => kit_is)
    (case ki_BadStory_tuple => kit_is)
    (case x_BadText => k_is)
    (case sa_BadText => k_is)
    (case ga_BadText => k_is)
    (case gg_BadText => k_is)
    (case nb_BadText => k_is)
    (case i_BadText => k_is)
    (case ti_BadText => k_is)
    (case lI_BadText => k_is)
    (case cI_BadText => k_is)
    (case lc_BadText => k_is)
    (case hv_BadText => rfl)
    (case hf_BadText => decide +kernel)
    (case le_BadText => k_is)
    (case kC_BadText => k_is)
    (case eC_BadText => k_is)
    (case tC_BadText => k_is)
    (case vC_BadText => k_is)
    (case mC_BadText => k_is)
    (case oC_BadText => k_is)
    (case su_BadText => ks_is)
    (case hd_BadText => k_is)
    (case cl_BadText => k_is)
    (case at_BadText => k_is)
    (case em_BadText_LateError => kts_exm)
    (case ki_BadText_BadStory => kit_is)
    (case ki_BadText_ValueError => kit_is)
    (case ki_BadText_bool => kit_is)
    (case ki_BadText_int => kit_is)
    (case ki_BadText_str => kit_is)
    (case ki_BadText_tuple => kit_is)
    (case opq => k_is)
    (case top => decide +kernel)
    (case spg => k_is)
    (case tkg => k_is)
    (case kp_BadStory_NoneType => kit_is)
    (case kp_BadStory_bool => kit_is)
    (case kp_BadStory_int => kit_is)
    (case kp_BadStory_str => kit_is)
    (case kp_BadStory_tuple => kit_is)
    (case kp_BadStory_list => kit_is)
    (case kp_BadStory_dict => kit_is)
    (case kp_ValueError_NoneType => kit_is)
    (case kp_ValueError_bool => kit_is)
    (case kp_ValueError_int => kit_is)
    (case kp_ValueError_str => kit_is)
    (case kp_ValueError_tuple => kit_is)
    (case kp_ValueError_list => kit_is)
    (case kp_ValueError_dict => kit_is)
    (case kp_bool_NoneType => kit_is)
    (case kp_bool_bool => kit_is)
    (case kp_bool_int => kit_is)
    (case kp_bool_str => kit_is)
    (case kp_bool_tuple => kit_is)
    (case kp_bool_list => kit_is)
    (case kp_bool_dict => kit_is)
    (case kp_int_NoneType => kit_is)
    (case kp_int_bool => kit_is)
    (case kp_int_int => kit_is)
    (case kp_int_str => kit_is)
    (case kp_int_tuple => kit_is)
    (case kp_int_list => kit_is)
    (case kp_int_dict => kit_is)
    (case kp_str_NoneType => kit_is)
    (case kp_str_bool => kit_is)
    (case kp_str_int => kit_is)
    (case kp_str_str => kit_is)
    (case kp_str_tuple => kit_is)
    (case kp_str_list => kit_is)
    (case kp_str_dict => kit_is)
    (case kp_tuple_NoneType => kit_is)
    (case kp_tuple_bool => kit_is)
    (case kp_tuple_int => kit_is)
    (case kp_tuple_str => kit_is)
    (case kp_tuple_tuple => kit_is)
    (case kp_tuple_list => kit_is)
    (case kp_tuple_dict => kit_is)
    (case lcR => k_is)
    (case r11 => rfl)
    (case r12 => rfl)
    (case r18 => rfl)
    (case r7 => rfl)
    (case r9 => rfl)
    (case r10 => rfl)
    (case nR => decide)
