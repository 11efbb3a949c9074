import PyProof.Rows.All
import HandS.ForMost
import HandS.Wide
import HandS.Flow
import HandS.IsInst
import HandS.TupAny
import HandS.Style
import HandS.Deep
import HandS.Conv
import HandS.Walk
import HandS.Defaults
import HandS.RaiseMore
import HandS.Star
import HandS.SetFor
import PySem.Challenge.RW_lyinghouse_k78_words_of_wrong_events
set_option Elab.async false
set_option linter.all false
set_option maxRecDepth 100000
set_option maxHeartbeats 2000000
set_option autoImplicit false
/-! L3: values with tuples and lists as data, a store of what changes; readings over these, put upon the hand layer's. -/
namespace L3
open PySem L2

/-- a value as data: lst: a list that does not change any more; rol: one that may only be read; ref: a thing of the store, or any other object -/
inductive AV where
  | non | bl (b : Bool) | int (i : Int) | str (x : Str) | tup (xs : List AV) | lst (xs : List AV) | rol (xs : List AV) | ref (a : Addr) | ty (n : String)
  deriving Inhabited
/-- what changes -/
inductive AO where
  | lst (xs : List AV) | dK (kvs : List (Key × AV)) | ins (C : Addr) (fs : List (Str × AV)) | hid
abbrev Store := Addr → Option AO
abbrev ASt := List (Option AV)
def updS (S : Store) (a : Addr) (o : AO) : Store := fun b => if b = a then some o else S b
def dropS (S : Store) (a : Addr) : Store := fun b => if b = a then none else S b
theorem updS_same {S : Store} {a : Addr} {o : AO} : updS S a o a = some o := by unfold updS; rw [if_pos rfl]
theorem updS_ne {S : Store} {a b : Addr} {o : AO} (h : b ≠ a) : updS S a o b = S b := by unfold updS; rw [if_neg h]
theorem updS_updS {S : Store} {a : Addr} {o u : AO} : updS (updS S a o) a u = updS S a u := by
  funext b; unfold updS; split <;> rfl
theorem updS_comm {S : Store} {a b : Addr} {o u : AO} (h : a ≠ b) : updS (updS S a o) b u = updS (updS S b u) a o := by
  funext c; unfold updS; split <;> split <;> simp_all
theorem updS_self {S : Store} {a : Addr} {o : AO} (h : S a = some o) : updS S a o = S := by
  funext b; unfold updS; split
  · next e => rw [e, h]
  · rfl
theorem dropS_same {S : Store} {a : Addr} : dropS S a a = none := by unfold dropS; rw [if_pos rfl]
theorem dropS_ne {S : Store} {a b : Addr} (h : b ≠ a) : dropS S a b = S b := by unfold dropS; rw [if_neg h]
theorem dropS_upd {S : Store} {a : Addr} {o : AO} (h : S a = none) : dropS (updS S a o) a = S := by
  funext b; unfold dropS updS; split
  · next e => rw [e, h]
  · rfl
theorem dropS_updS {S : Store} {a : Addr} {o : AO} : dropS (updS S a o) a = dropS S a := by
  funext b; unfold dropS updS; split <;> rfl
theorem dropS_comm {S : Store} {a b : Addr} {o : AO} (h : a ≠ b) : dropS (updS S b o) a = updS (dropS S a) b o := by
  funext c; unfold dropS updS; split <;> split <;> simp_all
theorem dropS_none {S : Store} {a : Addr} (h : S a = none) : dropS S a = S := by
  funext b; unfold dropS; split
  · next e => rw [e, h]
  · rfl
theorem neS {S : Store} {a b : Addr} {o : AO} (h : S a = some o) (h' : S b = none) : a ≠ b := by
  rintro rfl; rw [h] at h'; cases h'

/-- a tuple, a list of the written part -/
def KTup (K : PySem.W.Frag) (a : Addr) (xs : List V) : Prop := ∃ (o : Obj) (its : Array Value) (n : Nat), K.lookup a = some o ∧ o.cls = .type "tuple" ∧ o.data = .seq its n ∧ its.size ≤ sizeLine ∧ Vals xs its.toList
def KLst (K : PySem.W.Frag) (a : Addr) (xs : List V) : Prop := ∃ (o : Obj) (its : Array Value) (n : Nat), K.lookup a = some o ∧ o.cls = .type "list" ∧ o.dict = none ∧ o.data = .seq its n ∧ its.size ≤ sizeLine ∧ Vals xs its.toList
mutual
inductive RelA (K : PySem.W.Frag) (H : Hp) (S : Store) : V → AV → Prop
  | non : RelA K H S .non .non
  | bl (b : Bool) : RelA K H S (.bl b) (.bl b)
  | int (i : Int) : RelA K H S (.int i) (.int i)
  | str (x : Str) : RelA K H S (.str x) (.str x)
  | ty (n : String) : RelA K H S (.ty n) (.ty n)
  | ref (a : Addr) : RelA K H S (.ref a) (.ref a)
  | tup {a : Addr} {vs : List V} {ds : List AV} : Rd H a (.tup vs) → S a = none → RelAs K H S vs ds → RelA K H S (.ref a) (.tup ds)
  | tupK {a : Addr} {vs : List V} {ds : List AV} : KTup K a vs → RelAs K H S vs ds → RelA K H S (.ref a) (.tup ds)
  | lst {a : Addr} {vs : List V} {ds : List AV} : H a = some (.lst vs) → S a = none → RelAs K H S vs ds → RelA K H S (.ref a) (.lst ds)
  | rol {a : Addr} {vs : List V} {ds : List AV} : Rd H a (.lst vs) → S a = none → RelAs K H S vs ds → RelA K H S (.ref a) (.rol ds)
  | rolK {a : Addr} {vs : List V} {ds : List AV} : KLst K a vs → RelAs K H S vs ds → RelA K H S (.ref a) (.rol ds)
inductive RelAs (K : PySem.W.Frag) (H : Hp) (S : Store) : List V → List AV → Prop
  | nil : RelAs K H S [] []
  | cons {v : V} {vs : List V} {d : AV} {ds : List AV} : RelA K H S v d → RelAs K H S vs ds → RelAs K H S (v :: vs) (d :: ds)
end

/-- what a stored thing is in the heap -/
def AoOk (K : PySem.W.Frag) (H : Hp) (S : Store) (a : Addr) : AO → Prop
  | .lst ds => ∃ vs, H a = some (.lst vs) ∧ RelAs K H S vs ds
  | .dK kvs => ∃ ws : List (Key × V), H a = some (.dK ws) ∧ ws.map (·.1) = kvs.map (·.1) ∧ RelAs K H S (ws.map (·.2)) (kvs.map (·.2))
  | .ins C fs => ∃ dx fv, H a = some (.ins C dx fv) ∧ fv.map (·.1) = fs.map (·.1) ∧ RelAs K H S (fv.map (·.2)) (fs.map (·.2))
  | .hid => ∃ o, H a = some o
def StOk (K : PySem.W.Frag) (H : Hp) (S : Store) : Prop := ∀ a o, S a = some o → AoOk K H S a o
/-- what may come between: only stored things change, and no hidden one -/
structure Step (H : Hp) (S : Store) (H' : Hp) (S' : Store) : Prop where
  old : ∀ a o, S a = none → H a = some o → H' a = some o ∧ S' a = none
  hid : ∀ a, S a = some .hid → H' a = H a ∧ S' a = some .hid
theorem Step.refl {H : Hp} {S : Store} : Step H S H S := ⟨fun _ _ n h => ⟨h, n⟩, fun _ h => ⟨rfl, h⟩⟩
theorem Step.trans {H H1 H2 : Hp} {S S1 S2 : Store} (a : Step H S H1 S1) (b : Step H1 S1 H2 S2) : Step H S H2 S2 :=
  ⟨fun x o n h => let ⟨h1, n1⟩ := a.old x o n h; b.old x o n1 h1, fun x h => let ⟨e1, h1⟩ := a.hid x h; let ⟨e2, h2⟩ := b.hid x h1; ⟨e2.trans e1, h2⟩⟩
theorem Rd.some {H : Hp} {a : Addr} {u : HO} (r : Rd H a u) : ∃ o, H a = some o := by
  rcases r with h | ⟨o, h⟩
  · exact ⟨_, h⟩
  · exact ⟨_, h⟩
/-- the heap's part of it -/
abbrev Old (H : Hp) (S : Store) (H' : Hp) (S' : Store) : Prop := ∀ a o, S a = none → H a = some o → H' a = some o ∧ S' a = none
theorem Rd.stp {H H' : Hp} {S S' : Store} {a : Addr} {u : HO} (st : Old H S H' S') (n : S a = none) (r : Rd H a u) : Rd H' a u := by
  rcases r with h | ⟨o, h⟩
  · exact .inl (st a _ n h).1
  · exact .inr ⟨o, (st a _ n h).1⟩
mutual
theorem RelA.stepO {K : PySem.W.Frag} {H H' : Hp} {S S' : Store} (st : Old H S H' S') : ∀ {v : V} {d : AV}, RelA K H S v d → RelA K H' S' v d
  | _, _, .non => .non
  | _, _, .bl b => .bl b
  | _, _, .int i => .int i
  | _, _, .str x => .str x
  | _, _, .ty n => .ty n
  | _, _, .ref a => .ref a
  | _, _, .tup (a := a) h n r => .tup (Rd.stp st n h) (let ⟨o, e⟩ := Rd.some h; (st a o n e).2) (RelAs.stepO st r)
  | _, _, .tupK h r => .tupK h (RelAs.stepO st r)
  | _, _, .lst (a := a) h n r => .lst (st a _ n h).1 (st a _ n h).2 (RelAs.stepO st r)
  | _, _, .rol (a := a) h n r => .rol (Rd.stp st n h) (let ⟨o, e⟩ := Rd.some h; (st a o n e).2) (RelAs.stepO st r)
  | _, _, .rolK h r => .rolK h (RelAs.stepO st r)
theorem RelAs.stepO {K : PySem.W.Frag} {H H' : Hp} {S S' : Store} (st : Old H S H' S') : ∀ {vs : List V} {ds : List AV}, RelAs K H S vs ds → RelAs K H' S' vs ds
  | _, _, .nil => .nil
  | _, _, .cons r t => .cons (RelA.stepO st r) (RelAs.stepO st t)
end
theorem RelA.step {K : PySem.W.Frag} {H H' : Hp} {S S' : Store} (st : Step H S H' S') {v : V} {d : AV} (r : RelA K H S v d) : RelA K H' S' v d := r.stepO st.old
theorem RelAs.step {K : PySem.W.Frag} {H H' : Hp} {S S' : Store} (st : Step H S H' S') {vs : List V} {ds : List AV} (r : RelAs K H S vs ds) : RelAs K H' S' vs ds := r.stepO st.old
/-- a smaller store -/
structure Sub (S' S : Store) : Prop where
  le : ∀ a o, S' a = some o → S a = some o
  hid : ∀ a, S a = some .hid → S' a = some .hid
theorem Sub.refl {S : Store} : Sub S S := ⟨fun _ _ h => h, fun _ h => h⟩
theorem Sub.non {S' S : Store} (s : Sub S' S) {a : Addr} (h : S a = none) : S' a = none := by
  cases e : S' a with
  | none => rfl
  | some o => rw [s.le a o e] at h; cases h
theorem Sub.trans {S S1 S2 : Store} (a : Sub S S1) (b : Sub S1 S2) : Sub S S2 := ⟨fun x o h => b.le x o (a.le x o h), fun x h => a.hid x (b.hid x h)⟩
/-- a thing that came anew is forgotten -/
theorem Sub.new {S S' : Store} {l : Addr} {o : AO} (s : Sub S S') (h : S l = none) (ho : S' l ≠ some .hid) (hh : o ≠ .hid) : Sub S (updS S' l o) := by
  refine ⟨fun a u e => ?_, fun a e => ?_⟩
  · have ne : a ≠ l := by rintro rfl; rw [h] at e; cases e
    rw [updS_ne ne]; exact s.le a u e
  · by_cases q : a = l
    · subst q; rw [updS_same] at e; exact absurd (Option.some.inj e) hh
    · rw [updS_ne q] at e; exact s.hid a e
theorem RelA.sub {K : PySem.W.Frag} {H : Hp} {S S' : Store} (s : Sub S' S) {v : V} {d : AV} (r : RelA K H S v d) : RelA K H S' v d := r.stepO fun _ _ n h => ⟨h, s.non n⟩
theorem RelAs.sub {K : PySem.W.Frag} {H : Hp} {S S' : Store} (s : Sub S' S) {vs : List V} {ds : List AV} (r : RelAs K H S vs ds) : RelAs K H S' vs ds := r.stepO fun _ _ n h => ⟨h, s.non n⟩
section
variable {K : PySem.W.Frag} {H H' : Hp} {S S' S2 : Store} {a l p : Addr} {v : V} {d : AV} {vs ws : List V} {ds es : List AV}
theorem AoOk.stepO {o : AO} (st : Old H S H' S') (x : AoOk K H S a o) (e : H' a = H a) : AoOk K H' S' a o := by
  cases o with
  | lst ds => obtain ⟨vs, h, r⟩ := x; exact ⟨vs, e.trans h, r.stepO st⟩
  | dK kvs => obtain ⟨ws, h, q, r⟩ := x; exact ⟨ws, e.trans h, q, r.stepO st⟩
  | ins C fs => obtain ⟨dx, fv, h, q, r⟩ := x; exact ⟨dx, fv, e.trans h, q, r.stepO st⟩
  | hid => obtain ⟨o, h⟩ := x; exact ⟨o, e.trans h⟩
theorem AoOk.step {o : AO} (st : Step H S H' S') (x : AoOk K H S a o) (e : H' a = H a) : AoOk K H' S' a o := x.stepO st.old e
theorem AoOk.sub {o : AO} (s : Sub S' S) (x : AoOk K H S a o) : AoOk K H S' a o := x.stepO (fun _ _ n h => ⟨h, s.non n⟩) rfl
theorem StOk.sub (s : Sub S' S) (x : StOk K H S) : StOk K H S' := fun a o e => (x a o (s.le a o e)).sub s
theorem Step.subR (st : Step H S H' S') (s : Sub S2 S') : Step H S H' S2 := ⟨fun a o n h => let ⟨h1, n1⟩ := st.old a o n h; ⟨h1, s.non n1⟩, fun a h => let ⟨e, h1⟩ := st.hid a h; ⟨e, s.hid a h1⟩⟩
theorem StOk.some (x : StOk K H S) {o : AO} (h : S a = some o) : ∃ u, H a = some u := by
  have z := x a o h
  cases o with
  | lst ds => obtain ⟨vs, h, _⟩ := z; exact ⟨_, h⟩
  | dK kvs => obtain ⟨ws, h, _⟩ := z; exact ⟨_, h⟩
  | ins C fs => obtain ⟨dx, fv, h, _⟩ := z; exact ⟨_, h⟩
  | hid => exact z
/-- fresh in the heap is fresh in the store -/
theorem StOk.fresh (x : StOk K H S) (h : H a = none) : S a = none := by
  cases e : S a with
  | none => rfl
  | some o => obtain ⟨u, q⟩ := x.some e; rw [h] at q; cases q
/-- a new heap object beside the store -/
theorem step_new {o : HO} (x : StOk K H S) (h : H p = none) : Step H S (upd H p o) S :=
  ⟨fun a u n e => ⟨by rw [upd_ne (ne_of_none e h)]; exact e, n⟩, fun a e => ⟨by
    obtain ⟨u, q⟩ := x.some e
    rw [upd_ne (ne_of_none q h)], e⟩⟩
theorem stok_new {o : HO} (x : StOk K H S) (h : H p = none) : StOk K (upd H p o) S := fun a u e => (x a u e).step (step_new x h) (by
  obtain ⟨w, q⟩ := x.some e
  rw [upd_ne (ne_of_none q h)])
theorem rel_tup (x : StOk K H S) (h : H p = none) (r : RelAs K H S vs ds) : RelA K (upd H p (.tup vs)) S (.ref p) (.tup ds) := .tup (.inl upd_same) (x.fresh h) (r.step (step_new x h))
theorem rel_lst (x : StOk K H S) (h : H p = none) (r : RelAs K H S vs ds) : RelA K (upd H p (.lst vs)) S (.ref p) (.lst ds) := .lst upd_same (x.fresh h) (r.step (step_new x h))
/-- a new stored list -/
theorem step_put {o : HO} {u : AO} (x : StOk K H S) (h : H p = none) : Step H S (upd H p o) (updS S p u) :=
  ⟨fun a w n e => ⟨by rw [upd_ne (ne_of_none e h)]; exact e, by rw [updS_ne (ne_of_none e h)]; exact n⟩, fun a e => by
    obtain ⟨w, q⟩ := x.some e
    exact ⟨by rw [upd_ne (ne_of_none q h)], by rw [updS_ne (ne_of_none q h)]; exact e⟩⟩
theorem stok_put (x : StOk K H S) (h : H p = none) {o : HO} {u : AO} (n : AoOk K (upd H p o) (updS S p u) p u) : StOk K (upd H p o) (updS S p u) := fun a w e => by
  by_cases q : a = p
  · subst q; rw [updS_same] at e; cases e; exact n
  · rw [updS_ne q] at e
    exact (x a w e).step (step_put x h) (by rw [upd_ne q])
/-- a stored thing changes -/
theorem step_mut {o : HO} {u z : AO} (hs : S p = some z) (hz : z ≠ .hid) : Step H S (upd H p o) (updS S p u) :=
  ⟨fun a w n e => by
    have ne : a ≠ p := by rintro rfl; rw [hs] at n; cases n
    exact ⟨by rw [upd_ne ne]; exact e, by rw [updS_ne ne]; exact n⟩, fun a e => by
    have ne : a ≠ p := by rintro rfl; rw [hs] at e; exact hz (Option.some.inj e)
    exact ⟨by rw [upd_ne ne], by rw [updS_ne ne]; exact e⟩⟩
theorem stok_mut {o : HO} {u z : AO} (x : StOk K H S) (hs : S p = some z) (hz : z ≠ .hid) (n : AoOk K (upd H p o) (updS S p u) p u) : StOk K (upd H p o) (updS S p u) := fun a w e => by
  by_cases q : a = p
  · subst q; rw [updS_same] at e; cases e; exact n
  · rw [updS_ne q] at e
    exact (x a w e).step (step_mut hs hz) (by rw [upd_ne q])
theorem RelAs.length : ∀ {vs : List V} {ds : List AV}, RelAs K H S vs ds → vs.length = ds.length
  | _, _, .nil => rfl
  | _, _, .cons _ t => congrArg (· + 1) (RelAs.length t)
theorem RelAs.get : ∀ {vs : List V} {ds : List AV} {i : Nat} {d : AV}, RelAs K H S vs ds → ds[i]? = some d → ∃ v, vs[i]? = some v ∧ RelA K H S v d
  | _, _, _, _, .nil, e => by simp at e
  | _, _, 0, _, .cons r _, e => by simp at e; subst e; exact ⟨_, rfl, r⟩
  | _, _, i + 1, d, .cons _ t, e => by
    obtain ⟨u, h1, h2⟩ := RelAs.get (i := i) (d := d) t (by simpa using e)
    exact ⟨u, by simpa using h1, h2⟩
theorem RelAs.app : ∀ {vs ws : List V} {ds es : List AV}, RelAs K H S vs ds → RelAs K H S ws es → RelAs K H S (vs ++ ws) (ds ++ es)
  | _, _, _, _, .nil, s => s
  | _, _, _, _, .cons r t, s => .cons r (RelAs.app t s)
theorem RelAs.take : ∀ {vs : List V} {ds : List AV} (n : Nat), RelAs K H S vs ds → RelAs K H S (vs.take n) (ds.take n)
  | _, _, 0, _ => .nil
  | _, _, _ + 1, .nil => .nil
  | _, _, n + 1, .cons r t => .cons r (RelAs.take n t)
theorem RelAs.drop : ∀ {vs : List V} {ds : List AV} (n : Nat), RelAs K H S vs ds → RelAs K H S (vs.drop n) (ds.drop n)
  | _, _, 0, r => r
  | _, _, _ + 1, .nil => .nil
  | _, _, n + 1, .cons _ t => RelAs.drop n t
theorem RelAs.set (r : RelA K H S v d) : ∀ {vs : List V} {ds : List AV} (i : Nat), RelAs K H S vs ds → RelAs K H S (vs.set i v) (ds.set i d)
  | _, _, _, .nil => .nil
  | _, _, 0, .cons _ t => .cons r t
  | _, _, i + 1, .cons q t => .cons q (RelAs.set r i t)
theorem RelAs.reverse : ∀ {vs : List V} {ds : List AV}, RelAs K H S vs ds → RelAs K H S vs.reverse ds.reverse
  | _, _, .nil => .nil
  | _, _, .cons r t => by
    rw [List.reverse_cons, List.reverse_cons]
    exact RelAs.app (RelAs.reverse t) (.cons r .nil)
end

/-! ### slots -/
structure Rp (K : PySem.W.Frag) (H : Hp) (S : Store) (σ : L2.St) (τ : ASt) : Prop where
  len : τ.length = σ.length
  at_ : ∀ (i : Nat) (d : AV), τ[i]? = some (some d) → ∃ v, σ[i]? = some (some v) ∧ RelA K H S v d
section
variable {K : PySem.W.Frag} {H H' : Hp} {S S' : Store} {σ : L2.St} {τ : ASt}
theorem Rp.step (r : Rp K H S σ τ) (st : Step H S H' S') : Rp K H' S' σ τ := ⟨r.len, fun i d e => let ⟨v, h, q⟩ := r.at_ i d e; ⟨v, h, q.step st⟩⟩
theorem Rp.sub (r : Rp K H S σ τ) (s : Sub S' S) : Rp K H S' σ τ := ⟨r.len, fun i d e => let ⟨v, h, q⟩ := r.at_ i d e; ⟨v, h, q.sub s⟩⟩
theorem Rp.set (r : Rp K H S σ τ) {v : V} {d : AV} (q : RelA K H S v d) (i : Nat) : Rp K H S (σ.set i (some v)) (τ.set i (some d)) := by
  refine ⟨by rw [List.length_set, List.length_set, r.len], fun j e h => ?_⟩
  by_cases z : j = i
  · subst z
    have hl : j < τ.length := by
      have := (List.getElem?_eq_some_iff.mp h).1
      rwa [List.length_set] at this
    rw [List.getElem?_set_self hl] at h
    cases h
    exact ⟨v, by rw [List.getElem?_set_self (by rw [← r.len]; exact hl)], q⟩
  · rw [List.getElem?_set_ne (Ne.symm z)] at h
    obtain ⟨w, hw, rw'⟩ := r.at_ j e h
    exact ⟨w, by rw [List.getElem?_set_ne (Ne.symm z)]; exact hw, rw'⟩
theorem RelAs.startR : ∀ {vs : List V} {ds : List AV} (n : Nat), RelAs K H S vs ds → Rp K H S (vs.map some ++ List.replicate n none) (ds.map some ++ List.replicate n none)
  | _, _, n, .nil => ⟨by simp, fun i d e => by
      have e' : (List.replicate n (none : Option AV))[i]? = some (some d) := by simpa using e
      rw [List.getElem?_replicate] at e'
      split at e' <;> simp at e'⟩
  | _, _, n, .cons (v := v) (vs := vs) (d := d) (ds := ds) r t => by
    have ih := RelAs.startR n t
    refine ⟨by simpa using ih.len, fun i e h => ?_⟩
    cases i with
    | zero => simp at h; subst h; exact ⟨v, by simp, r⟩
    | succ i => exact ih.at_ i e (by simpa using h)
end
def startA (N : List Str) (ds : List AV) : ASt := ds.map some ++ List.replicate (N.length - ds.length) none
theorem rp_start {K : PySem.W.Frag} {H : Hp} {S : Store} {vs : List V} {ds : List AV} {N : List Str} (r : RelAs K H S vs ds) : Rp K H S (L2.start N vs) (startA N ds) := by
  unfold L2.start startA
  rw [r.length]
  exact r.startR _

/-! ### readings -/
abbrev AK := AV → Store → Prop
abbrev AE := ASt → Store → AK → Prop
abbrev AT := ASt → Store → (Bool → Store → Prop) → Prop
abbrev AA := ASt → Store → (List AV → Store → Prop) → Prop
structure AEnds where
  nx : ASt → Store → Prop
  rt : AK
  bk : ASt → Store → Prop := fun _ _ => False
  ct : ASt → Store → Prop := fun _ _ => False
abbrev AS := AEnds → ASt → Store → Prop
/-- an operation's condition and value -/
structure Ans where
  ok : Prop
  v : AV
section
variable (K : PySem.W.Frag)
def low (ae : AE) : TE := fun σ H QH => ∃ τ S Q, Rp K H S σ τ ∧ StOk K H S ∧ ae τ S Q ∧ ∀ v H' d S', StOk K H' S' → Step H S H' S' → RelA K H' S' v d → Q d S' → QH v H'
def lowT (at_ : AT) : TT := fun σ H QH => ∃ τ S Q, Rp K H S σ τ ∧ StOk K H S ∧ at_ τ S Q ∧ ∀ b H' S', StOk K H' S' → Step H S H' S' → Q b S' → QH b H'
def lowA (aa : AA) : TA := fun σ H QH => ∃ τ S Q, Rp K H S σ τ ∧ StOk K H S ∧ aa τ S Q ∧ ∀ vs H' ds S', StOk K H' S' → Step H S H' S' → RelAs K H' S' vs ds → Q ds S' → QH vs H'
structure EndsOk (H : Hp) (S : Store) (D : AEnds) (DH : Ends) : Prop where
  nx : ∀ σ' H' τ' S', StOk K H' S' → Step H S H' S' → Rp K H' S' σ' τ' → D.nx τ' S' → DH.nx σ' H'
  rt : ∀ v H' d S', StOk K H' S' → Step H S H' S' → RelA K H' S' v d → D.rt d S' → DH.rt v H'
  bk : ∀ σ' H' τ' S', StOk K H' S' → Step H S H' S' → Rp K H' S' σ' τ' → D.bk τ' S' → DH.bk σ' H'
  ct : ∀ σ' H' τ' S', StOk K H' S' → Step H S H' S' → Rp K H' S' σ' τ' → D.ct τ' S' → DH.ct σ' H'
def lowS (as : AS) : TS := fun DH σ H => ∃ τ S D, Rp K H S σ τ ∧ StOk K H S ∧ as D τ S ∧ EndsOk K H S D DH
def lowO (ar : AV → AV → Store → Ans) : R2 := fun x y H QH => ∃ dx dy S, RelA K H S x dx ∧ RelA K H S y dy ∧ StOk K H S ∧ (ar dx dy S).ok ∧ ∀ v H', StOk K H' S → Step H S H' S → RelA K H' S v (ar dx dy S).v → QH v H'
def lowU (ar : AV → Store → Ans) : V → Hp → VK → Prop := fun x H QH => ∃ dx S, RelA K H S x dx ∧ StOk K H S ∧ (ar dx S).ok ∧ ∀ v H', StOk K H' S → Step H S H' S → RelA K H' S v (ar dx S).v → QH v H'
def lowC (ar : List AV → Store → Ans) : List V → Hp → VK → Prop := fun vs H QH => ∃ ds S, RelAs K H S vs ds ∧ StOk K H S ∧ (ar ds S).ok ∧ ∀ v H', StOk K H' S → Step H S H' S → RelA K H' S v (ar ds S).v → QH v H'
/-- .. with an effect on the store -/
def lowM (am : AV → List AV → Store → AK → Prop) : V → List V → Hp → VK → Prop := fun x vs H QH => ∃ dx ds S Q, RelA K H S x dx ∧ RelAs K H S vs ds ∧ StOk K H S ∧ am dx ds S Q ∧ ∀ v H' d S', StOk K H' S' → Step H S H' S' → RelA K H' S' v d → Q d S' → QH v H'
def lowG (ag : AV → ASt → Store → (ASt → Store → Prop) → Prop) : TG := fun v σ H QH => ∃ d τ S Q, RelA K H S v d ∧ Rp K H S σ τ ∧ StOk K H S ∧ ag d τ S Q ∧ ∀ σ' H' τ' S', StOk K H' S' → Step H S H' S' → Rp K H' S' σ' τ' → Q τ' S' → QH σ' H'
def lowGs (ag : List AV → ASt → Store → (ASt → Store → Prop) → Prop) : TGs := fun vs σ H QH => ∃ ds τ S Q, RelAs K H S vs ds ∧ Rp K H S σ τ ∧ StOk K H S ∧ ag ds τ S Q ∧ ∀ σ' H' τ' S', StOk K H' S' → Step H S H' S' → Rp K H' S' σ' τ' → Q τ' S' → QH σ' H'
/-- an iterator goes through xs as long as G holds of the store -/
def ItOk (J : It) (H : Hp) (S : Store) (G : Store → Prop) (xs : List AV) : Prop := ∀ H' S', StOk K H' S' → Step H S H' S' → G S' →
  (∀ (i : Nat) x, xs[i]? = some x → J.go i H' ∧ ∀ v H'', J.yld i H' v H'' → StOk K H'' S' ∧ Step H' S' H'' S' ∧ RelA K H'' S' v x) ∧ J.stop xs.length H'
abbrev AI := ASt → Store → (List AV → (Store → Prop) → Store → Prop) → Prop
def lowI (ai : AI) : TI := fun σ H R => ∃ τ S Q, Rp K H S σ τ ∧ StOk K H S ∧ ai τ S Q ∧ ∀ J H' xs G S', StOk K H' S' → Step H S H' S' → ItOk K J H' S' G xs → Q xs G S' → R J H'
end
abbrev AG := AV → ASt → Store → (ASt → Store → Prop) → Prop
abbrev AGs := List AV → ASt → Store → (ASt → Store → Prop) → Prop

section
variable {X : Cx} {e : Expr} {t t' : TE}
theorem _root_.L2.PE.weak (h : PE X e t) (w : ∀ σ H Q, t' σ H Q → t σ H Q) : PE X e t' := ⟨fun pins s σ H Q I q => h.run pins s σ H Q I (w σ H Q q)⟩
theorem _root_.L2.PT.weak {t t' : TT} (h : PT X e t) (w : ∀ σ H Q, t' σ H Q → t σ H Q) : PT X e t' := ⟨fun pins s σ H Q I q => h.run pins s σ H Q I (w σ H Q q)⟩
theorem _root_.L2.PW.weak {t t' : TT} (h : PW X e t) (w : ∀ σ H Q, t' σ H Q → t σ H Q) : PW X e t' := ⟨fun wh pins s σ H Q I q => h.run wh pins s σ H Q I (w σ H Q q)⟩
theorem _root_.L2.PA.weak {es : List Expr} {t t' : TA} (h : PA X es t) (w : ∀ σ H Q, t' σ H Q → t σ H Q) : PA X es t' := ⟨fun pos pins s σ H Q I q => h.run pos pins s σ H Q I (w σ H Q q)⟩
theorem _root_.L2.PS.weak {st : Stmt} {t t' : TS} (h : PS X st t) (w : ∀ D σ H, t' D σ H → t D σ H) : PS X st t' := ⟨fun pins s σ H D I q => h.run pins s σ H D I (w D σ H q)⟩
theorem _root_.L2.PSs.weak {st : List Stmt} {t t' : TS} (h : PSs X st t) (w : ∀ D σ H, t' D σ H → t D σ H) : PSs X st t' := ⟨fun pins s σ H D I q => h.run pins s σ H D I (w D σ H q)⟩
theorem _root_.L2.PG.weak {tg : Expr} {t t' : TG} (h : PG X tg t) (w : ∀ v σ H Q, t' v σ H Q → t v σ H Q) : PG X tg t' := ⟨fun pins s σ H v u Q I r q => h.run pins s σ H v u Q I r (w v σ H Q q)⟩
theorem _root_.L2.PGs.weak {tg : List Expr} {t t' : TGs} (h : PGs X tg t) (w : ∀ v σ H Q, t' v σ H Q → t v σ H Q) : PGs X tg t' := ⟨fun pins s σ H v u Q I r q => h.run pins s σ H v u Q I r (w v σ H Q q)⟩
theorem _root_.L2.PI.weak {tg iter : Expr} {t t' : TI} (h : PI X tg iter t) (w : ∀ σ H Q, t' σ H Q → t σ H Q) : PI X tg iter t' := ⟨fun pins s σ H Q I q => h.run pins s σ H Q I (w σ H Q q)⟩
theorem _root_.L2.PTs.weak {ifs : List Expr} {t t' : TT} (h : PTs X ifs t) (w : ∀ σ H Q, t' σ H Q → t σ H Q) : PTs X ifs t' := ⟨fun pins s σ H Q I q => h.run pins s σ H Q I (w σ H Q q)⟩
theorem opr_weak {f : Value → Value → Sem Value} {r r' : R2} (h : OpR X f r) (w : ∀ x y H Q, r' x y H Q → r x y H Q) : OpR X f r' := fun pins s σ H x y v u Q I rx ry q => h pins s σ H x y v u Q I rx ry (w x y H Q q)
theorem unr_weak {f : Value → Sem Value} {r r' : V → Hp → VK → Prop} (h : UnR X f r) (w : ∀ x H Q, r' x H Q → r x H Q) : UnR X f r' := fun pins s σ H x v Q I rx q => h pins s σ H x v Q I rx (w x H Q q)
theorem callr_weak {f : Value} {r r' : List V → Hp → VK → Prop} (h : CallR X f r) (w : ∀ x H Q, r' x H Q → r x H Q) : CallR X f r' := fun pins s σ H x v Q I rx q => h pins s σ H x v Q I rx (w x H Q q)
theorem ixr_weak {r r' : R2} (h : IxR X r) (w : ∀ x y H Q, r' x y H Q → r x y H Q) : IxR X r' := fun va sl pins s σ H x y v u Q I rx ry q => h va sl pins s σ H x y v u Q I rx ry (w x y H Q q)
theorem mtr_weak {id : String} {r r' : V → List V → Hp → VK → Prop} (h : MtR X id r) (w : ∀ x y H Q, r' x y H Q → r x y H Q) : MtR X id r' := by
  intro pins s σ H
  intros
  apply h pins s σ H <;> first | assumption | (apply w; assumption)
end
end L3

set_option Elab.async false
set_option linter.all false
set_option maxRecDepth 100000
set_option maxHeartbeats 2000000
set_option autoImplicit false
/-! L3, rules: names, constants, operators, tests, calls, statements. -/
namespace L3
open PySem L2

/-- the items of a list that stands -/
def lstA (S : Store) : AV → Option (List AV)
  | .lst xs => some xs
  | .rol xs => some xs
  | .ref l => match S l with
    | some (.lst xs) => some xs
    | _ => none
  | _ => none
theorem lstA_lst {S : Store} {xs : List AV} : lstA S (.lst xs) = some xs := rfl
theorem lstA_rol {S : Store} {xs : List AV} : lstA S (.rol xs) = some xs := rfl
theorem lstA_ref {S : Store} {l : Addr} {xs : List AV} (h : S l = some (.lst xs)) : lstA S (.ref l) = some xs := by
  show (match S l with | some (.lst xs) => some xs | _ => none) = some xs
  rw [h]
section
variable {K : PySem.W.Frag} {H : Hp} {S : Store} {v : V} {d : AV} {ds : List AV}
theorem rel_tupE (r : RelA K H S v (.tup ds)) : ∃ a vs, v = .ref a ∧ SqT K H a vs ∧ RelAs K H S vs ds := by
  cases r with
  | tup h n q => exact ⟨_, _, rfl, .inl h, q⟩
  | tupK h q => exact ⟨_, _, rfl, .inr h, q⟩
theorem rel_lstE (so : StOk K H S) (r : RelA K H S v d) (e : lstA S d = some ds) : ∃ a vs, v = .ref a ∧ SqL K H a vs ∧ RelAs K H S vs ds := by
  cases r with
  | lst h n q => cases e; exact ⟨_, _, rfl, .inl (.inl h), q⟩
  | rol h n q => cases e; exact ⟨_, _, rfl, .inl h, q⟩
  | rolK h q => cases e; exact ⟨_, _, rfl, .inr h, q⟩
  | ref a =>
    have e' : (match S a with | some (.lst xs) => some xs | _ => none) = some ds := e
    cases z : S a with
    | none => rw [z] at e'; cases e'
    | some o =>
      rw [z] at e'
      cases o with
      | lst xs =>
        cases e'
        obtain ⟨vs, h, q⟩ := so a _ z
        exact ⟨_, _, rfl, .inl (.inl h), q⟩
      | dK _ => cases e'
      | ins _ _ => cases e'
      | hid => cases e'
  | non => cases e
  | bl _ => cases e
  | int _ => cases e
  | str _ => cases e
  | ty _ => cases e
  | tup _ _ _ => cases e
  | tupK _ _ => cases e
end

section
variable {X : Cx} {e a b c : Expr} {es : List Expr} {ta tb tc : AE} {pos p : Pos}

/-! ### names, constants -/
def aVar (i : Nat) : AE := fun τ S Q => ∃ d, τ[i]? = some (some d) ∧ Q d S
theorem e_var (i : Nat) {x : Str} (hN : X.N[i]? = some x := by rfl) (hv : Vis X.env.scope x := by first | exact Or.inl rfl | exact Or.inr (Or.inl rfl) | exact Or.inr (Or.inr rfl)) (hd : (x == ("__debug__" : Str)) = false := by decide)
    (hcd : (x == ("__classdict__" : Str)) = false := by decide) : PE X (.Name x pos) (low X.K (aVar i)) := (pe_var hN hv hd hcd).weak fun σ H QH ⟨τ, S, Q, R, so, ⟨d, hd, q⟩, k⟩ => by
  obtain ⟨v, hv, r⟩ := R.at_ i d hd
  exact ⟨v, hv, k v H d S so .refl r q⟩
def aC (d : AV) : AE := fun _ S Q => Q d S
def RelC (v : V) (d : AV) : Prop := ∀ K H S, RelA K H S v d
theorem low_c {v : V} {d : AV} (h : PE X e (tC v)) (r : RelC v d) : PE X e (low X.K (aC d)) := h.weak fun σ H QH ⟨τ, S, Q, R, so, q, k⟩ => k v H d S so .refl (r _ _ _) q
theorem e_int {i : Int} {j} : PE X (.Constant (.int i) j pos) (low X.K (aC (.int i))) := low_c pe_int fun _ _ _ => .int _
theorem e_bl {i : Bool} {j} : PE X (.Constant (.bool i) j pos) (low X.K (aC (.bl i))) := low_c pe_bl fun _ _ _ => .bl _
theorem e_str {i : Str} {j} : PE X (.Constant (.str i) j pos) (low X.K (aC (.str i))) := low_c pe_str fun _ _ _ => .str _
theorem e_non {j} : PE X (.Constant .none j pos) (low X.K (aC .non)) := low_c pe_non fun _ _ _ => .non
theorem e_glob {x : Str} {v : V} {d : AV} {u : Value} (hm : X.mg x = some u) (r : RelV v u) (rc : RelC v d) (hg : Gl X x := by rfl) (hd : (x == ("__debug__" : Str)) = false := by decide) : PE X (.Name x pos) (low X.K (aC d)) := low_c (pe_glob hg hm r hd) rc
theorem e_gint {x : Str} {i : Int} {t : Tok} (hm : X.mg x = some (.int i t)) (hg : Gl X x := by rfl) (hd : (x == ("__debug__" : Str)) = false := by decide) : PE X (.Name x pos) (low X.K (aC (.int i))) := e_glob (v := .int i) hm ⟨_, rfl⟩ (fun _ _ _ => .int _) hg hd
theorem e_gstr {x : Str} {i : Str} {t : Tok} (hm : X.mg x = some (.str i t)) (hg : Gl X x := by rfl) (hd : (x == ("__debug__" : Str)) = false := by decide) : PE X (.Name x pos) (low X.K (aC (.str i))) := e_glob (v := .str i) hm ⟨_, rfl⟩ (fun _ _ _ => .str _) hg hd
theorem e_gref {x : Str} {i : Addr} (hm : X.mg x = some (.ref i)) (hg : Gl X x := by rfl) (hd : (x == ("__debug__" : Str)) = false := by decide) : PE X (.Name x pos) (low X.K (aC (.ref i))) := e_glob (v := .ref i) hm rfl (fun _ _ _ => .ref _) hg hd
theorem e_bty {x : Str} {n : String} (hm : X.mg x = none) (hb : bootBuiltins x = some (.type n)) (hg : Gl X x := by rfl) (hn : x ≠ ("__name__" : Str) := by decide) (hd : (x == ("__debug__" : Str)) = false := by decide) : PE X (.Name x pos) (low X.K (aC (.ty n))) := low_c (pe_bltn (v := .ty n) hg hm hb rfl hn hd) fun _ _ _ => .ty _

/-! ### arguments, displays -/
def aNil : AA := fun _ S Q => Q [] S
def aCons (ta : AE) (tr : AA) : AA := fun τ S Q => ta τ S fun x S1 => tr τ S1 fun xs S2 => Q (x :: xs) S2
theorem a_nil : PA X [] (lowA X.K aNil) := pa_nil.weak fun σ H QH ⟨τ, S, Q, R, so, q, k⟩ => k [] H [] S so .refl .nil q
theorem a_cons {tr : AA} (ha : PE X e (low X.K ta)) (hr : PA X es (lowA X.K tr)) (hs : starEach (e :: es) X.env = (false, eval e X.env) :: starEach es X.env := by rfl) : PA X (e :: es) (lowA X.K (aCons ta tr)) :=
  (pa_cons ha hr hs).weak fun σ H QH ⟨τ, S, Q, R, so, q, k⟩ => ⟨τ, S, _, R, so, q, fun v H1 d S1 so1 st1 r1 q1 => ⟨τ, S1, _, R.step st1, so1, q1, fun vs H2 ds S2 so2 st2 r2 q2 =>
    k (v :: vs) H2 (d :: ds) S2 so2 (st1.trans st2) (.cons (r1.step st2) r2) q2⟩⟩
def aTup (t : AA) : AE := fun τ S Q => t τ S fun ds S1 => ds.length ≤ sizeLine ∧ Q (.tup ds) S1
def aLst (t : AA) : AE := fun τ S Q => t τ S fun ds S1 => ds.length ≤ sizeLine ∧ ∀ l, S1 l = none → Q (.ref l) (updS S1 l (.lst ds))
def aLstV (t : AA) : AE := fun τ S Q => t τ S fun ds S1 => ds.length ≤ sizeLine ∧ Q (.lst ds) S1
theorem e_tup {t : AA} {x1} (h : PA X es (lowA X.K t)) : PE X (.Tuple es x1 pos) (low X.K (aTup t)) := (pe_tup h).weak fun σ H QH ⟨τ, S, Q, R, so, q, k⟩ =>
  ⟨τ, S, _, R, so, q, fun vs H1 ds S1 so1 st1 r1 ⟨z, q1⟩ => ⟨by rw [r1.length]; exact z, fun p hp => k _ _ _ S1 (stok_new so1 hp) (st1.trans (step_new so1 hp)) (rel_tup so1 hp r1) q1⟩⟩
theorem e_lstV {t : AA} (h : PA X es (lowA X.K t)) : PE X (.List es pos) (low X.K (aLstV t)) := (pe_lst h).weak fun σ H QH ⟨τ, S, Q, R, so, q, k⟩ =>
  ⟨τ, S, _, R, so, q, fun vs H1 ds S1 so1 st1 r1 ⟨z, q1⟩ => ⟨by rw [r1.length]; exact z, fun p hp => k _ _ _ S1 (stok_new so1 hp) (st1.trans (step_new so1 hp)) (rel_lst so1 hp r1) q1⟩⟩
theorem e_lst {t : AA} (h : PA X es (lowA X.K t)) : PE X (.List es pos) (low X.K (aLst t)) := (pe_lst h).weak fun σ H QH ⟨τ, S, Q, R, so, q, k⟩ =>
  ⟨τ, S, _, R, so, q, fun vs H1 ds S1 so1 st1 r1 ⟨z, q1⟩ => ⟨by rw [r1.length]; exact z, fun p hp =>
    have n : S1 p = none := so1.fresh hp
    have st2 := step_put (o := .lst vs) (u := .lst ds) so1 hp
    k _ _ _ _ (stok_put (u := .lst ds) so1 hp ⟨vs, upd_same, r1.step st2⟩) (st1.trans st2) (.ref p) (q1 p n)⟩⟩

/-! ### operators -/
def aOp (ar : AV → AV → Store → Ans) (ta tb : AE) : AE := fun τ S Q => ta τ S fun x S1 => tb τ S1 fun y S2 => (ar x y S2).ok ∧ Q (ar x y S2).v S2
def aUn (ar : AV → Store → Ans) (ta : AE) : AE := fun τ S Q => ta τ S fun x S1 => (ar x S1).ok ∧ Q (ar x S1).v S1
theorem low_op {ar : AV → AV → Store → Ans} : ∀ σ H QH, low X.K (aOp ar ta tb) σ H QH → tOp (lowO X.K ar) (low X.K ta) (low X.K tb) σ H QH := fun σ H QH ⟨τ, S, Q, R, so, q, k⟩ =>
  ⟨τ, S, _, R, so, q, fun v H1 d S1 so1 st1 r1 q1 => ⟨τ, S1, _, R.step st1, so1, q1, fun w H2 e S2 so2 st2 r2 ⟨ok, q2⟩ =>
    ⟨d, e, S2, r1.step st2, r2, so2, ok, fun z H3 so3 st3 r3 => k z H3 _ S2 so3 ((st1.trans st2).trans st3) r3 q2⟩⟩⟩
theorem e_op {op : Operator} {ar : AV → AV → Store → Ans} (ho : OpR X (binaryOp op) (lowO X.K ar)) (ha : PE X a (low X.K ta)) (hb : PE X b (low X.K tb)) : PE X (.BinOp a op b pos) (low X.K (aOp ar ta tb)) := (pe_op ho ha hb).weak low_op
theorem e_un {op : UnaryOp} {ar : AV → Store → Ans} (ho : UnR X (unaryOp op) (lowU X.K ar)) (ha : PE X a (low X.K ta)) : PE X (.UnaryOp op a pos) (low X.K (aUn ar ta)) := (pe_un ho ha).weak fun σ H QH ⟨τ, S, Q, R, so, q, k⟩ =>
  ⟨τ, S, _, R, so, q, fun v H1 d S1 so1 st1 r1 ⟨ok, q1⟩ => ⟨d, S1, r1, so1, ok, fun z H3 so3 st3 r3 => k z H3 _ S1 so3 (st1.trans st3) r3 q1⟩⟩
theorem e_cmp {op : CmpOp} {ar : AV → AV → Store → Ans} (ho : OpR X (compareOp op) (lowO X.K ar)) (ha : PE X a (low X.K ta)) (hb : PE X b (low X.K tb)) (hm : behindInMarks op b = false := by first | exact nobehind _ (by decide) (by decide) | rfl) : PE X (.Compare a [op] [b] pos) (low X.K (aOp ar ta tb)) := (pe_cmpR ho ha hb hm).weak low_op
/-- a subscript -/
theorem e_ix {ar : AV → AV → Store → Ans} (ho : IxR X (lowO X.K ar)) (ha : PE X a (low X.K ta)) (hb : PE X b (low X.K tb)) (hp : PlainIx b := by exact fun _ _ => rfl) : PE X (.Subscript a b pos) (low X.K (aOp ar ta tb)) := (pe_ix ho ha hb hp).weak low_op

/-! ### tests -/
def truA (S : Store) : AV → Bool
  | .bl b => b
  | .int i => i != 0
  | .str y => (y.length : Int) != 0
  | .tup xs => !xs.isEmpty
  | .lst xs => !xs.isEmpty
  | .rol xs => !xs.isEmpty
  | .ref l => match S l with
    | some (.lst xs) => !xs.isEmpty
    | some (.dK xs) => !xs.isEmpty
    | _ => false
  | _ => false
def truOk (S : Store) : AV → Prop
  | .str y => y.length ≤ sizeLine
  | .ref l => match S l with
    | some (.lst _) => True
    | some (.dK _) => True
    | _ => False
  | .ty _ => False
  | _ => True
theorem isEmpty_len {α β : Type} {xs : List α} {ys : List β} (h : xs.length = ys.length) : xs.isEmpty = ys.isEmpty := by
  cases xs <;> cases ys <;> simp at h ⊢
theorem truV_of {K : PySem.W.Frag} {H : Hp} {S : Store} {v : V} {d : AV} (so : StOk K H S) (r : RelA K H S v d) (ok : truOk S d) : TruV K v H (truA S d) := by
  cases r with
  | non => rfl
  | bl b => rfl
  | int i => rfl
  | str x => exact ⟨ok, rfl⟩
  | ty n => exact ok.elim
  | tup h n q => exact .inr (.inl ⟨_, .inl h, congrArg (!·) (isEmpty_len q.length.symm)⟩)
  | tupK h q => exact .inr (.inl ⟨_, .inr h, congrArg (!·) (isEmpty_len q.length.symm)⟩)
  | lst h n q => exact .inl ⟨_, .inl (.inl h), congrArg (!·) (isEmpty_len q.length.symm)⟩
  | rol h n q => exact .inl ⟨_, .inl h, congrArg (!·) (isEmpty_len q.length.symm)⟩
  | rolK h q => exact .inl ⟨_, .inr h, congrArg (!·) (isEmpty_len q.length.symm)⟩
  | ref a =>
    cases z : S a with
    | none => simp only [truOk, z] at ok
    | some o =>
      cases o with
      | lst xs =>
        obtain ⟨vs, h, q⟩ := so a _ z
        refine .inl ⟨_, .inl (.inl h), ?_⟩
        simp only [truA, z]
        exact congrArg (!·) (isEmpty_len q.length.symm)
      | dK xs =>
        obtain ⟨ws, h, e, q⟩ := so a _ z
        refine .inr (.inr ⟨_, h, ?_⟩)
        simp only [truA, z]
        refine congrArg (!·) (isEmpty_len ?_)
        have := congrArg List.length e
        rw [List.length_map, List.length_map] at this
        exact this.symm
      | ins _ _ => simp only [truOk, z] at ok
      | hid => simp only [truOk, z] at ok
/-- a value's truth -/
def aTru (ta : AE) : AT := fun τ S Q => ta τ S fun x S1 => truOk S1 x ∧ Q (truA S1 x) S1
theorem t_tru (ha : PE X a (low X.K ta)) (he : ∀ whole, isTrue a X.env whole = (do let v ← whole; standAt a.pos; holding [v] (truthy v)) := by intro _; rfl) : PT X a (lowT X.K (aTru ta)) :=
  (pt_truth ha he).weak fun σ H QH ⟨τ, S, Q, R, so, q, k⟩ => ⟨τ, S, _, R, so, q, fun v H1 d S1 so1 st1 r1 ⟨ok, q1⟩ => ⟨_, truV_of so1 r1 ok, k _ H1 S1 so1 st1 q1⟩⟩
/-- a comparison as a test: what it gives is a truth -/
def aTst (t : AE) : AT := fun τ S Q => t τ S fun x S1 => ∃ b, x = .bl b ∧ Q b S1
theorem rel_blE {K : PySem.W.Frag} {H : Hp} {S : Store} {v : V} {b : Bool} (r : RelA K H S v (.bl b)) : v = .bl b := by cases r; rfl
theorem rel_intE {K : PySem.W.Frag} {H : Hp} {S : Store} {v : V} {b : Int} (r : RelA K H S v (.int b)) : v = .int b := by cases r; rfl
theorem rel_strE {K : PySem.W.Frag} {H : Hp} {S : Store} {v : V} {b : Str} (r : RelA K H S v (.str b)) : v = .str b := by cases r; rfl
theorem rel_nonE {K : PySem.W.Frag} {H : Hp} {S : Store} {v : V} (r : RelA K H S v .non) : v = .non := by cases r; rfl
theorem rel_tyE {K : PySem.W.Frag} {H : Hp} {S : Store} {v : V} {n : String} (r : RelA K H S v (.ty n)) : v = .ty n := by cases r; rfl
theorem rel_refE {K : PySem.W.Frag} {H : Hp} {S : Store} {v : V} {a : Addr} (r : RelA K H S v (.ref a)) : v = .ref a := by cases r; rfl
def aCmp (ar : AV → AV → Store → Ans) (ta tb : AE) : AT := fun τ S Q => ta τ S fun x S1 => tb τ S1 fun y S2 => (ar x y S2).ok ∧ ∃ k, (ar x y S2).v = .bl k ∧ Q k S2
theorem t_cmp {op : CmpOp} {ar : AV → AV → Store → Ans} (ho : OpR X (compareOp op) (lowO X.K ar)) (ha : PE X a (low X.K ta)) (hb : PE X b (low X.K tb)) (hm : behindInMarks op b = false := by first | exact nobehind _ (by decide) (by decide) | rfl) : PT X (.Compare a [op] [b] pos) (lowT X.K (aCmp ar ta tb)) :=
  (pt_cmpR ho ha hb hm).weak fun σ H QH ⟨τ, S, Q, R, so, q, k⟩ =>
  ⟨τ, S, _, R, so, q, fun v H1 d S1 so1 st1 r1 q1 => ⟨τ, S1, _, R.step st1, so1, q1, fun w H2 e S2 so2 st2 r2 ⟨ok, b, eb, q2⟩ =>
    ⟨d, e, S2, r1.step st2, r2, so2, ok, fun z H3 so3 st3 r3 => ⟨b, rel_blE (eb ▸ r3), k b H3 S2 so3 ((st1.trans st2).trans st3) q2⟩⟩⟩⟩
/-- a < b < c -/
def aChn (ar ar' : AV → AV → Store → Ans) (ta tb tc : AE) : AE := fun τ S Q => ta τ S fun x S1 => tb τ S1 fun y S2 => (ar x y S2).ok ∧ ∃ k, (ar x y S2).v = .bl k ∧
  (if k = true then tc τ S2 fun w S3 => (ar' y w S3).ok ∧ Q (ar' y w S3).v S3 else Q (.bl false) S2)
theorem low_chn {r r' : AV → AV → Store → Ans} : ∀ σ H QH, low X.K (aChn r r' ta tb tc) σ H QH → tChain (lowO X.K r) (lowO X.K r') (low X.K ta) (low X.K tb) (low X.K tc) σ H QH := fun σ H QH ⟨τ, S, Q, R, so, q, k⟩ =>
  ⟨τ, S, _, R, so, q, fun v H1 d S1 so1 st1 r1 q1 => ⟨τ, S1, _, R.step st1, so1, q1, fun w H2 e S2 so2 st2 r2 ⟨ok, b, eb, q2⟩ =>
    ⟨d, e, S2, r1.step st2, r2, so2, ok, fun z H3 so3 st3 r3 => ⟨b, rel_blE (eb ▸ r3), by
      cases b with
      | false =>
        rw [if_neg Bool.false_ne_true] at q2 ⊢
        exact k _ H3 _ S2 so3 ((st1.trans st2).trans st3) (.bl false) q2
      | true =>
        rw [if_pos rfl] at q2 ⊢
        exact ⟨τ, S2, _, ((R.step st1).step st2).step st3, so3, q2, fun w' H4 f S4 so4 st4 r4 ⟨ok4, q4⟩ => ⟨e, f, S4, (r2.step st3).step st4, r4, so4, ok4, fun z5 H5 so5 st5 r5 =>
          k z5 H5 _ S4 so5 ((((st1.trans st2).trans st3).trans st4).trans st5) r5 q4⟩⟩⟩⟩⟩⟩
theorem e_chn {op op' : CmpOp} {r r' : AV → AV → Store → Ans} (ho : OpR X (compareOp op) (lowO X.K r)) (ho' : OpR X (compareOp op') (lowO X.K r')) (ha : PE X a (low X.K ta)) (hb : PE X b (low X.K tb)) (hc : PE X c (low X.K tc))
    (hm : lastMarks [op, op'] [b, c] = false := by rfl) : PE X (.Compare a [op, op'] [b, c] pos) (low X.K (aChn r r' ta tb tc)) := (pe_chain ho ho' ha hb hc hm).weak low_chn
def aChnT (ar ar' : AV → AV → Store → Ans) (ta tb tc : AE) : AT := aTst (aChn ar ar' ta tb tc)
theorem t_chn {op op' : CmpOp} {r r' : AV → AV → Store → Ans} (ho : OpR X (compareOp op) (lowO X.K r)) (ho' : OpR X (compareOp op') (lowO X.K r')) (ha : PE X a (low X.K ta)) (hb : PE X b (low X.K tb)) (hc : PE X c (low X.K tc))
    (hm : lastMarks [op, op'] [b, c] = false := by rfl) : PT X (.Compare a [op, op'] [b, c] pos) (lowT X.K (aChnT r r' ta tb tc)) := (pt_chain ho ho' ha hb hc hm).weak fun σ H QH ⟨τ, S, Q, R, so, q, k⟩ =>
  low_chn σ H _ ⟨τ, S, fun x S1 => ∃ b, x = .bl b ∧ Q b S1, R, so, q, fun v H' d S' so' st' r' ⟨b, eb, q'⟩ => ⟨b, rel_blE (eb ▸ r'), k b H' S' so' st' q'⟩⟩
def aAnd (t u : AT) : AT := fun τ S Q => t τ S fun c S1 => if c = true then u τ S1 Q else Q false S1
def aOr (t u : AT) : AT := fun τ S Q => t τ S fun c S1 => if c = true then Q true S1 else u τ S1 Q
def aNot (t : AT) : AT := fun τ S Q => t τ S fun c S1 => Q (!c) S1
variable {t u : AT} {rest : List Expr}
theorem w_and1 (ha : PT X a (lowT X.K t)) : PW X (.BoolOp .And [a] pos) (lowT X.K t) := pw_and1 ha
theorem w_or1 (ha : PT X a (lowT X.K t)) : PW X (.BoolOp .Or [a] pos) (lowT X.K t) := pw_or1 ha
theorem w_and (ha : PT X a (lowT X.K t)) (hb : PW X (.BoolOp .And (b :: rest) pos) (lowT X.K u)) : PW X (.BoolOp .And (a :: b :: rest) pos) (lowT X.K (aAnd t u)) := (pw_and ha hb).weak fun σ H QH ⟨τ, S, Q, R, so, q, k⟩ =>
  ⟨τ, S, _, R, so, q, fun b H1 S1 so1 st1 q1 => by
    cases b with
    | false => rw [if_neg Bool.false_ne_true] at q1 ⊢; exact k _ H1 S1 so1 st1 q1
    | true => rw [if_pos rfl] at q1 ⊢; exact ⟨τ, S1, Q, R.step st1, so1, q1, fun b H2 S2 so2 st2 q2 => k b H2 S2 so2 (st1.trans st2) q2⟩⟩
theorem w_or (ha : PT X a (lowT X.K t)) (hb : PW X (.BoolOp .Or (b :: rest) pos) (lowT X.K u)) : PW X (.BoolOp .Or (a :: b :: rest) pos) (lowT X.K (aOr t u)) := (pw_or ha hb).weak fun σ H QH ⟨τ, S, Q, R, so, q, k⟩ =>
  ⟨τ, S, _, R, so, q, fun b H1 S1 so1 st1 q1 => by
    cases b with
    | true => rw [if_pos rfl] at q1 ⊢; exact k _ H1 S1 so1 st1 q1
    | false => rw [if_neg Bool.false_ne_true] at q1 ⊢; exact ⟨τ, S1, Q, R.step st1, so1, q1, fun b H2 S2 so2 st2 q2 => k b H2 S2 so2 (st1.trans st2) q2⟩⟩
theorem t_not (ha : PT X a (lowT X.K t)) : PT X (.UnaryOp .Not a pos) (lowT X.K (aNot t)) := (pt_not ha).weak fun σ H QH ⟨τ, S, Q, R, so, q, k⟩ =>
  ⟨τ, S, _, R, so, q, fun b H1 S1 so1 st1 q1 => k _ H1 S1 so1 st1 q1⟩
/-- a if t else b -/
def aIf (t : AT) (ta tb : AE) : AE := fun τ S Q => t τ S fun c S1 => if c = true then ta τ S1 Q else tb τ S1 Q
theorem e_if (hc : PT X c (lowT X.K t)) (ha : PE X a (low X.K ta)) (hb : PE X b (low X.K tb)) : PE X (.IfExp c a b pos) (low X.K (aIf t ta tb)) := (pe_ifExp hc ha hb).weak fun σ H QH ⟨τ, S, Q, R, so, q, k⟩ =>
  ⟨τ, S, _, R, so, q, fun b H1 S1 so1 st1 q1 => by
    cases b with
    | true => rw [if_pos rfl] at q1 ⊢; exact ⟨τ, S1, Q, R.step st1, so1, q1, fun v H2 d S2 so2 st2 r2 q2 => k v H2 d S2 so2 (st1.trans st2) r2 q2⟩
    | false => rw [if_neg Bool.false_ne_true] at q1 ⊢; exact ⟨τ, S1, Q, R.step st1, so1, q1, fun v H2 d S2 so2 st2 r2 q2 => k v H2 d S2 so2 (st1.trans st2) r2 q2⟩⟩
/-- and, or, not as values -/
def aAndV (ta tb : AE) : AE := fun τ S Q => ta τ S fun x S1 => truOk S1 x ∧ if truA S1 x = true then tb τ S1 Q else Q x S1
def aOrV (ta tb : AE) : AE := fun τ S Q => ta τ S fun x S1 => truOk S1 x ∧ if truA S1 x = true then Q x S1 else tb τ S1 Q
def aNotV (ta : AE) : AE := fun τ S Q => ta τ S fun x S1 => truOk S1 x ∧ Q (.bl (!truA S1 x)) S1
theorem e_one {op} (h : PE X a (low X.K ta)) : PE X (.BoolOp op [a] pos) (low X.K ta) := pe_one h
theorem e_and (ha : PE X a (low X.K ta)) (hb : PE X (.BoolOp .And (b :: rest) pos) (low X.K tb)) : PE X (.BoolOp .And (a :: b :: rest) pos) (low X.K (aAndV ta tb)) := (pe_andT ha hb).weak fun σ H QH ⟨τ, S, Q, R, so, q, k⟩ =>
  ⟨τ, S, _, R, so, q, fun v H1 d S1 so1 st1 r1 ⟨ok, q1⟩ => ⟨_, truV_of so1 r1 ok, by
    split at q1
    · next z => rw [if_pos z]; exact ⟨τ, S1, Q, R.step st1, so1, q1, fun v H2 d S2 so2 st2 r2 q2 => k v H2 d S2 so2 (st1.trans st2) r2 q2⟩
    · next z => rw [if_neg z]; exact k v H1 d S1 so1 st1 r1 q1⟩⟩
theorem e_or (ha : PE X a (low X.K ta)) (hb : PE X (.BoolOp .Or (b :: rest) pos) (low X.K tb)) : PE X (.BoolOp .Or (a :: b :: rest) pos) (low X.K (aOrV ta tb)) := (pe_orT ha hb).weak fun σ H QH ⟨τ, S, Q, R, so, q, k⟩ =>
  ⟨τ, S, _, R, so, q, fun v H1 d S1 so1 st1 r1 ⟨ok, q1⟩ => ⟨_, truV_of so1 r1 ok, by
    split at q1
    · next z => rw [if_pos z]; exact k v H1 d S1 so1 st1 r1 q1
    · next z => rw [if_neg z]; exact ⟨τ, S1, Q, R.step st1, so1, q1, fun v H2 d S2 so2 st2 r2 q2 => k v H2 d S2 so2 (st1.trans st2) r2 q2⟩⟩⟩
theorem e_not (ha : PE X a (low X.K ta)) : PE X (.UnaryOp .Not a pos) (low X.K (aNotV ta)) := (pe_notT ha).weak fun σ H QH ⟨τ, S, Q, R, so, q, k⟩ =>
  ⟨τ, S, _, R, so, q, fun v H1 d S1 so1 st1 r1 ⟨ok, q1⟩ => ⟨_, truV_of so1 r1 ok, k _ H1 _ S1 so1 st1 (.bl _) q1⟩⟩

/-! ### builtins by name -/
def aCB (ar : List AV → Store → Ans) (t : AA) : AE := fun τ S Q => t τ S fun ds S1 => (ar ds S1).ok ∧ Q (ar ds S1).v S1
theorem low_cb {ar : List AV → Store → Ans} {t : AA} : ∀ σ H QH, low X.K (aCB ar t) σ H QH → tCB (lowC X.K ar) (lowA X.K t) σ H QH := fun σ H QH ⟨τ, S, Q, R, so, q, k⟩ =>
  ⟨τ, S, _, R, so, q, fun vs H1 ds S1 so1 st1 r1 ⟨ok, q1⟩ => ⟨ds, S1, r1, so1, ok, fun v H2 so2 st2 r2 => k v H2 _ S1 so2 (st1.trans st2) r2 q1⟩⟩
end
end L3

set_option Elab.async false
set_option linter.all false
set_option maxRecDepth 100000
set_option maxHeartbeats 2000000
set_option autoImplicit false
/-! L3, rules: calls of defs, statements, loops, comprehensions. -/
namespace L3
open PySem L2

/-! ### promises of defs -/
abbrev ASp := List AV → Store → AK → Prop
def spOf (K : PySem.W.Frag) (asp : ASp) : Sp := fun vs H QH _ => ∃ ds S Q, RelAs K H S vs ds ∧ StOk K H S ∧ asp ds S Q ∧ ∀ d S' v H', StOk K H' S' → Step H S H' S' → RelA K H' S' v d → Q d S' → QH v H'
structure Fn3 (P : Program) (w : World) (K : PySem.W.Frag) (mg : Str → Option Value) (base : Heap) (k : Nat) (x : Str) (ps : List Str) (asp : ASp) : Prop where
  ex : ∃ (f : Addr) (fd : FuncData), FnOk P w K mg base CX0 k f fd ps (spOf K asp) ∧ mg x = some (.ref f) ∧ PySem.W.keepIn K (.ref f) = true ∧ Binds K fd ps []
/-- what a def hands back may be told of a smaller store, a list as one that does not change any more -/
def RtW (Q : AK) : AK := fun d S => ∃ d2 S2, Sub S2 S ∧ (d2 = d ∨ ∃ l ds, d = .ref l ∧ S l = some (.lst ds) ∧ S2 l = none ∧ d2 = .lst ds) ∧ Q d2 S2
theorem rt_same {Q : AK} {d : AV} {S : Store} (q : Q d S) : RtW Q d S := ⟨d, S, .refl, .inl rfl, q⟩
theorem rt_sub {Q : AK} {d : AV} {S S2 : Store} (s : Sub S2 S) (q : Q d S2) : RtW Q d S := ⟨d, S2, s, .inl rfl, q⟩
theorem rt_frz {Q : AK} {l : Addr} {ds : List AV} {S S2 : Store} (h : S l = some (.lst ds)) (s : Sub S2 S) (n : S2 l = none) (q : Q (.lst ds) S2) : RtW Q (.ref l) S := ⟨.lst ds, S2, s, .inr ⟨l, ds, rfl, h, n, rfl⟩, q⟩
section
variable {K : PySem.W.Frag} {H H' : Hp} {S S' : Store} {D : AEnds} {DH : Ends}
theorem EndsOk.step (x : EndsOk K H S D DH) (st : Step H S H' S') : EndsOk K H' S' D DH :=
  ⟨fun σ' H2 τ' S2 so s2 => x.nx σ' H2 τ' S2 so (st.trans s2), fun v H2 d S2 so s2 => x.rt v H2 d S2 so (st.trans s2), fun σ' H2 τ' S2 so s2 => x.bk σ' H2 τ' S2 so (st.trans s2), fun σ' H2 τ' S2 so s2 => x.ct σ' H2 τ' S2 so (st.trans s2)⟩
end
/-- THE RULE for a def -/
theorem _root_.L2.Fun.ok3 {P : Program} {w : World} {K : PySem.W.Frag} {mg : Str → Option Value} {base : Heap} {x qual : Str} {st : Stmt} {f : Addr} {fd : FuncData} {N ps : List Str} {k : Nat} {asp : ASp} (F : L2.Fun K x qual st f fd) (S : FnScope N ps (defScope st))
    (len : ∀ ds S Q, asp ds S Q → ds.length = ps.length)
    (hbody : ∀ (cdv : Value) (A : Around) (outer : List Env) (s : Shared) (H : Hp) (E : XK), Room k (A.deeper (PyProof.Rows.envOfC qual (defScope st) s.heap.objs.size f cdv)) →
      ∃ as, PSs (cxOf CX0 P w K mg base N qual (defScope st) f cdv A outer s H E).nox (defBody st) (lowS K as) ∧ ∀ ds S Q, asp ds S Q → as { nx := fun _ S' => RtW Q .non S', rt := RtW Q } (startA N ds) S) : FnOk P w K mg base CX0 (k + 1) f fd ps (spOf K asp) :=
  F.ok S (fun vs H Q E h => by obtain ⟨ds, S, Q', r, so, q, _⟩ := h; rw [r.length]; exact len ds S Q' q) fun cdv A outer s H vs QH E hr h => by
    obtain ⟨ds, S, Q, r, so, q, k⟩ := h
    obtain ⟨as, hp, ha⟩ := hbody cdv A outer s H E hr
    have rt : ∀ v H' d S', StOk K H' S' → Step H S H' S' → RelA K H' S' v d → RtW Q d S' → QH v H' := fun v H' d S' so' st' r' ⟨d2, S2, sb, hd, q2⟩ => by
      rcases hd with rfl | ⟨l, ds, rfl, hl, hn, rfl⟩
      · exact k d2 S2 v H' (so'.sub sb) (st'.subR sb) (r'.sub sb) q2
      · obtain rfl := rel_refE r'
        obtain ⟨vs, hv, rv⟩ := so' l _ hl
        exact k _ S2 _ H' (so'.sub sb) (st'.subR sb) (.lst hv hn (rv.sub sb)) q2
    exact ⟨_, hp, startA N ds, S, _, rp_start r, so, ha ds S Q q, fun σ' H' τ' S' so' st' _ q' => rt .non H' .non S' so' st' .non q', rt, fun _ _ _ _ _ _ _ z => z.elim, fun _ _ _ _ _ _ _ z => z.elim⟩

section
variable {X : Cx} {e a b c : Expr} {es : List Expr} {ta tb tc : AE} {tt : AT} {pos p : Pos}
def aCall (asp : ASp) (t : AA) : AE := fun τ S Q => t τ S fun ds S1 => asp ds S1 Q
theorem e_call {k : Nat} {x : Str} {ps : List Str} {asp : ASp} {t : AA} (F : Fn3 X.prog X.w X.K X.mg X.base k x ps asp) (hr : Room k X.A) (ha : PA X (e :: es) (lowA X.K t)) (hg : Gl X x := by rfl)
    (hdb : (x == ("__debug__" : Str)) = false := by decide) (he : starEach (e :: es) X.env = (false, eval e X.env) :: starEach es X.env := by rfl) (hpl : (backTo pos (starEach es X.env)).any (·.1) = false := by rfl) :
    PE X (.Call (.Name x p) (e :: es) [] pos) (low X.K (aCall asp t)) := by
  obtain ⟨f, fd, G, hm, hk, hb⟩ := F.ex
  exact (pe_call G hr hg hm hk hb .nil pass0 ha hdb he hpl).weak fun σ H QH ⟨τ, S, Q, R, so, q, k⟩ => ⟨τ, S, _, R, so, q, fun vs H1 ds S1 so1 st1 r1 q1 => by
    show spOf X.K asp (vs ++ []) H1 QH E0
    rw [List.append_nil]
    exact ⟨ds, S1, Q, r1, so1, q1, fun d S' v H' so' st' r' q' => k v H' d S' so' (st1.trans st') r' q'⟩⟩
theorem e_call0 {k : Nat} {x : Str} {ps : List Str} {asp : ASp} (F : Fn3 X.prog X.w X.K X.mg X.base k x ps asp) (hr : Room k X.A) (hg : Gl X x := by rfl) (hdb : (x == ("__debug__" : Str)) = false := by decide) :
    PE X (.Call (.Name x p) [] [] pos) (low X.K (aCall asp aNil)) := by
  obtain ⟨f, fd, G, hm, hk, hb⟩ := F.ex
  exact (pe_call0 G hr hg hm hk hb .nil pass0 hdb).weak fun σ H QH ⟨τ, S, Q, R, so, q, k⟩ => ⟨[], S, Q, .nil, so, q, fun d S' v H' so' st' r' q' => k v H' d S' so' st' r' q'⟩

/-! ### statements -/
variable {st : Stmt} {rest sts : List Stmt} {t u : AS}
def aNext : AS := fun D τ S => D.nx τ S
def aSeq (t u : AS) : AS := fun D τ S => t { D with nx := u D } τ S
theorem s_nil : PSs X [] (lowS X.K aNext) := pss_nil.weak fun D σ H ⟨τ, S, DA, R, so, q, k⟩ => k.nx σ H τ S so .refl R q
theorem s_cons (h1 : PS X st (lowS X.K t)) (h2 : PSs X rest (lowS X.K u)) : PSs X (st :: rest) (lowS X.K (aSeq t u)) := (pss_cons h1 h2).weak fun D σ H ⟨τ, S, DA, R, so, q, k⟩ =>
  ⟨τ, S, { DA with nx := u DA }, R, so, q, ⟨fun σ' H' τ' S' so' st' R' q' => ⟨τ', S', DA, R', so', q', k.step st'⟩, k.rt, k.bk, k.ct⟩⟩
theorem s_one (h1 : PS X st (lowS X.K t)) : PSs X [st] (lowS X.K t) := pss_one h1
theorem s_pass : PS X (.Pass pos) (lowS X.K aNext) := ps_pass.weak fun D σ H ⟨τ, S, DA, R, so, q, k⟩ => k.nx σ H τ S so .refl R q
def aBrk : AS := fun D τ S => D.bk τ S
def aCnt : AS := fun D τ S => D.ct τ S
theorem s_brk : PS X (.Break pos) (lowS X.K aBrk) := ps_break.weak fun D σ H ⟨τ, S, DA, R, so, q, k⟩ => k.bk σ H τ S so .refl R q
theorem s_cnt : PS X (.Continue pos) (lowS X.K aCnt) := ps_continue.weak fun D σ H ⟨τ, S, DA, R, so, q, k⟩ => k.ct σ H τ S so .refl R q
def aDrop (ta : AE) : AS := fun D τ S => ta τ S fun _ S1 => D.nx τ S1
theorem s_expr (h : PE X e (low X.K ta)) (hs : swapsWith e none pos.line X.env = pure false := by rfl) : PS X (.Expr e pos) (lowS X.K (aDrop ta)) := (ps_expr h hs).weak fun D σ H ⟨τ, S, DA, R, so, q, k⟩ =>
  ⟨τ, S, _, R, so, q, fun v H1 d S1 so1 st1 r1 q1 => k.nx σ H1 τ S1 so1 st1 (R.step st1) q1⟩
def aRet (ta : AE) : AS := fun D τ S => ta τ S D.rt
theorem s_ret (h : PE X e (low X.K ta)) : PS X (.Return (some e) pos) (lowS X.K (aRet ta)) := (ps_ret h).weak fun D σ H ⟨τ, S, DA, R, so, q, k⟩ =>
  ⟨τ, S, _, R, so, q, fun v H1 d S1 so1 st1 r1 q1 => k.rt v H1 d S1 so1 st1 r1 q1⟩
def aRetN : AS := fun D _ S => D.rt .non S
theorem s_retN : PS X (.Return none pos) (lowS X.K aRetN) := ps_retN.weak fun D σ H ⟨τ, S, DA, R, so, q, k⟩ => k.rt .non H .non S so .refl .non q
def aIfS (tc : AT) (t u : AS) : AS := fun D τ S => tc τ S fun b S1 => if b = true then t D τ S1 else u D τ S1
theorem s_if {x y : List Stmt} (hc : PT X c (lowT X.K tt)) (ha : PSs X x (lowS X.K t)) (hb : PSs X y (lowS X.K u)) : PS X (.If c x y pos) (lowS X.K (aIfS tt t u)) := (ps_if hc ha hb).weak fun D σ H ⟨τ, S, DA, R, so, q, k⟩ =>
  ⟨τ, S, _, R, so, q, fun b H1 S1 so1 st1 q1 => by
    cases b with
    | true => rw [if_pos rfl] at q1 ⊢; exact ⟨τ, S1, DA, R.step st1, so1, q1, k.step st1⟩
    | false => rw [if_neg Bool.false_ne_true] at q1 ⊢; exact ⟨τ, S1, DA, R.step st1, so1, q1, k.step st1⟩⟩
def aNev : AS := fun _ _ _ => False
theorem s_nev : PS X st (lowS X.K aNev) := ps_never.weak fun D σ H ⟨τ, S, DA, R, so, q, k⟩ => q
theorem ss_nev : PSs X sts (lowS X.K aNev) := pss_never.weak fun D σ H ⟨τ, S, DA, R, so, q, k⟩ => q

/-! ### targets -/
def agName (i : Nat) : AG := fun d τ S Q => Q (τ.set i (some d)) S
theorem g_name {x : Str} (i : Nat) (hN : X.N.Nodup) (hi : X.N[i]? = some x := by rfl) (hx : L2.Loc X.env.scope x := by first | exact .inl rfl | exact .inr rfl) (hf : X.fn x = true ∨ X.env.scope.names.lookup x = some .local := by first | exact .inl rfl | exact .inr rfl | assumption) :
    PG X (.Name x pos) (lowG X.K (agName i)) := (pg_name hN hi hx hf).weak fun v σ H QH ⟨d, τ, S, Q, r, R, so, q, k⟩ => k _ H _ S so .refl (R.set r i) q
def agNil : AGs := fun ds τ S Q => ds = [] ∧ Q τ S
def agCons (g : AG) (gs : AGs) : AGs := fun ds τ S Q => ∃ d es, ds = d :: es ∧ g d τ S fun τ1 S1 => gs es τ1 S1 Q
def agTup (n : Nat) (g : AGs) : AG := fun d τ S Q => ∃ ds, d = .tup ds ∧ ds.length = n ∧ g ds τ S Q
theorem gs_nil : PGs X [] (lowGs X.K agNil) := pgs_nil.weak fun vs σ H QH ⟨ds, τ, S, Q, r, R, so, ⟨e, q⟩, k⟩ => by
  subst e
  cases r
  exact ⟨rfl, k σ H τ S so .refl R q⟩
theorem gs_cons {g : AG} {gs : AGs} (h : PG X e (lowG X.K g)) (hs : PGs X es (lowGs X.K gs))
    (ha : (assignEach (e :: es) X.env).map (·.2) = assign e X.env :: (assignEach es X.env).map (·.2) := by rfl) : PGs X (e :: es) (lowGs X.K (agCons g gs)) := (pgs_cons h hs ha).weak fun vs σ H QH ⟨ds, τ, S, Q, r, R, so, ⟨d, es, e, q⟩, k⟩ => by
  subst e
  cases r with
  | cons r rs =>
    exact ⟨_, _, rfl, d, τ, S, _, r, R, so, q, fun σ1 H1 τ1 S1 so1 st1 R1 q1 => ⟨es, τ1, S1, Q, rs.step st1, R1, so1, q1, fun σ2 H2 τ2 S2 so2 st2 R2 q2 => k σ2 H2 τ2 S2 so2 (st1.trans st2) R2 q2⟩⟩
theorem g_tup {g : AGs} {k n : Nat} (hc : X.calm = true) (h : PGs X es (lowGs X.K g)) (hn : (assignEach es X.env).length = n := by rfl) (hst : (assignEach es X.env).findIdx? (·.1) = none := by rfl) :
    PG X (.Tuple es k pos) (lowG X.K (agTup n g)) := (pg_tup hc h hn hst).weak fun v σ H QH ⟨d, τ, S, Q, r, R, so, ⟨ds, e, el, q⟩, k⟩ => by
  subst e
  obtain ⟨a, vs, rfl, h, rs⟩ := rel_tupE r
  exact ⟨a, vs, rfl, h, rs.length.trans el, ds, τ, S, Q, rs, R, so, q, k⟩
def aAsg (ta : AE) (g : AG) : AS := fun D τ S => ta τ S fun d S1 => g d τ S1 D.nx
theorem s_asg {tg : Expr} {g : AG} (h : PE X e (low X.K ta)) (hg : PG X tg (lowG X.K g)) (h1 : swapsWithSole [tg] e pos.line X.env = pure false := by rfl) (h2 : swappedStores [tg] e X.env = pure none := by rfl)
    (h3 : (assignEach [tg] X.env).map (·.2) = [assign tg X.env] := by rfl) : PS X (.Assign [tg] e pos) (lowS X.K (aAsg ta g)) := (ps_asg h hg h1 h2 h3).weak fun D σ H ⟨τ, S, DA, R, so, q, k⟩ =>
  ⟨τ, S, _, R, so, q, fun v H1 d S1 so1 st1 r1 q1 => ⟨d, τ, S1, DA.nx, r1, R.step st1, so1, q1, fun σ2 H2 τ2 S2 so2 st2 R2 q2 => k.nx σ2 H2 τ2 S2 so2 (st1.trans st2) R2 q2⟩⟩
/-- x = e -/
theorem s_set {x : Str} {px : Pos} (i : Nat) (hN : X.N.Nodup) (h : PE X e (low X.K ta)) (hi : X.N[i]? = some x := by rfl) (hx : L2.Loc X.env.scope x := by first | exact .inl rfl | exact .inr rfl) (hf : X.fn x = true ∨ X.env.scope.names.lookup x = some .local := by first | exact .inl rfl | exact .inr rfl | assumption)
    (h1 : swapsWithSole [.Name x px] e pos.line X.env = pure false := by rfl) (h2 : swappedStores [.Name x px] e X.env = pure none := by rfl)
    (h3 : (assignEach [.Name x px] X.env).map (·.2) = [assign (.Name x px) X.env] := by rfl) : PS X (.Assign [.Name x px] e pos) (lowS X.K (aAsg ta (agName i))) := s_asg h (g_name i hN hi hx hf) h1 h2 h3
/-- a, b = x, y -/
def aPar (i j : Nat) (t : AA) : AS := fun D τ S => t τ S fun ds S1 => ∃ x y, ds = [x, y] ∧ D.nx ((τ.set i (some x)).set j (some y)) S1
theorem s_par {i j : Nat} {x y : Str} {t : AA} {px py pt : Pos} {kt k2 : Nat} {pt2 : Pos} (hc : X.calm = true) (hN : X.N.Nodup) (ha : PA X [a, b] (lowA X.K t)) (hi : X.N[i]? = some x := by rfl) (hj : X.N[j]? = some y := by rfl) (hij : i ≠ j := by decide)
    (hx : X.env.scope.names.lookup x = some .local := by rfl) (hy : X.env.scope.names.lookup y = some .local := by rfl)
    (h1 : swappedStores [.Tuple [.Name x px, .Name y py] kt pt] (.Tuple [a, b] k2 pt2) X.env = pure (some [x, y]) := by rfl) (h2 : swapsWithSole [.Tuple [.Name x px, .Name y py] kt pt] (.Tuple [a, b] k2 pt2) pos.line X.env = pure false := by rfl) :
    PS X (.Assign [.Tuple [.Name x px, .Name y py] kt pt] (.Tuple [a, b] k2 pt2) pos) (lowS X.K (aPar i j t)) := (ps_par hc hN hi hj hij hx hy ha h1 h2).weak fun D σ H ⟨τ, S, DA, R, so, q, k⟩ =>
  ⟨τ, S, _, R, so, q, fun vs H1 ds S1 so1 st1 r1 ⟨x, y, e, q1⟩ => by
    subst e
    cases r1 with
    | cons rx rr =>
      cases rr with
      | cons ry rr =>
        cases rr
        exact ⟨_, _, rfl, k.nx _ H1 _ S1 so1 st1 (((R.step st1).set rx i).set ry j) q1⟩⟩
/-- x op= e -/
def aAug (ar : AV → AV → Store → Ans) (i : Nat) (ta : AE) : AS := fun D τ S => ∃ x, τ[i]? = some (some x) ∧ ta τ S fun y S1 => (ar x y S1).ok ∧ D.nx (τ.set i (some (ar x y S1).v)) S1
theorem s_aug {x : Str} {px : Pos} {op : Operator} {ar : AV → AV → Store → Ans} (i : Nat) (hN : X.N.Nodup) (h : PE X e (low X.K ta)) (ho : PIp X op (lowO X.K ar)) (hi : X.N[i]? = some x := by rfl) (hx : L2.Loc X.env.scope x := by first | exact .inl rfl | exact .inr rfl)
    (hf : X.fn x = true ∨ X.env.scope.names.lookup x = some .local := by first | exact .inl rfl | exact .inr rfl | assumption) : PS X (.AugAssign (.Name x px) op e pos) (lowS X.K (aAug ar i ta)) := (ps_aug hN hi hx h ho hf).weak fun D σ H ⟨τ, S, DA, R, so, ⟨d, hd, q⟩, k⟩ => by
  obtain ⟨v, hv, r⟩ := R.at_ i d hd
  exact ⟨v, hv, τ, S, _, R, so, q, fun w H1 e S1 so1 st1 r1 ⟨ok, q1⟩ => ⟨d, e, S1, r.step st1, r1, so1, ok, fun z H2 so2 st2 r2 => k.nx _ H2 _ S1 so2 (st1.trans st2) (((R.step st1).step st2).set r2 i) q1⟩⟩

/-! ### while, for -/
def aWhile (tc : AT) (tb : AS) : AS := fun D τ S => ∃ W : Nat → ASt → Store → Prop, (∃ m, W m τ S) ∧ ∀ m τ S, W m τ S → tc τ S fun b S1 =>
  if b = true then tb { D with nx := fun τ' S' => ∃ m', m' < m ∧ W m' τ' S', ct := fun τ' S' => ∃ m', m' < m ∧ W m' τ' S', bk := D.nx } τ S1 else D.nx τ S1
theorem s_while {body : List Stmt} (hp : PassesOwn (model X.prog X.w) X.A X.env X.xe) (hc : PT X c (lowT X.K tt)) (hb : PSs X body (lowS X.K t)) : PS X (.While c body [] pos) (lowS X.K (aWhile tt t)) := (ps_while hp hc hb).weak fun D σ H ⟨τ, S, DA, R, so, ⟨W, ⟨m, w0⟩, hw⟩, k⟩ => by
  refine ⟨fun m σ' H' => ∃ τ' S', W m τ' S' ∧ Rp X.K H' S' σ' τ' ∧ StOk X.K H' S' ∧ Step H S H' S', ⟨m, τ, S, w0, R, so, .refl⟩, fun m σ1 H1 ⟨τ1, S1, w1, R1, so1, st1⟩ => ?_⟩
  refine ⟨τ1, S1, _, R1, so1, hw m τ1 S1 w1, fun b H2 S2 so2 st2 q2 => ?_⟩
  cases b with
  | false => rw [if_neg Bool.false_ne_true] at q2 ⊢; exact k.nx σ1 H2 τ1 S2 so2 (st1.trans st2) (R1.step st2) q2
  | true =>
    rw [if_pos rfl] at q2 ⊢
    have nx : ∀ σ' H' τ' S', StOk X.K H' S' → Step H2 S2 H' S' → Rp X.K H' S' σ' τ' → (∃ m', m' < m ∧ W m' τ' S') → ∃ m', m' < m ∧ ∃ τ' S', W m' τ' S' ∧ Rp X.K H' S' σ' τ' ∧ StOk X.K H' S' ∧ Step H S H' S' :=
      fun σ' H' τ' S' so' st' R' ⟨m', lt, w'⟩ => ⟨m', lt, τ', S', w', R', so', (st1.trans st2).trans st'⟩
    exact ⟨_, fun σ' H' h => h, τ1, S2, _, R1.step st2, so2, q2, nx, fun v H' d S' so' st' => k.rt v H' d S' so' ((st1.trans st2).trans st'), fun σ' H' τ' S' so' st' => k.nx σ' H' τ' S' so' ((st1.trans st2).trans st'), nx⟩
def aFor (ai : AI) (ag : AG) (tb : AS) : AS := fun D τ S => ai τ S fun xs G S1 => ∃ I : Nat → ASt → Store → Prop, I 0 τ S1 ∧
  (∀ (i : Nat) x τ2 S2, xs[i]? = some x → I i τ2 S2 → G S2 ∧ ag x τ2 S2 fun τ3 S3 => tb { D with nx := I (i + 1), ct := I (i + 1), bk := D.nx } τ3 S3) ∧ (∀ τ2 S2, I xs.length τ2 S2 → G S2 ∧ D.nx τ2 S2)
theorem s_for {tg iter : Expr} {body : List Stmt} {ai : AI} {g : AG} (hp : PassesOwn (model X.prog X.w) X.A X.env X.xe) (hc : X.calm = true) (hi : PI X tg iter (lowI X.K ai)) (hg : PG X tg (lowG X.K g)) (hb : PSs X body (lowS X.K t))
    (hs : ∀ x, foldedSetIterable iter X.env x = pure x := by intro _; rfl) : PS X (.For tg iter body [] pos) (lowS X.K (aFor ai g t)) := (ps_for hp hc hi hg hb hs).weak fun D σ H ⟨τ, S, DA, R, so, q, k⟩ =>
  ⟨τ, S, _, R, so, q, fun J H1 xs G S1 so1 st1 it ⟨I, i0, hstep, hend⟩ => by
    refine ⟨fun i m σ' H' => ∃ τ' S', I i τ' S' ∧ i + m = xs.length ∧ Rp X.K H' S' σ' τ' ∧ StOk X.K H' S' ∧ Step H1 S1 H' S', ⟨xs.length, τ, S1, i0, by omega, R.step st1, so1, .refl⟩, fun i m σ2 H2 ⟨τ2, S2, w2, hm, R2, so2, st2⟩ => ?_⟩
    by_cases hi : i < xs.length
    · right
      have hx : xs[i]? = some xs[i] := List.getElem?_eq_getElem hi
      obtain ⟨hG, hq⟩ := hstep i _ τ2 S2 hx w2
      obtain ⟨hgo, hy⟩ := (it H2 S2 so2 st2 hG).1 i _ hx
      have nx : ∀ σ' H' τ' S', StOk X.K H' S' → Step H2 S2 H' S' → Rp X.K H' S' σ' τ' → I (i + 1) τ' S' → ∃ m', m' < m ∧ ∃ τ' S', I (i + 1) τ' S' ∧ i + 1 + m' = xs.length ∧ Rp X.K H' S' σ' τ' ∧ StOk X.K H' S' ∧ Step H1 S1 H' S' :=
        fun σ' H' τ' S' so' st' R' w' => ⟨m - 1, by omega, τ', S', w', by omega, R', so', st2.trans st'⟩
      refine ⟨hgo, _, fun σ' H' h => h, fun v H3 hv => ?_⟩
      obtain ⟨so3, st3, r3⟩ := hy v H3 hv
      exact ⟨_, τ2, S2, _, r3, R2.step st3, so3, hq, fun σ4 H4 τ4 S4 so4 st4 R4 q4 => ⟨τ4, S4, _, R4, so4, q4, fun σ' H' τ' S' so' st' R' w' => nx σ' H' τ' S' so' ((st3.trans st4).trans st') R' w',
        fun v H' d S' so' st' => k.rt v H' d S' so' (((st1.trans st2).trans (st3.trans st4)).trans st'), fun σ' H' τ' S' so' st' => k.nx σ' H' τ' S' so' (((st1.trans st2).trans (st3.trans st4)).trans st'), fun σ' H' τ' S' so' st' R' w' => nx σ' H' τ' S' so' ((st3.trans st4).trans st') R' w'⟩⟩
    · left
      have e : i = xs.length := by omega
      subst e
      obtain ⟨hG, hq⟩ := hend τ2 S2 w2
      exact ⟨(it H2 S2 so2 st2 hG).2, k.nx σ2 H2 τ2 S2 so2 (st1.trans st2) R2 hq⟩⟩

/-! ### what a for walks -/
variable {tg : Expr}
/-- a list -/
def aiLst (ta : AE) : AI := fun τ S Q => ta τ S fun d S1 => ∃ xs, lstA S1 d = some xs ∧ Q xs (fun S2 => lstA S2 d = some xs) S1
theorem i_lst (h : PE X e (low X.K ta)) : PI X tg e (lowI X.K (aiLst ta)) := (pi_list h).weak fun σ H R ⟨τ, S, Q, Rr, so, q, k⟩ => ⟨τ, S, _, Rr, so, q, fun v H1 d S1 so1 st1 r1 ⟨xs, e, q1⟩ => by
  obtain ⟨a, vs, rfl, hl, rs⟩ := rel_lstE so1 r1 e
  refine ⟨a, rfl, ⟨vs, hl⟩, k _ H1 xs _ S1 so1 st1 (fun H' S' so' st' g => ?_) q1⟩
  obtain ⟨a', ws, ea, hl', rs'⟩ := rel_lstE so' (r1.step st') g
  cases ea
  refine ⟨fun i x hx => ?_, ws, hl', by rw [rs'.length]; exact Nat.le_refl _⟩
  obtain ⟨w, hw, rw'⟩ := rs'.get hx
  refine ⟨⟨ws, w, hl', hw⟩, fun v H'' ⟨e1, e2⟩ => ?_⟩
  subst e1
  have := e2 ws hl'
  rw [hw] at this
  cases this
  exact ⟨so', .refl, rw'⟩⟩
def aiTup (ta : AE) : AI := fun τ S Q => ta τ S fun d S1 => ∃ xs, d = .tup xs ∧ Q xs (fun _ => True) S1
theorem i_tup (h : PE X e (low X.K ta)) : PI X tg e (lowI X.K (aiTup ta)) := (pi_tup h).weak fun σ H R ⟨τ, S, Q, Rr, so, q, k⟩ => ⟨τ, S, _, Rr, so, q, fun v H1 d S1 so1 st1 r1 ⟨xs, e, q1⟩ => by
  subst e
  obtain ⟨a, vs, rfl, hl, rs⟩ := rel_tupE r1
  refine ⟨a, rfl, ⟨vs, hl⟩, k _ H1 xs _ S1 so1 st1 (fun H' S' so' st' g => ?_) q1⟩
  obtain ⟨a', ws, ea, hl', rs'⟩ := rel_tupE (r1.step st')
  cases ea
  refine ⟨fun i x hx => ?_, ws, hl', by rw [rs'.length]; exact Nat.le_refl _⟩
  obtain ⟨w, hw, rw'⟩ := rs'.get hx
  refine ⟨⟨ws, w, hl', hw⟩, fun v H'' ⟨e1, e2⟩ => ?_⟩
  subst e1
  have := e2 ws hl'
  rw [hw] at this
  cases this
  exact ⟨so', .refl, rw'⟩⟩
/-- a text, sign by sign -/
def signsA (z : Str) : List AV := z.cps.toList.map fun c => .str ⟨#[c]⟩
def aiStr (ta : AE) : AI := fun τ S Q => ta τ S fun d S1 => ∃ z, d = .str z ∧ Q (signsA z) (fun _ => True) S1
theorem i_str (h : PE X e (low X.K ta)) : PI X tg e (lowI X.K (aiStr ta)) := (pi_str h).weak fun σ H R ⟨τ, S, Q, Rr, so, q, k⟩ => ⟨τ, S, _, Rr, so, q, fun v H1 d S1 so1 st1 r1 ⟨z, e, q1⟩ => by
  subst e
  obtain rfl := rel_strE r1
  refine ⟨z, rfl, k _ H1 _ _ S1 so1 st1 (fun H' S' so' st' g => ?_) q1⟩
  have hl : (signsA z).length = z.cps.size := by unfold signsA; rw [List.length_map, Array.length_toList]
  refine ⟨fun i x hx => ?_, by show z.cps.size ≤ (signsA z).length; omega⟩
  have hi : i < z.cps.size := by have := (List.getElem?_eq_some_iff.mp hx).1; omega
  refine ⟨hi, fun v H'' ⟨e1, c, hc, ev⟩ => ?_⟩
  subst e1 ev
  have hx' : x = .str ⟨#[c]⟩ := by
    unfold signsA at hx
    rw [List.getElem?_map, Array.getElem?_toList, hc] at hx
    cases hx
    rfl
  subst hx'
  exact ⟨so', .refl, .str _⟩⟩
/-- range(n), range(a, b) -/
def rngA (a : Int) (n : Nat) : List AV := (List.range n).map fun i => .int (a + (i : Nat))
theorem rngA_len (a : Int) (n : Nat) : (rngA a n).length = n := by unfold rngA; rw [List.length_map, List.length_range]
theorem rngA_get {a : Int} {n i : Nat} {x : AV} (h : (rngA a n)[i]? = some x) : i < n ∧ x = .int (a + (i : Nat)) := by
  have hi : i < n := by have := (List.getElem?_eq_some_iff.mp h).1; rwa [rngA_len] at this
  unfold rngA at h
  rw [List.getElem?_map, List.getElem?_range hi] at h
  cases h
  exact ⟨hi, rfl⟩
theorem rel_ints1 {K : PySem.W.Frag} {H : Hp} {S : Store} {vs : List V} {i : Int} (r : RelAs K H S vs [.int i]) : vs = [.int i] := by
  cases r with
  | cons r rr => cases rr; rw [rel_intE r]
theorem rel_ints2 {K : PySem.W.Frag} {H : Hp} {S : Store} {vs : List V} {i j : Int} (r : RelAs K H S vs [.int i, .int j]) : vs = [.int i, .int j] := by
  cases r with
  | cons r rr => rw [rel_intE r, rel_ints1 rr]
def aiRng1 (t : AA) : AI := fun τ S Q => t τ S fun ds S1 => ∃ j : Int, ds = [.int j] ∧ -(2 ^ 62) ≤ j ∧ j < 2 ^ 62 ∧ Q (rngA 0 j.toNat) (fun _ => True) S1
def aiRng2 (t : AA) : AI := fun τ S Q => t τ S fun ds S1 => ∃ i j : Int, ds = [.int i, .int j] ∧ (-(2 ^ 62) ≤ i ∧ i < 2 ^ 62 ∧ -(2 ^ 62) ≤ j ∧ j < 2 ^ 62) ∧ Q (rngA i (j - i).toNat) (fun _ => True) S1
theorem itr_ok {K : PySem.W.Frag} {H : Hp} {S : Store} {a : Int} {n : Nat} : ItOk K (Itr a n) H S (fun _ => True) (rngA a n) := fun H' S' so' st' g =>
  ⟨fun i x hx => ⟨(rngA_get hx).1, fun v H'' ⟨e1, e2⟩ => by subst e1 e2; rw [(rngA_get hx).2]; exact ⟨so', .refl, .int _⟩⟩, by show n ≤ (rngA a n).length; rw [rngA_len]; exact Nat.le_refl _⟩
theorem i_rng1 {t : AA} (hm : X.mg "range" = none) (ha : PA X [a] (lowA X.K t)) (hg : Gl X "range" := by rfl) (hs : starEach [a] X.env = [(false, eval a X.env)] := by rfl) : PI X tg (.Call (.Name "range" p) [a] [] pos) (lowI X.K (aiRng1 t)) :=
  (pi_range1 hg hm ha hs).weak fun σ H R ⟨τ, S, Q, Rr, so, q, k⟩ => ⟨τ, S, _, Rr, so, q, fun vs H1 ds S1 so1 st1 r1 ⟨j, e, h1, h2, q1⟩ => by
    subst e
    exact ⟨j, rel_ints1 r1, h1, h2, k _ H1 _ _ S1 so1 st1 itr_ok q1⟩⟩
theorem i_rng2 {t : AA} (hm : X.mg "range" = none) (ha : PA X [a, b] (lowA X.K t)) (hg : Gl X "range" := by rfl) (hs : starEach [a, b] X.env = [(false, eval a X.env), (false, eval b X.env)] := by rfl) (hs2 : starEach [b] X.env = [(false, eval b X.env)] := by rfl) :
    PI X tg (.Call (.Name "range" p) [a, b] [] pos) (lowI X.K (aiRng2 t)) :=
  (pi_range2 hg hm ha hs hs2).weak fun σ H R ⟨τ, S, Q, Rr, so, q, k⟩ => ⟨τ, S, _, Rr, so, q, fun vs H1 ds S1 so1 st1 r1 ⟨i, j, e, h1, q1⟩ => by
    subst e
    exact ⟨i, j, rel_ints2 r1, h1, k _ H1 _ _ S1 so1 st1 itr_ok q1⟩⟩
/-- enumerate(list) -/
def enumA (xs : List AV) : List AV := xs.mapIdx fun i x => .tup [.int (i : Nat), x]
theorem enumA_get {xs : List AV} {i : Nat} {y : AV} (h : (enumA xs)[i]? = some y) : ∃ x, xs[i]? = some x ∧ y = .tup [.int (i : Nat), x] := by
  unfold enumA at h
  rw [List.getElem?_mapIdx] at h
  cases z : xs[i]? with
  | none => rw [z] at h; cases h
  | some x => rw [z] at h; cases h; exact ⟨x, rfl, rfl⟩
theorem enumA_len (xs : List AV) : (enumA xs).length = xs.length := by unfold enumA; rw [List.length_mapIdx]
def aiEnum (t : AA) : AI := fun τ S Q => t τ S fun ds S1 => ∃ d xs, ds = [d] ∧ lstA S1 d = some xs ∧ Q (enumA xs) (fun S2 => lstA S2 d = some xs) S1
theorem i_enum {t : AA} {elts : List Expr} {kk : Nat} {tpos : Pos} (hm : X.mg "enumerate" = none) (ha : PA X [e] (lowA X.K t)) (hg : Gl X "enumerate" := by rfl) (hs : starEach [e] X.env = [(false, eval e X.env)] := by rfl) :
    PI X (.Tuple elts kk tpos) (.Call (.Name "enumerate" p) [e] [] pos) (lowI X.K (aiEnum t)) := (pi_enum hg hm ha hs).weak fun σ H R ⟨τ, S, Q, Rr, so, q, k⟩ => ⟨τ, S, _, Rr, so, q, fun vs H1 ds S1 so1 st1 r1 ⟨d, xs, e, el, q1⟩ => by
    subst e
    cases r1 with
    | cons r rr =>
      cases rr
      obtain ⟨a, ws, rfl, hl, rs⟩ := rel_lstE so1 r el
      refine ⟨a, ws, rfl, hl, k _ H1 _ _ S1 so1 st1 (fun H' S' so' st' g => ?_) q1⟩
      obtain ⟨a', us, ea, hl', rs'⟩ := rel_lstE so' (r.step st') g
      cases ea
      have W := walk_enum (K := X.K) (a := a) (xs := us)
      refine ⟨fun i x hx => ?_, ?_⟩
      · obtain ⟨y, hy, rfl⟩ := enumA_get hx
        obtain ⟨u, hu, ru⟩ := rs'.get hy
        refine ⟨W.goes i H' (List.getElem?_eq_some_iff.mp hu).1 hl', fun v H'' hv => ?_⟩
        obtain ⟨T, x1, y1, rfl, hT, rfl, e1, e2⟩ := W.yields i H' v H'' (List.getElem?_eq_some_iff.mp hu).1 hl' hv
        cases e1
        have e3 : us[i]? = some y1 := e2
        rw [hu] at e3
        cases e3
        exact ⟨stok_new so' hT, step_new so' hT, rel_tup so' hT (.cons (.int _) (.cons ru .nil))⟩
      · rw [enumA_len, ← rs'.length]
        exact W.stops H' hl'⟩
/-- zip of two lists, of two tuples -/
def zipA (xs ys : List AV) : List AV := List.zipWith (fun x y => .tup [x, y]) xs ys
theorem zipA_get {xs ys : List AV} {i : Nat} {z : AV} (h : (zipA xs ys)[i]? = some z) : ∃ x y, xs[i]? = some x ∧ ys[i]? = some y ∧ z = .tup [x, y] := by
  unfold zipA at h
  rw [List.getElem?_zipWith] at h
  cases hx : xs[i]? with
  | none => rw [hx] at h; cases h
  | some x =>
    cases hy : ys[i]? with
    | none => rw [hx, hy] at h; cases h
    | some y => rw [hx, hy] at h; cases h; exact ⟨x, y, rfl, rfl, rfl⟩
end
end L3

set_option Elab.async false
set_option linter.all false
set_option maxRecDepth 100000
set_option maxHeartbeats 2000000
set_option autoImplicit false
/-! L3G: promises of defs that are called where no guard stands (nothing is being shown): what repr wants. The same rule for a def, a call, the law's own call. -/
namespace L3
open PySem L2 PyProof.Rows

/-- a def's promise where no guard stands -/
structure FnG (P : Program) (w : World) (K : PySem.W.Frag) (mg : Str → Option Value) (base : Heap) (k : Nat) (f : Addr) (fd : FuncData) (ps : List Str) (sp : Sp) : Prop where
  len : ∀ vs H Q E, sp vs H Q E → vs.length = ps.length
  go : ∀ (A : Around), A.guards = some [] → Room k A → ∀ (out : List Env) (s : Shared) (H : Hp) (ar : Args) (us : List Value) (vs : List V) (Q : VK) (E : XK), Env0 P w K mg base A out s H → BindsTo s fd ar (ps.zip us) → Vals vs us → sp vs H Q E →
    codeAny (model P w) A (.call (.ref f) ar) (fun r s' => CR CX0 out P w H s Q E r s') s
section
variable {P : Program} {w : World} {K : PySem.W.Frag} {mg : Str → Option Value} {base : Heap}
theorem FnG.up {j k : Nat} {f : Addr} {fd : FuncData} {ps : List Str} {sp : Sp} (F : FnG P w K mg base j f fd ps sp) (h : j ≤ k) : FnG P w K mg base k f fd ps sp := ⟨F.len, fun A g hr => F.go A g (hr.mono h)⟩
/-- a def by its body -/
theorem fng_of {x qual : Str} {st : Stmt} {f : Addr} {fd : FuncData} {N ps : List Str} {k : Nat} {sp : Sp} (F : L2.Fun K x qual st f fd) (S : FnScope N ps (defScope st)) (len : ∀ vs H Q E, sp vs H Q E → vs.length = ps.length)
    (body : ∀ (cdv : Value) (A : Around), A.guards = some [] → ∀ (out : List Env) (s : Shared) (H : Hp) (vs : List V) (Q : VK) (E : XK), Room k (A.deeper (envOfC qual (defScope st) s.heap.objs.size f cdv)) → sp vs H Q E →
      ∃ t, PSs (cxOf CX0 P w K mg base N qual (defScope st) f cdv A out s H E).nox (defBody st) t ∧ t { nx := fun _ H' => Q .non H', rt := Q } (L2.start N vs) H) : FnG P w K mg base (k + 1) f fd ps sp := by
  obtain ⟨oc, od, kV, doc, pm, an, cdv, ct, osl, rfl, lk, hcd⟩ := F.ex
  refine ⟨len, fun A hgd hr out s H ar us vs Q E e0 hb rv h => ?_⟩
  have kin : K.In s.heap := e0.mod.kin.keeps fun b o z => (e0.bs b o z).1
  have nol : s.heap.NoLimit := e0.mod.nolimit.keeps fun b o z => (e0.bs b o z).1
  have kinds : ∀ y ∈ ps.zip us, (defScope st).names.lookup y.1 = some .local ∨ ((defScope st).names.lookup y.1 = some .cell ∧ ((cellsFrom (s.heap.objs.size + 1) (defScope st).names []).lookup y.1).isSome = true) := by
    intro z hz
    cases S.par z.1 (List.of_mem_zip (a := z.1) (b := z.2) hz).1 with
    | inl q => exact Or.inl q
    | inr q => exact Or.inr ⟨q, PySem.W.cellsFrom_some _ _ _ (Or.inl q)⟩
  refine codeAny_call_function hr.depth (kin _ _ lk) rfl S.co S.gen rfl (PySem.W.codeRec_of kin hcd) (hb _ _ _ _ ?_)
  refine wpAny_newFunctionEnv_cells S.kind kinds fun env he s1 ic => ?_
  subst he
  refine ⟨nol.keeps ic.toInCall.keep, codeAny_func ?_⟩
  obtain ⟨t, ht, q⟩ := body cdv A hgd out s H vs Q E (hr.deeper _) h
  have J0 := inv_start (CX := CX0) (E := E) S hr.hd e0 (len vs H Q E h) rv ic
  refine wpAny_mono (ht.nox.run [] s1 (L2.start N vs) H _ J0 q) (fun fl s2 z => ?_) fun e s2 z => z
  cases fl with
  | brk => obtain ⟨_, _, _, z⟩ := z; cases z
  | cont => obtain ⟨_, _, _, z⟩ := z; cases z
  | next => obtain ⟨σ2, H2, J, z⟩ := z; exact ⟨V.non, H2, J.os, J.bare, J.base, J.hok, rfl, z⟩
  | ret u => obtain ⟨v, σ2, H2, J, r2, z⟩ := z; exact ⟨v, H2, J.os, J.bare, J.base, J.hok, r2, z⟩
/-- the callee runs -/
theorem run_g {X : Cx} {k : Nat} {f : Addr} {fd : FuncData} {ps : List Str} {sp : Sp} {pins : List (Addr × Obj)} {σ : L2.St} {H : Hp} {s : Shared} {Q : VK} {us : List Value} {vs : List V} (F : FnG X.prog X.w X.K X.mg X.base k f fd ps sp) (hg : X.A.guards = some [])
    (hr : Room k X.A) (hb : Binds X.K fd ps []) (I : Inv X pins σ H s) (r : Vals vs us) (h : sp vs H Q E0) : wpAny (model X.prog X.w) X.A (call (.ref f) us) (fun u s' => EP X pins σ Q u s') X.xe s := by
  have hl : (us ++ []).length = ps.length := by rw [List.append_nil, ← r.length]; exact F.len _ _ _ _ h
  have b := hb s us I.kIn hl
  rw [List.append_nil] at b
  refine wpAny_call (codeAny_mono (F.go X.A hg hr X.stack s H ⟨us, []⟩ us vs Q E0 I.env0 b r h) fun r' s' z => ?_)
  cases r' with
  | error e => exact False.elim z
  | ok fl =>
    cases fl with
    | brk => exact z.elim
    | cont => exact z.elim
    | next => exact z.elim
    | ret u => exact I.after z
section
variable {X : Cx} {k : Nat} {f : Addr} {fd : FuncData} {ps : List Str} {sp : Sp} {x : Str} {p pos : Pos} {e : Expr} {es : List Expr} {t : TA}
theorem pe_callG (F : FnG X.prog X.w X.K X.mg X.base k f fd ps sp) (gd : X.A.guards = some []) (hr : Room k X.A) (hg : Gl X x) (hm : X.mg x = some (.ref f)) (hk : PySem.W.keepIn X.K (.ref f) = true) (hb : Binds X.K fd ps [])
    (ha : PA X (e :: es) t) (hdb : (x == ("__debug__" : Str)) = false := by decide) (he : starEach (e :: es) X.env = (false, eval e X.env) :: starEach es X.env := by rfl) (hpl : (backTo pos (starEach es X.env)).any (·.1) = false := by rfl) :
    PE X (.Call (.Name x p) (e :: es) [] pos) (fun σ H Q => t σ H fun vs H1 => sp vs H1 Q E0) := ⟨fun pins s σ H Q I h =>
  wpAny_Call_Name_kw (ld_glob I hg hm (PySem.W.callWith_K (h₀ := X.base) I.ok.mod.kin hk (thn (ha.run pos pins s σ H _ I h) fun us s1 z => by
    obtain ⟨vs, H1, I1, r1, q1⟩ := z
    exact ⟨I1.kIn, run_g F gd hr hb I1 r1 q1⟩) he hpl) hdb)⟩
theorem pe_callG0 (F : FnG X.prog X.w X.K X.mg X.base k f fd ps sp) (gd : X.A.guards = some []) (hr : Room k X.A) (hg : Gl X x) (hm : X.mg x = some (.ref f)) (hk : PySem.W.keepIn X.K (.ref f) = true) (hb : Binds X.K fd ps [])
    (hdb : (x == ("__debug__" : Str)) = false := by decide) : PE X (.Call (.Name x p) [] [] pos) (fun _ H Q => sp [] H Q E0) := ⟨fun pins s σ H Q I h =>
  wpAny_Call_Name_kw (ld_glob I hg hm (PySem.W.callWith_K0 I.kIn hk (run_g (us := []) F gd hr hb I .nil h)) hdb)⟩
end
/-- the law's own call -/
theorem law_callG {mb : Str → Option Value} {k : Nat} {fa a : Addr} {fd : FuncData} {x : Str} {sp : Sp} {s₁ : Shared} {vs : List Value} {ns : List Int}
    (KX : K.In s₁.heap) (hns : s₁.heap.Ns mainGlobals mg) (hb : s₁.heap.Ns builtinsNs mb) (hbb : ∀ y : Str, y ≠ "__name__" → mb y = bootBuiltins y) (nol : s₁.heap.NoLimit) (hge : s₁.gens = #[])
    (ha : s₁.heap.get? a = some { cls := .type "list", data := .seq vs.toArray }) (hi : IntsAre vs ns) (hl : ns.length ≤ sizeLine) (hr : Room k callerA)
    (F : ∀ base : Heap, K.In base → base.Ns mainGlobals mg → FnG P w K mg base k fa fd [x] sp) (bind : ∀ (s : Shared) (u : Value), BindsTo s fd ⟨[u], []⟩ [(x, u)])
    (hsp : ∀ H : Hp, Only H → SqL K H a (ns.map V.int) → sp [.ref a] H (fun v _ => v = .bl true) fun _ _ _ => False) :
    codeAny (model P w) callerA (.call (.ref fa) ⟨[.ref a], []⟩) (fun r s' => r = .ok (.ret (.bool true)) ∧ OldK s₁.heap s'.heap ∧ s'.os = s₁.os ∧ AllBare s'.gens) s₁ := by
  have rv := vals_ints hi
  have nlen := hi.length
  suffices core : ∃ H : Hp, Only H ∧ SqL K H a (ns.map V.int) ∧ HOk P w H s₁.heap ∧ (∀ b, H b ≠ none → b = a) ∧ (H a ≠ none → K.lookup a = none) by
    obtain ⟨H, only, hS, hok, own, noK⟩ := core
    have untr : ∀ {b : Addr} {o : Obj} {es : Array DictEntry} {ep : Nat}, s₁.heap.get? b = some o → o.data = .dict es ep → H b = none := by
      intro b o es ep e d
      cases q : H b with
      | none => rfl
      | some u =>
        obtain rfl := own b (by rw [q]; exact Option.some_ne_none _)
        rw [ha] at e
        cases e
        exact (nomatch d)
    have ns' : ∀ {b : Addr} {m : Str → Option Value}, s₁.heap.Ns b m → (hidT s₁.heap H).Ns b m := by
      intro b m hm
      obtain ⟨o, es, ep, e, d, r⟩ := hm
      exact ⟨o, es, ep, hidT_get e (untr e d), d, r⟩
    have kb : K.In (hidT s₁.heap H) := by
      intro b o e
      refine hidT_get (KX b o e) ?_
      cases q : H b with
      | none => rfl
      | some u =>
        obtain rfl := own b (by rw [q]; exact Option.some_ne_none _)
        rw [noK (by rw [q]; exact Option.some_ne_none _)] at e
        cases e
    have m0 : Mod K mg (hidT s₁.heap H) := ⟨kb, ns' hns, ⟨mb, ns' hb, hbb⟩, by obtain ⟨mc, z1, z2⟩ := nol; exact ⟨mc, ns' z1, z2⟩⟩
    have e0 : Env0 P w K mg (hidT s₁.heap H) callerA [] s₁ H := ⟨rfl, m0, fun b o e => of_hidT e, Nat.le_of_eq (hidT_size _ _), trivial, (fun b z => absurd (show b ∈ ([] : List Addr) from z) List.not_mem_nil), hok, AllBare.of_eq hge⟩
    refine codeAny_mono ((F _ kb (ns' hns)).go callerA rfl hr [] s₁ H ⟨[.ref a], []⟩ [.ref a] [.ref a] _ _ e0 (bind s₁ (.ref a)) (.cons rfl .nil) (hsp H only hS)) fun r s2 z => ?_
    cases r with
    | error e => exact False.elim z
    | ok fl =>
      cases fl with
      | brk => exact z.elim
      | cont => exact z.elim
      | next => exact z.elim
      | ret u =>
        obtain ⟨v, H2, os, bare, un, hok2, rr, q⟩ := z
        cases q
        cases rr
        refine ⟨rfl, OldK.of_keep fun b o e => ?_, os, bare⟩
        cases q : H b with
        | none => exact un.keep b o e q (by rintro ⟨⟩) (by rintro ⟨⟩)
        | some u =>
          rcases only b with z | ⟨ob, xs, z⟩
          · rw [q] at z
            cases z
          · obtain ⟨e1, _⟩ := hok b _ z
            obtain ⟨e2, _⟩ := hok2 b _ (un.frzs b ob _ z)
            rw [e] at e1
            cases e1
            exact e2
  cases hk : K.lookup a with
  | some o =>
    have e := KX a o hk
    rw [ha] at e
    cases e
    exact ⟨fun _ => none, fun _ => Or.inl rfl, Or.inr ⟨_, vs.toArray, _, hk, rfl, rfl, rfl, by rw [List.size_toArray, nlen]; exact hl, by simpa using rv⟩, fun b u z => (nomatch z), fun b z => absurd rfl z, fun z => absurd rfl z⟩
  | none =>
    have here : ∀ b, b ≠ a → (fun b => if b = a then some (HO.frz { cls := .type "list", data := .seq vs.toArray } (.lst (ns.map V.int))) else none : Hp) b = none := fun b z => if_neg z
    have there : (fun b => if b = a then some (HO.frz { cls := .type "list", data := .seq vs.toArray } (.lst (ns.map V.int))) else none : Hp) a = some (HO.frz { cls := .type "list", data := .seq vs.toArray } (.lst (ns.map V.int))) := if_pos rfl
    refine ⟨(fun b => if b = a then some (HO.frz { cls := .type "list", data := .seq vs.toArray } (.lst (ns.map V.int))) else none : Hp), fun b => ?_, Or.inl (Or.inr ⟨_, there⟩), fun b u z => ?_, fun b z => ?_, fun _ => rfl⟩
    · by_cases hb : b = a
      · subst hb; exact Or.inr ⟨_, _, there⟩
      · exact Or.inl (here b hb)
    · by_cases hb : b = a
      · subst hb
        have z2 := there.symm.trans z
        cases z2
        exact ⟨ha, by rw [List.length_map]; exact hl, vs, _, rv, ha⟩
      · have z2 := (here b hb).symm.trans z
        cases z2
    · by_cases hb : b = a
      · exact hb
      · exact absurd (here b hb) z
end
/-- the row's end -/
theorem walk_ofG {l : PySem.W.OpenLaw} {n k : Nat} {q : Program} {loose : List Str} {XP : (Str → Option Value) → Heap → Prop} {YP : World → Heap → Prop} {d : DefRec} {K : Params → PySem.W.Frag} {sp : PySem.W.Frag → Sp} {x : Str}
    (hn : l.most = some n) (hn2 : n ≤ sizeLine) (hdf : d.params.defaults = []) (hr : Room k callerA) (hY : ∀ (w : World) (h : Heap), YP w h → (K w.params).In h)
    (F : ∀ (w : World) (mg : Str → Option Value) (fa : Addr) (h : Heap), (K w.params).In h → h.Ns mainGlobals mg → XP mg h → mg d.name = some (.ref fa) →
      ∃ fd : FuncData, (∀ (s : Shared) (u : Value), BindsTo s fd ⟨[u], []⟩ [(x, u)]) ∧ ∀ base : Heap, (K w.params).In base → base.Ns mainGlobals mg → FnG l.prog w (K w.params) mg base k fa fd [x] (sp (K w.params)))
    (hsp : ∀ (K : PySem.W.Frag) (H : Hp) (a : Addr) (ns : List Int), ns.length ≤ n → Only H → SqL K H a (ns.map V.int) → sp K [.ref a] H (fun v _ => v = .bl true) fun _ _ _ => False) :
    PySem.W.WalkO q loose XP YP l.row.toRowW d [] (fun f vs => PySem.call f vs) := by
  refine Att.attach_call hn hdf fun w s0 s1 mg mb fa o pm cd doc a vs ns G Y ho hd hcd hmg hobj hints hlen hgen => ?_
  obtain ⟨fd, bind, hF⟩ := F w mg fa _ (hY w _ Y) G.T.g G.X hmg
  exact law_callG (hY w _ Y) G.T.g G.T.b G.T.builtins G.T.nolimit hgen hobj hints (Nat.le_trans hlen hn2) hr hF bind fun H only hS => hsp (K w.params) H a ns hlen only hS

/-! ### over L3 -/
structure Fn4 (P : Program) (w : World) (K : PySem.W.Frag) (mg : Str → Option Value) (base : Heap) (k : Nat) (x : Str) (ps : List Str) (asp : ASp) : Prop where
  ex : ∃ (f : Addr) (fd : FuncData), FnG P w K mg base k f fd ps (spOf K asp) ∧ mg x = some (.ref f) ∧ PySem.W.keepIn K (.ref f) = true ∧ Binds K fd ps []
theorem Fn4.up {P : Program} {w : World} {K : PySem.W.Frag} {mg : Str → Option Value} {base : Heap} {j k : Nat} {x : Str} {ps : List Str} {asp : ASp} (F : Fn4 P w K mg base j x ps asp) (h : j ≤ k) : Fn4 P w K mg base k x ps asp :=
  let ⟨f, fd, G, r⟩ := F.ex
  ⟨f, fd, G.up h, r⟩
/-- THE RULE for a def over L3 -/
theorem _root_.L2.Fun.ok4 {P : Program} {w : World} {K : PySem.W.Frag} {mg : Str → Option Value} {base : Heap} {x qual : Str} {st : Stmt} {f : Addr} {fd : FuncData} {N ps : List Str} {k : Nat} {asp : ASp} (F : L2.Fun K x qual st f fd) (S : FnScope N ps (defScope st))
    (len : ∀ ds S Q, asp ds S Q → ds.length = ps.length)
    (hbody : ∀ (cdv : Value) (A : Around), A.guards = some [] → ∀ (outer : List Env) (s : Shared) (H : Hp) (E : XK), Room k (A.deeper (envOfC qual (defScope st) s.heap.objs.size f cdv)) →
      ∃ as, PSs (cxOf CX0 P w K mg base N qual (defScope st) f cdv A outer s H E).nox (defBody st) (lowS K as) ∧ ∀ ds S Q, asp ds S Q → as { nx := fun _ S' => RtW Q .non S', rt := RtW Q } (startA N ds) S) : FnG P w K mg base (k + 1) f fd ps (spOf K asp) :=
  fng_of F S (fun vs H Q E h => by obtain ⟨ds, S, Q', r, so, q, _⟩ := h; rw [r.length]; exact len ds S Q' q) fun cdv A gd outer s H vs QH E hr h => by
    obtain ⟨ds, S, Q, r, so, q, k⟩ := h
    obtain ⟨as, hp, ha⟩ := hbody cdv A gd outer s H E hr
    have rt : ∀ v H' d S', StOk K H' S' → Step H S H' S' → RelA K H' S' v d → RtW Q d S' → QH v H' := fun v H' d S' so' st' r' ⟨d2, S2, sb, hd, q2⟩ => by
      rcases hd with rfl | ⟨l, ds, rfl, hl, hn, rfl⟩
      · exact k d2 S2 v H' (so'.sub sb) (st'.subR sb) (r'.sub sb) q2
      · obtain rfl := rel_refE r'
        obtain ⟨vs, hv, rv⟩ := so' l _ hl
        exact k _ S2 _ H' (so'.sub sb) (st'.subR sb) (.lst hv hn (rv.sub sb)) q2
    exact ⟨_, hp, startA N ds, S, _, rp_start r, so, ha ds S Q q, fun σ' H' τ' S' so' st' _ q' => rt .non H' .non S' so' st' .non q', rt, fun _ _ _ _ _ _ _ z => z.elim, fun _ _ _ _ _ _ _ z => z.elim⟩
section
variable {X : Cx} {e : Expr} {es : List Expr} {pos p : Pos}
theorem f_call {k : Nat} {x : Str} {ps : List Str} {asp : ASp} {t : AA} (F : Fn4 X.prog X.w X.K X.mg X.base k x ps asp) (gd : X.A.guards = some []) (hr : Room k X.A) (ha : PA X (e :: es) (lowA X.K t)) (hg : Gl X x := by rfl)
    (hdb : (x == ("__debug__" : Str)) = false := by decide) (he : starEach (e :: es) X.env = (false, eval e X.env) :: starEach es X.env := by rfl) (hpl : (backTo pos (starEach es X.env)).any (·.1) = false := by rfl) :
    PE X (.Call (.Name x p) (e :: es) [] pos) (low X.K (aCall asp t)) := by
  obtain ⟨f, fd, G, hm, hk, hb⟩ := F.ex
  exact (pe_callG G gd hr hg hm hk hb ha hdb he hpl).weak fun σ H QH ⟨τ, S, Q, R, so, q, k⟩ => ⟨τ, S, _, R, so, q, fun vs H1 ds S1 so1 st1 r1 q1 =>
    ⟨ds, S1, Q, r1, so1, q1, fun d S' v H' so' st' r' q' => k v H' d S' so' (st1.trans st') r' q'⟩⟩
theorem f_call0 {k : Nat} {x : Str} {ps : List Str} {asp : ASp} (F : Fn4 X.prog X.w X.K X.mg X.base k x ps asp) (gd : X.A.guards = some []) (hr : Room k X.A) (hg : Gl X x := by rfl) (hdb : (x == ("__debug__" : Str)) = false := by decide) :
    PE X (.Call (.Name x p) [] [] pos) (low X.K (aCall asp aNil)) := by
  obtain ⟨f, fd, G, hm, hk, hb⟩ := F.ex
  exact (pe_callG0 G gd hr hg hm hk hb hdb).weak fun σ H QH ⟨τ, S, Q, R, so, q, k⟩ => ⟨[], S, Q, .nil, so, q, fun d S' v H' so' st' r' q' => k v H' d S' so' st' r' q'⟩
end
/-- the end, with an L3 promise of the law: the script is a list that may be read -/
theorem sp_end {K : PySem.W.Frag} {asp : ASp} {H : Hp} {a : Addr} {ns : List Int} (only : Only H) (hS : SqL K H a (ns.map V.int)) (h : ∀ S Q, (∀ S', Q (.bl true) S') → asp [.rol (ns.map .int)] S Q) :
    spOf K asp [.ref a] H (fun v _ => v = .bl true) fun _ _ _ => False := by
  have allInts : ∀ ns : List Int, RelAs K H (fun _ => none) (ns.map V.int) (ns.map AV.int) := fun ns => by
    induction ns with
    | nil => exact .nil
    | cons n r ih => exact .cons (.int n) ih
  have r : RelA K H (fun _ => none) (.ref a) (.rol (ns.map .int)) := by
    rcases hS with h | h
    · exact .rol h rfl (allInts ns)
    · exact .rolK h (allInts ns)
  exact ⟨_, fun _ => none, fun d _ => d = .bl true, .cons r .nil, fun b o z => (nomatch z), h _ _ fun S' => rfl, fun d S' v H' so' st' r' e => by subst e; exact rel_blE r'⟩
end L3

set_option Elab.async false
set_option linter.all false
set_option maxRecDepth 100000
set_option maxHeartbeats 2000000
set_option autoImplicit false
/-! L3D: operators, calls of builtins, methods, slices, comprehensions over L3. -/
namespace L3
open PySem L2

/-! ### data -/
mutual
def toD : AV → PyData
  | .non => .none
  | .bl b => .bool b
  | .int i => .int i
  | .str x => .str x
  | .tup xs => .tuple (toDs xs)
  | .lst xs => .list (toDs xs)
  | .rol xs => .list (toDs xs)
  | .ref _ => .none
  | .ty _ => .none
def toDs : List AV → List PyData
  | [] => []
  | x :: xs => toD x :: toDs xs
end
mutual
/-- data alone: no address within -/
def flatA : AV → Bool
  | .tup xs => flatAs xs
  | .lst xs => flatAs xs
  | .rol xs => flatAs xs
  | .ref _ => false
  | .ty _ => false
  | _ => true
def flatAs : List AV → Bool
  | [] => true
  | x :: xs => flatA x && flatAs xs
end
def derefA (S : Store) : AV → AV
  | .ref l => match S l with
    | some (.lst xs) => .lst xs
    | _ => .ref l
  | x => x
theorem derefA_ref {S : Store} {l : Addr} {xs : List AV} (h : S l = some (.lst xs)) : derefA S (.ref l) = .lst xs := by
  show (match S l with | some (.lst xs) => AV.lst xs | _ => .ref l) = .lst xs
  rw [h]
mutual
theorem RelA.dp {K : PySem.W.Frag} {H : Hp} {S : Store} : ∀ {v : V} {d : AV}, RelA K H S v d → flatA d = true → Dp K H v (toD d)
  | _, _, .non, _ => .non
  | _, _, .bl b, _ => .bl b
  | _, _, .int i, _ => .int i
  | _, _, .str x, _ => .str x
  | _, _, .ty n, e => by cases e
  | _, _, .ref a, e => by cases e
  | _, _, .tup h n r, e => .tup (.inl h) (RelAs.dp r e)
  | _, _, .tupK h r, e => .tup (.inr h) (RelAs.dp r e)
  | _, _, .lst h n r, e => .lst (.inl (.inl h)) (RelAs.dp r e)
  | _, _, .rol h n r, e => .lst (.inl h) (RelAs.dp r e)
  | _, _, .rolK h r, e => .lst (.inr h) (RelAs.dp r e)
theorem RelAs.dp {K : PySem.W.Frag} {H : Hp} {S : Store} : ∀ {vs : List V} {ds : List AV}, RelAs K H S vs ds → flatAs ds = true → DpAll K H vs (toDs ds)
  | _, _, .nil, _ => .nil
  | _, _, .cons r t, e => .cons (RelA.dp r (Bool.and_eq_true_iff.mp e).1) (RelAs.dp t (Bool.and_eq_true_iff.mp e).2)
end
def datA (S : Store) (x : AV) : PyData := toD (derefA S x)
theorem RelA.dpS {K : PySem.W.Frag} {H : Hp} {S : Store} {v : V} {d : AV} (so : StOk K H S) (r : RelA K H S v d) (e : flatA (derefA S d) = true) : Dp K H v (datA S d) := by
  cases d with
  | ref l =>
    unfold datA
    cases z : S l with
    | none => simp only [derefA, z] at e; cases e
    | some o =>
      cases o with
      | lst xs =>
        rw [derefA_ref z] at e ⊢
        obtain rfl := rel_refE r
        obtain ⟨vs, h, q⟩ := so l _ z
        exact .lst (.inl (.inl h)) (q.dp e)
      | dK _ => simp only [derefA, z] at e; cases e
      | ins _ _ => simp only [derefA, z] at e; cases e
      | hid => simp only [derefA, z] at e; cases e
  | non => exact r.dp e
  | bl _ => exact r.dp e
  | int _ => exact r.dp e
  | str _ => exact r.dp e
  | tup _ => exact r.dp e
  | lst _ => exact r.dp e
  | rol _ => exact r.dp e
  | ty _ => exact r.dp e

/-! ### operators -/
/-- a list that stands as a list of the heap -/
def wstA (S : Store) : AV → Option (List AV)
  | .lst xs => some xs
  | .ref l => match S l with
    | some (.lst xs) => some xs
    | _ => none
  | _ => none
theorem wstA_ref {S : Store} {l : Addr} {xs : List AV} (h : S l = some (.lst xs)) : wstA S (.ref l) = some xs := by
  show (match S l with | some (.lst xs) => some xs | _ => none) = some xs
  rw [h]
theorem rel_wstE {K : PySem.W.Frag} {H : Hp} {S : Store} {v : V} {d : AV} {ds : List AV} (so : StOk K H S) (r : RelA K H S v d) (e : wstA S d = some ds) : ∃ a vs, v = .ref a ∧ H a = some (.lst vs) ∧ RelAs K H S vs ds := by
  cases r with
  | lst h n q => cases e; exact ⟨_, _, rfl, h, q⟩
  | ref a =>
    have e' : (match S a with | some (.lst xs) => some xs | _ => none) = some ds := e
    cases z : S a with
    | none => rw [z] at e'; cases e'
    | some o =>
      rw [z] at e'
      cases o with
      | lst xs =>
        cases e'
        obtain ⟨vs, h, q⟩ := so a _ z
        exact ⟨_, _, rfl, h, q⟩
      | dK _ => cases e'
      | ins _ _ => cases e'
      | hid => cases e'
  | rol h n q => cases e
  | rolK h q => cases e
  | non => cases e
  | bl _ => cases e
  | int _ => cases e
  | str _ => cases e
  | ty _ => cases e
  | tup _ _ _ => cases e
  | tupK _ _ => cases e
def badA : Ans := ⟨False, .non⟩
def catA : Option (List AV) → Option (List AV) → Ans
  | some xs, some ys => ⟨xs.length + ys.length ≤ sizeLine, .lst (xs ++ ys)⟩
  | _, _ => badA
def addA (x y : AV) (S : Store) : Ans := match x with
  | .int i => match y with
    | .int j => ⟨True, .int (i + j)⟩
    | _ => badA
  | .str i => match y with
    | .str j => ⟨i.length + j.length ≤ sizeLine, .str (i ++ j)⟩
    | _ => badA
  | .tup xs => match y with
    | .tup ys => ⟨xs.length + ys.length ≤ sizeLine, .tup (xs ++ ys)⟩
    | _ => badA
  | .lst xs => catA (some xs) (wstA S y)
  | .ref l => catA (wstA S (.ref l)) (wstA S y)
  | _ => badA
section
variable {X : Cx}
theorem oa_cat {x y : V} {dx dy : AV} {S : Store} {H : Hp} {QH : VK} (so : StOk X.K H S) (rx : RelA X.K H S x dx) (ry : RelA X.K H S y dy) (ok : (catA (wstA S dx) (wstA S dy)).ok)
    (k : ∀ v H', StOk X.K H' S → Step H S H' S → RelA X.K H' S v (catA (wstA S dx) (wstA S dy)).v → QH v H') : rCat x y H QH := by
  cases ex : wstA S dx with
  | none => rw [ex] at ok; exact ok.elim
  | some xs =>
    cases ey : wstA S dy with
    | none => rw [ex, ey] at ok; exact ok.elim
    | some ys =>
      rw [ex, ey] at ok k
      obtain ⟨a, vs, rfl, ha, ra⟩ := rel_wstE so rx ex
      obtain ⟨b, ws, rfl, hb, rb⟩ := rel_wstE so ry ey
      refine ⟨a, b, vs, ws, rfl, rfl, ha, hb, by rw [ra.length, rb.length]; exact ok, fun p hp => ?_⟩
      exact k _ _ (stok_new so hp) (step_new so hp) (rel_lst so hp (ra.app rb))
theorem o_add : OpR X (binaryOp .Add) (lowO X.K addA) := opr_weak (OpR.or op_add (OpR.or op_add_str (OpR.or op_catA op_cat))) fun x y H QH ⟨dx, dy, S, rx, ry, so, ok, k⟩ => by
  cases dx with
  | int i =>
    cases dy with
    | int j => obtain rfl := rel_intE rx; obtain rfl := rel_intE ry; exact .inl ⟨i, j, rfl, rfl, k _ H so .refl (.int _)⟩
    | _ => exact ok.elim
  | str i =>
    cases dy with
    | str j => obtain rfl := rel_strE rx; obtain rfl := rel_strE ry; exact .inr (.inl ⟨i, j, rfl, rfl, ok, k _ H so .refl (.str _)⟩)
    | _ => exact ok.elim
  | tup xs =>
    cases dy with
    | tup ys =>
      obtain ⟨a, vs, rfl, ha, ra⟩ := rel_tupE rx
      obtain ⟨b, ws, rfl, hb, rb⟩ := rel_tupE ry
      refine .inr (.inr (.inl ⟨a, b, vs, ws, rfl, rfl, ha, hb, by rw [ra.length, rb.length]; exact ok, fun e => ?_, fun _ e => ?_, fun _ _ p hp => ?_⟩))
      · subst e; cases ra; exact k _ H so .refl ry
      · subst e
        cases rb
        refine k _ H so .refl ?_
        show RelA X.K H S (.ref a) (.tup (xs ++ []))
        rw [List.append_nil]
        exact rx
      · exact k _ _ (stok_new so hp) (step_new so hp) (rel_tup so hp (ra.app rb))
    | _ => exact ok.elim
  | lst xs => exact .inr (.inr (.inr (oa_cat (dx := .lst xs) so rx ry ok k)))
  | ref l => exact .inr (.inr (.inr (oa_cat (dx := .ref l) so rx ry ok k)))
  | _ => exact ok.elim
/-- an operation on two ints -/
def intA (C : Int → Int → Prop) (g : Int → Int → Int) (x y : AV) (_ : Store) : Ans := match x with
  | .int i => match y with
    | .int j => ⟨C i j, .int (g i j)⟩
    | _ => badA
  | _ => badA
theorem o_int {f : Value → Value → Sem Value} {C : Int → Int → Prop} {g : Int → Int → Int} (h : OpR X f (rI C fun i j => .int (g i j))) : OpR X f (lowO X.K (intA C g)) := opr_weak h fun x y H QH ⟨dx, dy, S, rx, ry, so, ok, k⟩ => by
  cases dx with
  | int i =>
    cases dy with
    | int j => obtain rfl := rel_intE rx; obtain rfl := rel_intE ry; exact ⟨i, j, rfl, rfl, ok, k _ H so .refl (.int _)⟩
    | _ => exact ok.elim
  | _ => exact ok.elim
theorem rI_tt {f : Value → Value → Sem Value} {g : Int → Int → V} (h : OpR X f (rI0 g)) : OpR X f (rI (fun _ _ => True) g) := opr_weak h fun x y H Q ⟨i, j, e1, e2, _, q⟩ => ⟨i, j, e1, e2, q⟩
def subA := intA (fun _ _ => True) fun i j => i - j
theorem o_sub : OpR X (binaryOp .Sub) (lowO X.K subA) := o_int (rI_tt op_sub)
def CMulB (i j : Int) : Prop := CMul i j ∨ CMulW i j
def mulA := intA CMulB fun i j => i * j
theorem o_mul : OpR X (binaryOp .Mult) (lowO X.K mulA) := o_int (opr_weak (OpR.or op_mul op_mulW) fun x y H Q ⟨i, j, e1, e2, c, q⟩ => by
  rcases c with c | c
  · exact .inl ⟨i, j, e1, e2, c, q⟩
  · exact .inr ⟨i, j, e1, e2, c, q⟩)
def modA := intA (fun _ j => 0 < j) fun i j => i % j
theorem o_mod : OpR X (binaryOp .Mod) (lowO X.K modA) := o_int op_mod
def fdivA := intA CDivW fun i j => i / j
theorem o_fdiv : OpR X (binaryOp .FloorDiv) (lowO X.K fdivA) := o_int op_fdivW
def CPowB (i j : Int) : Prop := 0 ≤ j ∧ (Builtin.Int.intBits i : Int) * j ≤ 2 ^ 27
def powA := intA CPowB fun i j => i ^ j.toNat
theorem op_powB : OpR X (binaryOp .Pow) (rI CPowB fun i j => .int (i ^ j.toNat)) := opI fun _ _ _ _ _ _ _ hc q => PyProof.Rows.pow_int hc.1 hc.2 q
theorem o_pow : OpR X (binaryOp .Pow) (lowO X.K powA) := o_int op_powB
def negA (x : AV) (_ : Store) : Ans := match x with
  | .int i => ⟨True, .int (-i)⟩
  | _ => badA
theorem o_neg : UnR X (unaryOp .USub) (lowU X.K negA) := unr_weak un_neg fun x H QH ⟨dx, S, rx, so, ok, k⟩ => by
  cases dx with
  | int i => obtain rfl := rel_intE rx; exact ⟨i, rfl, k _ H so .refl (.int _)⟩
  | _ => exact ok.elim
theorem iop_pip {op : Operator} {r : R2} (h : OpR X (inplaceOp op) r) : PIp X op r := fun pins s σ H x y v u Q I rx ry q => h pins s σ H x y v u Q I rx ry q
theorem p_add : PIp X .Add (lowO X.K (intA (fun _ _ => True) fun i j => i + j)) := iop_pip (o_int (rI_tt iop_add))

/-! ### comparisons -/
def okD (S : Store) (x : AV) : Prop := flatA (derefA S x) = true ∧ SeqAt.shaped (datA S x) = true
def eqG (S : Store) (x y : AV) : Ans := ⟨okD S x ∧ okD S y, .bl (PyData.eqv (datA S x) (datA S y))⟩
def eqA (x y : AV) (S : Store) : Ans := match x with
  | .int i => match y with
    | .int j => ⟨True, .bl (decide (i = j))⟩
    | y => eqG S (.int i) y
  | .str i => match y with
    | .str j => ⟨True, .bl (decide (i = j))⟩
    | y => eqG S (.str i) y
  | x => eqG S x y
def neA (x y : AV) (S : Store) : Ans := match x with
  | .int i => match y with
    | .int j => ⟨True, .bl (!decide (i = j))⟩
    | y => ⟨(eqG S (.int i) y).ok, .bl (!PyData.eqv (datA S (.int i)) (datA S y))⟩
  | .str i => match y with
    | .str j => ⟨True, .bl (!decide (i = j))⟩
    | y => ⟨(eqG S (.str i) y).ok, .bl (!PyData.eqv (datA S (.str i)) (datA S y))⟩
  | x => ⟨(eqG S x y).ok, .bl (!PyData.eqv (datA S x) (datA S y))⟩
theorem dec_intV {i j : Int} : decide (V.int i = V.int j) = decide (i = j) := by simp
theorem dec_strV {i j : Str} : decide (V.str i = V.str j) = decide (i = j) := by simp
theorem o_eqG {x y : V} {dx dy : AV} {S : Store} {H : Hp} {QH : VK} (so : StOk X.K H S) (rx : RelA X.K H S x dx) (ry : RelA X.K H S y dy) (ok : okD S dx ∧ okD S dy)
    (k : QH (.bl (PyData.eqv (datA S dx) (datA S dy))) H) : rEqD X.K x y H QH := ⟨_, _, rx.dpS so ok.1.1, ry.dpS so ok.2.1, ok.1.2, ok.2.2, k⟩
theorem o_neG {x y : V} {dx dy : AV} {S : Store} {H : Hp} {QH : VK} (so : StOk X.K H S) (rx : RelA X.K H S x dx) (ry : RelA X.K H S y dy) (ok : okD S dx ∧ okD S dy)
    (k : QH (.bl (!PyData.eqv (datA S dx) (datA S dy))) H) : rNeD X.K x y H QH := ⟨_, _, rx.dpS so ok.1.1, ry.dpS so ok.2.1, ok.1.2, ok.2.2, k⟩
theorem o_eq (hu : X.A.units + 64 < cLine) : OpR X (compareOp .Eq) (lowO X.K eqA) := opr_weak (OpR.or op_eq (op_eqD hu)) fun x y H QH ⟨dx, dy, S, rx, ry, so, ok, k⟩ => by
  cases dx with
  | int i =>
    cases dy with
    | int j => obtain rfl := rel_intE rx; obtain rfl := rel_intE ry; exact .inl ⟨rfl, by rw [dec_intV]; exact k _ H so .refl (.bl _)⟩
    | _ => exact .inr (o_eqG so rx ry ok (k _ H so .refl (.bl _)))
  | str i =>
    cases dy with
    | str j => obtain rfl := rel_strE rx; obtain rfl := rel_strE ry; exact .inl ⟨rfl, by rw [dec_strV]; exact k _ H so .refl (.bl _)⟩
    | _ => exact .inr (o_eqG so rx ry ok (k _ H so .refl (.bl _)))
  | _ => exact .inr (o_eqG so rx ry ok (k _ H so .refl (.bl _)))
theorem o_ne (hu : X.A.units + 64 < cLine) : OpR X (compareOp .NotEq) (lowO X.K neA) := opr_weak (OpR.or op_ne (op_neD hu)) fun x y H QH ⟨dx, dy, S, rx, ry, so, ok, k⟩ => by
  cases dx with
  | int i =>
    cases dy with
    | int j => obtain rfl := rel_intE rx; obtain rfl := rel_intE ry; exact .inl ⟨rfl, by rw [dec_intV]; exact k _ H so .refl (.bl _)⟩
    | _ => exact .inr (o_neG so rx ry ok (k _ H so .refl (.bl _)))
  | str i =>
    cases dy with
    | str j => obtain rfl := rel_strE rx; obtain rfl := rel_strE ry; exact .inl ⟨rfl, by rw [dec_strV]; exact k _ H so .refl (.bl _)⟩
    | _ => exact .inr (o_neG so rx ry ok (k _ H so .refl (.bl _)))
  | _ => exact .inr (o_neG so rx ry ok (k _ H so .refl (.bl _)))
/-- an order of ints and of texts -/
def ordA (p : Int → Int → Bool) (q : List Nat → List Nat → Bool) (x y : AV) (_ : Store) : Ans := match x with
  | .int i => match y with
    | .int j => ⟨True, .bl (p i j)⟩
    | _ => badA
  | .str i => match y with
    | .str j => ⟨True, .bl (q i.cps.toList j.cps.toList)⟩
    | _ => badA
  | _ => badA
theorem o_ord {f : Value → Value → Sem Value} {p : Int → Int → Bool} {q : List Nat → List Nat → Bool} (h : OpR X f (rI0 fun i j => .bl (p i j))) (h' : OpR X f fun x y H Q => ∃ i j, x = .str i ∧ y = .str j ∧ Q (.bl (q i.cps.toList j.cps.toList)) H) :
    OpR X f (lowO X.K (ordA p q)) := opr_weak (OpR.or h h') fun x y H QH ⟨dx, dy, S, rx, ry, so, ok, k⟩ => by
  cases dx with
  | int i =>
    cases dy with
    | int j => obtain rfl := rel_intE rx; obtain rfl := rel_intE ry; exact .inl ⟨i, j, rfl, rfl, k _ H so .refl (.bl _)⟩
    | _ => exact ok.elim
  | str i =>
    cases dy with
    | str j => obtain rfl := rel_strE rx; obtain rfl := rel_strE ry; exact .inr ⟨i, j, rfl, rfl, k _ H so .refl (.bl _)⟩
    | _ => exact ok.elim
  | _ => exact ok.elim
def ltA := ordA (fun i j => decide (i < j)) fun i j => decide (i < j)
def leA := ordA (fun i j => decide (i ≤ j)) fun i j => !decide (j < i)
def gtA := ordA (fun i j => decide (j < i)) fun i j => decide (j < i)
def geA := ordA (fun i j => decide (j ≤ i)) fun i j => !decide (i < j)
theorem o_lt : OpR X (compareOp .Lt) (lowO X.K ltA) := o_ord op_lt op_lt_str
theorem o_le : OpR X (compareOp .LtE) (lowO X.K leA) := o_ord op_le op_le_str
theorem o_gt : OpR X (compareOp .Gt) (lowO X.K gtA) := o_ord op_gt op_gt_str
theorem o_ge : OpR X (compareOp .GtE) (lowO X.K geA) := o_ord op_ge op_ge_str
/-- is None -/
def nonA : AV → Bool
  | .non => true
  | _ => false
def isA (x y : AV) (_ : Store) : Ans := ⟨y = .non, .bl (nonA x)⟩
def isntA (x y : AV) (_ : Store) : Ans := ⟨y = .non, .bl (!nonA x)⟩
theorem rel_non {K : PySem.W.Frag} {H : Hp} {S : Store} {v : V} {d : AV} (r : RelA K H S v d) : decide (v = .non) = nonA d := by
  cases r <;> rfl
theorem o_is : OpR X (compareOp .Is) (lowO X.K isA) := opr_weak op_isN fun x y H QH ⟨dx, dy, S, rx, ry, so, ok, k⟩ => by
  have ok' : dy = .non := ok
  subst ok'
  exact ⟨rel_nonE ry, by rw [rel_non rx]; exact k _ H so .refl (.bl _)⟩
theorem o_isnt : OpR X (compareOp .IsNot) (lowO X.K isntA) := opr_weak op_notN fun x y H QH ⟨dx, dy, S, rx, ry, so, ok, k⟩ => by
  have ok' : dy = .non := ok
  subst ok'
  exact ⟨rel_nonE ry, by rw [rel_non rx]; exact k _ H so .refl (.bl _)⟩
/-- one sign in a text -/
def inSA (x y : AV) (_ : Store) : Ans := match x with
  | .str i => match y with
    | .str j => ⟨∃ c, i = ⟨#[c]⟩, .bl (decide (i.cps.toList.headD 0 ∈ j.cps.toList))⟩
    | _ => badA
  | _ => badA
theorem o_inS : OpR X (compareOp .In) (lowO X.K inSA) := opr_weak op_in_sign fun x y H QH ⟨dx, dy, S, rx, ry, so, ok, k⟩ => by
  cases dx with
  | str i =>
    cases dy with
    | str j =>
      obtain ⟨c, rfl⟩ := ok
      obtain rfl := rel_strE rx
      obtain rfl := rel_strE ry
      exact ⟨c, j, rfl, rfl, k _ H so .refl (.bl _)⟩
    | _ => exact ok.elim
  | _ => exact ok.elim

/-! ### subscripts -/
def ixL (o : Option (List AV)) (y : AV) : Ans := match o with
  | some xs => match y with
    | .int i => ⟨(atI xs i).isSome = true, (atI xs i).getD .non⟩
    | _ => badA
  | none => badA
def ixA (x y : AV) (S : Store) : Ans := match x with
  | .tup xs => ixL (some xs) y
  | .str z => match y with
    | .int i => ⟨z.length ≤ sizeLine ∧ (atI z.cps.toList i).isSome = true, .str ⟨#[(atI z.cps.toList i).getD 0]⟩⟩
    | _ => badA
  | x => ixL (lstA S x) y
theorem atI_rel {K : PySem.W.Frag} {H : Hp} {S : Store} {vs : List V} {ds : List AV} {i : Int} {d : AV} (r : RelAs K H S vs ds) (h : atI ds i = some d) : ∃ v, atI vs i = some v ∧ RelA K H S v d := by
  unfold atI at h ⊢
  rw [r.length]
  cases z : ixN ds.length i with
  | none => rw [z] at h; cases h
  | some j => rw [z] at h; exact r.get h
theorem ix_lst {x y : V} {dx dy : AV} {S : Store} {H : Hp} {QH : VK} (so : StOk X.K H S) (rx : RelA X.K H S x dx) (ry : RelA X.K H S y dy) (ok : (ixL (lstA S dx) dy).ok)
    (k : ∀ v H', StOk X.K H' S → Step H S H' S → RelA X.K H' S v (ixL (lstA S dx) dy).v → QH v H') : rIxL X.K x y H QH := by
  cases ex : lstA S dx with
  | none => rw [ex] at ok; exact ok.elim
  | some xs =>
    rw [ex] at ok k
    cases dy with
    | int i =>
      obtain rfl := rel_intE ry
      obtain ⟨a, vs, rfl, ha, ra⟩ := rel_lstE so rx ex
      have ok' : (atI xs i).isSome = true := ok
      obtain ⟨d, hd⟩ := Option.isSome_iff_exists.mp ok'
      obtain ⟨v, hv, rv⟩ := atI_rel ra hd
      refine ⟨a, vs, i, v, rfl, rfl, ha, hv, k v H so .refl ?_⟩
      show RelA X.K H S v ((atI xs i).getD .non)
      rw [hd]
      exact rv
    | _ => exact ok.elim
theorem o_ix : IxR X (lowO X.K ixA) := ixr_weak ix_seq fun x y H QH ⟨dx, dy, S, rx, ry, so, ok, k⟩ => by
  cases dx with
  | tup xs =>
    cases dy with
    | int i =>
      obtain rfl := rel_intE ry
      obtain ⟨a, vs, rfl, ha, ra⟩ := rel_tupE rx
      have ok' : (atI xs i).isSome = true := ok
      obtain ⟨d, hd⟩ := Option.isSome_iff_exists.mp ok'
      obtain ⟨v, hv, rv⟩ := atI_rel ra hd
      refine .inr (.inl ⟨a, vs, i, v, rfl, rfl, ha, hv, k v H so .refl ?_⟩)
      show RelA X.K H S v ((atI xs i).getD .non)
      rw [hd]
      exact rv
    | _ => exact ok.elim
  | str z =>
    cases dy with
    | int i =>
      obtain rfl := rel_intE ry
      obtain rfl := rel_strE rx
      obtain ⟨hz, hs⟩ := ok
      obtain ⟨c, hc⟩ := Option.isSome_iff_exists.mp hs
      refine .inr (.inr ⟨z, i, c, rfl, rfl, hz, hc, k _ H so .refl ?_⟩)
      show RelA X.K H S (.str ⟨#[c]⟩) (.str ⟨#[(atI z.cps.toList i).getD 0]⟩)
      rw [hc]
      exact .str _
    | _ => exact ok.elim
  | _ => exact .inl (ix_lst so rx ry ok k)
end
end L3

set_option Elab.async false
set_option linter.all false
set_option maxRecDepth 100000
set_option maxHeartbeats 2000000
set_option autoImplicit false
/-! L3E: calls of builtins, slices, methods, comprehensions over L3. -/
namespace L3
open PySem L2

section
variable {X : Cx} {e a b c : Expr} {es : List Expr} {ta tb tc : AE} {t : AA} {pos p : Pos}
theorem e_cb {x : Str} {id : String} {ar : List AV → Store → Ans} (h : CallR X (.builtin id) (lowC X.K ar)) (hm : X.mg x = none) (hb : bootBuiltins x = some (.builtin id)) (ha : PA X (e :: es) (lowA X.K t)) (hg : Gl X x := by rfl) (hn : x ≠ ("__name__" : Str) := by decide)
    (hd : (x == ("__debug__" : Str)) = false := by decide) (he : starEach (e :: es) X.env = (false, eval e X.env) :: starEach es X.env := by rfl) (hpl : (backTo pos (starEach es X.env)).any (·.1) = false := by rfl) :
    PE X (.Call (.Name x p) (e :: es) [] pos) (low X.K (aCB ar t)) := (pe_callB h hg hm hb ha hn hd he hpl).weak low_cb
theorem e_ct {x : Str} {T : String} {ar : List AV → Store → Ans} (h : CallR X (.type T) (lowC X.K ar)) (hm : X.mg x = none) (hb : bootBuiltins x = some (.type T)) (ha : PA X (e :: es) (lowA X.K t)) (hg : Gl X x := by rfl) (hn : x ≠ ("__name__" : Str) := by decide)
    (hd : (x == ("__debug__" : Str)) = false := by decide) (he : starEach (e :: es) X.env = (false, eval e X.env) :: starEach es X.env := by rfl) (hpl : (backTo pos (starEach es X.env)).any (·.1) = false := by rfl) :
    PE X (.Call (.Name x p) (e :: es) [] pos) (low X.K (aCB ar t)) := (pe_callTy h hg hm hb ha hn hd he hpl).weak low_cb

/-! ### one argument -/
def one1 (f : AV → Store → Ans) (ds : List AV) (S : Store) : Ans := match ds with
  | [x] => f x S
  | _ => badA
def one2 (f : AV → AV → Store → Ans) (ds : List AV) (S : Store) : Ans := match ds with
  | [x, y] => f x y S
  | _ => badA
theorem rel_one {K : PySem.W.Frag} {H : Hp} {S : Store} {vs : List V} {x : AV} (r : RelAs K H S vs [x]) : ∃ v, vs = [v] ∧ RelA K H S v x := by
  cases r with
  | cons r rr => cases rr; exact ⟨_, rfl, r⟩
theorem rel_two {K : PySem.W.Frag} {H : Hp} {S : Store} {vs : List V} {x y : AV} (r : RelAs K H S vs [x, y]) : ∃ v w, vs = [v, w] ∧ RelA K H S v x ∧ RelA K H S w y := by
  cases r with
  | cons r rr => cases rr with
    | cons r' rr => cases rr; exact ⟨_, _, rfl, r, r'⟩
theorem c_one {f : AV → Store → Ans} {g : Value} {r : List V → Hp → VK → Prop} (h : CallR X g r) (w : ∀ x d S H QH, RelA X.K H S x d → StOk X.K H S → (f d S).ok → (∀ v H', StOk X.K H' S → Step H S H' S → RelA X.K H' S v (f d S).v → QH v H') → r [x] H QH) : CallR X g (lowC X.K (one1 f)) :=
  callr_weak h fun vs H QH ⟨ds, S, rs, so, ok, k⟩ => by
    match ds, rs, ok, k with
    | [], _, ok, _ => exact ok.elim
    | [d], rs, ok, k => obtain ⟨x, rfl, r⟩ := rel_one rs; exact w x d S H QH r so ok k
    | _ :: _ :: _, _, ok, _ => exact ok.elim
theorem c_two {f : AV → AV → Store → Ans} {g : Value} {r : List V → Hp → VK → Prop} (h : CallR X g r) (w : ∀ x y d e S H QH, RelA X.K H S x d → RelA X.K H S y e → StOk X.K H S → (f d e S).ok → (∀ v H', StOk X.K H' S → Step H S H' S → RelA X.K H' S v (f d e S).v → QH v H') → r [x, y] H QH) : CallR X g (lowC X.K (one2 f)) :=
  callr_weak h fun vs H QH ⟨ds, S, rs, so, ok, k⟩ => by
    match ds, rs, ok, k with
    | [], _, ok, _ => exact ok.elim
    | [_], _, ok, _ => exact ok.elim
    | [d, e], rs, ok, k => obtain ⟨x, y, rfl, r, r'⟩ := rel_two rs; exact w x y d e S H QH r r' so ok k
    | _ :: _ :: _ :: _, _, ok, _ => exact ok.elim
/-- len -/
def lenA (x : AV) (S : Store) : Ans := match x with
  | .str z => ⟨z.length ≤ sizeLine, .int z.length⟩
  | .tup xs => ⟨True, .int xs.length⟩
  | x => match lstA S x with
    | some xs => ⟨True, .int xs.length⟩
    | none => badA
theorem len_lst {K : PySem.W.Frag} {x : V} {d : AV} {S : Store} {H : Hp} (so : StOk K H S) (r : RelA K H S x d) {xs : List AV} (e : lstA S d = some xs) : LenV K x H xs.length := by
  obtain ⟨a, vs, rfl, ha, ra⟩ := rel_lstE so r e
  exact .inl ⟨vs, ha, ra.length.symm⟩
theorem c_len : CallR X (.builtin "len") (lowC X.K (one1 lenA)) := c_one call_len fun x d S H QH r so ok k => by
  have gen : (∀ xs, lstA S d = some xs → (match lstA S d with | some xs => (⟨True, .int xs.length⟩ : Ans) | none => badA) = lenA d S) → (match lstA S d with | some xs => (⟨True, .int xs.length⟩ : Ans) | none => badA).ok → ∃ x1 n, [x] = [x1] ∧ LenV X.K x1 H n ∧ QH (.int n) H := fun h1 h2 => by
    cases e : lstA S d with
    | none => rw [e] at h2; exact h2.elim
    | some xs =>
      have q := h1 xs e
      rw [e] at q
      refine ⟨x, xs.length, rfl, len_lst so r e, k _ H so .refl ?_⟩
      rw [← q]
      exact .int _
  cases d with
  | str z => obtain rfl := rel_strE r; exact ⟨_, _, rfl, ⟨ok, rfl⟩, k _ H so .refl (.int _)⟩
  | tup xs =>
    obtain ⟨a, vs, rfl, ha, ra⟩ := rel_tupE r
    exact ⟨_, _, rfl, .inr ⟨vs, ha, ra.length.symm⟩, k _ H so .refl (.int _)⟩
  | lst xs => exact gen (fun _ _ => rfl) ok
  | rol xs => exact gen (fun _ _ => rfl) ok
  | ref l => exact gen (fun _ _ => rfl) ok
  | _ => exact ok.elim
/-- abs, int, max, min -/
def absA (x : AV) (_ : Store) : Ans := match x with
  | .int i => ⟨True, .int (if i < 0 then -i else i)⟩
  | _ => badA
theorem c_abs : CallR X (.builtin "abs") (lowC X.K (one1 absA)) := c_one call_abs fun x d S H QH r so ok k => by
  cases d with
  | int i => obtain rfl := rel_intE r; exact ⟨i, rfl, k _ H so .refl (.int _)⟩
  | _ => exact ok.elim
def toIntA (x : AV) (_ : Store) : Ans := match x with
  | .int i => ⟨True, .int i⟩
  | .bl b => ⟨True, .int (if b then 1 else 0)⟩
  | _ => badA
theorem c_int : CallR X (.type "int") (lowC X.K (one1 toIntA)) := c_one call_int1 fun x d S H QH r so ok k => by
  cases d with
  | int i => obtain rfl := rel_intE r; exact .inl ⟨i, rfl, k _ H so .refl (.int _)⟩
  | bl b => obtain rfl := rel_blE r; exact .inr ⟨b, rfl, k _ H so .refl (.int _)⟩
  | _ => exact ok.elim
def int2A (g : Int → Int → Int) (x y : AV) (_ : Store) : Ans := match x with
  | .int i => match y with
    | .int j => ⟨True, .int (g i j)⟩
    | _ => badA
  | _ => badA
theorem c_int2 {g : Int → Int → Int} {f : Value} (h : CallR X f fun xs H Q => ∃ i j, xs = [.int i, .int j] ∧ Q (.int (g i j)) H) : CallR X f (lowC X.K (one2 (int2A g))) := c_two h fun x y d e S H QH r r' so ok k => by
  cases d with
  | int i =>
    cases e with
    | int j => obtain rfl := rel_intE r; obtain rfl := rel_intE r'; exact ⟨i, j, rfl, k _ H so .refl (.int _)⟩
    | _ => exact ok.elim
  | _ => exact ok.elim
theorem c_max2 (hc : X.calm = true) : CallR X (.builtin "max") (lowC X.K (one2 (int2A fun i j => if j > i then j else i))) := c_int2 (call_max2 hc)
theorem c_min2 (hc : X.calm = true) : CallR X (.builtin "min") (lowC X.K (one2 (int2A fun i j => if j < i then j else i))) := c_int2 (call_min2 hc)
/-- tuple(x), list(x) of a list, a tuple -/
def tupleA (x : AV) (S : Store) : Ans := match x with
  | .tup xs => ⟨True, .tup xs⟩
  | x => match lstA S x with
    | some xs => ⟨True, .tup xs⟩
    | none => badA
theorem c_tuple : CallR X (.type "tuple") (lowC X.K (one1 tupleA)) := c_one call_tuple_of fun x d S H QH r so ok k => by
  have gen : (∀ xs, lstA S d = some xs → (match lstA S d with | some xs => (⟨True, .tup xs⟩ : Ans) | none => badA) = tupleA d S) → (match lstA S d with | some xs => (⟨True, .tup xs⟩ : Ans) | none => badA).ok →
      ∃ p ys, [x] = [V.ref p] ∧ ((SqL X.K H p ys ∧ ∀ l, H l = none → QH (.ref l) (upd H l (.tup ys))) ∨ (SqT X.K H p ys ∧ QH (.ref p) H)) := fun h1 h2 => by
    cases e : lstA S d with
    | none => rw [e] at h2; exact h2.elim
    | some xs =>
      have q := h1 xs e
      rw [e] at q
      obtain ⟨a, vs, rfl, ha, ra⟩ := rel_lstE so r e
      refine ⟨a, vs, rfl, .inl ⟨ha, fun l hl => k _ _ (stok_new so hl) (step_new so hl) ?_⟩⟩
      rw [← q]
      exact rel_tup so hl ra
  cases d with
  | tup xs =>
    obtain ⟨a, vs, rfl, ha, ra⟩ := rel_tupE r
    exact ⟨a, vs, rfl, .inr ⟨ha, k _ H so .refl r⟩⟩
  | lst xs => exact gen (fun _ _ => rfl) ok
  | rol xs => exact gen (fun _ _ => rfl) ok
  | ref l => exact gen (fun _ _ => rfl) ok
  | _ => exact ok.elim
def seqA (S : Store) : AV → Option (List AV)
  | .tup xs => some xs
  | .lst xs => some xs
  | .rol xs => some xs
  | .ref l => lstA S (.ref l)
  | _ => none
theorem rel_seqE {K : PySem.W.Frag} {H : Hp} {S : Store} {v : V} {d : AV} {ds : List AV} (so : StOk K H S) (r : RelA K H S v d) (e : seqA S d = some ds) : ∃ a vs, v = .ref a ∧ (SqL K H a vs ∨ SqT K H a vs) ∧ RelAs K H S vs ds := by
  cases d with
  | tup xs =>
    cases e
    obtain ⟨a, vs, rfl, ha, ra⟩ := rel_tupE r
    exact ⟨a, vs, rfl, .inr ha, ra⟩
  | lst xs => obtain ⟨a, vs, rfl, ha, ra⟩ := rel_lstE so r (show lstA S (.lst xs) = some ds from e); exact ⟨a, vs, rfl, .inl ha, ra⟩
  | rol xs => obtain ⟨a, vs, rfl, ha, ra⟩ := rel_lstE so r (show lstA S (.rol xs) = some ds from e); exact ⟨a, vs, rfl, .inl ha, ra⟩
  | ref l => obtain ⟨a, vs, rfl, ha, ra⟩ := rel_lstE so r (show lstA S (.ref l) = some ds from e); exact ⟨a, vs, rfl, .inl ha, ra⟩
  | non => cases e
  | bl _ => cases e
  | int _ => cases e
  | str _ => cases e
  | ty _ => cases e
def listA (x : AV) (S : Store) : Ans := match seqA S x with
  | some xs => ⟨True, .lst xs⟩
  | none => badA
theorem c_list : CallR X (.type "list") (lowC X.K (one1 listA)) := c_one call_list_of fun x d S H QH r so ok k => by
  unfold listA at ok k
  cases e : seqA S d with
  | none => rw [e] at ok; exact ok.elim
  | some xs =>
    rw [e] at k
    obtain ⟨a, vs, rfl, ha, ra⟩ := rel_seqE so r e
    exact ⟨a, vs, rfl, ha, fun l hl => k _ _ (stok_new so hl) (step_new so hl) (rel_lst so hl ra)⟩
/-- all, any of a list of truths; sum of a list of ints -/
def isBlA : AV → Bool
  | .bl _ => true
  | _ => false
def blOf : AV → Bool
  | .bl b => b
  | _ => false
def isIntA : AV → Bool
  | .int _ => true
  | _ => false
def intOf : AV → Int
  | .int i => i
  | _ => 0
theorem rel_bls {K : PySem.W.Frag} {H : Hp} {S : Store} : ∀ {vs : List V} {ds : List AV}, RelAs K H S vs ds → ds.all isBlA = true → vs = (ds.map blOf).map V.bl
  | _, _, .nil, _ => rfl
  | _, _, .cons (d := d) r t, e => by
    rw [List.all_cons, Bool.and_eq_true_iff] at e
    cases d with
    | bl b => rw [rel_blE r, rel_bls t e.2]; rfl
    | _ => cases e.1
theorem rel_intsE {K : PySem.W.Frag} {H : Hp} {S : Store} : ∀ {vs : List V} {ds : List AV}, RelAs K H S vs ds → ds.all isIntA = true → vs = (ds.map intOf).map V.int
  | _, _, .nil, _ => rfl
  | _, _, .cons (d := d) r t, e => by
    rw [List.all_cons, Bool.and_eq_true_iff] at e
    cases d with
    | int b => rw [rel_intE r, rel_intsE t e.2]; rfl
    | _ => cases e.1
def allA (x : AV) (S : Store) : Ans := match lstA S x with
  | some xs => ⟨xs.all isBlA = true, .bl (xs.all blOf)⟩
  | none => badA
def anyA (x : AV) (S : Store) : Ans := match lstA S x with
  | some xs => ⟨xs.all isBlA = true, .bl (xs.any blOf)⟩
  | none => badA
def sumA (x : AV) (S : Store) : Ans := match lstA S x with
  | some xs => ⟨xs.all isIntA = true, .int (xs.map intOf).sum⟩
  | none => badA
theorem c_all (hc : X.calm = true) : CallR X (.builtin "all") (lowC X.K (one1 allA)) := c_one (cr_all hc) fun x d S H QH r so ok k => by
  unfold allA at ok k
  cases e : lstA S d with
  | none => rw [e] at ok; exact ok.elim
  | some xs =>
    rw [e] at ok k
    obtain ⟨a, vs, rfl, ha, ra⟩ := rel_lstE so r e
    have z := rel_bls ra ok
    subst z
    refine ⟨a, xs.map blOf, rfl, ha, ?_⟩
    rw [List.all_map]
    exact k _ H so .refl (.bl _)
theorem c_any (hc : X.calm = true) : CallR X (.builtin "any") (lowC X.K (one1 anyA)) := c_one (cr_any hc) fun x d S H QH r so ok k => by
  unfold anyA at ok k
  cases e : lstA S d with
  | none => rw [e] at ok; exact ok.elim
  | some xs =>
    rw [e] at ok k
    obtain ⟨a, vs, rfl, ha, ra⟩ := rel_lstE so r e
    have z := rel_bls ra ok
    subst z
    refine ⟨a, xs.map blOf, rfl, ha, ?_⟩
    rw [List.any_map]
    exact k _ H so .refl (.bl _)
theorem c_sum (hc : X.calm = true) : CallR X (.builtin "sum") (lowC X.K (one1 sumA)) := c_one (cr_sum hc) fun x d S H QH r so ok k => by
  unfold sumA at ok k
  cases e : lstA S d with
  | none => rw [e] at ok; exact ok.elim
  | some xs =>
    rw [e] at ok k
    obtain ⟨a, vs, rfl, ha, ra⟩ := rel_lstE so r e
    have z := rel_intsE ra ok
    subst z
    exact ⟨a, xs.map intOf, rfl, ha, k _ H so .refl (.int _)⟩
/-- isinstance against a built-in class -/
def tyNm (S : Store) : AV → String
  | .non => "NoneType"
  | .bl _ => "bool"
  | .int _ => "int"
  | .str _ => "str"
  | .tup _ => "tuple"
  | .lst _ => "list"
  | .rol _ => "list"
  | .ref l => match S l with
    | some (.lst _) => "list"
    | some (.dK _) => "dict"
    | _ => ""
  | .ty _ => ""
def isiB (a b : String) : Bool := a == b || (a == "bool" && b == "int")
def isiA (x y : AV) (S : Store) : Ans := match y with
  | .ty n => ⟨(["NoneType", "bool", "int", "str", "tuple", "list", "dict"].contains (tyNm S x) && ["bool", "int", "str", "tuple", "list", "dict"].contains n) = true, .bl (isiB (tyNm S x) n)⟩
  | _ => badA
theorem kit_isi : ∀ a ∈ ["NoneType", "bool", "int", "str", "tuple", "list", "dict"], ∀ b ∈ ["bool", "int", "str", "tuple", "list", "dict"], kitB a b = some (isiB a b) := by decide +kernel
theorem tyX_of {K : PySem.W.Frag} {H : Hp} {S : Store} {v : V} {d : AV} (so : StOk K H S) (r : RelA K H S v d) (e : ["NoneType", "bool", "int", "str", "tuple", "list", "dict"].contains (tyNm S d) = true) : TyX K H v (.type (tyNm S d)) := by
  cases r with
  | non => exact .base .non
  | bl b => exact .base (.bl b)
  | int i => exact .base (.int i)
  | str x => exact .base (.str x)
  | ty n => exact absurd (show ["NoneType", "bool", "int", "str", "tuple", "list", "dict"].contains "" = true from e) (by decide)
  | tup h n q =>
    rcases h with h | ⟨o, h⟩
    · exact .base (.tup h)
    · exact .fTuple h
  | tupK h q => obtain ⟨o, its, n, hk, hc, _⟩ := h; exact .kTuple hk hc
  | lst h n q => exact .base (.lst h)
  | rol h n q =>
    rcases h with h | ⟨o, h⟩
    · exact .base (.lst h)
    · exact .base (.frz h)
  | rolK h q => obtain ⟨o, its, n, hk, hc, _⟩ := h; exact .kList hk hc
  | ref l =>
    cases z : S l with
    | none => simp only [tyNm, z] at e; exact absurd e (by decide)
    | some o =>
      cases o with
      | lst xs => obtain ⟨vs, h, _⟩ := so l _ z; simp only [tyNm, z]; exact .base (.lst h)
      | dK xs => obtain ⟨vs, h, _⟩ := so l _ z; simp only [tyNm, z]; exact .base (.dK h)
      | ins _ _ => simp only [tyNm, z] at e; exact absurd e (by decide)
      | hid => simp only [tyNm, z] at e; exact absurd e (by decide)
theorem c_isi : CallR X (.builtin "isinstance") (lowC X.K (one2 isiA)) := c_two call_isi fun x y d f S H QH r r' so ok k => by
  cases f with
  | ty n =>
    obtain rfl := rel_tyE r'
    have ok' : (["NoneType", "bool", "int", "str", "tuple", "list", "dict"].contains (tyNm S d) && ["bool", "int", "str", "tuple", "list", "dict"].contains n) = true := ok
    rw [Bool.and_eq_true_iff] at ok'
    have h1 : tyNm S d ∈ ["NoneType", "bool", "int", "str", "tuple", "list", "dict"] := by simpa using ok'.1
    have h2 : n ∈ ["bool", "int", "str", "tuple", "list", "dict"] := by simpa using ok'.2
    exact ⟨x, .ty n, _, _, _, rfl, .ty n, tyX_of so r ok'.1, kit_ty (kit_isi _ h1 _ h2), k _ H so .refl (.bl _)⟩
  | _ => exact ok.elim
/-- repr -/
def reprA (x : AV) (S : Store) : Ans := ⟨flatA (derefA S x) = true ∧ (datA S x).showable = true ∧ (datA S x).hasDict = false ∧ (datA S x).depth ≤ 60 ∧ (datA S x).shown.length ≤ sizeLine, .str (datA S x).shown⟩
theorem c_repr (gd : X.A.guards = some []) (hu : X.A.units + 64 < cLine) : CallR X (.builtin "repr") (lowC X.K (one1 reprA)) := by
  intro pins s σ H vs us QH I rv h
  obtain ⟨ds, S, rs, so, ok, k⟩ := h
  match ds, rs, ok, k with
  | [], _, ok, _ => exact ok.elim
  | _ :: _ :: _, _, ok, _ => exact ok.elim
  | [d], rs, ok, k =>
    obtain ⟨x, rfl, r⟩ := rel_one rs
    obtain ⟨u, rfl, ru⟩ := rv.one
    obtain ⟨fl, sh, nd, dp, sz⟩ := ok
    have D := r.dpS so fl
    obtain ⟨as, rd⟩ := Dp.reads I _ x u D ru
    have fin : ∀ h' tk tk', (∀ b o, s.heap.get? b = some o → h'.get? b = some o) → EP X pins σ QH (.str (datA S d).shown tk) { s with heap := h', toks := tk' } := fun h' tk tk' hk =>
      ⟨.str _, H, I.kept hk, ⟨tk, rfl⟩, k _ H so .refl (.str _)⟩
    have keep0 : ∀ b o, s.heap.get? b = some o → s.heap.get? b = some o := fun _ _ q => q
    have sd : (datA S d).showable = true := sh
    cases x with
    | ref a =>
      obtain rfl : u = .ref a := ru
      exact repr_of_reads' rd sh (fun z => by rw [nd] at z; cases z) gd (by omega) keep0 (fun h' tk tk' hk => fin h' tk tk' hk) sz
    | non =>
      obtain rfl : u = .none := ru
      generalize datA S d = dd at D rd sz sh fin
      cases D
      exact PySem.P.repr_of_none (fin s.heap _ _ keep0)
    | bl b =>
      obtain rfl : u = .bool b := ru
      generalize datA S d = dd at D rd sz sh fin
      cases D
      exact PySem.P.repr_of_bool (fin s.heap _ _ keep0)
    | int i =>
      obtain ⟨t, rfl⟩ : ∃ t, u = .int i t := ru
      generalize datA S d = dd at D rd sz sh fin
      cases D
      exact PySem.P.repr_of_int (of_decide_eq_true sh) (fin s.heap _ _ keep0)
    | str z =>
      obtain ⟨t, rfl⟩ : ∃ t, u = .str z t := ru
      generalize datA S d = dd at D rd sz sh fin
      cases D
      exact PySem.P.repr_of_str (fin s.heap _ _ keep0) sz
    | byt _ => generalize datA S d = dd at D; cases D
    | flt _ => generalize datA S d = dd at D; cases D
    | ty _ => generalize datA S d = dd at D; cases D
/-- list(range(..)) -/
def aRg1 (ta : AE) : ASt → Store → (Int → Int → Store → Prop) → Prop := fun τ S Q => ta τ S fun d S1 => ∃ n, d = .int n ∧ Q 0 n S1
def aLstRg (t : ASt → Store → (Int → Int → Store → Prop) → Prop) : AE := fun τ S Q => t τ S fun a b S1 => RgOk a b ∧ Q (.lst (rngA a (b - a).toNat)) S1
theorem rel_rng {K : PySem.W.Frag} {H : Hp} {S : Store} (a : Int) : ∀ (l : List Nat), RelAs K H S (l.map fun i => V.int (a + (i : Nat))) (l.map fun i => AV.int (a + (i : Nat)))
  | [] => .nil
  | i :: l => .cons (.int _) (rel_rng a l)
theorem e_lstRg1 (hc : X.calm = true) (hm : X.mg "list" = none) (hm2 : X.mg "range" = none) (ha : PE X a (low X.K ta)) {p1 p2 pos2 : Pos} (hg : Gl X "list" := by rfl) (hg2 : Gl X "range" := by rfl)
    (na : starEach [a] X.env = [(false, eval a X.env)] := by rfl) (nb : starEach [.Call (.Name "range" p2) [a] [] pos2] X.env = (false, eval (.Call (.Name "range" p2) [a] [] pos2) X.env) :: starEach [] X.env := by rfl) :
    PE X (.Call (.Name "list" p1) [.Call (.Name "range" p2) [a] [] pos2] [] pos) (low X.K (aLstRg (aRg1 ta))) :=
  (pe_listRg hc hg hm (prg_1 hg2 hm2 ha na) nb).weak fun σ H QH ⟨τ, S, Q, R, so, q, k⟩ => ⟨τ, S, _, R, so, q, fun v H1 d S1 so1 st1 r1 ⟨n, e, ok, q1⟩ => by
    subst e
    exact ⟨n, rel_intE r1, ok, fun l hl => k _ _ _ S1 (stok_new so1 hl) (st1.trans (step_new so1 hl)) (rel_lst so1 hl (rel_rng 0 (List.range (n - 0).toNat))) q1⟩⟩

/-! ### slices -/
abbrev AO1 := ASt → Store → (Option Int → Store → Prop) → Prop
def aPart (ta : AE) : AO1 := fun τ S Q => ta τ S fun d S1 => ∃ i, d = .int i ∧ Q (some i) S1
def aNoPart : AO1 := fun _ S Q => Q none S
def lowP (K : PySem.W.Frag) (ao : AO1) : TO := fun σ H QH => ∃ τ S Q, Rp K H S σ τ ∧ StOk K H S ∧ ao τ S Q ∧ ∀ o H' S', StOk K H' S' → Step H S H' S' → Q o S' → QH o H'
theorem po_weak {oe : Option Expr} {t t' : TO} (h : PO X oe t) (w : ∀ σ H Q, t' σ H Q → t σ H Q) : PO X oe t' := ⟨fun pins s σ H Q I q => h.run pins s σ H Q I (w σ H Q q)⟩
theorem o_some (h : PE X e (low X.K ta)) : PO X (some e) (lowP X.K (aPart ta)) := po_weak (po_some h) fun σ H QH ⟨τ, S, Q, R, so, q, k⟩ => ⟨τ, S, _, R, so, q, fun v H1 d S1 so1 st1 r1 ⟨i, e, q1⟩ => by
  subst e
  exact ⟨i, rel_intE r1, k (some i) H1 S1 so1 st1 q1⟩⟩
theorem o_none : PO X none (lowP X.K aNoPart) := po_weak po_none fun σ H QH ⟨τ, S, Q, R, so, q, k⟩ => k none H S so .refl q
def cutL (xs : List AV) (lo hi : Option Int) : List AV := (xs.drop (HT.sIx xs.length 0 lo)).take (HT.sIx xs.length xs.length hi - HT.sIx xs.length 0 lo)
def cutAns (x : AV) (lo hi : Option Int) (S : Store) : Ans := match x with
  | .tup xs => ⟨True, .tup (cutL xs lo hi)⟩
  | .str z => ⟨z.length ≤ sizeLine, .str (cutS z lo hi)⟩
  | x => match lstA S x with
    | some xs => ⟨True, .lst (cutL xs lo hi)⟩
    | none => badA
def aSl (ta : AE) (tl th : AO1) : AE := fun τ S Q => ta τ S fun x S1 => tl τ S1 fun l S2 => th τ S2 fun u S3 => (cutAns x l u S3).ok ∧ Q (cutAns x l u S3).v S3
theorem cut_rel {K : PySem.W.Frag} {H : Hp} {S : Store} {vs : List V} {ds : List AV} (r : RelAs K H S vs ds) (lo hi : Option Int) : RelAs K H S (cutV vs lo hi) (cutL ds lo hi) := by
  unfold cutV cutL
  rw [r.length]
  exact (r.drop _).take _
theorem e_sl {lo hi : Option Expr} {tl th : AO1} {p2 : Pos} (he : PE X e (low X.K ta)) (hl : PO X lo (lowP X.K tl)) (hu : PO X hi (lowP X.K th)) : PE X (.Subscript e (.Slice lo hi none p2) pos) (low X.K (aSl ta tl th)) :=
  (pe_slice (SlR.or sl_list (SlR.or sl_tupA sl_str)) he hl hu).weak fun σ H QH ⟨τ, S, Q, R, so, q, k⟩ => ⟨τ, S, _, R, so, q, fun v H1 d S1 so1 st1 r1 q1 => ⟨τ, S1, _, R.step st1, so1, q1, fun l H2 S2 so2 st2 q2 =>
    ⟨τ, S2, _, (R.step st1).step st2, so2, q2, fun u H3 S3 so3 st3 ⟨ok, q3⟩ => by
      have r3 := (r1.step st2).step st3
      have st := (st1.trans st2).trans st3
      have gen : (∀ xs, lstA S3 d = some xs → cutAns d l u S3 = (match lstA S3 d with | some xs => (⟨True, .lst (cutL xs l u)⟩ : Ans) | none => badA)) → (match lstA S3 d with | some xs => (⟨True, .lst (cutL xs l u)⟩ : Ans) | none => badA).ok → rSlL X.K v l u H3 QH := fun h1 h2 => by
        cases e : lstA S3 d with
        | none => rw [e] at h2; exact h2.elim
        | some xs =>
          have z := h1 xs e
          rw [e] at z
          rw [z] at q3
          obtain ⟨a, vs, rfl, ha, ra⟩ := rel_lstE so3 r3 e
          exact ⟨a, vs, rfl, ha, fun p hp => k _ _ _ S3 (stok_new so3 hp) (st.trans (step_new so3 hp)) (rel_lst so3 hp (cut_rel ra l u)) q3⟩
      cases d with
      | tup xs =>
        obtain ⟨a, vs, rfl, ha, ra⟩ := rel_tupE r3
        refine .inr (.inl ⟨a, vs, rfl, ha, fun hw => ?_, fun _ p hp => k _ _ _ S3 (stok_new so3 hp) (st.trans (step_new so3 hp)) (rel_tup so3 hp (cut_rel ra l u)) q3⟩)
        refine k _ H3 _ S3 so3 st ?_ q3
        have ew : cutL xs l u = xs := by
          unfold cutL
          rw [ra.length] at hw
          rw [hw.1, hw.2]
          simp
        show RelA X.K H3 S3 (.ref a) (.tup (cutL xs l u))
        rw [ew]
        exact r3
      | str z =>
        obtain rfl := rel_strE r3
        exact .inr (.inr ⟨z, rfl, ok, k _ H3 _ S3 so3 st (.str _) q3⟩)
      | lst xs => exact .inl (gen (fun _ _ => rfl) ok)
      | rol xs => exact .inl (gen (fun _ _ => rfl) ok)
      | ref l' => exact .inl (gen (fun _ _ => rfl) ok)
      | _ => exact ok.elim⟩⟩⟩
/-- xs[::-1] of a list -/
def aRevL (ta : AE) : AE := fun τ S Q => ta τ S fun d S1 => ∃ xs, lstA S1 d = some xs ∧ Q (.lst xs.reverse) S1
theorem e_revL {k : Nat} {p1 p2 p3 : Pos} (he : PE X e (low X.K ta)) : PE X (.Subscript e (.Slice none none (some (.UnaryOp .USub (.Constant (.int 1) k p1) p2)) p3) pos) (low X.K (aRevL ta)) :=
  (pe_revL he).weak fun σ H QH ⟨τ, S, Q, R, so, q, k⟩ => ⟨τ, S, _, R, so, q, fun v H1 d S1 so1 st1 r1 ⟨xs, e, q1⟩ => by
    obtain ⟨a, vs, rfl, ha, ra⟩ := rel_lstE so1 r1 e
    exact ⟨a, vs, rfl, ha, fun p hp => k _ _ _ S1 (stok_new so1 hp) (st1.trans (step_new so1 hp)) (rel_lst so1 hp ra.reverse) q1⟩⟩

/-! ### methods of lists and texts -/
def aM (am : AV → List AV → Store → AK → Prop) (to : AE) (t : AA) : AE := fun τ S Q => to τ S fun x S1 => t τ S1 fun ds S2 => am x ds S2 Q
def aM0 (am : AV → List AV → Store → AK → Prop) (to : AE) : AE := fun τ S Q => to τ S fun x S1 => am x [] S1 Q
/-- the receiver's type is known by the value alone -/
def tyA (T : String) (S : Store) : AV → Prop
  | .str _ => T = "str"
  | .int _ => T = "int"
  | .lst _ => T = "list"
  | .rol _ => T = "list"
  | .ref l => match S l with
    | some (.lst _) => T = "list"
    | some (.dK _) => T = "dict"
    | _ => False
  | _ => False
theorem tyV_of {K : PySem.W.Frag} {H : Hp} {S : Store} {T : String} {v : V} {d : AV} (so : StOk K H S) (r : RelA K H S v d) (h : tyA T S d) : tyV K T v H := by
  cases r with
  | str x => exact h
  | int x => exact h
  | lst h' n q => exact .inl ⟨h, _, .inl (.inl h')⟩
  | rol h' n q => exact .inl ⟨h, _, .inl h'⟩
  | rolK h' q => exact .inl ⟨h, _, .inr h'⟩
  | ref l =>
    cases z : S l with
    | none => simp only [tyA, z] at h
    | some o =>
      cases o with
      | lst xs => simp only [tyA, z] at h; obtain ⟨vs, hh, _⟩ := so l _ z; exact .inl ⟨h, _, .inl (.inl hh)⟩
      | dK xs => simp only [tyA, z] at h; obtain ⟨vs, hh, _⟩ := so l _ z; exact .inr (.inr (.inl ⟨h, .inl ⟨_, hh⟩⟩))
      | ins _ _ => simp only [tyA, z] at h
      | hid => simp only [tyA, z] at h
  | non => exact h.elim
  | bl _ => exact h.elim
  | ty _ => exact h.elim
  | tup _ _ _ => exact h.elim
  | tupK _ _ => exact h.elim
theorem e_bm {name : Str} {apos : Pos} {T id : String} {am : AV → List AV → Store → AK → Prop} {to : AE} {o : Expr} (pa : PlainAttrs T) (slot : Slot T name id) (hty : typeOf (.builtin id) = pure (.type "method_descriptor")) (hm : MtR X id (lowM X.K am)) (ho : PE X o (low X.K to)) (ha : PA X (e :: es) (lowA X.K t))
    (hbase : attributeBase o name X.env (eval o X.env) = eval o X.env := by rfl)
    (h2 : ((((backTo pos (starEach (e :: es) X.env)).all fun x => !x.1) && (backToKw pos (keywordEach [] X.env)).all fun x => x.1.isSome) && decide ((e :: es).length + ([] : List Keyword).length + (if ([] : List Keyword).isEmpty = true then 0 else 1) < 30)) = true := by rfl)
    (h3 : (apos.endLine == pos.line) = true := by decide +kernel) (h4 : starEach (e :: es) X.env = (false, eval e X.env) :: starEach es X.env := by rfl) (h5 : (backTo pos (starEach es X.env)).any (·.1) = false := by rfl) :
    PE X (.Call (.Attribute o name apos) (e :: es) [] pos) (low X.K (fun τ S Q => to τ S fun x S1 => tyA T S1 x ∧ t τ S1 fun ds S2 => am x ds S2 Q)) :=
  (pe_bm pa slot hty hm ho ha hbase h2 h3 h4 h5).weak fun σ H QH ⟨τ, S, Q, R, so, q, k⟩ => ⟨τ, S, _, R, so, q, fun v H1 d S1 so1 st1 r1 ⟨ty, q1⟩ => ⟨tyV_of so1 r1 ty, τ, S1, _, R.step st1, so1, q1, fun vs H2 ds S2 so2 st2 r2 q2 =>
    ⟨d, ds, S2, Q, r1.step st2, r2, so2, q2, fun v H' d S' so' st' r' q' => k v H' d S' so' ((st1.trans st2).trans st') r' q'⟩⟩⟩
theorem e_bm0 {name : Str} {apos : Pos} {T id : String} {am : AV → List AV → Store → AK → Prop} {to : AE} {o : Expr} (pa : PlainAttrs T) (slot : Slot T name id) (hty : typeOf (.builtin id) = pure (.type "method_descriptor")) (hm : MtR X id (lowM X.K am)) (ho : PE X o (low X.K to))
    (hbase : attributeBase o name X.env (eval o X.env) = eval o X.env := by rfl) (h3 : (apos.endLine == pos.line) = true := by decide +kernel) :
    PE X (.Call (.Attribute o name apos) [] [] pos) (low X.K (fun τ S Q => to τ S fun x S1 => tyA T S1 x ∧ am x [] S1 Q)) :=
  (pe_bm0 pa slot hty hm ho hbase h3).weak fun σ H QH ⟨τ, S, Q, R, so, q, k⟩ => ⟨τ, S, _, R, so, q, fun v H1 d S1 so1 st1 r1 ⟨ty, q1⟩ => ⟨tyV_of so1 r1 ty,
    ⟨d, [], S1, Q, r1, .nil, so1, q1, fun v H' d S' so' st' r' q' => k v H' d S' so' (st1.trans st') r' q'⟩⟩⟩
/-- the stored list at l becomes another one -/
theorem mutL {K : PySem.W.Frag} {H : Hp} {S : Store} {l : Addr} {ds ds' : List AV} {vs : List V} (so : StOk K H S) (hs : S l = some (.lst ds)) (r : RelAs K H S vs ds') : StOk K (upd H l (.lst vs)) (updS S l (.lst ds')) ∧ Step H S (upd H l (.lst vs)) (updS S l (.lst ds')) := by
  have st : Step H S (upd H l (.lst vs)) (updS S l (.lst ds')) := step_mut hs (by intro z; cases z)
  exact ⟨stok_mut so hs (by intro z; cases z) ⟨vs, upd_same, r.step st⟩, st⟩
def mAppend (x : AV) (as : List AV) (S : Store) (Q : AK) : Prop := ∃ l ds y, x = .ref l ∧ as = [y] ∧ S l = some (.lst ds) ∧ ds.length < sizeLine ∧ Q .non (updS S l (.lst (ds ++ [y])))
theorem m_append : MtR X "list.append" (lowM X.K mAppend) := mtr_weak (r := rAppend) (mt_append (X := X)) fun x vs H QH ⟨dx, as, S, Q, rx, rs, so, ⟨l, ds, y, ex, ea, hs, hz, q⟩, k⟩ => by
  subst ex ea
  obtain rfl := rel_refE rx
  obtain ⟨w, rfl, rw'⟩ := rel_one rs
  obtain ⟨ws, hl, rl⟩ := so l _ hs
  obtain ⟨so2, st2⟩ := mutL so hs (rl.app (.cons rw' .nil))
  exact ⟨l, ws, w, rfl, rfl, hl, by rw [rl.length]; exact hz, k _ _ _ _ so2 st2 .non q⟩
def mPop (x : AV) (as : List AV) (S : Store) (Q : AK) : Prop := ∃ l ds y, x = .ref l ∧ as = [] ∧ S l = some (.lst (ds ++ [y])) ∧ Q y (updS S l (.lst ds))
theorem m_pop : MtR X "list.pop" (lowM X.K mPop) := mtr_weak (r := rPop) (mt_pop (X := X)) fun x vs H QH ⟨dx, as, S, Q, rx, rs, so, ⟨l, ds, y, ex, ea, hs, q⟩, k⟩ => by
  subst ex ea
  obtain rfl := rel_refE rx
  cases rs
  obtain ⟨ws, hl, rl⟩ := so l _ hs
  have hlen := rl.length
  rw [List.length_append, List.length_singleton] at hlen
  obtain ⟨w, hw, rw'⟩ := rl.get (i := ds.length) (d := y) (by rw [List.getElem?_append_right (Nat.le_refl _)]; simp)
  have rd : RelAs X.K H S ws.dropLast ds := by
    have := rl.take ds.length
    rw [List.take_left] at this
    rw [List.dropLast_eq_take, hlen]
    exact this
  obtain ⟨so2, st2⟩ := mutL so hs rd
  refine ⟨l, ws, w, rfl, rfl, hl, by rw [hlen]; exact hw, k _ _ _ _ so2 st2 (rw'.step st2) q⟩
end
end L3

set_option Elab.async false
set_option linter.all false
set_option maxRecDepth 100000
set_option maxHeartbeats 2000000
set_option autoImplicit false
/-! L3F: extend, join, items set, reversed tuples, comprehensions over L3. -/
namespace L3
open PySem L2 PyProof.Rows

/-! ### list.extend of a tuple -/
section
variable {prog : Program} {w : World} {A : Around} {E : Value → Shared → Prop} {s : Shared}
theorem ext_tup (l : Addr) (items : Array Value) (n : Nat) (b : Addr) (dd : Option Addr) (sl : Array (Option Value)) (more : Array Value) (n2 : Nat) (h0 : ¬(!items.isEmpty && Builtin.List.listTooLong (items.size + more.size)) = true) (h1 : items.size ≤ sizeLine) (h2 : items.size + more.size ≤ sizeLine + 1) :
    Meets (Builtin.«list.extend» ⟨[.ref l, .ref b], []⟩) (fun _ R s => s.heap.get? l = some { cls := .type "list", dict := none, data := .seq items n, slots := #[] } ∧ s.heap.get? b = some { cls := .type "tuple", dict := dd, data := .seq more n2, slots := sl } ∧
      R (.ok (.ret Value.none)) { s with heap := s.heap.update l (Obj.mapSeq fun x => x ++ more), toks := s.toks }) :=
  .of_wp fun prog w A R s h => by
    obtain ⟨hp, g, d, tk, os⟩ := s
    obtain ⟨hl, hb, h⟩ := h
    have f1 := AutoSeq1.idx_int; have f2 := AutoSeq1.sub_tuple_tuple; have f3 := AutoSeq1.sub_list_list; have f4 := AutoSeq1.sub_tuple_list; have f5 := AutoSeq1.sub_list_tuple
    have hz' : (items ++ more).size ≤ sizeLine + 1 := by rw [Array.size_append]; exact h2
    wp_walk using (wpAny_updateSeq hl rfl (hz := h1) (_hz' := hz')), wpAny_loadPart' hl, wpAny_loadPart' hb
    exact ⟨_, rfl, h⟩
end
/-! ### t[::-1] -/
theorem pick_rev (xs : Array Value) : ((List.range xs.size).filterMap fun (k : Nat) => xs[(((xs.size : Int) - 1) + (k : Int) * (-1)).toNat]?).toArray = xs.toList.reverse.toArray := by
  have fm : ∀ {α β : Type} {f g : α → Option β} (l : List α), (∀ x ∈ l, f x = g x) → l.filterMap f = l.filterMap g := fun {α β f g} l h => by
    induction l with
    | nil => rfl
    | cons x r ih => rw [List.filterMap_cons, List.filterMap_cons, h x List.mem_cons_self, ih fun y hy => h y (List.mem_cons_of_mem _ hy)]
  congr 1
  have e : ∀ k ∈ List.range xs.size, xs[(((xs.size : Int) - 1) + (k : Int) * (-1)).toNat]? = some (xs.toList.reverse.getD k .none) := by
    intro k hk
    have hk := List.mem_range.mp hk
    have e1 : (((xs.size : Int) - 1) + (k : Int) * (-1)).toNat = xs.size - 1 - k := by omega
    rw [e1, List.getD_eq_getElem?_getD, List.getElem?_reverse (by simpa using hk), Array.length_toList, Array.getElem?_toList, Array.getElem?_eq_getElem (by omega)]
    rfl
  rw [fm _ e]
  have : (fun x => some (xs.toList.reverse.getD x Value.none)) = (some ∘ fun x => xs.toList.reverse.getD x Value.none) := rfl
  rw [this, List.filterMap_eq_map]
  apply List.ext_getElem
  · simp
  · intro i h1 h2
    rw [List.getElem_map, List.getElem_range, List.getD_eq_getElem?_getD, List.getElem?_eq_getElem h2]
    rfl
section
variable {prog : Program} {w : World} {A : Around} {E : Value → Shared → Prop} {s : Shared}
theorem applied_rev {sl : Addr} {vl vu vs : Value} {n : Nat} {Q : Int × Int × Nat → Shared → Prop} (hs : s.heap.IsSliceOf sl vl vu vs) (pl : IsPart vl none) (pu : IsPart vu none) (ps : IsPart vs (some (-1)))
    (h : Q ((n : Int) - 1, -1, n) s) : wpAny (model prog w) A (Builtin.Slice.sliceApplied (.ref sl) (pure (n : Int))) Q E s := by
  obtain ⟨os, hos, hcs, hds⟩ := id hs
  unfold Builtin.Slice.sliceApplied Builtin.Slice.sliceFields
  refine wpAny_bind (wpAny_bind (wpAny_field hos hds (x := vl) rfl ?_))
  refine wpAny_bind (wpAny_field hos hds (x := vu) rfl (wpAny_bind (wpAny_field hos hds (x := vs) rfl (wpAny_pure ?_))))
  refine wpAny_bind (HT.slicePart_ ps ?_)
  show wpAny _ _ (if ((-1 : Int) == 0) = true then _ else _) _ _ s
  rw [if_neg (by decide)]
  refine wpAny_bind (HT.slicePart_ pl ?_)
  refine wpAny_bind (HT.slicePart_ pu ?_)
  refine wpAny_bind (wpAny_pure ?_)
  have e1 : Builtin.Slice.sliceAdjust none none (-1) (n : Int) = ((n : Int) - 1, -1) := rfl
  have e2 : Builtin.Slice.slicePlaces ((n : Int) - 1) (-1) (-1) = n := by
    unfold Builtin.Slice.slicePlaces
    rw [if_neg (by decide)]
    by_cases hn : (n : Int) - 1 > -1
    · rw [if_pos hn, show (- -1 : Int) = 1 by decide, Int.ediv_one]
      omega
    · rw [if_neg hn]
      omega
  show wpAny _ _ (match Builtin.Slice.sliceAdjust none none (-1) (n : Int) with | (lo, hi) => pure (lo, (-1 : Int), Builtin.Slice.slicePlaces lo hi (-1))) _ _ s
  rw [e1]
  show wpAny _ _ (pure ((n : Int) - 1, (-1 : Int), Builtin.Slice.slicePlaces ((n : Int) - 1) (-1) (-1))) _ _ s
  rw [e2]
  exact wpAny_pure h
theorem getItem_tup_rev {t sl : Addr} {items : Array Value} {vl vu vs : Value} {Q : Value → Shared → Prop} (ht : IsTup s.heap t items) (hs : s.heap.IsSliceOf sl vl vu vs) (pl : IsPart vl none) (pu : IsPart vu none) (ps : IsPart vs (some (-1)))
    (h : Q (.ref s.heap.objs.size) { s with heap := s.heap.push { cls := .type "tuple", data := .seq items.toList.reverse.toArray } }) (hsz : items.size ≤ sizeLine) : wpAny (model prog w) A (getItem (.ref t) (.ref sl)) Q E s := by
  obtain ⟨os, hos, hcs, hds⟩ := id hs
  have hTs : s.TypeIs (.ref sl) "slice" := ⟨os, hos, hcs⟩
  have fits : sizeOk (.seq items.toList.reverse.toArray) := by
    show items.toList.reverse.toArray.size ≤ sizeLine
    rw [List.size_toArray, List.length_reverse, Array.length_toList]
    exact hsz
  unfold getItem
  try with_reducible refine wpAny_holding ?_
  first | refine wpAny_bind (wpAny_pure ?_) | skip
  refine wpAny_bind (wpAny_sequenceKey ht.typeIs (by decide) ?_)
  refine wpAny_bind (wpAny_callSpecial?_slot (name := Str.ofString "__getitem__") ht.typeIs PyProof.Rows.slot_tuple_getitem (wpAny_call_entry PyProof.Rows.slot_tuple_getitem ht.typeIs entry_tuple_getitem ?_ (args_tuple_getitem _ _)))
  show wpAny _ _ (Builtin.Tuple.tupleItemsOf (.ref t) >>= _) _ _ s
  refine wpAny_bind (tupleItemsOf_ ht (wpAny_bind (wpAny_typeOf hTs ?_)))
  rw [if_pos (by decide)]
  refine wpAny_bind (applied_rev hs pl pu ps ?_)
  have hno : ¬ (((items.size : Int) - 1 == 0 && (-1 : Int) == 1 && items.size == items.size) = true) := by simp
  show wpAny _ _ (if ((items.size : Int) - 1 == 0 && (-1 : Int) == 1 && items.size == items.size) = true then _ else _) _ _ s
  rw [if_neg hno, pick_rev]
  first
    | exact wpAny_bind (m := Builtin.Tuple.tupleExact _) (wpAny_newObj_type (wpAny_pure ⟨_, rfl, wpAny_pure h⟩) fits)
    | exact wpAny_bind (m := Builtin.Tuple.tupleExact _) (wpAny_newObj_type (wpAny_bind (wpAny_pure (wpAny_pure ⟨_, rfl, wpAny_pure h⟩))) fits)
    | exact wpAny_bind (wpAny_bind (m := Builtin.Tuple.tupleExact _) (wpAny_newObj_type (wpAny_pure (wpAny_pure ⟨_, rfl, wpAny_pure h⟩)) fits))
    | exact wpAny_bind (wpAny_bind (m := Builtin.Tuple.tupleExact _) (wpAny_newObj_type (wpAny_pure ⟨_, rfl, wpAny_pure h⟩) fits))
end
section
variable {X : Cx} {e a b c : Expr} {es : List Expr} {ta tb tc : AE} {t : AA} {pos p : Pos}
def tRevT (K : PySem.W.Frag) (te : TE) : TE := fun σ H Q => te σ H fun x H1 => ∃ a xs, x = .ref a ∧ SqT K H1 a xs ∧ ∀ p, H1 p = none → Q (.ref p) (upd H1 p (.tup xs.reverse))
theorem pe_revT {te : TE} {k : Nat} {p1 p2 p3 : Pos} (he : PE X e te) : PE X (.Subscript e (.Slice none none (some (.UnaryOp .USub (.Constant (.int 1) k p1) p2)) p3) pos) (tRevT X.K te) := by
  refine ⟨fun pins s σ H Q I h => Subscript_ (thn (he.run pins s σ H _ I h) fun v s1 hv => ?_)⟩
  obtain ⟨x, H1, I1, r1, a, xs, rfl, hx, q⟩ := hv
  cases r1
  have pStep : PO X (some (.UnaryOp .USub (.Constant (.int 1) k p1) p2)) (tPart (tUn (rU fun i => .int (-i)) (tC (.int 1)))) := po_some (pe_un un_neg pe_int)
  refine wpAny_Slice (thn (po_none.run pins s1 σ H1 (fun o G => o = none ∧ G = H1) I1 ⟨rfl, rfl⟩) fun vl s2 hl => ?_)
  obtain ⟨l, H2, I2, pl, rfl, rfl⟩ := hl
  refine thn (po_none.run pins s2 σ H2 (fun o G => o = none ∧ G = H2) I2 ⟨rfl, rfl⟩) fun vu s3 hu => ?_
  obtain ⟨u, H3, I3, pu, rfl, rfl⟩ := hu
  refine thn (pStep.run pins s3 σ H3 (fun o G => o = some (-1) ∧ G = H3) I3 ⟨1, rfl, -1, rfl, rfl, rfl⟩) fun vs s4 hs => ?_
  obtain ⟨o, H4, I4, ps, rfl, rfl⟩ := hs
  have I5 : Inv X pins σ H4 { s4 with heap := s4.heap.push { cls := .type "slice", data := .fields #[vl, vu, vs] } } := I4.kept (t' := s4.toks) fun b ob q => Heap.get?_push_of_some _ q
  obtain ⟨its, r, ht, hz⟩ := I5.tuple hx
  have hlen := r.length
  show wpAny (model X.prog X.w) X.A (subscriptTail e (.Slice none none (some (.UnaryOp .USub (.Constant (.int 1) k p1) p2)) p3) (.ref a) (.ref s4.heap.objs.size)) (EP X pins σ Q) X.xe { s4 with heap := s4.heap.push { cls := .type "slice", data := .fields #[vl, vu, vs] } }
  refine tail_any (ops := [.ref a, .ref s4.heap.objs.size]) ht.typeIs PyProof.Rows.slot_tuple_getitem.lookup ?_ (by with_unfolding_all rfl)
  refine getItem_tup_rev ht (Heap.IsSliceOf.new _ vl vu vs) pl pu ps ?_ (by rw [List.size_toArray]; omega)
  exact ⟨.ref _, _, I5.laid (t' := s4.toks) (o := .tup xs.reverse) (fun b ob q => Heap.get?_push_of_some _ q) (Nat.le_refl _) ⟨by rw [List.length_reverse]; exact hz, its.reverse, r.reverse, ⟨_, Heap.get?_push_size _ rfl, rfl, _, rfl⟩⟩, rfl, q _ (I5.hok.fresh (Nat.le_refl _))⟩
def aRevT (ta : AE) : AE := fun τ S Q => ta τ S fun d S1 => ∃ xs, d = .tup xs ∧ Q (.tup xs.reverse) S1
theorem e_revT {k : Nat} {p1 p2 p3 : Pos} (he : PE X e (low X.K ta)) : PE X (.Subscript e (.Slice none none (some (.UnaryOp .USub (.Constant (.int 1) k p1) p2)) p3) pos) (low X.K (aRevT ta)) :=
  (pe_revT he).weak fun σ H QH ⟨τ, S, Q, R, so, q, k⟩ => ⟨τ, S, _, R, so, q, fun v H1 d S1 so1 st1 r1 ⟨xs, e, q1⟩ => by
    subst e
    obtain ⟨a, vs, rfl, ha, ra⟩ := rel_tupE r1
    exact ⟨a, vs, rfl, ha, fun p hp => k _ _ _ S1 (stok_new so1 hp) (st1.trans (step_new so1 hp)) (rel_tup so1 hp ra.reverse) q1⟩⟩

/-! ### extend -/
def rExtT (K : PySem.W.Frag) : V → List V → Hp → VK → Prop := fun x vs H Q => ∃ l b xs zs, x = .ref l ∧ vs = [.ref b] ∧ H l = some (.lst xs) ∧ SqT K H b zs ∧ xs.length + zs.length ≤ sizeLine ∧ Q .non (upd H l (.lst (xs ++ zs)))
theorem mt_extT : MtR X "list.extend" (rExtT X.K) := by
  intro pins s σ H x vs v us Q I rx rv h
  obtain ⟨l, b, xs, zs, rfl, rfl, hH, hB, hz, q⟩ := h
  cases rx
  obtain ⟨u, rfl, ru⟩ := rv.one
  cases ru
  obtain ⟨z, its, n, r, hl, e⟩ := I.lstM hH
  obtain ⟨its2, r2, ⟨⟨oc, od, odt, osl⟩, e2, hc, n2, hd⟩, z2⟩ := I.tuple hB
  simp only at hc hd
  subst hc hd
  have hl2 := r2.length
  have fits : its.toArray.size + its2.toArray.size ≤ sizeLine := by rw [List.size_toArray, List.size_toArray]; omega
  have short : ¬ (!its.toArray.isEmpty && Builtin.List.listTooLong (its.toArray.size + its2.toArray.size)) = true := by
    rw [notLongL fits, Bool.and_false]
    exact Bool.false_ne_true
  refine call_meets F.slot_list_extend ⟨_, e, rfl⟩ F.entry_list_extend (F.args_list_extend_2 _ _) (ext_tup l its.toArray n b od osl its2.toArray n2 short (by rw [List.size_toArray]; omega) (by omega)) ⟨e, e2, ?_⟩
  exact ⟨.non, _, I.lset (its' := its ++ its2) hH e (by simp) (r.append r2) (by rw [List.length_append]; omega), rfl, q⟩
def mExtend (x : AV) (as : List AV) (S : Store) (Q : AK) : Prop := ∃ l ds y es, x = .ref l ∧ as = [y] ∧ S l = some (.lst ds) ∧ ((∃ l2, y = .tup l2 ∧ es = l2) ∨ wstA S y = some es) ∧ ds.length + es.length ≤ sizeLine ∧ Q .non (updS S l (.lst (ds ++ es)))
theorem mtr_or {id : String} {r r' : V → List V → Hp → VK → Prop} (h : MtR X id r) (h' : MtR X id r') : MtR X id (fun x xs H Q => r x xs H Q ∨ r' x xs H Q) := fun pins s σ H x xs v us Q I rx rs q => q.elim (fun q => h pins s σ H x xs v us Q I rx rs q) fun q => h' pins s σ H x xs v us Q I rx rs q
theorem m_extend : MtR X "list.extend" (lowM X.K mExtend) := mtr_weak (mtr_or (r := rExtend) (mt_extend (X := X)) mt_extT) fun x vs H QH ⟨dx, as, S, Q, rx, rs, so, ⟨l, ds, y, es, ex, ea, hs, hy, hz, q⟩, k⟩ => by
  subst ex ea
  obtain rfl := rel_refE rx
  obtain ⟨w, rfl, rw'⟩ := rel_one rs
  obtain ⟨ws, hl, rl⟩ := so l _ hs
  rcases hy with ⟨l2, rfl, rfl⟩ | hy
  · obtain ⟨b, zs, rfl, hb, rb⟩ := rel_tupE rw'
    obtain ⟨so2, st2⟩ := mutL so hs (rl.app rb)
    exact .inr ⟨l, b, ws, zs, rfl, rfl, hl, hb, by rw [rl.length, rb.length]; exact hz, k _ _ _ _ so2 st2 .non q⟩
  · obtain ⟨b, zs, rfl, hb, rb⟩ := rel_wstE so rw' hy
    obtain ⟨so2, st2⟩ := mutL so hs (rl.app rb)
    exact .inl ⟨l, b, ws, zs, rfl, rfl, hl, hb, by rw [rl.length, rb.length]; exact hz, k _ _ _ _ so2 st2 .non q⟩
/-- sep.join(texts) -/
def isStrA : AV → Bool
  | .str _ => true
  | _ => false
def strOf : AV → Str
  | .str z => z
  | _ => Str.empty
theorem rel_strs {K : PySem.W.Frag} {H : Hp} {S : Store} : ∀ {vs : List V} {ds : List AV}, RelAs K H S vs ds → ds.all isStrA = true → vs = (ds.map strOf).map V.str
  | _, _, .nil, _ => rfl
  | _, _, .cons (d := d) r t, e => by
    rw [List.all_cons, Bool.and_eq_true_iff] at e
    cases d with
    | str b => rw [rel_strE r, rel_strs t e.2]; rfl
    | _ => cases e.1
def mJoin (x : AV) (as : List AV) (S : Store) (Q : AK) : Prop := ∃ z y xs, x = .str z ∧ as = [y] ∧ seqA S y = some xs ∧ xs.all isStrA = true ∧ ((xs.map strOf).map (·.length)).sum + xs.length * z.length ≤ 16777216 ∧ Q (.str (Txt.join z (xs.map strOf))) S
theorem m_join : MtR X "str.join" (lowM X.K mJoin) := mtr_weak mt_join fun x vs H QH ⟨dx, as, S, Q, rx, rs, so, ⟨z, y, xs, ex, ea, hy, hs, hz, q⟩, k⟩ => by
  subst ex ea
  obtain rfl := rel_strE rx
  obtain ⟨w, rfl, rw'⟩ := rel_one rs
  obtain ⟨b, zs, rfl, hb, rb⟩ := rel_seqE so rw' hy
  have e := rel_strs rb hs
  subst e
  exact ⟨z, b, xs.map strOf, rfl, rfl, hb, by rw [List.length_map]; exact hz, k _ H _ S so .refl (.str _) q⟩

/-! ### xs[i] = v -/
def agSub (to ti : AE) : AG := fun d τ S Q => to τ S fun o S1 => ti τ S1 fun i S2 => ∃ l ds k j, o = .ref l ∧ i = .int k ∧ S2 l = some (.lst ds) ∧ ixN ds.length k = some j ∧ Q τ (updS S2 l (.lst (ds.set j d)))
theorem g_sub {o i : Expr} {to ti : AE} (ho : PE X o (low X.K to)) (hi : PE X i (low X.K ti)) (hs : ∀ v, assign (.Subscript o i pos) X.env v = (do
    let ov ← holding [v] (eval o X.env)
    let iv ← holding [v, ov] (eval i X.env)
    standAt pos
    holding [v, ov, iv] (setItem ov iv v)
    release [v, ov, iv] []) := by intro _; rfl) : PG X (.Subscript o i pos) (lowG X.K (agSub to ti)) := (pg_sub ho hi set_list hs).weak fun v σ H QH ⟨d, τ, S, Q, r, R, so, q, k⟩ =>
  ⟨τ, S, _, R, so, q, fun vo H1 dO S1 so1 st1 r1 q1 => ⟨τ, S1, _, R.step st1, so1, q1, fun vi H2 di S2 so2 st2 r2 ⟨l, ds, kk, j, eo, ei, hs, hj, q2⟩ => by
    subst eo ei
    obtain rfl := rel_refE r1
    obtain rfl := rel_intE r2
    obtain ⟨ws, hl, rl⟩ := so2 l _ hs
    have st := st1.trans st2
    obtain ⟨so3, st3⟩ := mutL so2 hs (rl.set (r.step st) j)
    exact ⟨l, ws, kk, j, rfl, rfl, hl, by rw [rl.length]; exact hj, k _ _ _ _ so3 (st.trans st3) (R.step (st.trans st3)) q2⟩⟩⟩

/-! ### comprehensions -/
def wipeA (τ : ASt) : List Nat → ASt
  | [] => τ
  | v :: vs => (wipeA τ vs).set v none
theorem Rp.forget {K : PySem.W.Frag} {H : Hp} {S : Store} {σ : L2.St} {τ : ASt} (r : Rp K H S σ τ) (i : Nat) : Rp K H S (σ.set i none) (τ.set i none) := by
  refine ⟨by rw [List.length_set, List.length_set, r.len], fun j d h => ?_⟩
  by_cases z : j = i
  · subst z
    by_cases hl : j < τ.length
    · rw [List.getElem?_set_self hl] at h; cases h
    · rw [List.getElem?_eq_none (by rw [List.length_set]; omega)] at h; cases h
  · rw [List.getElem?_set_ne (Ne.symm z)] at h
    obtain ⟨v, hv, q⟩ := r.at_ j d h
    exact ⟨v, by rw [List.getElem?_set_ne (Ne.symm z)]; exact hv, q⟩
theorem Rp.wipe {K : PySem.W.Frag} {H : Hp} {S : Store} {σ : L2.St} {τ : ASt} (r : Rp K H S σ τ) : ∀ vs : List Nat, Rp K H S (L2.wipe σ vs) (wipeA τ vs)
  | [] => r
  | v :: vs => (Rp.wipe r vs).forget v
theorem wipe_set {σ : L2.St} {i : Nat} {o : Option V} : ∀ {vs : List Nat}, i ∈ vs → L2.wipe (σ.set i o) vs = L2.wipe σ vs
  | v :: vs, h => by
    show (L2.wipe (σ.set i o) vs).set v none = (L2.wipe σ vs).set v none
    by_cases z : i ∈ vs
    · rw [wipe_set z]
    · have hv : i = v := by simpa [z] using h
      subst hv
      have out : ∀ (ws : List Nat) (σ : L2.St), i ∉ ws → L2.wipe (σ.set i o) ws = (L2.wipe σ ws).set i o := by
        intro ws
        induction ws with
        | nil => intro σ _; rfl
        | cons u us ih =>
          intro σ hn
          simp only [List.mem_cons, not_or] at hn
          show (L2.wipe (σ.set i o) us).set u none = ((L2.wipe σ us).set u none).set i o
          rw [ih σ hn.2, List.set_comm _ _ hn.1]
      rw [out vs σ z, List.set_set]
theorem wipe_wipe (σ : L2.St) : ∀ vs : List Nat, (∀ ws, (∀ v ∈ vs, v ∈ ws) → L2.wipe (L2.wipe σ vs) ws = L2.wipe σ ws)
  | [] => fun _ _ => rfl
  | v :: vs => fun ws h => by
    show L2.wipe ((L2.wipe σ vs).set v none) ws = _
    rw [wipe_set (h v List.mem_cons_self)]
    exact wipe_wipe σ vs ws fun u hu => h u (List.mem_cons_of_mem _ hu)
/-- [e for x in xs if t]: the new list as one that does not change any more -/
def aLc (ai : AI) (j : Nat) (tt : AT) (te : AE) (vs : List Nat) : AE := fun τ S Q => ai τ S fun xs G S1 => ∀ D, S1 D = none → ∃ I : Nat → List AV → Store → Prop, I 0 [] (updS S1 D .hid) ∧
  (∀ (i : Nat) x acc S2, xs[i]? = some x → I i acc S2 → G S2 ∧ tt ((wipeA τ vs).set j (some x)) S2 fun b S3 => if b = true then te ((wipeA τ vs).set j (some x)) S3 fun y S4 => acc.length < sizeLine ∧ I (i + 1) (acc ++ [y]) S4 else I (i + 1) acc S3) ∧
  (∀ acc S2, I xs.length acc S2 → G S2 ∧ Q (.lst acc) (dropS S2 D))
/-- the list that grows, as a hidden thing of the store -/
theorem lc_low {K : PySem.W.Frag} {wi : TI} {ai : AI} {g : TG} {tt : AT} {te : AE} {vs : List Nat} {j : Nat} (hj : j ∈ vs) (hwi : wi = lowI K ai) (hg : g = gName j) : ∀ σ H QH, low K (aLc ai j tt te vs) σ H QH → tLc wi g (lowT K tt) (low K te) vs σ H QH := by
  subst hwi hg
  intro σ H QH ⟨τ, S, Q, R, so, q, k⟩
  refine ⟨τ, S, _, R, so, q, fun J H1 xs G S1 so1 st1 it hI D hD => ?_⟩
  obtain ⟨I, i0, hstep, hend⟩ := hI D (so1.fresh hD)
  have nD : S1 D = none := so1.fresh hD
  -- the start
  have stD : Step H1 S1 (upd H1 D (.lst [])) (updS S1 D .hid) := step_put so1 hD
  have soD : StOk K (upd H1 D (.lst [])) (updS S1 D .hid) := stok_put (u := .hid) so1 hD ⟨_, upd_same⟩
  refine ⟨fun i m H' => ∃ acc S2 ws, I i acc S2 ∧ i + m = xs.length ∧ StOk K H' S2 ∧ S2 D = some .hid ∧ H' D = some (.lst ws) ∧ RelAs K H' S2 ws acc ∧
    (∀ a o, a ≠ D → S1 a = none → H1 a = some o → H' a = some o ∧ S2 a = none) ∧ (∀ a, S1 a = some .hid → H' a = H1 a ∧ S2 a = some .hid), ⟨xs.length, [], _, [], i0, by omega, soD, updS_same, upd_same, .nil, fun a o _ n h => stD.old a o n h, fun a h => stD.hid a h⟩, ?_⟩
  intro i m H2 ⟨acc, S2, ws, w2, hm, so2, hh2, hD2, r2, old2, hid2⟩
  have st2 : Step H1 S1 H2 S2 := ⟨fun a o n h => old2 a o (ne_of_none h hD) n h, hid2⟩
  by_cases hi : i < xs.length
  · right
    have hx : xs[i]? = some xs[i] := List.getElem?_eq_getElem hi
    obtain ⟨hG, hq⟩ := hstep i _ acc S2 hx w2
    obtain ⟨hgo, hy⟩ := (it H2 S2 so2 st2 hG).1 i _ hx
    refine ⟨hgo, _, fun H' h => h, fun v H3 hv => ?_⟩
    obtain ⟨so3, st3, r3⟩ := hy v H3 hv
    refine ⟨by rw [wipe_set hj]; exact wipe_wipe σ vs vs fun _ h => h, ?_⟩
    have R3 : Rp K H3 S2 ((L2.wipe σ vs).set j (some v)) ((wipeA τ vs).set j (some xs[i])) := (((R.step st1).step st2).step st3).wipe vs |>.set r3 j
    have keep : ∀ {H4 : Hp} {S4 : Store}, Step H2 S2 H4 S4 → H4 D = some (.lst ws) ∧ S4 D = some .hid ∧ RelAs K H4 S4 ws acc ∧ (∀ a o, a ≠ D → S1 a = none → H1 a = some o → H4 a = some o ∧ S4 a = none) ∧ (∀ a, S1 a = some .hid → H4 a = H1 a ∧ S4 a = some .hid) := by
      intro H4 S4 st
      obtain ⟨e1, e2⟩ := st.hid D hh2
      exact ⟨e1.trans hD2, e2, r2.step st, fun a o ne n h => let ⟨h1, n1⟩ := old2 a o ne n h; st.old a o n1 h1, fun a h => let ⟨h1, n1⟩ := hid2 a h; let ⟨h3, n3⟩ := st.hid a n1; ⟨h3.trans h1, n3⟩⟩
    refine ⟨_, S2, _, R3, so3, hq, fun b H4 S4 so4 st4 q4 => ?_⟩
    cases b with
    | false =>
      rw [if_neg Bool.false_ne_true] at q4 ⊢
      obtain ⟨e1, e2, e3, e4, e5⟩ := keep (st3.trans st4)
      exact ⟨m - 1, by omega, acc, S4, ws, q4, by omega, so4, e2, e1, e3, e4, e5⟩
    | true =>
      rw [if_pos rfl] at q4 ⊢
      refine ⟨_, S4, _, R3.step st4, so4, q4, fun y H5 dy S5 so5 st5 r5 ⟨hz, w5⟩ => ?_⟩
      obtain ⟨e1, e2, e3, e4, e5⟩ := keep ((st3.trans st4).trans st5)
      refine ⟨ws, e1, by rw [r2.length]; exact hz, m - 1, by omega, acc ++ [dy], S5, ws ++ [y], w5, by omega, ?_⟩
      -- the list at D has grown; nothing else
      have grow : Old H5 S5 (upd H5 D (.lst (ws ++ [y]))) S5 := fun a o n h => by
        have ne : a ≠ D := by rintro rfl; rw [e2] at n; cases n
        exact ⟨by rw [upd_ne ne]; exact h, n⟩
      refine ⟨fun a o e => ?_, e2, upd_same, (e3.app (.cons r5 .nil)).stepO grow, fun a o ne n h => by rw [upd_ne ne]; exact e4 a o ne n h, fun a h => ?_⟩
      · by_cases z : a = D
        · subst z
          rw [e2] at e
          cases e
          exact ⟨_, upd_same⟩
        · exact (so5 a o e).stepO grow (upd_ne z)
      · have z : a ≠ D := by rintro rfl; rw [nD] at h; cases h
        rw [upd_ne z]
        exact e5 a h
  · left
    have e : i = xs.length := by omega
    subst e
    obtain ⟨hG, hq⟩ := hend acc S2 w2
    have less : Old H2 S2 H2 (dropS S2 D) := fun a o n h => ⟨h, by unfold dropS; split; rfl; exact n⟩
    refine ⟨(it H2 S2 so2 st2 hG).2, k _ H2 _ (dropS S2 D) (fun a o e => ?_) (st1.trans ⟨fun a o n h => ?_, fun a h => ?_⟩) (.lst hD2 dropS_same (r2.stepO less)) hq⟩
    · have ne : a ≠ D := by rintro rfl; rw [dropS_same] at e; cases e
      rw [dropS_ne ne] at e
      exact (so2 a o e).stepO less rfl
    · obtain ⟨h1, n1⟩ := st2.old a o n h
      exact ⟨h1, (less a o n1 h1).2⟩
    · obtain ⟨h1, n1⟩ := st2.hid a h
      have ne : a ≠ D := by rintro rfl; rw [nD] at h; cases h
      exact ⟨h1, by rw [dropS_ne ne]; exact n1⟩
end
end L3

set_option Elab.async false
set_option linter.all false
set_option maxRecDepth 100000
set_option maxHeartbeats 2000000
set_option autoImplicit false
/-! L3H: comprehensions as expressions and set to names, calls with keywords, stores to slices. -/
namespace L3
open PySem L2 PyProof.Rows
section
variable {X : Cx} {e a b c : Expr} {es : List Expr} {ta tb tc te : AE} {tt : AT} {t : AA} {pos p : Pos}

/-! ### comprehensions -/
def aYes : AT := fun _ S Q => Q true S
theorem ts_nil : PTs X [] (lowT X.K aYes) := pts_nil.weak fun σ H QH ⟨τ, S, Q, R, so, q, k⟩ => k true H S so .refl q
theorem ts_one (h : PT X c (lowT X.K tt)) : PTs X [c] (lowT X.K tt) := pts_one h
section
variable {elt tg iter : Expr} {ifs : List Expr} {scope : Scope} {own : List (Str × Nat)} {spos : Pos} {ai : AI} {j : Nat}
theorem e_lc (j : Nat) (own : List (Str × Nat)) (hc : X.calm = true) (hN : X.N.Nodup) (hi : PI X tg iter (lowI X.K ai)) (ok : BlkOk X.N X.env.scope scope own)
    (hg : ∀ (s : Shared) (H : Hp) (C : Addr) (cl : List (Str × Addr)) (fp : List Addr), PG (X.blk s H scope (compEnvC scope cl C X.env) fp) tg (gName j))
    (ht : ∀ (s : Shared) (H : Hp) (C : Addr) (cl : List (Str × Addr)) (fp : List Addr), PTs (X.blk s H scope (compEnvC scope cl C X.env) fp) ifs (lowT X.K tt))
    (he : ∀ (s : Shared) (H : Hp) (C : Addr) (cl : List (Str × Addr)) (fp : List Addr), PE (X.blk s H scope (compEnvC scope cl C X.env) fp) elt (low X.K te))
    (hj : j ∈ own.map (·.2) := by decide) (hs : ∀ x, foldedSetIterable iter X.env x = pure x := by intro _; rfl) : PE X (.ListComp elt [⟨tg, iter, ifs, 0⟩] scope pos) (low X.K (aLc ai j tt te (own.map (·.2)))) :=
  (pe_lc (own := own) hc hN hi ok hg ht he hs).weak (lc_low hj rfl rfl)
theorem s_setLc {y : Str} {py : Pos} (i : Nat) (j : Nat) (own : List (Str × Nat)) (hc : X.calm = true) (hN : X.N.Nodup) (hi : PI X tg iter (lowI X.K ai)) (ok : BlkOk X.N X.env.scope scope own)
    (hg : ∀ (s : Shared) (H : Hp) (C : Addr) (cl : List (Str × Addr)) (fp : List Addr), PG (X.blk s H scope (compEnvC scope cl C X.env) fp) tg (gName j))
    (ht : ∀ (s : Shared) (H : Hp) (C : Addr) (cl : List (Str × Addr)) (fp : List Addr), PTs (X.blk s H scope (compEnvC scope cl C X.env) fp) ifs (lowT X.K tt))
    (he : ∀ (s : Shared) (H : Hp) (C : Addr) (cl : List (Str × Addr)) (fp : List Addr), PE (X.blk s H scope (compEnvC scope cl C X.env) fp) elt (low X.K te))
    (hsw : swapsWith (.ListComp elt [⟨tg, iter, ifs, 0⟩] scope pos) (some (.Name y py)) spos.line X.env = pure true := by exact sw_true rfl rfl rfl (by decide +kernel))
    (hy : X.N[i]? = some y := by rfl) (hyl : X.env.scope.names.lookup y = some .local := by rfl)
    (hj : j ∈ own.map (·.2) := by decide) (hs : ∀ x, foldedSetIterable iter X.env x = pure x := by intro _; rfl) : PS X (.Assign [.Name y py] (.ListComp elt [⟨tg, iter, ifs, 0⟩] scope pos) spos) (lowS X.K (aAsg (aLc ai j tt te (own.map (·.2))) (agName i))) :=
  (ps_setLc (own := own) hc hN hy hyl hsw hi ok hg ht he hs).weak fun D σ H ⟨τ, S, DA, R, so, q, k⟩ => lc_low hj rfl rfl σ H _ ⟨τ, S, _, R, so, q, fun v H' d S' so' st' r' q' => k.nx _ H' _ S' so' st' ((R.step st').set r' i) q'⟩
end
/-- the iterator goes over one list all the way: what a pure turn gives -/
theorem lc_map {ai : AI} {j : Nat} {tt : AT} {te : AE} {vs : List Nat} {τ : ASt} {S : Store} {Q : AK} (h : ai τ S fun xs G S1 => xs.length ≤ sizeLine ∧ ∃ f : AV → AV, (∀ S2, G S1 → G S2) ∧ G S1 ∧
    (∀ (i : Nat) x S2, xs[i]? = some x → (∀ Qb : Bool → Store → Prop, Qb true S2 → tt ((wipeA τ vs).set j (some x)) S2 Qb) ∧ ∀ Qe : AK, Qe (f x) S2 → te ((wipeA τ vs).set j (some x)) S2 Qe) ∧ Q (.lst (xs.map f)) S1)
    (mono : ∀ Q1 Q2 : List AV → (Store → Prop) → Store → Prop, (∀ xs G S1, Q1 xs G S1 → Q2 xs G S1) → ai τ S Q1 → ai τ S Q2) : aLc ai j tt te vs τ S Q := by
  refine mono _ _ (fun xs G S1 ⟨hl, f, gm, g1, ht, q⟩ => fun D hD => ?_) h
  refine ⟨fun i acc S2 => i ≤ xs.length ∧ acc = (xs.take i).map f ∧ S2 = updS S1 D .hid, ⟨Nat.zero_le _, rfl, rfl⟩, fun i x acc S2 hx ⟨hi, ea, es⟩ => ?_, fun acc S2 ⟨hi, ea, es⟩ => ?_⟩
  · obtain ⟨h1, h2⟩ := ht i x S2 hx
    have hlt := (List.getElem?_eq_some_iff.mp hx).1
    refine ⟨gm S2 g1, h1 _ ?_⟩
    rw [if_pos rfl]
    refine h2 _ ⟨?_, hlt, ?_, es⟩
    · rw [ea, List.length_map, List.length_take]
      omega
    · rw [ea, List.take_add_one, hx]
      simp
  · refine ⟨gm S2 g1, ?_⟩
    rw [ea, es, List.take_length, dropS_upd hD]
    exact q

/-! ### keywords -/
structure FnK (P : Program) (w : World) (K : PySem.W.Frag) (mg : Str → Option Value) (base : Heap) (k : Nat) (x : Str) (ps : List Str) (asp : ASp) (n : Nat) (ks : List Str) (g : {α : Type} → List α → List α → List α) : Prop where
  ex : ∃ (f : Addr) (fd : FuncData), FnG P w K mg base k f fd ps (spOf K asp) ∧ mg x = some (.ref f) ∧ PySem.W.keepIn K (.ref f) = true ∧
    (∀ (s : Shared) (us ws : List Value), us.length = n → ws.length = ks.length → BindsTo s fd ⟨us, ks.zip ws⟩ (ps.zip (g us ws)))
  vals : ∀ {vs : List V} {us : List Value} {zs : List V} {ws : List Value}, vs.length = n → zs.length = ks.length → Vals vs us → Vals zs ws → Vals (g vs zs) (g us ws)
  rels : ∀ {H : Hp} {S : Store} {vs zs : List V} {ds es : List AV}, vs.length = n → zs.length = ks.length → RelAs K H S vs ds → RelAs K H S zs es → RelAs K H S (g vs zs) (g ds es)
theorem run_gk {k : Nat} {f : Addr} {fd : FuncData} {ps ks : List Str} {sp : Sp} {g : List Value → List Value → List Value} {gV : List V → List V → List V} {pins : List (Addr × Obj)} {σ : L2.St} {H : Hp} {s : Shared} {Q : VK} {us ws : List Value} {vs zs : List V} (F : FnG X.prog X.w X.K X.mg X.base k f fd ps sp) (gd : X.A.guards = some [])
    (hr : Room k X.A) (hb : BindsTo s fd ⟨us, ks.zip ws⟩ (ps.zip (g us ws))) (I : Inv X pins σ H s) (r : Vals (gV vs zs) (g us ws)) (h : sp (gV vs zs) H Q E0) : wpAny (model X.prog X.w) X.A (call (.ref f) us (ks.zip ws)) (fun u s' => EP X pins σ Q u s') X.xe s := by
  refine wpAny_call (codeAny_mono (F.go X.A gd hr X.stack s H ⟨us, ks.zip ws⟩ (g us ws) (gV vs zs) Q E0 I.env0 hb r h) fun r' s' z => ?_)
  cases r' with
  | error e => exact False.elim z
  | ok fl =>
    cases fl with
    | brk => exact z.elim
    | cont => exact z.elim
    | next => exact z.elim
    | ret u => exact I.after z
def lowK (K : PySem.W.Frag) (aa : AA) : TA := lowA K aa
theorem k_nil : PK X [] (lowA X.K aNil) := ⟨fun pos pins s σ H Q I h => pk_nil.run pos pins s σ H Q I (by obtain ⟨τ, S, QA, R, so, q, k⟩ := h; exact k [] H [] S so .refl .nil q)⟩
theorem k_cons {nm : Option Str} {kpos : Pos} {kws : List Keyword} {tr : AA} (ha : PE X e (low X.K ta)) (hr : PK X kws (lowA X.K tr)) : PK X (⟨nm, e, kpos⟩ :: kws) (lowA X.K (aCons ta tr)) := ⟨fun pos pins s σ H Q I h => (pk_cons ha hr).run pos pins s σ H Q I (by
  obtain ⟨τ, S, QA, R, so, q, k⟩ := h
  exact ⟨τ, S, _, R, so, q, fun v H1 d S1 so1 st1 r1 q1 => ⟨τ, S1, _, R.step st1, so1, q1, fun vs H2 ds S2 so2 st2 r2 q2 => k (v :: vs) H2 (d :: ds) S2 so2 (st1.trans st2) (.cons (r1.step st2) r2) q2⟩⟩)⟩
/-- f(k = v, ..) -/
def aCallK (asp : ASp) (m : Nat) (g : List AV → List AV → List AV) (tk : AA) : AE := fun τ S Q => tk τ S fun zs S1 => zs.length = m ∧ asp (g [] zs) S1 Q
theorem f_callK0 {k : Nat} {x : Str} {ps ks : List Str} {asp : ASp} {g : {α : Type} → List α → List α → List α} {kws : List Keyword} {tk : AA} (F : FnK X.prog X.w X.K X.mg X.base k x ps asp 0 ks g) (gd : X.A.guards = some []) (hr : Room k X.A) (hkw : PK X kws (lowA X.K tk)) (hg : Gl X x := by rfl)
    (hall : (backToKw pos (keywordEach kws X.env)).all (·.1.isSome) = true := by rfl) (hks : (backToKw pos (keywordEach kws X.env)).filterMap (·.1) = ks := by rfl) (hdb : (x == ("__debug__" : Str)) = false := by decide)
    (hpl : ((backTo pos (starEach [] X.env)).any (·.1) || (backToKw pos (keywordEach kws X.env)).any (·.1.isNone)) = false := by rfl) :
    PE X (.Call (.Name x p) [] kws pos) (low X.K (aCallK asp ks.length g tk)) := by
  obtain ⟨f, fd, G, hm, hk, hb⟩ := F.ex
  refine ⟨fun pins s σ H QH I h => wpAny_Call_Name_kw (ld_glob I hg hm (PySem.W.callWith_KW0 (h₀ := X.base) I.ok.mod.kin hk hall ?_ hpl) hdb)⟩
  obtain ⟨τ, S, Q, R, so, q, k⟩ := h
  refine thn (hkw.run pos pins s σ H (fun zs H1 => ∃ es S1, StOk X.K H1 S1 ∧ Step H S H1 S1 ∧ RelAs X.K H1 S1 zs es ∧ es.length = ks.length ∧ asp (g [] es) S1 Q) I ⟨τ, S, _, R, so, q, fun zs H1 es S1 so1 st1 r1 q1 => ⟨es, S1, so1, st1, r1, q1⟩⟩) fun ws s2 z => ?_
  obtain ⟨zs, H2, I2, rz, es, S1, so1, st1, r1, hl, q1⟩ := z
  refine ⟨I2.kIn, ?_⟩
  rw [hks]
  have lz : zs.length = ks.length := r1.length.trans hl
  exact run_gk (us := []) (vs := []) (zs := zs) (g := g) (gV := g) G gd hr (hb s2 [] ws rfl (rz.length.symm.trans lz)) I2 (F.vals rfl lz .nil rz) ⟨g [] es, S1, Q, F.rels rfl lz .nil r1, so1, q1, fun d S' v H' so' st' r' q' => k v H' d S' so' (st1.trans st') r' q'⟩
/-- f(e, .., k = v, ..) -/
def aCallKn (asp : ASp) (n m : Nat) (g : List AV → List AV → List AV) (t tk : AA) : AE := fun τ S Q => t τ S fun ds S1 => ds.length = n ∧ tk τ S1 fun zs S2 => zs.length = m ∧ asp (g ds zs) S2 Q
theorem f_callK {k n : Nat} {x : Str} {ps ks : List Str} {asp : ASp} {g : {α : Type} → List α → List α → List α} {kws : List Keyword} {tk : AA} (F : FnK X.prog X.w X.K X.mg X.base k x ps asp n ks g) (gd : X.A.guards = some []) (hr : Room k X.A) (ha : PA X (e :: es) (lowA X.K t)) (hkw : PK X kws (lowA X.K tk)) (hg : Gl X x := by rfl)
    (hall : (backToKw pos (keywordEach kws X.env)).all (·.1.isSome) = true := by rfl) (hks : (backToKw pos (keywordEach kws X.env)).filterMap (·.1) = ks := by rfl) (hdb : (x == ("__debug__" : Str)) = false := by decide)
    (he : starEach (e :: es) X.env = (false, eval e X.env) :: starEach es X.env := by rfl) (hpl : ((backTo pos (starEach (e :: es) X.env)).any (·.1) || (backToKw pos (keywordEach kws X.env)).any (·.1.isNone)) = false := by rfl) :
    PE X (.Call (.Name x p) (e :: es) kws pos) (low X.K (aCallKn asp n ks.length g t tk)) := by
  obtain ⟨f, fd, G, hm, hk, hb⟩ := F.ex
  refine ⟨fun pins s σ H QH I h => wpAny_Call_Name_kw (ld_glob I hg hm (PySem.W.callWith_KW (h₀ := X.base) I.ok.mod.kin hk hall ?_ hpl he) hdb)⟩
  obtain ⟨τ, S, Q, R, so, q, k⟩ := h
  refine thn (ha.run pos pins s σ H (fun vs H1 => ∃ ds S1, StOk X.K H1 S1 ∧ Step H S H1 S1 ∧ RelAs X.K H1 S1 vs ds ∧ ds.length = n ∧ tk τ S1 fun zs S2 => zs.length = ks.length ∧ asp (g ds zs) S2 Q) I ⟨τ, S, _, R, so, q, fun vs H1 ds S1 so1 st1 r1 q1 => ⟨ds, S1, so1, st1, r1, q1⟩⟩) fun us s1 z => ?_
  obtain ⟨vs, H1, I1, rv, ds, S1, so1, st1, r1, hn, q1⟩ := z
  refine thn (hkw.run pos pins s1 σ H1 (fun zs H2 => ∃ es S2, StOk X.K H2 S2 ∧ Step H1 S1 H2 S2 ∧ RelAs X.K H2 S2 zs es ∧ es.length = ks.length ∧ asp (g ds es) S2 Q) I1 ⟨τ, S1, _, R.step st1, so1, q1, fun zs H2 es S2 so2 st2 r2 q2 => ⟨es, S2, so2, st2, r2, q2⟩⟩) fun ws s2 z => ?_
  obtain ⟨zs, H2, I2, rz, es, S2, so2, st2, r2, hl, q2⟩ := z
  refine ⟨I2.kIn, ?_⟩
  rw [hks]
  have lz : zs.length = ks.length := r2.length.trans hl
  have lv : vs.length = n := r1.length.trans hn
  exact run_gk (us := us) (vs := vs) (zs := zs) (g := g) (gV := g) G gd hr (hb s2 us ws (rv.length.symm.trans lv) (rz.length.symm.trans lz)) I2 (F.vals lv lz rv rz) ⟨g ds es, S2, Q, F.rels lv lz (r1.step st2) r2, so2, q2, fun d S' v H' so' st' r' q' => k v H' d S' so' ((st1.trans st2).trans st') r' q'⟩
end

/-! ### xs[lo:] = ys -/
section
variable {prog : Program} {w : World} {A : Around} {E : Value → Shared → Prop} {s : Shared}
set_option maxRecDepth 100000 in
theorem put_slice {l b sl : Addr} {items new : Array Value} {n n2 : Nat} {vl vu : Value} {lo hi : Option Int} {a c : Nat} {Q : Unit → Shared → Prop} (e : s.heap.get? l = some { cls := .type "list", data := .seq items n }) (e2 : s.heap.get? b = some { cls := .type "list", data := .seq new n2 }) (hne : l ≠ b)
    (hs : s.heap.IsSliceOf sl vl vu .none) (pl : IsPart vl lo) (pu : IsPart vu hi) (hb : sliceBounds lo hi none items.size = ((a : Int), (c : Int), 1)) (hac : a ≤ c) (hc : c ≤ items.size)
    (hsz : items.size + new.size ≤ sizeLine) (h : Q () { s with heap := s.heap.update l (Obj.mapSeq fun xs => xs.extract 0 a ++ new ++ xs.extract c xs.size) }) :
    wpAny (model prog w) A (setItem (.ref l) (.ref sl) (.ref b)) Q E s := by
  have isL : s.heap.IsList l items := PySem.IsL.isList e
  have isB : s.heap.IsList b new := PySem.IsL.isList e2
  obtain ⟨os, hos, hcs, hds⟩ := id hs
  have isS : s.TypeIs (.ref sl) "slice" := ⟨os, hos, hcs⟩
  have notSame : Builtin.List.listSameRef (.ref l) (.ref b) = false := by unfold Builtin.List.listSameRef; exact beq_eq_false_iff_ne.mpr hne
  have topN : (max (a : Int) (c : Int)).toNat = c := by omega
  have fits : ((fun xs : Array Value => xs.extract 0 a ++ new ++ xs.extract c xs.size) items).size ≤ sizeLine + 1 := by
    simp only [Array.size_append, Array.size_extract]
    omega
  unfold setItem
  try with_reducible refine wpAny_holding ?_
  first | refine wpAny_bind (wpAny_pure ?_) | skip
  refine wpAny_bind (wpAny_sequenceKey isL.typeIs (by decide) (wpAny_bind (wpAny_callSpecial?_slot (name := Str.ofString "__setitem__") isL.typeIs slot_list_setitem (wpAny_call_entry slot_list_setitem isL.typeIs entry_list_setitem ?_ (args_list_setitem _ _ _)))))
  show wpAny _ _ (Builtin.List.listSubscript? (.ref sl) >>= _) _ _ s
  refine wpAny_bind ?_
  unfold Builtin.List.listSubscript?
  refine wpAny_bind (wpAny_specialOf isS slice_no_index ?_)
  simp only [Option.isNone_none, if_true]
  refine wpAny_pure ?_
  show wpAny _ _ (typeOf (.ref sl) >>= _) _ _ s
  refine wpAny_bind (wpAny_typeOf isS ?_)
  first
    | rw [if_neg (by decide)]
    | refine PySem.W.KFB.if_not (by decide) ?_
  rw [listSliceParts_eq]
  refine wpAny_bind (wpAny_bind (wpAny_field hos hds (x := .none) rfl (wpAny_bind (wpAny_listPart .none ?_))))
  rw [if_neg (show ¬ ((rawPart none == rawInt 0) = true) from Bool.false_ne_true)]
  refine wpAny_bind (wpAny_field hos hds (x := vl) rfl (wpAny_bind (wpAny_listPart pl (wpAny_bind (wpAny_field hos hds (x := vu) rfl (wpAny_bind (wpAny_listPart pu (wpAny_pure ?_))))))))
  first
    | simp only [notSame, Bool.false_eq_true, if_false]
    | refine PySem.W.KFB.if_not notSame ?_
  refine wpAny_bind (m := Builtin.List.listAllItems (.ref b) "must assign iterable to extended slice") ?_
  unfold Builtin.List.listAllItems
  refine wpAny_bind (wpAny_typeOf isB.typeIs ?_)
  first
    | refine PySem.W.KFB.if_so (by decide) ?_
    | rw [if_pos (by decide)]
    | simp only [beq_self_eq_true, Bool.true_or, if_true]
  unfold Builtin.List.listItems
  refine wpAny_bind (wpAny_seqItems e2 rfl (wpAny_pure (wpAny_bind (wpAny_bind (wpAny_seqItems e rfl (wpAny_pure ?_))))))
  refine wpAny_bind (wpAny_of_eq ((sliceIndices_raw lo hi none items.size (by simp)).trans (congrArg (pure : Int × Int × Int → Sem (Int × Int × Int)) hb)) ?_)
  show wpAny _ _ (if ((1 : Int) == 1) = true then _ else _) _ _ s
  rw [if_pos (by decide)]
  refine wpAny_bind (wpAny_rule ?_)
  first
    | simp only [notLongL hsz, Bool.false_eq_true, if_false]
    | refine PySem.W.KFB.if_not (notLongL hsz) ?_
  first | refine wpAny_bind (wpAny_pure ?_) | skip
  show wpAny _ _ (updateSeq l (fun xs => xs.extract 0 ((a : Int)).toNat ++ new ++ xs.extract (max (a : Int) (c : Int)).toNat xs.size) >>= _) _ _ s
  rw [topN, Int.toNat_natCast]
  refine wpAny_bind (wpAny_updateSeq (hz := Nat.le_trans (Nat.le_add_right _ _) hsz) (_hz' := fits) e rfl (wpAny_bind (wpAny_letGo ?_)))
  first
    | exact wpAny_bind (wpAny_pure (wpAny_pure ⟨.none, rfl, wpAny_pure h⟩))
    | exact wpAny_pure ⟨.none, rfl, wpAny_pure h⟩
end
theorem bounds_from (i : Int) (n k : Nat) (h : (if i < 0 then i + n else i) = (k : Int)) (hk : k ≤ n) : sliceBounds (some i) none none n = ((k : Int), (n : Int), 1) := by
  simp only [sliceBounds, Option.getD_none, show (1 : Int) > 0 by decide, if_true, h]
  congr 1
  omega
section
variable {X : Cx} {o lo : Expr} {to tl : AE} {pos p2 : Pos}
/-- xs[lo:] = ys -/
def agCut (to tl : AE) : AG := fun d τ S Q => to τ S fun x S1 => aPart tl τ S1 fun o S2 => ∃ i, o = some i ∧ ∃ (l : Addr) (ds : List AV) (k : Nat) (es : List AV), x = .ref l ∧ S2 l = some (.lst ds) ∧ wstA S2 d = some es ∧ d ≠ .ref l ∧ (if i < 0 then i + ds.length else i) = (k : Int) ∧ k ≤ ds.length ∧ ds.length + es.length ≤ sizeLine ∧
  Q τ (updS S2 l (.lst (ds.take k ++ es)))
theorem g_cut (ho : PE X o (low X.K to)) (hl : PE X lo (low X.K tl))
    (ha : ∀ v, assign (.Subscript o (.Slice (some lo) none none p2) pos) X.env v = (do
      let ov ← holding [v] (eval o X.env)
      let iv ← holding [v, ov] (eval (.Slice (some lo) none none p2) X.env)
      standAt pos
      holding [v, ov, iv] (setItem ov iv v)
      release [iv, v, ov] []) := by intro _; rfl) : PG X (.Subscript o (.Slice (some lo) none none p2) pos) (lowG X.K (agCut to tl)) := by
  refine ⟨fun pins s σ H v u QH I r h => ?_⟩
  obtain ⟨d, τ, S, Q, rd, R, so, q, k⟩ := h
  rw [ha]
  refine wpAny_bind (wpAny_holding (thn (ho.run pins s σ H (fun vo H1 => ∃ x S1, StOk X.K H1 S1 ∧ Step H S H1 S1 ∧ RelA X.K H1 S1 vo x ∧ aPart tl τ S1 fun o S2 => ∃ i, o = some i ∧ ∃ (l : Addr) (ds : List AV) (k : Nat) (es : List AV), x = .ref l ∧ S2 l = some (.lst ds) ∧ wstA S2 d = some es ∧ d ≠ .ref l ∧ (if i < 0 then i + ds.length else i) = (k : Int) ∧ k ≤ ds.length ∧
    ds.length + es.length ≤ sizeLine ∧ Q τ (updS S2 l (.lst (ds.take k ++ es)))) I ⟨τ, S, _, R, so, q, fun vo H1 x S1 so1 st1 r1 q1 => ⟨x, S1, so1, st1, r1, q1⟩⟩) fun ov s1 z => ?_))
  obtain ⟨vo, H1, I1, ro, x, S1, so1, st1, r1, q1⟩ := z
  refine wpAny_bind (wpAny_holding (wpAny_Slice ?_))
  have part : PO X (some lo) (lowP X.K (aPart tl)) := o_some hl
  refine thn (part.run pins s1 σ H1 (fun o H2 => ∃ i S2, o = some i ∧ StOk X.K H2 S2 ∧ Step H1 S1 H2 S2 ∧ ∃ (l : Addr) (ds : List AV) (k : Nat) (es : List AV), x = .ref l ∧ S2 l = some (.lst ds) ∧ wstA S2 d = some es ∧ d ≠ .ref l ∧ (if i < 0 then i + ds.length else i) = (k : Int) ∧ k ≤ ds.length ∧
    ds.length + es.length ≤ sizeLine ∧ Q τ (updS S2 l (.lst (ds.take k ++ es)))) I1 ⟨τ, S1, fun o S2 => ∃ i, o = some i ∧ ∃ (l : Addr) (ds : List AV) (k : Nat) (es : List AV), x = .ref l ∧ S2 l = some (.lst ds) ∧ wstA S2 d = some es ∧ d ≠ .ref l ∧ (if i < 0 then i + ds.length else i) = (k : Int) ∧ k ≤ ds.length ∧
    ds.length + es.length ≤ sizeLine ∧ Q τ (updS S2 l (.lst (ds.take k ++ es))), R.step st1, so1, q1, fun o H2 S2 so2 st2 ⟨i, e, z⟩ => ⟨i, S2, e, so2, st2, z⟩⟩) fun vl s2 z => ?_
  obtain ⟨o2, H2, I2, pl, i, S2, rfl, so2, st2, l, ds, kk, es, rfl, hs, hes, hne, hk, hkl, hz, q2⟩ := z
  refine thn (po_none.run pins s2 σ H2 (fun o G => o = none ∧ G = H2) I2 ⟨rfl, rfl⟩) fun vu s3 z => ?_
  obtain ⟨o3, H3, I3, pu, rfl, rfl⟩ := z
  rw [evalPart_none]
  refine wpAny_pure ?_
  have I4 : Inv X pins σ H3 { s3 with heap := s3.heap.push { cls := .type "slice", data := .fields #[vl, vu, .none] } } := I3.kept (t' := s3.toks) fun b ob q => Heap.get?_push_of_some _ q
  refine wpAny_bind (wpAny_standAt (wpAny_bind (wpAny_holding ?_)))
  have rd2 := (rd.step st1).step st2
  obtain ⟨b, ws, rfl, hb, rb⟩ := rel_wstE so2 rd2 hes
  obtain rfl := rel_refE r1
  obtain rfl : ov = .ref l := ro
  obtain rfl : u = .ref b := r
  obtain ⟨vs, hl0, rl⟩ := so2 l _ hs
  have hne' : l ≠ b := by
    rintro rfl
    cases rd2 with
    | lst h n _ => rw [hs] at n; cases n
    | tup h n _ => cases hes
    | ref _ => exact hne rfl
    | rol _ _ _ => cases hes
    | tupK _ _ => cases hes
    | rolK _ _ => cases hes
  obtain ⟨z1, its, n1, ri, hli, e1⟩ := I4.lstM hl0
  obtain ⟨z2, its2, n2, ri2, hli2, e2⟩ := I4.lstM hb
  have lv := rl.length
  have lw := rb.length
  have sz : its.toArray.size = ds.length := by rw [List.size_toArray, ← hli, lv]
  obtain ⟨so3, st3⟩ := mutL so2 hs ((rl.take kk).app rb)
  refine put_slice (a := kk) (c := ds.length) e1 e2 hne' (Heap.IsSliceOf.new ..) pl pu (by rw [sz]; exact bounds_from i ds.length kk hk hkl) hkl (by rw [sz]; exact Nat.le_refl _) (by rw [sz, List.size_toArray]; omega) (wpAny_release ?_)
  refine ⟨σ, upd H3 l (.lst (vs.take kk ++ ws)), I4.lset (its' := its.take kk ++ its2) (t' := s3.toks) hl0 e1 ?_ ((ri.take kk).append ri2) ?_, k _ _ _ _ so3 ((st1.trans st2).trans st3) (R.step ((st1.trans st2).trans st3)) q2⟩
  · show its.toArray.extract 0 kk ++ its2.toArray ++ its.toArray.extract ds.length its.toArray.size = (its.take kk ++ its2).toArray
    rw [splice_eq, ← sz, List.size_toArray, List.drop_length, List.append_nil]
  · rw [List.length_append, List.length_take]
    omega
end
end L3

set_option Elab.async false
set_option linter.all false
set_option maxRecDepth 100000
set_option maxHeartbeats 2000000
set_option autoImplicit false
/-! L3I: what a generated text leans on: defs of the top, constants, stored results. -/
namespace L3
open PySem L2 PyProof.Rows

/-- a def of the top as it stands -/
structure Def (K : PySem.W.Frag) (mg : Str → Option Value) (x : Str) (st : Stmt) (ps : List Str) : Prop where
  ex : ∃ (f : Addr) (fd : FuncData), L2.Fun K x x st f fd ∧ mg x = some (.ref f) ∧ Binds K fd ps []
theorem Def.of {K : PySem.W.Frag} {h : Heap} {mg : Str → Option Value} {x : Str} {st : Stmt} {ps : List Str} {f : Addr} {od an : Option Addr} {sl : Array (Option Value)} {oc kV doc pm cd ct : Value} (X : K.In h) (G : h.Ns mainGlobals mg)
    (a : PySem.W.nsIn K mainGlobals x = some (some (.ref f))) (l : K.lookup f = some ⟨oc, od, .func (PySem.W.fnOf x x (defArgs st) (defBody st) (defScope st) .none kV doc pm an cd ct), sl⟩) (c : PySem.W.codeIn K cd x = true) (k : PySem.W.keepIn K (.ref f) = true)
    (b : ∀ (kV doc pm : Value) (an : Option Addr) (cdv ct : Value) (us : List Value), us.length = ps.length → bindArgs (PySem.W.fnOf x x (defArgs st) (defBody st) (defScope st) .none kV doc pm an cdv ct) ⟨us, []⟩ = pure (ps.zip us)) : Def K mg x st ps :=
  ⟨f, _, fun_mk (st := st) l c k, PySem.W.mg_of X G a, (fun_mk (st := st) l c k).binds b⟩
/-- a def with its promise -/
structure FnX (P : Program) (w : World) (K : PySem.W.Frag) (mg : Str → Option Value) (base : Heap) (k : Nat) (x : Str) (st : Stmt) (ps : List Str) (asp : ASp) : Prop where
  ex : ∃ (f : Addr) (fd : FuncData), L2.Fun K x x st f fd ∧ FnG P w K mg base k f fd ps (spOf K asp) ∧ mg x = some (.ref f) ∧ Binds K fd ps []
section
variable {P : Program} {w : World} {K : PySem.W.Frag} {mg : Str → Option Value} {base : Heap} {k : Nat} {x : Str} {st : Stmt} {ps : List Str} {asp : ASp}
theorem FnX.f4 (F : FnX P w K mg base k x st ps asp) : Fn4 P w K mg base k x ps asp := let ⟨f, fd, G, h, hm, hb⟩ := F.ex; ⟨f, fd, h, hm, G.kp, hb⟩
theorem FnX.of (D : Def K mg x st ps) (h : ∀ f fd, L2.Fun K x x st f fd → FnG P w K mg base k f fd ps (spOf K asp)) : FnX P w K mg base k x st ps asp := let ⟨f, fd, G, hm, hb⟩ := D.ex; ⟨f, fd, G, h f fd G, hm, hb⟩
theorem FnX.kw (F : FnX P w K mg base k x st ps asp) (n : Nat) (ks : List Str) (g : {α : Type} → List α → List α → List α)
    (b : ∀ (kV doc pm : Value) (an : Option Addr) (cdv ct : Value) (us ws : List Value), us.length = n → ws.length = ks.length → bindArgs (PySem.W.fnOf x x (defArgs st) (defBody st) (defScope st) .none kV doc pm an cdv ct) ⟨us, ks.zip ws⟩ = pure (ps.zip (g us ws)))
    (vals : ∀ {vs : List V} {us : List Value} {zs : List V} {ws : List Value}, vs.length = n → zs.length = ks.length → Vals vs us → Vals zs ws → Vals (g vs zs) (g us ws))
    (rels : ∀ {H : Hp} {S : Store} {vs zs : List V} {ds es : List AV}, vs.length = n → zs.length = ks.length → RelAs K H S vs ds → RelAs K H S zs es → RelAs K H S (g vs zs) (g ds es)) : FnK P w K mg base k x ps asp n ks g := by
  obtain ⟨f, fd, F, G, hm, hb⟩ := F.ex
  have kp := F.kp
  obtain ⟨oc, od, kV, doc, pm, an, cdv, ct, osl, rfl, lk, hcd⟩ := F.ex
  exact ⟨⟨f, _, G, hm, kp, fun s us ws l1 l2 => .of_eq (b kV doc pm an cdv ct us ws l1 l2)⟩, vals, rels⟩
theorem fun_uniq {q : Str} {f : Addr} {fd fd' : FuncData} (F : L2.Fun K x q st f fd) (F' : L2.Fun K x q st f fd') : fd = fd' := by
  obtain ⟨oc, od, kV, doc, pm, an, cdv, ct, osl, e, lk, _⟩ := F.ex
  obtain ⟨oc', od', kV', doc', pm', an', cdv', ct', osl', e', lk', _⟩ := F'.ex
  rw [lk] at lk'
  have h := Option.some.inj lk'
  injection h with h1 h2 h3 h4
  injection h3
theorem FnX.law {fa : Addr} {pn : Str} (D : Def K mg x st [pn]) (hF : ∀ base, FnX P w K mg base k x st [pn] asp) (hmg : mg x = some (.ref fa))
    (b : ∀ (kV doc pm : Value) (an : Option Addr) (cdv ct : Value) (us : List Value), us.length = 1 → bindArgs (PySem.W.fnOf x x (defArgs st) (defBody st) (defScope st) .none kV doc pm an cdv ct) ⟨us, []⟩ = pure ([pn].zip us)) :
    ∃ fd : FuncData, (∀ (s : Shared) (u : Value), BindsTo s fd ⟨[u], []⟩ [(pn, u)]) ∧ ∀ base : Heap, K.In base → base.Ns mainGlobals mg → FnG P w K mg base k fa fd [pn] (spOf K asp) := by
  obtain ⟨f, fd, G, hm, hb⟩ := D.ex
  rw [hm] at hmg
  cases hmg
  refine ⟨fd, fun s u => ?_, fun base _ _ => ?_⟩
  · obtain ⟨oc, od, kV, doc, pm, an, cdv, ct, osl, rfl, lk, hcd⟩ := G.ex
    exact .of_eq (b kV doc pm an cdv ct [u] rfl)
  · obtain ⟨f', fd', G', h', hm', hb'⟩ := (hF base).ex
    rw [hm] at hm'
    cases hm'
    obtain rfl := fun_uniq G G'
    exact h'
/-- keywords alone, in the parameters' order -/
theorem FnX.kwAll (F : FnX P w K mg base k x st ps asp) (b : ∀ (kV doc pm : Value) (an : Option Addr) (cdv ct : Value) (us ws : List Value), us.length = 0 → ws.length = ps.length → bindArgs (PySem.W.fnOf x x (defArgs st) (defBody st) (defScope st) .none kV doc pm an cdv ct) ⟨us, ps.zip ws⟩ = pure (ps.zip ws)) :
    FnK P w K mg base k x ps asp 0 ps (fun _ zs => zs) := F.kw 0 ps (fun _ zs => zs) b (fun _ _ _ r => r) (fun _ _ _ r => r)
end
section
variable {X : Cx} {e a b c : Expr} {es : List Expr} {ta tb tc te : AE} {tt : AT} {t : AA} {pos p : Pos}
theorem e_gI {x : Str} {i : Int} (h : ∃ t, X.mg x = some (.int i t)) (hg : Gl X x := by rfl) (hd : (x == ("__debug__" : Str)) = false := by decide) : PE X (.Name x pos) (low X.K (aC (.int i))) := let ⟨t, h⟩ := h; e_gint h hg hd
theorem e_gS {x : Str} {i : Str} (h : ∃ t, X.mg x = some (.str i t)) (hg : Gl X x := by rfl) (hd : (x == ("__debug__" : Str)) = false := by decide) : PE X (.Name x pos) (low X.K (aC (.str i))) := let ⟨t, h⟩ := h; e_gstr h hg hd
theorem gI_of {K : PySem.W.Frag} {h : Heap} {mg : Str → Option Value} {x : Str} {i : Int} {t : Tok} (X : K.In h) (G : h.Ns mainGlobals mg) (a : PySem.W.nsIn K mainGlobals x = some (some (.int i t))) : ∃ t, mg x = some (.int i t) := ⟨t, PySem.W.mg_of X G a⟩
theorem gS_of {K : PySem.W.Frag} {h : Heap} {mg : Str → Option Value} {x : Str} {i : Str} {t : Tok} (X : K.In h) (G : h.Ns mainGlobals mg) (a : PySem.W.nsIn K mainGlobals x = some (some (.str i t))) : ∃ t, mg x = some (.str i t) := ⟨t, PySem.W.mg_of X G a⟩
/-- a loose whole number of the top -/
theorem gI_loose {p : Program} {lv : List (Str × PySem.W.WData)} {mg : Str → Option Value} {h : Heap} {x : Str} {i : Int} (hX : PySem.W.XL p lv mg h) (hm : (x, PySem.W.WData.int i) ∈ lv) : ∃ t, mg x = some (.int i t) := by
  obtain ⟨v, a, b⟩ := hX.2.val _ hm
  cases b
  exact ⟨_, a⟩
/-- xs + ys as a stored list -/
def aAddS (ta tb : AE) : AE := fun τ S Q => ta τ S fun x S1 => tb τ S1 fun y S2 => ∃ xs ys, wstA S2 x = some xs ∧ wstA S2 y = some ys ∧ xs.length + ys.length ≤ sizeLine ∧ ∀ l, S2 l = none → Q (.ref l) (updS S2 l (.lst (xs ++ ys)))
theorem putL {K : PySem.W.Frag} {H : Hp} {S : Store} {l : Addr} {ds : List AV} {vs : List V} (so : StOk K H S) (h : H l = none) (r : RelAs K H S vs ds) : StOk K (upd H l (.lst vs)) (updS S l (.lst ds)) ∧ Step H S (upd H l (.lst vs)) (updS S l (.lst ds)) := by
  have st := step_put (o := .lst vs) (u := .lst ds) so h
  exact ⟨stok_put (u := .lst ds) so h ⟨vs, upd_same, r.step st⟩, st⟩
theorem e_addS (ha : PE X a (low X.K ta)) (hb : PE X b (low X.K tb)) : PE X (.BinOp a .Add b pos) (low X.K (aAddS ta tb)) := (pe_op op_cat ha hb).weak fun σ H QH ⟨τ, S, Q, R, so, q, k⟩ =>
  ⟨τ, S, _, R, so, q, fun v H1 d S1 so1 st1 r1 q1 => ⟨τ, S1, _, R.step st1, so1, q1, fun w H2 e S2 so2 st2 r2 ⟨xs, ys, ex, ey, hz, q2⟩ => by
    obtain ⟨a, vs, rfl, ha, ra⟩ := rel_wstE so2 (r1.step st2) ex
    obtain ⟨b, ws, rfl, hb, rb⟩ := rel_wstE so2 r2 ey
    refine ⟨a, b, vs, ws, rfl, rfl, ha, hb, by rw [ra.length, rb.length]; exact hz, fun l hl => ?_⟩
    obtain ⟨so3, st3⟩ := putL so2 hl (ra.app rb)
    exact k _ _ _ _ so3 ((st1.trans st2).trans st3) (.ref l) (q2 l (so2.fresh hl))⟩⟩
/-- a comprehension's list as a stored one -/
def aLcS (ai : AI) (j : Nat) (tt : AT) (te : AE) (vs : List Nat) : AE := fun τ S Q => ai τ S fun xs G S1 => ∀ D, S1 D = none → ∃ I : Nat → List AV → Store → Prop, I 0 [] (updS S1 D .hid) ∧
  (∀ (i : Nat) x acc S2, xs[i]? = some x → I i acc S2 → G S2 ∧ tt ((wipeA τ vs).set j (some x)) S2 fun b S3 => if b = true then te ((wipeA τ vs).set j (some x)) S3 fun y S4 => acc.length < sizeLine ∧ I (i + 1) (acc ++ [y]) S4 else I (i + 1) acc S3) ∧
  (∀ acc S2, I xs.length acc S2 → G S2 ∧ Q (.ref D) (updS S2 D (.lst acc)))
theorem lcS_low {K : PySem.W.Frag} {ai : AI} {tt : AT} {te : AE} {vs : List Nat} {j : Nat} (hj : j ∈ vs) : ∀ σ H QH, low K (aLcS ai j tt te vs) σ H QH → tLc (lowI K ai) (gName j) (lowT K tt) (low K te) vs σ H QH := by
  intro σ H QH ⟨τ, S, Q, R, so, q, k⟩
  refine ⟨τ, S, _, R, so, q, fun J H1 xs G S1 so1 st1 it hI D hD => ?_⟩
  obtain ⟨I, i0, hstep, hend⟩ := hI D (so1.fresh hD)
  have nD : S1 D = none := so1.fresh hD
  have stD : Step H1 S1 (upd H1 D (.lst [])) (updS S1 D .hid) := step_put so1 hD
  have soD : StOk K (upd H1 D (.lst [])) (updS S1 D .hid) := stok_put (u := .hid) so1 hD ⟨_, upd_same⟩
  refine ⟨fun i m H' => ∃ acc S2 ws, I i acc S2 ∧ i + m = xs.length ∧ StOk K H' S2 ∧ S2 D = some .hid ∧ H' D = some (.lst ws) ∧ RelAs K H' S2 ws acc ∧
    (∀ a o, a ≠ D → S1 a = none → H1 a = some o → H' a = some o ∧ S2 a = none) ∧ (∀ a, S1 a = some .hid → H' a = H1 a ∧ S2 a = some .hid), ⟨xs.length, [], _, [], i0, by omega, soD, updS_same, upd_same, .nil, fun a o _ n h => stD.old a o n h, fun a h => stD.hid a h⟩, ?_⟩
  intro i m H2 ⟨acc, S2, ws, w2, hm, so2, hh2, hD2, r2, old2, hid2⟩
  have st2 : Step H1 S1 H2 S2 := ⟨fun a o n h => old2 a o (ne_of_none h hD) n h, hid2⟩
  by_cases hi : i < xs.length
  · right
    have hx : xs[i]? = some xs[i] := List.getElem?_eq_getElem hi
    obtain ⟨hG, hq⟩ := hstep i _ acc S2 hx w2
    obtain ⟨hgo, hy⟩ := (it H2 S2 so2 st2 hG).1 i _ hx
    refine ⟨hgo, _, fun H' h => h, fun v H3 hv => ?_⟩
    obtain ⟨so3, st3, r3⟩ := hy v H3 hv
    refine ⟨by rw [wipe_set hj]; exact wipe_wipe σ vs vs fun _ h => h, ?_⟩
    have R3 : Rp K H3 S2 ((L2.wipe σ vs).set j (some v)) ((wipeA τ vs).set j (some xs[i])) := (((R.step st1).step st2).step st3).wipe vs |>.set r3 j
    have keep : ∀ {H4 : Hp} {S4 : Store}, Step H2 S2 H4 S4 → H4 D = some (.lst ws) ∧ S4 D = some .hid ∧ RelAs K H4 S4 ws acc ∧ (∀ a o, a ≠ D → S1 a = none → H1 a = some o → H4 a = some o ∧ S4 a = none) ∧ (∀ a, S1 a = some .hid → H4 a = H1 a ∧ S4 a = some .hid) := by
      intro H4 S4 st
      obtain ⟨e1, e2⟩ := st.hid D hh2
      exact ⟨e1.trans hD2, e2, r2.step st, fun a o ne n h => let ⟨h1, n1⟩ := old2 a o ne n h; st.old a o n1 h1, fun a h => let ⟨h1, n1⟩ := hid2 a h; let ⟨h3, n3⟩ := st.hid a n1; ⟨h3.trans h1, n3⟩⟩
    refine ⟨_, S2, _, R3, so3, hq, fun b H4 S4 so4 st4 q4 => ?_⟩
    cases b with
    | false =>
      rw [if_neg Bool.false_ne_true] at q4 ⊢
      obtain ⟨e1, e2, e3, e4, e5⟩ := keep (st3.trans st4)
      exact ⟨m - 1, by omega, acc, S4, ws, q4, by omega, so4, e2, e1, e3, e4, e5⟩
    | true =>
      rw [if_pos rfl] at q4 ⊢
      refine ⟨_, S4, _, R3.step st4, so4, q4, fun y H5 dy S5 so5 st5 r5 ⟨hz, w5⟩ => ?_⟩
      obtain ⟨e1, e2, e3, e4, e5⟩ := keep ((st3.trans st4).trans st5)
      refine ⟨ws, e1, by rw [r2.length]; exact hz, m - 1, by omega, acc ++ [dy], S5, ws ++ [y], w5, by omega, ?_⟩
      have grow : Old H5 S5 (upd H5 D (.lst (ws ++ [y]))) S5 := fun a o n h => by
        have ne : a ≠ D := by rintro rfl; rw [e2] at n; cases n
        exact ⟨by rw [upd_ne ne]; exact h, n⟩
      refine ⟨fun a o e => ?_, e2, upd_same, (e3.app (.cons r5 .nil)).stepO grow, fun a o ne n h => by rw [upd_ne ne]; exact e4 a o ne n h, fun a h => ?_⟩
      · by_cases z : a = D
        · subst z
          rw [e2] at e
          cases e
          exact ⟨_, upd_same⟩
        · exact (so5 a o e).stepO grow (upd_ne z)
      · have z : a ≠ D := by rintro rfl; rw [nD] at h; cases h
        rw [upd_ne z]
        exact e5 a h
  · left
    have e : i = xs.length := by omega
    subst e
    obtain ⟨hG, hq⟩ := hend acc S2 w2
    have more : Old H2 S2 H2 (updS S2 D (.lst acc)) := fun a o n h => ⟨h, by
      have ne : a ≠ D := by rintro rfl; rw [hh2] at n; cases n
      rw [updS_ne ne]
      exact n⟩
    refine ⟨(it H2 S2 so2 st2 hG).2, k _ H2 _ (updS S2 D (.lst acc)) (fun a o e => ?_) (st1.trans ⟨fun a o n h => ?_, fun a h => ?_⟩) (.ref D) hq⟩
    · by_cases z : a = D
      · subst z
        rw [updS_same] at e
        cases e
        exact ⟨ws, hD2, r2.stepO more⟩
      · rw [updS_ne z] at e
        exact (so2 a o e).stepO more rfl
    · obtain ⟨h1, n1⟩ := st2.old a o n h
      exact ⟨h1, (more a o n1 h1).2⟩
    · obtain ⟨h1, n1⟩ := st2.hid a h
      have ne : a ≠ D := by rintro rfl; rw [nD] at h; cases h
      exact ⟨h1, by rw [updS_ne ne]; exact n1⟩
section
variable {elt tg iter : Expr} {ifs : List Expr} {scope : Scope} {own : List (Str × Nat)} {spos : Pos} {ai : AI} {j : Nat}
theorem s_setLcS {y : Str} {py : Pos} (i : Nat) (j : Nat) (own : List (Str × Nat)) (hc : X.calm = true) (hN : X.N.Nodup) (hi : PI X tg iter (lowI X.K ai)) (ok : BlkOk X.N X.env.scope scope own)
    (hg : ∀ (s : Shared) (H : Hp) (C : Addr) (cl : List (Str × Addr)) (fp : List Addr), PG (X.blk s H scope (compEnvC scope cl C X.env) fp) tg (gName j))
    (ht : ∀ (s : Shared) (H : Hp) (C : Addr) (cl : List (Str × Addr)) (fp : List Addr), PTs (X.blk s H scope (compEnvC scope cl C X.env) fp) ifs (lowT X.K tt))
    (he : ∀ (s : Shared) (H : Hp) (C : Addr) (cl : List (Str × Addr)) (fp : List Addr), PE (X.blk s H scope (compEnvC scope cl C X.env) fp) elt (low X.K te))
    (hsw : swapsWith (.ListComp elt [⟨tg, iter, ifs, 0⟩] scope pos) (some (.Name y py)) spos.line X.env = pure true := by exact sw_true rfl rfl rfl (by decide +kernel))
    (hy : X.N[i]? = some y := by rfl) (hyl : X.env.scope.names.lookup y = some .local := by rfl)
    (hj : j ∈ own.map (·.2) := by decide) (hs : ∀ x, foldedSetIterable iter X.env x = pure x := by intro _; rfl) : PS X (.Assign [.Name y py] (.ListComp elt [⟨tg, iter, ifs, 0⟩] scope pos) spos) (lowS X.K (aAsg (aLcS ai j tt te (own.map (·.2))) (agName i))) :=
  (ps_setLc (own := own) hc hN hy hyl hsw hi ok hg ht he hs).weak fun D σ H ⟨τ, S, DA, R, so, q, k⟩ => lcS_low hj σ H _ ⟨τ, S, _, R, so, q, fun v H' d S' so' st' r' q' => k.nx _ H' _ S' so' st' ((R.step st').set r' i) q'⟩
end
end
end L3

set_option Elab.async false
set_option linter.all false
set_option maxRecDepth 100000
set_option maxHeartbeats 1000000
set_option autoImplicit false
/-! L3J: one tactic that reads readings. -/
namespace L3
open PySem L2
theorem aVar_z {d : AV} {τ : ASt} {S : Store} {Q : AK} : aVar 0 (some d :: τ) S Q = Q d S :=
  propext ⟨fun ⟨e, h, q⟩ => by cases h; exact q, fun q => ⟨d, rfl, q⟩⟩
theorem aVar_s {i : Nat} {o : Option AV} {τ : ASt} {S : Store} {Q : AK} : aVar (i + 1) (o :: τ) S Q = aVar i τ S Q := rfl
theorem aAug_z {ar : AV → AV → Store → Ans} {i : Nat} {ta : AE} {D : AEnds} {τ : ASt} {S : Store} {x : AV} (h : τ[i]? = some (some x)) :
    aAug ar i ta D τ S = ta τ S fun y S1 => (ar x y S1).ok ∧ D.nx (τ.set i (some (ar x y S1).v)) S1 :=
  propext ⟨fun ⟨e, h', q⟩ => by rw [h] at h'; cases h'; exact q, fun q => ⟨x, h, q⟩⟩
theorem ex_bl {b : Bool} {P : Bool → Prop} : (∃ k, AV.bl b = .bl k ∧ P k) = P b := propext ⟨fun ⟨k, e, p⟩ => by cases e; exact p, fun p => ⟨b, rfl, p⟩⟩
theorem ex_int {b : Int} {P : Int → Prop} : (∃ k, AV.int b = .int k ∧ P k) = P b := propext ⟨fun ⟨k, e, p⟩ => by cases e; exact p, fun p => ⟨b, rfl, p⟩⟩
theorem ex_str {b : Str} {P : Str → Prop} : (∃ k, AV.str b = .str k ∧ P k) = P b := propext ⟨fun ⟨k, e, p⟩ => by cases e; exact p, fun p => ⟨b, rfl, p⟩⟩
theorem ex_tup {b : List AV} {P : List AV → Prop} : (∃ k, AV.tup b = .tup k ∧ P k) = P b := propext ⟨fun ⟨k, e, p⟩ => by cases e; exact p, fun p => ⟨b, rfl, p⟩⟩
theorem ex_eq {α : Type} {b : α} {P : α → Prop} : (∃ k, b = k ∧ P k) = P b := propext ⟨fun ⟨k, e, p⟩ => by cases e; exact p, fun p => ⟨b, rfl, p⟩⟩
theorem ex_cons {x : AV} {xs : List AV} {P : AV → List AV → Prop} : (∃ d es, x :: xs = d :: es ∧ P d es) = P x xs := propext ⟨fun ⟨d, es, e, p⟩ => by cases e; exact p, fun p => ⟨x, xs, rfl, p⟩⟩
theorem ex_pair {x y : AV} {P : AV → AV → Prop} : (∃ a b, [x, y] = [a, b] ∧ P a b) = P x y := propext ⟨fun ⟨d, es, e, p⟩ => by cases e; exact p, fun p => ⟨x, y, rfl, p⟩⟩
theorem ex_one1 {x : AV} {P : AV → Prop} : (∃ a, [x] = [a] ∧ P a) = P x := propext ⟨fun ⟨d, e, p⟩ => by cases e; exact p, fun p => ⟨x, rfl, p⟩⟩
theorem ex_one_int {x : Int} {P : Int → Prop} : (∃ a, [AV.int x] = [.int a] ∧ P a) = P x := propext ⟨fun ⟨d, e, p⟩ => by cases e; exact p, fun p => ⟨x, rfl, p⟩⟩
theorem not_tt {P Q : Prop} : (if (!true) = true then P else Q) = Q := rfl
theorem and_tt {P : Prop} : (True ∧ P) = P := propext ⟨fun h => h.2, fun h => ⟨trivial, h⟩⟩
theorem if_tt {P Q : Prop} : (if true = true then P else Q) = P := rfl
theorem if_ff {P Q : Prop} : (if false = true then P else Q) = Q := rfl
theorem if_true_eq {P : Prop} : (True → P) = P := propext ⟨fun h => h trivial, fun h _ => h⟩
theorem eqA_ii {i j : Int} {S : Store} : eqA (.int i) (.int j) S = ⟨True, .bl (decide (i = j))⟩ := rfl
theorem eqA_ss {i j : Str} {S : Store} : eqA (.str i) (.str j) S = ⟨True, .bl (decide (i = j))⟩ := rfl
theorem neA_ii {i j : Int} {S : Store} : neA (.int i) (.int j) S = ⟨True, .bl (!decide (i = j))⟩ := rfl
theorem neA_ss {i j : Str} {S : Store} : neA (.str i) (.str j) S = ⟨True, .bl (!decide (i = j))⟩ := rfl
theorem ltA_ii {i j : Int} {S : Store} : ltA (.int i) (.int j) S = ⟨True, .bl (decide (i < j))⟩ := rfl
theorem ltA_ss {i j : Str} {S : Store} : ltA (.str i) (.str j) S = ⟨True, .bl (decide (i.cps.toList < j.cps.toList))⟩ := rfl
theorem leA_ii {i j : Int} {S : Store} : leA (.int i) (.int j) S = ⟨True, .bl (decide (i ≤ j))⟩ := rfl
theorem leA_ss {i j : Str} {S : Store} : leA (.str i) (.str j) S = ⟨True, .bl (!decide (j.cps.toList < i.cps.toList))⟩ := rfl
theorem gtA_ii {i j : Int} {S : Store} : gtA (.int i) (.int j) S = ⟨True, .bl (decide (j < i))⟩ := rfl
theorem gtA_ss {i j : Str} {S : Store} : gtA (.str i) (.str j) S = ⟨True, .bl (decide (j.cps.toList < i.cps.toList))⟩ := rfl
theorem geA_ii {i j : Int} {S : Store} : geA (.int i) (.int j) S = ⟨True, .bl (decide (j ≤ i))⟩ := rfl
theorem geA_ss {i j : Str} {S : Store} : geA (.str i) (.str j) S = ⟨True, .bl (!decide (i.cps.toList < j.cps.toList))⟩ := rfl
theorem subA_ii {i j : Int} {S : Store} : subA (.int i) (.int j) S = ⟨True, .int (i - j)⟩ := rfl
theorem mulA_ii {i j : Int} {S : Store} : mulA (.int i) (.int j) S = ⟨CMulB i j, .int (i * j)⟩ := rfl
theorem modA_ii {i j : Int} {S : Store} : modA (.int i) (.int j) S = ⟨0 < j, .int (i % j)⟩ := rfl
theorem fdivA_ii {i j : Int} {S : Store} : fdivA (.int i) (.int j) S = ⟨CDivW i j, .int (i / j)⟩ := rfl
theorem powA_ii {i j : Int} {S : Store} : powA (.int i) (.int j) S = ⟨CPowB i j, .int (i ^ j.toNat)⟩ := rfl
theorem addA_ii {i j : Int} {S : Store} : addA (.int i) (.int j) S = ⟨True, .int (i + j)⟩ := rfl
theorem addA_ss {i j : Str} {S : Store} : addA (.str i) (.str j) S = ⟨i.length + j.length ≤ sizeLine, .str (i ++ j)⟩ := rfl
theorem addA_tt {i j : List AV} {S : Store} : addA (.tup i) (.tup j) S = ⟨i.length + j.length ≤ sizeLine, .tup (i ++ j)⟩ := rfl
theorem addA_ll {i j : List AV} {S : Store} : addA (.lst i) (.lst j) S = ⟨i.length + j.length ≤ sizeLine, .lst (i ++ j)⟩ := rfl
theorem intA_ii {C : Int → Int → Prop} {g : Int → Int → Int} {i j : Int} {S : Store} : intA C g (.int i) (.int j) S = ⟨C i j, .int (g i j)⟩ := rfl
theorem int2A_ii {g : Int → Int → Int} {i j : Int} {S : Store} : int2A g (.int i) (.int j) S = ⟨True, .int (g i j)⟩ := rfl
theorem negA_i {i : Int} {S : Store} : negA (.int i) S = ⟨True, .int (-i)⟩ := rfl
theorem absA_i {i : Int} {S : Store} : absA (.int i) S = ⟨True, .int (if i < 0 then -i else i)⟩ := rfl
theorem toIntA_i {i : Int} {S : Store} : toIntA (.int i) S = ⟨True, .int i⟩ := rfl
theorem toIntA_b {i : Bool} {S : Store} : toIntA (.bl i) S = ⟨True, .int (if i then 1 else 0)⟩ := rfl
theorem seqv {d : AV} {S : Store} (h : flatA d = true) : derefA S d = d := by
  cases d <;> first | rfl | (cases h; done)
theorem eqA_s {d : AV} {S : Store} {w : Str} (h : flatA d = true) (hs : SeqAt.shaped (toD d) = true) (hw : SeqAt.shaped (.str w) = true) : (eqA d (.str w) S).ok ∧ (eqA d (.str w) S).v = .bl (match d with | .str z => decide (z = w) | _ => false) := by
  have hd : okD S d := ⟨by rw [seqv h]; exact h, by unfold datA; rw [seqv h]; exact hs⟩
  have hk : okD S (.str w) := ⟨rfl, hw⟩
  have e : datA S d = toD d := by unfold datA; rw [seqv h]
  cases d with
  | str z => exact ⟨trivial, rfl⟩
  | ref _ => cases h
  | ty _ => cases h
  | non => exact ⟨⟨hd, hk⟩, by show AV.bl (PyData.eqv (toD .non) (.str w)) = _; rw [show PyData.eqv (toD .non) (.str w) = false by unfold toD PyData.eqv; rfl]⟩
  | bl b => exact ⟨⟨hd, hk⟩, by show AV.bl (PyData.eqv (toD (.bl b)) (.str w)) = _; rw [show PyData.eqv (toD (.bl b)) (.str w) = false by unfold toD PyData.eqv; rfl]⟩
  | int b => exact ⟨⟨hd, hk⟩, by show AV.bl (PyData.eqv (toD (.int b)) (.str w)) = _; rw [show PyData.eqv (toD (.int b)) (.str w) = false by unfold toD PyData.eqv; rfl]⟩
  | tup b => exact ⟨⟨hd, hk⟩, by show AV.bl (PyData.eqv (toD (.tup b)) (.str w)) = _; rw [show PyData.eqv (toD (.tup b)) (.str w) = false by unfold toD PyData.eqv; rfl]⟩
  | lst b => exact ⟨⟨hd, hk⟩, by show AV.bl (PyData.eqv (toD (.lst b)) (.str w)) = _; rw [show PyData.eqv (toD (.lst b)) (.str w) = false by unfold toD PyData.eqv; rfl]⟩
  | rol b => exact ⟨⟨hd, hk⟩, by show AV.bl (PyData.eqv (toD (.rol b)) (.str w)) = _; rw [show PyData.eqv (toD (.rol b)) (.str w) = false by unfold toD PyData.eqv; rfl]⟩
/-- a choice by a Bool -/
def bc (b : Bool) (P Q : Prop) : Prop := match b with
  | true => P
  | false => Q
theorem ite_bc {b : Bool} {i : Decidable (b = true)} {P Q : Prop} : (@ite Prop (b = true) i P Q) = bc b P Q := by
  cases b with
  | true => exact if_pos rfl
  | false => exact if_neg Bool.false_ne_true
theorem bc_t {P Q : Prop} : bc true P Q = P := rfl
theorem bc_f {P Q : Prop} : bc false P Q = Q := rfl
theorem isiA_non  {n : String} {S : Store} : isiA (.non) (.ty n) S = ⟨(["NoneType", "bool", "int", "str", "tuple", "list", "dict"].contains "NoneType" && ["bool", "int", "str", "tuple", "list", "dict"].contains n) = true, .bl (isiB "NoneType" n)⟩ := rfl
theorem isiA_bl {b : Bool} {n : String} {S : Store} : isiA (.bl b) (.ty n) S = ⟨(["NoneType", "bool", "int", "str", "tuple", "list", "dict"].contains "bool" && ["bool", "int", "str", "tuple", "list", "dict"].contains n) = true, .bl (isiB "bool" n)⟩ := rfl
theorem isiA_int {b : Int} {n : String} {S : Store} : isiA (.int b) (.ty n) S = ⟨(["NoneType", "bool", "int", "str", "tuple", "list", "dict"].contains "int" && ["bool", "int", "str", "tuple", "list", "dict"].contains n) = true, .bl (isiB "int" n)⟩ := rfl
theorem isiA_str {b : Str} {n : String} {S : Store} : isiA (.str b) (.ty n) S = ⟨(["NoneType", "bool", "int", "str", "tuple", "list", "dict"].contains "str" && ["bool", "int", "str", "tuple", "list", "dict"].contains n) = true, .bl (isiB "str" n)⟩ := rfl
theorem isiA_tup {b : List AV} {n : String} {S : Store} : isiA (.tup b) (.ty n) S = ⟨(["NoneType", "bool", "int", "str", "tuple", "list", "dict"].contains "tuple" && ["bool", "int", "str", "tuple", "list", "dict"].contains n) = true, .bl (isiB "tuple" n)⟩ := rfl
theorem isiA_lst {b : List AV} {n : String} {S : Store} : isiA (.lst b) (.ty n) S = ⟨(["NoneType", "bool", "int", "str", "tuple", "list", "dict"].contains "list" && ["bool", "int", "str", "tuple", "list", "dict"].contains n) = true, .bl (isiB "list" n)⟩ := rfl
theorem isiA_rol {b : List AV} {n : String} {S : Store} : isiA (.rol b) (.ty n) S = ⟨(["NoneType", "bool", "int", "str", "tuple", "list", "dict"].contains "list" && ["bool", "int", "str", "tuple", "list", "dict"].contains n) = true, .bl (isiB "list" n)⟩ := rfl
theorem lenA_str {b : Str} {S : Store} : lenA (.str b) S = ⟨b.length ≤ sizeLine, .int b.length⟩ := rfl
theorem lenA_tup {b : List AV} {S : Store} : lenA (.tup b) S = ⟨True, .int b.length⟩ := rfl
theorem lenA_lst {b : List AV} {S : Store} : lenA (.lst b) S = ⟨True, .int b.length⟩ := rfl
theorem lenA_rol {b : List AV} {S : Store} : lenA (.rol b) S = ⟨True, .int b.length⟩ := rfl
theorem lenA_ref {l : Addr} {b : List AV} {S : Store} (h : S l = some (.lst b)) : lenA (.ref l) S = ⟨True, .int b.length⟩ := by
  show (match lstA S (.ref l) with | some xs => (⟨True, .int xs.length⟩ : Ans) | none => badA) = _
  rw [lstA_ref h]
theorem truA_bl {b : Bool} {S : Store} : truA S (.bl b) = b := rfl
theorem truOk_bl {b : Bool} {S : Store} : truOk S (.bl b) = True := rfl
theorem truA_int {b : Int} {S : Store} : truA S (.int b) = (b != 0) := rfl
theorem truOk_int {b : Int} {S : Store} : truOk S (.int b) = True := rfl
theorem truA_lst {b : List AV} {S : Store} : truA S (.lst b) = !b.isEmpty := rfl
theorem truOk_lst {b : List AV} {S : Store} : truOk S (.lst b) = True := rfl
theorem truA_tup {b : List AV} {S : Store} : truA S (.tup b) = !b.isEmpty := rfl
theorem truOk_tup {b : List AV} {S : Store} : truOk S (.tup b) = True := rfl
theorem truA_ref {l : Addr} {b : List AV} {S : Store} (h : S l = some (.lst b)) : truA S (.ref l) = !b.isEmpty := by
  show (match S l with | some (.lst xs) => !xs.isEmpty | some (.dK xs) => !xs.isEmpty | _ => false) = _
  rw [h]
theorem truOk_ref {l : Addr} {b : List AV} {S : Store} (h : S l = some (.lst b)) : truOk S (.ref l) = True := by
  show (match S l with | some (.lst xs) => True | some (.dK xs) => True | _ => False) = _
  rw [h]
theorem truA_refU {l : Addr} {b : List AV} {S : Store} : truA (updS S l (.lst b)) (.ref l) = !b.isEmpty := truA_ref updS_same
theorem truOk_refU {l : Addr} {b : List AV} {S : Store} : truOk (updS S l (.lst b)) (.ref l) = True := truOk_ref updS_same
theorem ans_tt {p : Prop} {v w : AV} (h : p) (e : v = w) : (⟨p, v⟩ : Ans) = ⟨True, w⟩ := by subst e; rw [eq_true h]
def isTup : AV → Bool
  | .tup _ => true
  | _ => false
theorem isi_T {d : AV} {S : Store} (h : flatA d = true) : isiA d (.ty "tuple") S = ⟨True, .bl (isTup d)⟩ := by
  cases d <;> first | (cases h; done) | skip
  all_goals (simp only [isiA_non, isiA_bl, isiA_int, isiA_str, isiA_tup, isiA_lst, isiA_rol, isTup]; exact ans_tt (by decide +kernel) (congrArg AV.bl (by decide +kernel)))
theorem isi_S {d : AV} {S : Store} (h : flatA d = true) : isiA d (.ty "str") S = ⟨True, .bl (isStrA d)⟩ := by
  cases d <;> first | (cases h; done) | skip
  all_goals (simp only [isiA_non, isiA_bl, isiA_int, isiA_str, isiA_tup, isiA_lst, isiA_rol, isStrA]; exact ans_tt (by decide +kernel) (congrArg AV.bl (by decide +kernel)))
/-- a comprehension over a text's signs -/
theorem lc_sg {i j : Nat} {te : AE} {vs : List Nat} {τ : ASt} {S : Store} {Q : AK} {z : Str} (f : Nat → Bool) (hz : τ[i]? = some (some (.str z))) (hl : z.length ≤ sizeLine)
    (hte : ∀ c S2 (Qe : AK), c ∈ z.cps.toList → Qe (.bl (f c)) S2 → te ((wipeA τ vs).set j (some (.str ⟨#[c]⟩))) S2 Qe) (q : Q (.lst (z.cps.toList.map fun c => .bl (f c))) S) : aLc (aiStr (aVar i)) j aYes te vs τ S Q := by
  refine lc_map ⟨_, hz, z, rfl, ?_, ?_⟩ fun Q1 Q2 h ⟨d, e, x, e2, q1⟩ => ⟨d, e, x, e2, h _ _ _ q1⟩
  · unfold signsA; rw [List.length_map, Array.length_toList]; exact hl
  refine ⟨fun x => match x with | .str y => .bl (f (y.cps.toList.headD 0)) | x => x, fun _ _ => trivial, trivial, fun k x S2 hx => ?_, ?_⟩
  · have hm := List.mem_of_getElem? hx
    obtain ⟨c, hc, rfl⟩ := List.mem_map.mp hm
    exact ⟨fun Qb h => h, fun Qe h => hte c S2 Qe hc h⟩
  · have e : (signsA z).map (fun x : AV => match x with | .str y => AV.bl (f (y.cps.toList.headD 0)) | x => x) = z.cps.toList.map fun c => .bl (f c) := by
      unfold signsA
      rw [List.map_map]
      rfl
    rw [e]
    exact q
theorem lc_sg' {ta : AE} {j : Nat} {te : AE} {vs : List Nat} {τ : ASt} {S : Store} {Q : AK} {z : Str} (f : Nat → Bool) (hz : ∀ Q', Q' (.str z) S → ta τ S Q') (hm : ∀ (Q1 Q2 : AK), (∀ x S1, Q1 x S1 → Q2 x S1) → ta τ S Q1 → ta τ S Q2) (hl : z.length ≤ sizeLine)
    (hte : ∀ c S2 (Qe : AK), c ∈ z.cps.toList → Qe (.bl (f c)) S2 → te ((wipeA τ vs).set j (some (.str ⟨#[c]⟩))) S2 Qe) (q : Q (.lst (z.cps.toList.map fun c => .bl (f c))) S) : aLc (aiStr ta) j aYes te vs τ S Q := by
  refine lc_map (hz _ ⟨z, rfl, ?_, ?_⟩) fun Q1 Q2 h h1 => hm _ _ (fun x S1 ⟨y, e, q1⟩ => ⟨y, e, h _ _ _ q1⟩) h1
  · unfold signsA; rw [List.length_map, Array.length_toList]; exact hl
  refine ⟨fun x => match x with | .str y => .bl (f (y.cps.toList.headD 0)) | x => x, fun _ _ => trivial, trivial, fun k x S2 hx => ?_, ?_⟩
  · have hm := List.mem_of_getElem? hx
    obtain ⟨c, hc, rfl⟩ := List.mem_map.mp hm
    exact ⟨fun Qb h => h, fun Qe h => hte c S2 Qe hc h⟩
  · have e : (signsA z).map (fun x : AV => match x with | .str y => AV.bl (f (y.cps.toList.headD 0)) | x => x) = z.cps.toList.map fun c => .bl (f c) := by
      unfold signsA
      rw [List.map_map]
      rfl
    rw [e]
    exact q
/-- a comprehension over a tuple of a variable -/
theorem lc_tp {i j : Nat} {te : AE} {vs : List Nat} {τ : ASt} {S : Store} {Q : AK} {xs : List AV} (f : AV → AV) (hz : τ[i]? = some (some (.tup xs))) (hl : xs.length ≤ sizeLine)
    (hte : ∀ x S2 (Qe : AK), x ∈ xs → Qe (f x) S2 → te ((wipeA τ vs).set j (some x)) S2 Qe) (q : Q (.lst (xs.map f)) S) : aLc (aiTup (aVar i)) j aYes te vs τ S Q := by
  refine lc_map ⟨_, hz, xs, rfl, hl, f, fun _ _ => trivial, trivial, fun k x S2 hx => ?_, q⟩ fun Q1 Q2 h ⟨d, e, x, e2, q1⟩ => ⟨d, e, x, e2, h _ _ _ q1⟩
  exact ⟨fun Qb h => h, fun Qe h => hte x S2 Qe (List.mem_of_getElem? hx) h⟩
theorem lc_tp' {ta : AE} {j : Nat} {te : AE} {vs : List Nat} {τ : ASt} {S : Store} {Q : AK} {xs : List AV} (f : AV → AV) (hz : ∀ Q', Q' (.tup xs) S → ta τ S Q') (hm : ∀ (Q1 Q2 : AK), (∀ x S1, Q1 x S1 → Q2 x S1) → ta τ S Q1 → ta τ S Q2) (hl : xs.length ≤ sizeLine)
    (hte : ∀ x S2 (Qe : AK), x ∈ xs → Qe (f x) S2 → te ((wipeA τ vs).set j (some x)) S2 Qe) (q : Q (.lst (xs.map f)) S) : aLc (aiTup ta) j aYes te vs τ S Q := by
  refine lc_map (hz _ ⟨xs, rfl, hl, f, fun _ _ => trivial, trivial, fun k x S2 hx => ?_, q⟩) fun Q1 Q2 h h1 => hm _ _ (fun x S1 ⟨y, e, q1⟩ => ⟨y, e, h _ _ _ q1⟩) h1
  exact ⟨fun Qb h => h, fun Qe h => hte x S2 Qe (List.mem_of_getElem? hx) h⟩
theorem allA_map {α : Type} (l : List α) (f : α → Bool) (S : Store) : (allA (.lst (l.map fun c => AV.bl (f c))) S).ok ∧ (allA (.lst (l.map fun c => AV.bl (f c))) S).v = .bl (l.all f) := by
  show ((l.map fun c => AV.bl (f c)).all isBlA = true) ∧ AV.bl ((l.map fun c => AV.bl (f c)).all blOf) = _
  rw [List.all_map, List.all_map]
  refine ⟨by rw [List.all_eq_true]; intro x _; rfl, rfl⟩
theorem anyA_map {α : Type} (l : List α) (f : α → Bool) (S : Store) : (anyA (.lst (l.map fun c => AV.bl (f c))) S).ok ∧ (anyA (.lst (l.map fun c => AV.bl (f c))) S).v = .bl (l.any f) := by
  show ((l.map fun c => AV.bl (f c)).all isBlA = true) ∧ AV.bl ((l.map fun c => AV.bl (f c)).any blOf) = _
  rw [List.all_map, List.any_map]
  refine ⟨by rw [List.all_eq_true]; intro x _; rfl, rfl⟩
theorem le_sl {n : Nat} (h : n ≤ 16777216) : n ≤ sizeLine := by
  have : sizeLine = 16777216 := by decide +kernel
  omega
theorem Sub.upd {S' S : Store} {a : Addr} {o : AO} (s : Sub S' S) : Sub (updS S' a o) (updS S a o) := by
  refine ⟨fun b u e => ?_, fun b e => ?_⟩
  · by_cases q : b = a
    · subst q; rw [updS_same] at e ⊢; exact e
    · rw [updS_ne q] at e ⊢; exact s.le b u e
  · by_cases q : b = a
    · subst q; rw [updS_same] at e ⊢; exact e
    · rw [updS_ne q] at e ⊢; exact s.hid b e
/-- a comprehension all the way, behind its things -/
def LcGo (te : AE) (j : Nat) (vs : List Nat) (τ : ASt) (Q : AK) (xs : List AV) (S1 : Store) : Prop := ∀ D, S1 D = none → ∃ I : Nat → List AV → Store → Prop, I 0 [] (updS S1 D .hid) ∧
  (∀ (i : Nat) x acc S2, xs[i]? = some x → I i acc S2 → True ∧ aYes ((wipeA τ vs).set j (some x)) S2 fun b S3 => if b = true then te ((wipeA τ vs).set j (some x)) S3 fun y S4 => acc.length < sizeLine ∧ I (i + 1) (acc ++ [y]) S4 else I (i + 1) acc S3) ∧
  (∀ acc S2, I xs.length acc S2 → True ∧ Q (.lst acc) (dropS S2 D))
theorem aLc_rng {t : AA} {te : AE} {j : Nat} {vs : List Nat} {τ : ASt} {S : Store} {Q : AK} : aLc (aiRng1 t) j aYes te vs τ S Q = t τ S fun ds S1 => ∃ n : Int, ds = [.int n] ∧ -(2 ^ 62) ≤ n ∧ n < 2 ^ 62 ∧ LcGo te j vs τ Q (rngA 0 n.toNat) S1 := rfl
/-- the same, the list to be stored -/
def LcGoS (te : AE) (j : Nat) (vs : List Nat) (τ : ASt) (Q : AK) (xs : List AV) (S1 : Store) : Prop := ∀ D, S1 D = none → ∃ I : Nat → List AV → Store → Prop, I 0 [] (updS S1 D .hid) ∧
  (∀ (i : Nat) x acc S2, xs[i]? = some x → I i acc S2 → True ∧ aYes ((wipeA τ vs).set j (some x)) S2 fun b S3 => if b = true then te ((wipeA τ vs).set j (some x)) S3 fun y S4 => acc.length < sizeLine ∧ I (i + 1) (acc ++ [y]) S4 else I (i + 1) acc S3) ∧
  (∀ acc S2, I xs.length acc S2 → True ∧ Q (.ref D) (updS S2 D (.lst acc)))
theorem aLcS_rng {t : AA} {te : AE} {j : Nat} {vs : List Nat} {τ : ASt} {S : Store} {Q : AK} : aLcS (aiRng1 t) j aYes te vs τ S Q = t τ S fun ds S1 => ∃ n : Int, ds = [.int n] ∧ -(2 ^ 62) ≤ n ∧ n < 2 ^ 62 ∧ LcGoS te j vs τ Q (rngA 0 n.toNat) S1 := rfl
/-- over a list -/
def LcGoL (te : AE) (j : Nat) (vs : List Nat) (τ : ASt) (Q : AK) (d : AV) (xs : List AV) (S1 : Store) : Prop := ∀ D, S1 D = none → ∃ I : Nat → List AV → Store → Prop, I 0 [] (updS S1 D .hid) ∧
  (∀ (i : Nat) x acc S2, xs[i]? = some x → I i acc S2 → lstA S2 d = some xs ∧ aYes ((wipeA τ vs).set j (some x)) S2 fun b S3 => if b = true then te ((wipeA τ vs).set j (some x)) S3 fun y S4 => acc.length < sizeLine ∧ I (i + 1) (acc ++ [y]) S4 else I (i + 1) acc S3) ∧
  (∀ acc S2, I xs.length acc S2 → lstA S2 d = some xs ∧ Q (.lst acc) (dropS S2 D))
theorem aLc_lst {ta : AE} {te : AE} {j : Nat} {vs : List Nat} {τ : ASt} {S : Store} {Q : AK} : aLc (aiLst ta) j aYes te vs τ S Q = ta τ S fun d S1 => ∃ xs, lstA S1 d = some xs ∧ LcGoL te j vs τ Q d xs S1 := rfl
section
variable {xs : List AV} {te : AE} {j : Nat} {vs : List Nat} {τ : ASt} {S1 : Store} {Q : AK}
/-- over a frozen list, the store being of no account -/
theorem lcL_free (A : AV → Prop) (hl : xs.length ≤ sizeLine) (step : ∀ x ∈ xs, ∀ (Sx : Store) (Qe : AK), (∀ y S', A y → Qe y S') → te ((wipeA τ vs).set j (some x)) Sx Qe)
    (fin : ∀ acc S', (∀ y ∈ acc, A y) → acc.length = xs.length → Q (.lst acc) S') : LcGoL te j vs τ Q (.lst xs) xs S1 := by
  intro D hD
  refine ⟨fun i acc S2 => acc.length = i ∧ ∀ y ∈ acc, A y, ⟨rfl, fun y h => by cases h⟩, fun i x acc S2 hx ⟨hi, ha⟩ => ⟨rfl, ?_⟩, fun acc S2 ⟨hi, ha⟩ => ⟨rfl, fin acc _ ha hi⟩⟩
  have hlt := (List.getElem?_eq_some_iff.mp hx).1
  unfold aYes
  simp only [if_true]
  refine step x (List.mem_of_getElem? hx) _ _ fun y S' hy => ⟨by omega, by rw [List.length_append, List.length_singleton, hi], fun w hw => ?_⟩
  rcases List.mem_append.mp hw with h | h
  · exact ha w h
  · cases List.mem_singleton.mp h; exact hy
/-- over a frozen list, pure -/
theorem lcL_map (f : AV → AV) (hl : xs.length ≤ sizeLine) (step : ∀ x ∈ xs, ∀ (Sx : Store) (Qe : AK), Qe (f x) Sx → te ((wipeA τ vs).set j (some x)) Sx Qe) (q : Q (.lst (xs.map f)) S1) : LcGoL te j vs τ Q (.lst xs) xs S1 := by
  intro D hD
  refine ⟨fun i acc S2 => i ≤ xs.length ∧ acc = (xs.take i).map f ∧ S2 = updS S1 D .hid, ⟨Nat.zero_le _, rfl, rfl⟩, fun i x acc S2 hx ⟨hi, ea, es⟩ => ⟨rfl, ?_⟩, fun acc S2 ⟨hi, ea, es⟩ => ⟨rfl, ?_⟩⟩
  · have hlt := (List.getElem?_eq_some_iff.mp hx).1
    unfold aYes
    simp only [if_true]
    refine step x (List.mem_of_getElem? hx) _ _ ⟨?_, hlt, ?_, es⟩
    · rw [ea, List.length_map, List.length_take]
      omega
    · rw [ea, List.take_add_one, hx]
      simp
  · rw [ea, es, List.take_length, dropS_upd hD]
    exact q
end
section
variable {xs : List AV} {te : AE} {j : Nat} {vs : List Nat} {τ : ASt} {S1 : Store} {Q : AK} {p : Addr} {Pt : Type}
/-- a comprehension of drawn things: the store has one thing that changes -/
theorem lc_pot (po : Pt → AO) {pt : Pt} (I : Nat → Pt → Prop) (hp : S1 p = some (po pt)) (h0 : I 0 pt) (A : AV → Prop) (hl : xs.length ≤ sizeLine)
    (step : ∀ k x pt' Sx (Qe : AK), xs[k]? = some x → k < xs.length → I k pt' → Sx p = some (po pt') → (∀ y pt2, A y → I (k + 1) pt2 → Qe y (updS Sx p (po pt2))) → te ((wipeA τ vs).set j (some x)) Sx Qe)
    (fin : ∀ acc pt', acc.length = xs.length → (∀ y ∈ acc, A y) → I xs.length pt' → Q (.lst acc) (updS S1 p (po pt'))) : LcGo te j vs τ Q xs S1 := by
  intro D hD
  have ne : p ≠ D := by rintro rfl; rw [hp] at hD; cases hD
  refine ⟨fun i acc S2 => acc.length = i ∧ (∀ y ∈ acc, A y) ∧ ∃ pt', I i pt' ∧ S2 = updS (updS S1 p (po pt')) D .hid, ⟨rfl, (fun y h => by cases h), pt, h0, by rw [updS_self hp]⟩, fun i x acc S2 hx ⟨hi, ha, pt', hI, e⟩ => ⟨trivial, ?_⟩, fun acc S2 ⟨hi, ha, pt', hI, e⟩ => ⟨trivial, ?_⟩⟩
  · subst e
    have hlt := (List.getElem?_eq_some_iff.mp hx).1
    unfold aYes
    simp only [if_true]
    refine step i x pt' _ _ hx hlt hI (by rw [updS_ne ne, updS_same]) fun y pt2 hy hI2 => ⟨by omega, by rw [List.length_append, List.length_singleton, hi], fun w hw => ?_, pt2, hI2, ?_⟩
    · rcases List.mem_append.mp hw with h | h
      · exact ha w h
      · cases List.mem_singleton.mp h; exact hy
    · rw [← updS_comm ne, updS_updS]
  · subst e
    rw [dropS_upd (by rw [updS_ne (Ne.symm ne)]; exact hD)]
    exact fin acc pt' hi ha hI
/-- over a stored list: drawn things -/
theorem lcL_potR (po : Pt → AO) {pt : Pt} {l : Addr} (I : Nat → Pt → Prop) (hp : S1 p = some (po pt)) (h0 : I 0 pt) (A : AV → Prop) (hl : xs.length ≤ sizeLine) (hx : S1 l = some (.lst xs)) (nlp : l ≠ p)
    (step : ∀ k x pt' Sx (Qe : AK), xs[k]? = some x → k < xs.length → I k pt' → Sx p = some (po pt') → (∀ y pt2, A y → I (k + 1) pt2 → Qe y (updS Sx p (po pt2))) → te ((wipeA τ vs).set j (some x)) Sx Qe)
    (fin : ∀ acc pt', acc.length = xs.length → (∀ y ∈ acc, A y) → I xs.length pt' → Q (.lst acc) (updS S1 p (po pt'))) : LcGoL te j vs τ Q (.ref l) xs S1 := by
  intro D hD
  have ne : p ≠ D := by rintro rfl; rw [hp] at hD; cases hD
  have nl : l ≠ D := by rintro rfl; rw [hx] at hD; cases hD
  have keep : ∀ pt' : Pt, lstA (updS (updS S1 p (po pt')) D .hid) (.ref l) = some xs := fun pt' => lstA_ref (by rw [updS_ne nl, updS_ne nlp]; exact hx)
  refine ⟨fun i acc S2 => acc.length = i ∧ (∀ y ∈ acc, A y) ∧ ∃ pt', I i pt' ∧ S2 = updS (updS S1 p (po pt')) D .hid, ⟨rfl, (fun y h => by cases h), pt, h0, by rw [updS_self hp]⟩, fun i x acc S2 hx ⟨hi, ha, pt', hI, e⟩ => ?_, fun acc S2 ⟨hi, ha, pt', hI, e⟩ => ?_⟩
  · subst e
    refine ⟨keep pt', ?_⟩
    have hlt := (List.getElem?_eq_some_iff.mp hx).1
    unfold aYes
    simp only [if_true]
    refine step i x pt' _ _ hx hlt hI (by rw [updS_ne ne, updS_same]) fun y pt2 hy hI2 => ⟨by omega, by rw [List.length_append, List.length_singleton, hi], fun w hw => ?_, pt2, hI2, ?_⟩
    · rcases List.mem_append.mp hw with h | h
      · exact ha w h
      · cases List.mem_singleton.mp h; exact hy
    · rw [← updS_comm ne, updS_updS]
  · subst e
    refine ⟨keep pt', ?_⟩
    rw [dropS_upd (by rw [updS_ne (Ne.symm ne)]; exact hD)]
    exact fin acc pt' hi ha hI
theorem lcS_pot (po : Pt → AO) {pt : Pt} (I : Nat → Pt → Prop) (hp : S1 p = some (po pt)) (h0 : I 0 pt) (A : AV → Prop) (hl : xs.length ≤ sizeLine)
    (step : ∀ k x pt' Sx (Qe : AK), xs[k]? = some x → k < xs.length → I k pt' → Sx p = some (po pt') → (∀ y pt2, A y → I (k + 1) pt2 → Qe y (updS Sx p (po pt2))) → te ((wipeA τ vs).set j (some x)) Sx Qe)
    (fin : ∀ acc pt' D, S1 D = none → acc.length = xs.length → (∀ y ∈ acc, A y) → I xs.length pt' → Q (.ref D) (updS (updS S1 p (po pt')) D (.lst acc))) : LcGoS te j vs τ Q xs S1 := by
  intro D hD
  have ne : p ≠ D := by rintro rfl; rw [hp] at hD; cases hD
  refine ⟨fun i acc S2 => acc.length = i ∧ (∀ y ∈ acc, A y) ∧ ∃ pt', I i pt' ∧ S2 = updS (updS S1 p (po pt')) D .hid, ⟨rfl, (fun y h => by cases h), pt, h0, by rw [updS_self hp]⟩, fun i x acc S2 hx ⟨hi, ha, pt', hI, e⟩ => ⟨trivial, ?_⟩, fun acc S2 ⟨hi, ha, pt', hI, e⟩ => ⟨trivial, ?_⟩⟩
  · subst e
    have hlt := (List.getElem?_eq_some_iff.mp hx).1
    unfold aYes
    simp only [if_true]
    refine step i x pt' _ _ hx hlt hI (by rw [updS_ne ne, updS_same]) fun y pt2 hy hI2 => ⟨by omega, by rw [List.length_append, List.length_singleton, hi], fun w hw => ?_, pt2, hI2, ?_⟩
    · rcases List.mem_append.mp hw with h | h
      · exact ha w h
      · cases List.mem_singleton.mp h; exact hy
    · rw [← updS_comm ne, updS_updS]
  · subst e
    rw [updS_updS]
    exact fin acc pt' D hD hi ha hI
end
/-- a loop over numbers, all the way -/
def ForGo (ag : AG) (tb : AS) (D : AEnds) (τ : ASt) (xs : List AV) (S1 : Store) : Prop := ∃ I : Nat → ASt → Store → Prop, I 0 τ S1 ∧
  (∀ (i : Nat) x τ2 S2, xs[i]? = some x → I i τ2 S2 → True ∧ ag x τ2 S2 fun τ3 S3 => tb { D with nx := I (i + 1), ct := I (i + 1), bk := D.nx } τ3 S3) ∧ (∀ τ2 S2, I xs.length τ2 S2 → True ∧ D.nx τ2 S2)
theorem aFor_rng {t : AA} {ag : AG} {tb : AS} {D : AEnds} {τ : ASt} {S : Store} : aFor (aiRng1 t) ag tb D τ S = t τ S fun ds S1 => ∃ n : Int, ds = [.int n] ∧ -(2 ^ 62) ≤ n ∧ n < 2 ^ 62 ∧ ForGo ag tb D τ (rngA 0 n.toNat) S1 := rfl
theorem ForGo.of {ag : AG} {tb : AS} {D : AEnds} {τ : ASt} {xs : List AV} {S1 : Store} (I : Nat → ASt → Store → Prop) (h0 : I 0 τ S1)
    (step : ∀ (i : Nat) x τ2 S2, xs[i]? = some x → i < xs.length → I i τ2 S2 → ag x τ2 S2 fun τ3 S3 => tb { D with nx := I (i + 1), ct := I (i + 1), bk := D.nx } τ3 S3) (fin : ∀ τ2 S2, I xs.length τ2 S2 → D.nx τ2 S2) : ForGo ag tb D τ xs S1 :=
  ⟨I, h0, fun i x τ2 S2 hx hi => ⟨trivial, step i x τ2 S2 hx (List.getElem?_eq_some_iff.mp hx).1 hi⟩, fun τ2 S2 h => ⟨trivial, fin τ2 S2 h⟩⟩
theorem tupleA_lst {xs : List AV} {S : Store} : tupleA (.lst xs) S = ⟨True, .tup xs⟩ := rfl
theorem tupleA_tup {xs : List AV} {S : Store} : tupleA (.tup xs) S = ⟨True, .tup xs⟩ := rfl
theorem tupleA_ref {l : Addr} {xs : List AV} {S : Store} (h : S l = some (.lst xs)) : tupleA (.ref l) S = ⟨True, .tup xs⟩ := by
  show (match lstA S (.ref l) with | some xs => (⟨True, .tup xs⟩ : Ans) | none => badA) = _
  rw [lstA_ref h]
theorem wstA_lst {xs : List AV} {S : Store} : wstA S (.lst xs) = some xs := rfl
/-- what holds between two statements -/
theorem seq_mid {t u : AS} {D : AEnds} {τ : ASt} {S : Store} (P : ASt → Store → Prop) (h : ∀ D' : AEnds, (∀ τ S, P τ S → D'.nx τ S) → D'.rt = D.rt → t D' τ S) (h2 : ∀ τ S, P τ S → u D τ S) : aSeq t u D τ S :=
  h { D with nx := u D } h2 rfl
theorem seq_cut {t u : AS} {D : AEnds} {τ : ASt} {S : Store} (P : ASt → Store → Prop) (h : ∀ D' : AEnds, (∀ τ S, P τ S → D'.nx τ S) → (∀ d S, D.rt d S → D'.rt d S) → (∀ τ S, D.ct τ S → D'.ct τ S) → (∀ τ S, D.bk τ S → D'.bk τ S) → t D' τ S) (h2 : ∀ τ S, P τ S → u D τ S) : aSeq t u D τ S :=
  h { D with nx := u D } h2 (fun _ _ h => h) (fun _ _ h => h) (fun _ _ h => h)
/-- a cell is set -/
def SubAt (o i d : AV) (S : Store) (Q : Store → Prop) : Prop := ∃ l ds k j, o = .ref l ∧ i = .int k ∧ S l = some (.lst ds) ∧ ixN ds.length k = some j ∧ Q (updS S l (.lst (ds.set j d)))
theorem agSub_def {to ti : AE} {d : AV} {τ : ASt} {S : Store} {Q : ASt → Store → Prop} : agSub to ti d τ S Q = to τ S fun o S1 => ti τ S1 fun i S2 => SubAt o i d S2 (Q τ) := rfl
theorem cutAns_rol {xs : List AV} {lo hi : Option Int} {S : Store} : cutAns (.rol xs) lo hi S = ⟨True, .lst (cutL xs lo hi)⟩ := rfl
theorem cutAns_lst {xs : List AV} {lo hi : Option Int} {S : Store} : cutAns (.lst xs) lo hi S = ⟨True, .lst (cutL xs lo hi)⟩ := rfl
theorem cutAns_tup {xs : List AV} {lo hi : Option Int} {S : Store} : cutAns (.tup xs) lo hi S = ⟨True, .tup (cutL xs lo hi)⟩ := rfl
theorem cutAns_str {z : Str} {lo hi : Option Int} {S : Store} : cutAns (.str z) lo hi S = ⟨z.length ≤ sizeLine, .str (cutS z lo hi)⟩ := rfl
theorem cutAns_ref {l : Addr} {xs : List AV} {lo hi : Option Int} {S : Store} (h : S l = some (.lst xs)) : cutAns (.ref l) lo hi S = ⟨True, .lst (cutL xs lo hi)⟩ := by
  show (match lstA S (.ref l) with | some xs => (⟨True, .lst (cutL xs lo hi)⟩ : Ans) | none => badA) = _
  rw [lstA_ref h]
theorem ex_some {α : Type} {b : α} {P : α → Prop} : (∃ i, some b = some i ∧ P i) = P b := propext ⟨fun ⟨k, e, p⟩ => by cases e; exact p, fun p => ⟨b, rfl, p⟩⟩
theorem sumA_ints {xs : List AV} {S : Store} (h : ∀ x ∈ xs, isIntA x = true) : ∃ s, sumA (.lst xs) S = ⟨True, .int s⟩ := by
  exact ⟨(xs.map intOf).sum, ans_tt (List.all_eq_true.mpr h) rfl⟩
theorem sum_cut (ns : List Int) (lo hi : Option Int) : ∃ s, ∀ S, sumA (.lst (cutL (ns.map .int) lo hi)) S = ⟨True, .int s⟩ := by
  obtain ⟨s, h⟩ := sumA_ints (xs := cutL (ns.map .int) lo hi) (S := fun _ => none) fun x hx => by
    obtain ⟨i, _, rfl⟩ := List.mem_map.mp (List.mem_of_mem_drop (List.mem_of_mem_take hx))
    rfl
  exact ⟨s, fun S => h⟩
/-- what is returned beside a list that came anew -/
theorem rt_new {Q : AK} {d : AV} {S : Store} {l : Addr} {xs : List AV} (hl : S l = none) (q : Q d S) : RtW Q d (updS S l (.lst xs)) :=
  rt_sub (.new .refl hl (by rw [hl]; simp) (by simp)) q
/-- the list that came anew is what is returned -/
theorem rt_list {Q : AK} {S : Store} {l : Addr} {xs : List AV} (hl : S l = none) (q : Q (.lst xs) S) : RtW Q (.ref l) (updS S l (.lst xs)) :=
  rt_frz updS_same (.new .refl hl (by rw [hl]; simp) (by simp)) hl q
end L3

set_option Elab.async false
set_option linter.all false
set_option maxRecDepth 100000
set_option maxHeartbeats 1000000
set_option autoImplicit false
/-! L3K: own classes: fields, methods, what is made of them. -/
namespace L3
open PySem L2 PyProof.Rows

def putA (f : Str) (v : AV) : List (Str × AV) → List (Str × AV)
  | [] => [(f, v)]
  | (g, x) :: r => if g = f then (g, v) :: r else (g, x) :: putA f v r
/-- fields beside fields -/
inductive RelF (K : PySem.W.Frag) (H : Hp) (S : Store) : List (Str × V) → List (Str × AV) → Prop
  | nil : RelF K H S [] []
  | cons {f : Str} {v : V} {d : AV} {vs : List (Str × V)} {ds : List (Str × AV)} : RelA K H S v d → RelF K H S vs ds → RelF K H S ((f, v) :: vs) ((f, d) :: ds)
section
variable {K : PySem.W.Frag} {H : Hp} {S : Store}
theorem relF_of : ∀ {fv : List (Str × V)} {fs : List (Str × AV)}, fv.map (·.1) = fs.map (·.1) → RelAs K H S (fv.map (·.2)) (fs.map (·.2)) → RelF K H S fv fs
  | [], [], _, _ => .nil
  | [], _ :: _, h, _ => by cases h
  | _ :: _, [], h, _ => by cases h
  | (f, v) :: fv, (g, d) :: fs, h, r => by
    have h1 : f = g := (List.cons.inj h).1
    subst h1
    cases r with
    | cons a b => exact .cons a (relF_of (List.cons.inj h).2 b)
theorem RelF.names : ∀ {fv : List (Str × V)} {fs : List (Str × AV)}, RelF K H S fv fs → fv.map (·.1) = fs.map (·.1)
  | _, _, .nil => rfl
  | _, _, .cons a b => by rw [List.map_cons, List.map_cons, b.names]
theorem RelF.vals : ∀ {fv : List (Str × V)} {fs : List (Str × AV)}, RelF K H S fv fs → RelAs K H S (fv.map (·.2)) (fs.map (·.2))
  | _, _, .nil => .nil
  | _, _, .cons a b => .cons a b.vals
theorem RelF.length : ∀ {fv : List (Str × V)} {fs : List (Str × AV)}, RelF K H S fv fs → fv.length = fs.length
  | _, _, .nil => rfl
  | _, _, .cons a b => by rw [List.length_cons, List.length_cons, b.length]
theorem RelF.look : ∀ {fv : List (Str × V)} {fs : List (Str × AV)} {f : Str} {d : AV}, RelF K H S fv fs → fs.lookup f = some d → ∃ v, fv.lookup f = some v ∧ RelA K H S v d
  | _, _, _, _, .nil, h => by cases h
  | _, _, f, _, .cons (f := g) a b, h => by
    rw [List.lookup_cons] at h ⊢
    cases e : f == g with
    | true => rw [e] at h; cases h; exact ⟨_, rfl, a⟩
    | false => rw [e] at h; exact b.look h
theorem RelF.none : ∀ {fv : List (Str × V)} {fs : List (Str × AV)} {f : Str}, RelF K H S fv fs → fs.lookup f = Option.none → fv.lookup f = Option.none
  | _, _, _, .nil, h => rfl
  | _, _, f, .cons (f := g) a b, h => by
    rw [List.lookup_cons] at h ⊢
    cases e : f == g with
    | true => rw [e] at h; cases h
    | false => rw [e] at h; exact b.none h
theorem RelF.put {f : Str} {v : V} {d : AV} (r : RelA K H S v d) : ∀ {fv : List (Str × V)} {fs : List (Str × AV)}, RelF K H S fv fs → RelF K H S (putF f v fv) (putA f d fs)
  | _, _, .nil => .cons r .nil
  | _, _, .cons (f := g) (v := w) (vs := vs) (ds := ds) (d := e) a b => by
    show RelF K H S (if g = f then (g, v) :: vs else (g, w) :: putF f v vs) (if g = f then (g, d) :: ds else (g, e) :: putA f d ds)
    by_cases h : g = f
    · rw [if_pos h, if_pos h]; exact .cons r b
    · rw [if_neg h, if_neg h]; exact .cons a (RelF.put r b)
theorem insE (so : StOk K H S) {a C : Addr} {fs : List (Str × AV)} (h : S a = some (.ins C fs)) : ∃ dx fv, H a = some (.ins C dx fv) ∧ RelF K H S fv fs := by
  obtain ⟨dx, fv, h1, h2, h3⟩ := so a _ h
  exact ⟨dx, fv, h1, relF_of h2 h3⟩
theorem mutI (so : StOk K H S) {a C dx : Addr} {fs fs' : List (Str × AV)} {fv : List (Str × V)} (h : S a = some (.ins C fs)) (r : RelF K H S fv fs') :
    StOk K (upd H a (.ins C dx fv)) (updS S a (.ins C fs')) ∧ Step H S (upd H a (.ins C dx fv)) (updS S a (.ins C fs')) := by
  have st := step_mut (p := a) (o := .ins C dx fv) (u := .ins C fs') h (H := H) (by simp)
  exact ⟨stok_mut so h (by simp) ⟨dx, fv, upd_same, r.names, r.vals.step st⟩, st⟩
end
/-- a field of a thing is read -/
def FldAt (x : AV) (C : Addr) (f : Str) (S : Store) (Q : AK) : Prop := ∃ a fs v, x = .ref a ∧ S a = some (.ins C fs) ∧ fs.lookup f = some v ∧ Q v S
theorem fldAt_of {a C : Addr} {f : Str} {S : Store} {Q : AK} {fs : List (Str × AV)} {v : AV} (h : S a = some (.ins C fs)) (hl : fs.lookup f = some v) : FldAt (.ref a) C f S Q = Q v S :=
  propext ⟨fun ⟨a', fs', v', e, h', hl', q⟩ => by cases e; rw [h] at h'; cases h'; rw [hl] at hl'; cases hl'; exact q, fun q => ⟨a, fs, v, rfl, h, hl, q⟩⟩
def aFld (C : Addr) (f : Str) (ta : AE) : AE := fun τ S Q => ta τ S fun x S1 => FldAt x C f S1 Q
/-- a field of a thing is written -/
def PutAt (x : AV) (C : Addr) (f : Str) (y : AV) (S : Store) (Q : Store → Prop) : Prop := ∃ a fs, x = .ref a ∧ S a = some (.ins C fs) ∧ fs.length < 1000 ∧ Q (updS S a (.ins C (putA f y fs)))
theorem putAt_of {a C : Addr} {f : Str} {S : Store} {Q : Store → Prop} {fs : List (Str × AV)} {y : AV} (h : S a = some (.ins C fs)) (hl : fs.length < 1000) : PutAt (.ref a) C f y S Q = Q (updS S a (.ins C (putA f y fs))) :=
  propext ⟨fun ⟨a', fs', e, h', hl', q⟩ => by cases e; rw [h] at h'; cases h'; exact q, fun q => ⟨a, fs, rfl, h, hl, q⟩⟩
def aPut (C : Addr) (f : Str) (to tv : AE) : AS := fun D τ S => tv τ S fun y S1 => to τ S1 fun x S2 => PutAt x C f y S2 (D.nx τ)
def agFld (C : Addr) (f : Str) (to : AE) : AG := fun y τ S Q => to τ S fun x S1 => PutAt x C f y S1 (Q τ)
def aPutAug (ar : AV → AV → Store → Ans) (C : Addr) (f : Str) (to tv : AE) : AS := fun D τ S => to τ S fun x S1 => FldAt x C f S1 fun v S2 => tv τ S2 fun y S3 => (ar v y S3).ok ∧ PutAt x C f (ar v y S3).v S3 (D.nx τ)
section
variable {X : Cx} {e o value : Expr} {es : List Expr} {f : Str} {pos pos' tpos p : Pos} {ta tv to : AE} {t : AA} {C : Addr}
theorem e_fld (c : Cls X.K C) (n : NoAttr X.K C f) (he : PE X e (low X.K ta)) (hb : attributeBase e f X.env (eval e X.env) = eval e X.env := by rfl) : PE X (.Attribute e f pos) (low X.K (aFld C f ta)) := (pe_fld he hb).weak fun σ H QH ⟨τ, S, Q, R, so, q, k⟩ =>
  ⟨τ, S, _, R, so, q, fun v H1 d S1 so1 st1 r1 ⟨a, fs, y, ex, hs, hl, q1⟩ => by
    subst ex
    obtain rfl := rel_refE r1
    obtain ⟨dx, fv, h1, rf⟩ := insE so1 hs
    obtain ⟨w, hw, rw'⟩ := rf.look hl
    exact ⟨a, C, dx, fv, w, rfl, h1, c, n, hw, k w H1 y S1 so1 st1 rw' q1⟩⟩
theorem s_put (c : Cls X.K C) (n : NoAttr X.K C f) (ho : PE X o (low X.K to)) (hv : PE X value (low X.K tv)) (hs : swapsWith value (some (.Attribute o f pos')) pos.line X.env = pure false := by rfl) :
    PS X (.Assign [.Attribute o f pos'] value pos) (lowS X.K (aPut C f to tv)) := (ps_fld ho hv hs).weak fun DH σ H ⟨τ, S, D, R, so, q, k⟩ =>
  ⟨τ, S, _, R, so, q, fun v H1 d S1 so1 st1 r1 q1 => ⟨τ, S1, _, R.step st1, so1, q1, fun u H2 x S2 so2 st2 r2 ⟨a, fs, ex, hs, hl, q2⟩ => by
    subst ex
    obtain rfl := rel_refE r2
    obtain ⟨dx, fv, h1, rf⟩ := insE so2 hs
    obtain ⟨so3, st3⟩ := mutI (dx := dx) so2 hs (rf.put (r1.step st2))
    exact ⟨a, C, dx, fv, rfl, h1, c, n, by rw [rf.length]; exact hl, k.nx σ _ τ _ so3 ((st1.trans st2).trans st3) (((R.step st1).step st2).step st3) q2⟩⟩⟩
theorem s_putAug {op : Operator} {ar : AV → AV → Store → Ans} (c : Cls X.K C) (n : NoAttr X.K C f) (ho : PE X o (low X.K to)) (hv : PE X value (low X.K tv)) (hop : InOp X op (lowO X.K ar)) :
    PS X (.AugAssign (.Attribute o f tpos) op value pos) (lowS X.K (aPutAug ar C f to tv)) := (ps_fldaug ho hv hop).weak fun DH σ H ⟨τ, S, D, R, so, q, k⟩ =>
  ⟨τ, S, _, R, so, q, fun v H1 x S1 so1 st1 r1 ⟨a, fs, y, ex, hs, hl, q1⟩ => by
    subst ex
    obtain rfl := rel_refE r1
    obtain ⟨dx, fv, h1, rf⟩ := insE so1 hs
    obtain ⟨w, hw, rw'⟩ := rf.look hl
    refine ⟨a, C, dx, fv, w, rfl, h1, c, n, hw, τ, S1, _, R.step st1, so1, q1, fun z H2 dz S2 so2 st2 rz ⟨ok, a2, fs2, e2, hs2, hl2, q2⟩ => ?_⟩
    cases e2
    refine ⟨y, dz, S2, rw'.step st2, rz, so2, ok, fun r H3 so3 st3 rr => ?_⟩
    obtain ⟨dx2, fv2, h2, rf2⟩ := insE so3 hs2
    obtain ⟨so4, st4⟩ := mutI (dx := dx2) so3 hs2 (rf2.put rr)
    have stT := ((st1.trans st2).trans st3).trans st4
    exact ⟨dx2, fv2, h2, by rw [rf2.length]; exact hl2, k.nx σ _ τ _ so4 stT (R.step stT) q2⟩⟩
theorem g_fld (c : Cls X.K C) (n : NoAttr X.K C f) (ho : PE X o (low X.K to)) : PG X (.Attribute o f pos) (lowG X.K (agFld C f to)) := by
  refine ⟨fun pins s σ H v u QH I r h => ?_⟩
  obtain ⟨d, τ, S, Q, rd, R, so, q, k⟩ := h
  show wpAny _ _ (do
    let ov ← holding [u] (eval o X.env)
    standAt pos.atName
    holding [u, ov] (setAttr ov f u)
    release [u, ov] []) _ _ _
  refine wpAny_bind (wpAny_holding (thn (ho.run pins s σ H (fun vo H1 => ∃ x S1, StOk X.K H1 S1 ∧ Step H S H1 S1 ∧ RelA X.K H1 S1 vo x ∧ PutAt x C f d S1 (Q τ)) I ⟨τ, S, _, R, so, q, fun vo H1 x S1 so1 st1 r1 q1 => ⟨x, S1, so1, st1, r1, q1⟩⟩) fun ov s1 z => ?_))
  obtain ⟨vo, H1, I1, ro, x, S1, so1, st1, r1, a, fs, ex, hs, hl, q1⟩ := z
  subst ex
  obtain rfl := rel_refE r1
  obtain rfl : ov = .ref a := ro
  obtain ⟨dx, fv, h1, rf⟩ := insE so1 hs
  obtain ⟨so2, st2⟩ := mutI (dx := dx) so1 hs (rf.put (rd.step st1))
  refine wpAny_bind (wpAny_standAt (wpAny_bind (wpAny_holding (setattr_ok I1 h1 c n (by rw [rf.length]; exact hl) r fun s3 I3 => ?_))))
  exact wpAny_release ⟨σ, _, I3, k σ _ τ _ so2 (st1.trans st2) (R.step (st1.trans st2)) q1⟩
end

/-! ### methods -/
structure MethD (K : PySem.W.Frag) (C : Addr) (m qual : Str) (st : Stmt) (ps : List Str) : Prop where
  ex : ∃ (f : Addr) (fd : FuncData), L2.Fun K m qual st f fd ∧ Meth K C m f ∧ Binds K fd ps []
structure FnM (P : Program) (w : World) (K : PySem.W.Frag) (mg : Str → Option Value) (base : Heap) (k : Nat) (C : Addr) (m qual : Str) (st : Stmt) (ps : List Str) (asp : ASp) : Prop where
  ex : ∃ (f : Addr) (fd : FuncData), L2.Fun K m qual st f fd ∧ FnG P w K mg base k f fd ps (spOf K asp) ∧ Meth K C m f ∧ Binds K fd ps []
section
variable {P : Program} {w : World} {K : PySem.W.Frag} {mg : Str → Option Value} {base : Heap} {k : Nat} {C : Addr} {m qual : Str} {st : Stmt} {ps : List Str} {asp : ASp}
theorem MethD.of {h : Heap} {f : Addr} {od an : Option Addr} {sl : Array (Option Value)} {oc kV doc pm cd ct : Value} (X : K.In h)
    (a : PySem.W.findIn K (.ref C) m = some (some (.ref f))) (l : K.lookup f = some ⟨oc, od, .func (PySem.W.fnOf m qual (defArgs st) (defBody st) (defScope st) .none kV doc pm an cd ct), sl⟩) (c : PySem.W.codeIn K cd qual = true) (kp : PySem.W.keepIn K (.ref f) = true)
    (fn : PySem.W.isFn K (.ref f) = true) (b : ∀ (kV doc pm : Value) (an : Option Addr) (cdv ct : Value) (us : List Value), us.length = ps.length → bindArgs (PySem.W.fnOf m qual (defArgs st) (defBody st) (defScope st) .none kV doc pm an cdv ct) ⟨us, []⟩ = pure (ps.zip us)) : MethD K C m qual st ps := by
  have F : L2.Fun K m qual st f (PySem.W.fnOf m qual (defArgs st) (defBody st) (defScope st) .none kV doc pm an cd ct) := ⟨⟨oc, od, kV, doc, pm, an, cd, ct, sl, rfl, l, c⟩, kp⟩
  exact ⟨f, _, F, ⟨a, fn, kp⟩, .all fun us hl => b kV doc pm an cd ct us hl⟩
theorem FnM.of (D : MethD K C m qual st ps) (h : ∀ f fd, L2.Fun K m qual st f fd → FnG P w K mg base k f fd ps (spOf K asp)) : FnM P w K mg base k C m qual st ps asp := let ⟨f, fd, G, hm, hb⟩ := D.ex; ⟨f, fd, G, h f fd G, hm, hb⟩
end
/-- o.m(..) -/
def aMeth (C : Addr) (m : Str) (asp : ASp) (to : AE) (t : AA) : AE := fun τ S Q => to τ S fun x S1 => ∃ a fs, x = .ref a ∧ S1 a = some (.ins C fs) ∧ fs.lookup m = none ∧ t τ S1 fun ds S2 => asp (x :: ds) S2 Q
/-- C(..) -/
def aMake (C : Addr) (asp : ASp) (t : AA) : AE := fun τ S Q => t τ S fun ds S1 => ∀ a, S1 a = none → asp (.ref a :: ds) (updS S1 a (.ins C [])) fun d S2 => d = .non ∧ Q (.ref a) S2
section
variable {X : Cx} {k : Nat} {C : Addr} {m qual x : Str} {st : Stmt} {ps : List Str} {asp : ASp} {e o : Expr} {es : List Expr} {to : AE} {t : AA} {p pos apos : Pos}
theorem e_meth {pl : Sem Bool} (F : FnM X.prog X.w X.K X.mg X.base k C m qual st ps asp) (c : Cls X.K C) (gd : X.A.guards = some []) (hr : Room k X.A) (he : PE X o (low X.K to)) (ha : PA X (e :: es) (lowA X.K t))
    (hst : starEach (e :: es) X.env = (false, eval e X.env) :: starEach es X.env := by rfl) (hpl : (backTo pos (starEach es X.env)).any (·.1) = false := by rfl)
    (ht : eval (.Call (.Attribute o m apos) (e :: es) [] pos) X.env = (do
      let ov ← eval o X.env
      standAt apos.atName
      let (f, first) ← holding [ov] (getMethod ov m pl)
      callWith pos f first (backTo pos (starEach (e :: es) X.env)) (backToKw pos (keywordEach [] X.env))) := by rfl) :
    PE X (.Call (.Attribute o m apos) (e :: es) [] pos) (low X.K (aMeth C m asp to t)) := by
  obtain ⟨f, fd, _, G, hm, hb⟩ := F.ex
  refine ⟨fun pins s σ H QH I ⟨τ, S, Q, R, so, q, kk⟩ => ?_⟩
  refine PySem.W.methodCall_KW (pl := pl) (thn (he.run pins s σ H (fun v H1 => ∃ a fs S1, StOk X.K H1 S1 ∧ Step H S H1 S1 ∧ v = .ref a ∧ S1 a = some (.ins C fs) ∧ fs.lookup m = none ∧ t τ S1 fun ds S2 => asp (.ref a :: ds) S2 Q) I
    ⟨τ, S, _, R, so, q, fun v H1 d S1 so1 st1 r1 ⟨a, fs, ed, hs, hl, q1⟩ => by subst ed; exact ⟨a, fs, S1, so1, st1, rel_refE r1, hs, hl, q1⟩⟩) fun u s1 z => ?_) ht
  obtain ⟨v, H1, I1, rx, a, fs, S1, so1, st1, ev, hs, hl, q1⟩ := z
  subst ev
  obtain rfl : u = Value.ref a := rx
  obtain ⟨dx, fv, h1, rf⟩ := insE so1 hs
  refine getmeth_ok I1 h1 c hm (rf.none hl) ?_
  refine PySem.W.callWith_K (first := [.ref a]) (h₀ := X.base) I1.ok.mod.kin hm.kp (thn (ha.run pos pins s1 σ H1 (fun vs H2 => ∃ ds S2, StOk X.K H2 S2 ∧ Step H1 S1 H2 S2 ∧ RelAs X.K H2 S2 vs ds ∧ asp (.ref a :: ds) S2 Q) I1
    ⟨τ, S1, _, R.step st1, so1, q1, fun vs H2 ds S2 so2 st2 r2 q2 => ⟨ds, S2, so2, st2, r2, q2⟩⟩) fun us s2 z => ?_) hst hpl
  obtain ⟨vs, H2, I2, r, ds, S2, so2, st2, r2, q2⟩ := z
  exact ⟨I2.kIn, run_g (us := .ref a :: us) (vs := .ref a :: vs) G gd hr hb I2 (.cons rfl r) ⟨.ref a :: ds, S2, Q, .cons (.ref a) r2, so2, q2, fun d S' v H' so' st' r' q' => kk v H' d S' so' ((st1.trans st2).trans st') r' q'⟩⟩
theorem e_meth0 {pl : Sem Bool} (F : FnM X.prog X.w X.K X.mg X.base k C m qual st ps asp) (c : Cls X.K C) (gd : X.A.guards = some []) (hr : Room k X.A) (he : PE X o (low X.K to))
    (ht : eval (.Call (.Attribute o m apos) [] [] pos) X.env = (do
      let ov ← eval o X.env
      standAt apos.atName
      let (f, first) ← holding [ov] (getMethod ov m pl)
      callWith pos f first (backTo pos (starEach [] X.env)) (backToKw pos (keywordEach [] X.env))) := by rfl) :
    PE X (.Call (.Attribute o m apos) [] [] pos) (low X.K (aMeth C m asp to aNil)) := by
  obtain ⟨f, fd, _, G, hm, hb⟩ := F.ex
  refine ⟨fun pins s σ H QH I ⟨τ, S, Q, R, so, q, kk⟩ => ?_⟩
  refine PySem.W.methodCall_KW (pl := pl) (thn (he.run pins s σ H (fun v H1 => ∃ a fs S1, StOk X.K H1 S1 ∧ Step H S H1 S1 ∧ v = .ref a ∧ S1 a = some (.ins C fs) ∧ fs.lookup m = none ∧ asp [.ref a] S1 Q) I
    ⟨τ, S, _, R, so, q, fun v H1 d S1 so1 st1 r1 ⟨a, fs, ed, hs, hl, q1⟩ => by subst ed; exact ⟨a, fs, S1, so1, st1, rel_refE r1, hs, hl, q1⟩⟩) fun u s1 z => ?_) ht
  obtain ⟨v, H1, I1, rx, a, fs, S1, so1, st1, ev, hs, hl, q1⟩ := z
  subst ev
  obtain rfl : u = Value.ref a := rx
  obtain ⟨dx, fv, h1, rf⟩ := insE so1 hs
  refine getmeth_ok I1 h1 c hm (rf.none hl) ?_
  exact PySem.W.callWith_K0 (first := [.ref a]) I1.kIn hm.kp (run_g (us := [.ref a]) (vs := [.ref a]) G gd hr hb I1 (.cons rfl .nil) ⟨[.ref a], S1, Q, .cons (.ref a) .nil, so1, q1, fun d S' v H' so' st' r' q' => kk v H' d S' so' (st1.trans st') r' q'⟩)
theorem made_ok {K : PySem.W.Frag} {H : Hp} {S : Store} (so : StOk K H S) {a dx : Addr} (ha : H a = none) (hd : H dx = none) (ne : dx ≠ a) :
    StOk K (upd (upd H dx (.own a)) a (.ins C dx [])) (updS S a (.ins C [])) ∧ Step H S (upd (upd H dx (.own a)) a (.ins C dx [])) (updS S a (.ins C [])) := by
  have st1 : Step H S (upd H dx (.own a)) S := step_new so hd
  have so1 : StOk K (upd H dx (.own a)) S := stok_new so hd
  have ha1 : upd H dx (.own a) a = none := by rw [upd_ne (Ne.symm ne)]; exact ha
  have st2 := step_put (o := .ins C dx []) (u := .ins C []) so1 ha1
  exact ⟨stok_put (u := .ins C []) so1 ha1 ⟨dx, [], upd_same, rfl, .nil⟩, st1.trans st2⟩
/-- C(e, ..), its __init__ walked -/
theorem e_make {f : Addr} {fd : FuncData} (M : Mk X.K C f) (G : FnG X.prog X.w X.K X.mg X.base k f fd ps (spOf X.K asp)) (hb : Binds X.K fd ps []) (gd : X.A.guards = some []) (hr : Room (k + 1) X.A) (hm : X.mg x = some (.ref C)) (ha : PA X (e :: es) (lowA X.K t)) (hg : Gl X x := by rfl)
    (hdb : (x == ("__debug__" : Str)) = false := by decide) (he : starEach (e :: es) X.env = (false, eval e X.env) :: starEach es X.env := by rfl) (hpl : (backTo pos (starEach es X.env)).any (·.1) = false := by rfl) :
    PE X (.Call (.Name x p) (e :: es) [] pos) (low X.K (aMake C asp t)) := by
  refine ⟨fun pins s σ H QH I ⟨τ, S, Q, R, so, q, kk⟩ => ?_⟩
  refine wpAny_Call_Name_kw (ld_glob I hg hm ?_ hdb)
  refine PySem.W.callWith_K (h₀ := X.base) I.ok.mod.kin M.kp (thn (ha.run pos pins s σ H (fun vs H1 => ∃ ds S1, StOk X.K H1 S1 ∧ Step H S H1 S1 ∧ RelAs X.K H1 S1 vs ds ∧ ∀ a, S1 a = none → asp (.ref a :: ds) (updS S1 a (.ins C [])) fun d S2 => d = .non ∧ Q (.ref a) S2) I
    ⟨τ, S, _, R, so, q, fun vs H1 ds S1 so1 st1 r1 q1 => ⟨ds, S1, so1, st1, r1, q1⟩⟩) fun us s1 z => ?_) he hpl
  obtain ⟨vs, H1, I1, r, ds, S1, so1, st1, r1, q1⟩ := z
  refine ⟨I1.kIn, ?_⟩
  have fx : H1 (s1.heap.objs.size + 1) = none := I1.hok.fresh (Nat.le_succ _)
  have fd' : H1 s1.heap.objs.size = none := I1.hok.fresh (Nat.le_refl _)
  have ne : s1.heap.objs.size ≠ s1.heap.objs.size + 1 := Nat.ne_of_lt (Nat.lt_succ_self _)
  obtain ⟨so2, st2⟩ := made_ok (C := C) so1 fx fd' ne
  have I2 := Inv.made (C := C) I1
  have hq : spOf X.K asp (.ref (s1.heap.objs.size + 1) :: vs) (upd (upd H1 s1.heap.objs.size (.own (s1.heap.objs.size + 1))) (s1.heap.objs.size + 1) (.ins C s1.heap.objs.size [])) (fun v H2 => v = .non ∧ QH (.ref (s1.heap.objs.size + 1)) H2) E0 :=
    ⟨.ref (s1.heap.objs.size + 1) :: ds, _, _, .cons (.ref _) (r1.step st2), so2, q1 _ (so1.fresh fx), fun d S' v H' so' st' r' ⟨ed, q'⟩ => by
      subst ed
      exact ⟨rel_nonE r', kk _ H' _ S' so' ((st1.trans st2).trans st') (.ref _) q'⟩⟩
  have r2 : Vals (V.ref (s1.heap.objs.size + 1) :: vs) (Value.ref (s1.heap.objs.size + 1) :: us) := .cons rfl r
  have hl : (Value.ref (s1.heap.objs.size + 1) :: us ++ []).length = ps.length := by
    rw [List.append_nil, ← r2.length]
    exact G.len _ _ _ _ hq
  have b := hb _ (Value.ref (s1.heap.objs.size + 1) :: us) I2.kIn hl
  rw [List.append_nil] at b
  refine wpAny_call (make_map (f := f) I1.kIn M.makes M.init (beq_iff_eq.mp M.fn) (codeAny_mono (G.go (X.A.under (.builtin "type.__call__" ⟨.ref C :: us, []⟩)) (by first | exact gd | (simpa [Around.under] using gd)) (hr.make C us []) X.stack _ _ ⟨Value.ref (s1.heap.objs.size + 1) :: us, []⟩ (Value.ref (s1.heap.objs.size + 1) :: us) _ _ E0 (I2.env0.make C us []) b r2 hq) fun r' s' hq' => ?_))
  cases r' with
  | error e => exact False.elim hq'
  | ok fl =>
    cases fl with
    | ret u =>
      obtain ⟨v, H', I3, rv, ev, q3⟩ := I2.after hq'
      subst ev
      exact ⟨rv, ⟨V.ref (s1.heap.objs.size + 1), H', I3, rfl, q3⟩⟩
    | next => exact False.elim hq'
    | brk => exact False.elim hq'
    | cont => exact False.elim hq'
theorem e_mk (F : FnM X.prog X.w X.K X.mg X.base k C "__init__" qual st ps asp) (mk : PySem.W.makesIn X.K C = true ∧ PySem.W.keepIn X.K (.ref C) = true) (hm : X.mg x = some (.ref C)) (gd : X.A.guards = some []) (hr : Room (k + 1) X.A) (ha : PA X (e :: es) (lowA X.K t)) (hg : Gl X x := by rfl)
    (hdb : (x == ("__debug__" : Str)) = false := by decide) (he : starEach (e :: es) X.env = (false, eval e X.env) :: starEach es X.env := by rfl) (hpl : (backTo pos (starEach es X.env)).any (·.1) = false := by rfl) :
    PE X (.Call (.Name x p) (e :: es) [] pos) (low X.K (aMake C asp t)) := by
  obtain ⟨f, fd, _, G, m, hb⟩ := F.ex
  exact e_make ⟨mk.1, m.at_, m.fn, mk.2⟩ G hb gd hr hm ha hg hdb he hpl
end
end L3

set_option Elab.async false
set_option linter.all false
set_option maxRecDepth 100000
set_option maxHeartbeats 1000000
set_option autoImplicit false
/-! L3M: texts of ints, ints of texts, texts and lists over and over, three names at once. -/
namespace L3
open PySem L2 PyProof.Rows

def mulTA (z : Str) (n : Int) : Ans := ⟨z.length * n.toNat ≤ 16777216 ∧ -(2 ^ 63) ≤ n ∧ n ≤ 16777216, .str (Txt.mul z n)⟩
def mulLA (o : Option (List AV)) (n : Int) : Ans := match o with
  | some xs => ⟨-(2 ^ 63) ≤ n ∧ n < 2 ^ 63 ∧ xs.length * n.toNat ≤ sizeLine, .lst (List.replicate n.toNat xs).flatten⟩
  | none => badA
/-- * of ints, of a text and an int, of a list and an int -/
def mulX (x y : AV) (S : Store) : Ans := match x with
  | .int i => match y with
    | .int j => ⟨CMulB i j, .int (i * j)⟩
    | _ => badA
  | .str z => match y with
    | .int n => mulTA z n
    | _ => badA
  | x => match y with
    | .int n => mulLA (wstA S x) n
    | _ => badA
section
variable {X : Cx}
theorem mulOk_txt {z : Str} {n : Int} (h : z.length * n.toNat ≤ 16777216 ∧ -(2 ^ 63) ≤ n ∧ n ≤ 16777216) : MulOk z n := by
  obtain ⟨h1, h2, h3⟩ := h
  by_cases h0 : n < 1
  · exact mulOk_of z.length 0 (Nat.le_refl _) (by omega) h2 (by omega) (by omega)
  · exact mulOk_of z.length n.toNat (Nat.le_refl _) (by omega) h2 (by omega) h1
theorem op_mul_txt : OpR X (binaryOp .Mult) (fun x y H Q => ∃ z n, x = .str z ∧ y = .int n ∧ MulOk z n ∧ Q (.str (Txt.mul z n)) H) := by
  intro pins s σ H x y v u Q I rx ry h
  obtain ⟨z, n, rfl, rfl, hok, q⟩ := h
  obtain ⟨t, rfl⟩ := rx
  obtain ⟨t', rfl⟩ := ry
  exact SB.mul hok fun t' k => ⟨.str (Txt.mul z n), H, I.tok _, ⟨_, rfl⟩, q⟩
theorem relAs_reps {K : PySem.W.Frag} {H : Hp} {S : Store} {vs : List V} {ds : List AV} (r : RelAs K H S vs ds) : ∀ n : Nat, RelAs K H S (List.replicate n vs).flatten (List.replicate n ds).flatten
  | 0 => .nil
  | n + 1 => by rw [List.replicate_succ, List.replicate_succ, List.flatten_cons, List.flatten_cons]; exact r.app (relAs_reps r n)
theorem om_lst {x y : V} {dx : AV} {n : Int} {S : Store} {H : Hp} {QH : VK} (so : StOk X.K H S) (rx : RelA X.K H S x dx) (ry : RelA X.K H S y (.int n)) (ok : (mulLA (wstA S dx) n).ok)
    (k : ∀ v H', StOk X.K H' S → Step H S H' S → RelA X.K H' S v (mulLA (wstA S dx) n).v → QH v H') : rRep x y H QH := by
  cases ex : wstA S dx with
  | none => rw [ex] at ok; exact ok.elim
  | some xs =>
    rw [ex] at ok k
    obtain ⟨a, vs, rfl, ha, ra⟩ := rel_wstE so rx ex
    obtain rfl := rel_intE ry
    obtain ⟨h1, h2, h3⟩ := ok
    exact ⟨a, n, vs, rfl, rfl, ha, h1, h2, by rw [ra.length]; exact h3, fun p hp => k _ _ (stok_new so hp) (step_new so hp) (rel_lst so hp (relAs_reps ra n.toNat))⟩
theorem o_mulX : OpR X (binaryOp .Mult) (lowO X.K mulX) := opr_weak (OpR.or (OpR.or op_mul op_mulW) (OpR.or op_mul_txt op_rep)) fun x y H QH ⟨dx, dy, S, rx, ry, so, ok, k⟩ => by
  cases dx with
  | int i =>
    cases dy with
    | int j =>
      obtain rfl := rel_intE rx
      obtain rfl := rel_intE ry
      rcases ok with c | c
      · exact .inl (.inl ⟨i, j, rfl, rfl, c, k _ H so .refl (.int _)⟩)
      · exact .inl (.inr ⟨i, j, rfl, rfl, c, k _ H so .refl (.int _)⟩)
    | _ => exact ok.elim
  | str z =>
    cases dy with
    | int n =>
      obtain rfl := rel_strE rx
      obtain rfl := rel_intE ry
      exact .inr (.inl ⟨z, n, rfl, rfl, mulOk_txt ok, k _ H so .refl (.str _)⟩)
    | _ => exact ok.elim
  | lst xs =>
    cases dy with
    | int n => exact .inr (.inr (om_lst so rx ry ok k))
    | _ => exact ok.elim
  | ref l =>
    cases dy with
    | int n => exact .inr (.inr (om_lst so rx ry ok k))
    | _ => exact ok.elim
  | _ =>
    cases dy with
    | int n => exact ok.elim
    | _ => exact ok.elim
/-- str(n), str(text) -/
def strA (x : AV) (_ : Store) : Ans := match x with
  | .int i => ⟨i.natAbs.log2 < 1920, .str (Str.ofString (toString i))⟩
  | .str z => ⟨True, .str z⟩
  | _ => badA
theorem c_str : CallR X (.type "str") (lowC X.K (one1 strA)) := c_one (CallR.or call_str_int SkE.call_str_str) fun x d S H QH r so ok k => by
  cases d with
  | int i => obtain rfl := rel_intE r; exact .inl ⟨i, rfl, ok, k _ H so .refl (.str _)⟩
  | str z => obtain rfl := rel_strE r; exact .inr ⟨z, rfl, k _ H so .refl (.str _)⟩
  | _ => exact ok.elim
/-- int(n), int(flag), int(text) -/
def intXA (x : AV) (_ : Store) : Ans := match x with
  | .int i => ⟨True, .int i⟩
  | .bl b => ⟨True, .int (if b then 1 else 0)⟩
  | .str z => ⟨(PySem.intText? z).isSome = true ∧ z.length ≤ 640, .int ((PySem.intText? z).getD 0)⟩
  | _ => badA
theorem c_intX : CallR X (.type "int") (lowC X.K (one1 intXA)) := c_one (CallR.or call_int1 call_int_str) fun x d S H QH r so ok k => by
  cases d with
  | int i => obtain rfl := rel_intE r; exact .inl (.inl ⟨i, rfl, k _ H so .refl (.int _)⟩)
  | bl b => obtain rfl := rel_blE r; exact .inl (.inr ⟨b, rfl, k _ H so .refl (.int _)⟩)
  | str z =>
    obtain rfl := rel_strE r
    obtain ⟨h1, h2⟩ := ok
    obtain ⟨n, hn⟩ := Option.isSome_iff_exists.mp h1
    refine .inr ⟨z, n, rfl, hn, h2, k _ H so .refl ?_⟩
    show RelA X.K H S (.int n) (.int ((PySem.intText? z).getD 0))
    rw [hn]
    exact .int n
  | _ => exact ok.elim
theorem in_add : InOp X .Add (lowO X.K (intA (fun _ _ => True) fun i j => i + j)) := fun pins s σ H x y u v Q I rx ry q => (o_int (rI_tt iop_add)) pins s σ H x y u v Q I rx ry q
theorem mulX_ii {i j : Int} {S : Store} : mulX (.int i) (.int j) S = ⟨CMulB i j, .int (i * j)⟩ := rfl
theorem mulX_si {z : Str} {j : Int} {S : Store} : mulX (.str z) (.int j) S = ⟨z.length * j.toNat ≤ 16777216 ∧ -(2 ^ 63) ≤ j ∧ j ≤ 16777216, .str (Txt.mul z j)⟩ := rfl
theorem mulX_li {xs : List AV} {j : Int} {S : Store} : mulX (.lst xs) (.int j) S = ⟨-(2 ^ 63) ≤ j ∧ j < 2 ^ 63 ∧ xs.length * j.toNat ≤ sizeLine, .lst (List.replicate j.toNat xs).flatten⟩ := rfl
theorem mulX_ri {l : Addr} {xs : List AV} {j : Int} {S : Store} (h : S l = some (.lst xs)) : mulX (.ref l) (.int j) S = ⟨-(2 ^ 63) ≤ j ∧ j < 2 ^ 63 ∧ xs.length * j.toNat ≤ sizeLine, .lst (List.replicate j.toNat xs).flatten⟩ := by
  show mulLA (wstA S (.ref l)) j = _
  rw [wstA_ref h]
  rfl
theorem strA_i {i : Int} {S : Store} : strA (.int i) S = ⟨i.natAbs.log2 < 1920, .str (Str.ofString (toString i))⟩ := rfl
theorem strA_s {z : Str} {S : Store} : strA (.str z) S = ⟨True, .str z⟩ := rfl
theorem intXA_i {i : Int} {S : Store} : intXA (.int i) S = ⟨True, .int i⟩ := rfl
theorem intXA_b {i : Bool} {S : Store} : intXA (.bl i) S = ⟨True, .int (if i then 1 else 0)⟩ := rfl
theorem intXA_s {z : Str} {n : Int} {S : Store} (h : PySem.intText? z = some n) : intXA (.str z) S = ⟨z.length ≤ 640, .int n⟩ := by
  show (⟨(PySem.intText? z).isSome = true ∧ z.length ≤ 640, .int ((PySem.intText? z).getD 0)⟩ : Ans) = _
  rw [h]
  simp
/-- is, is not of bools -/
def isBA (x y : AV) (_ : Store) : Ans := match x with
  | .bl a => match y with
    | .bl b => ⟨True, .bl (decide (a = b))⟩
    | _ => badA
  | _ => badA
def isntBA (x y : AV) (_ : Store) : Ans := match x with
  | .bl a => match y with
    | .bl b => ⟨True, .bl (!decide (a = b))⟩
    | _ => badA
  | _ => badA
theorem isBA_bb {a b : Bool} {S : Store} : isBA (.bl a) (.bl b) S = ⟨True, .bl (decide (a = b))⟩ := rfl
theorem isntBA_bb {a b : Bool} {S : Store} : isntBA (.bl a) (.bl b) S = ⟨True, .bl (!decide (a = b))⟩ := rfl
theorem o_isB : OpR X (compareOp .Is) (lowO X.K isBA) := opr_weak L2.op_isBl fun x y H QH ⟨dx, dy, S, rx, ry, so, ok, k⟩ => by
  cases dx with
  | bl a =>
    cases dy with
    | bl b => obtain rfl := rel_blE rx; obtain rfl := rel_blE ry; exact ⟨a, b, rfl, rfl, k _ H so .refl (.bl _)⟩
    | _ => exact ok.elim
  | _ => exact ok.elim
theorem o_isntB : OpR X (compareOp .IsNot) (lowO X.K isntBA) := opr_weak L2.op_notBl fun x y H QH ⟨dx, dy, S, rx, ry, so, ok, k⟩ => by
  cases dx with
  | bl a =>
    cases dy with
    | bl b => obtain rfl := rel_blE rx; obtain rfl := rel_blE ry; exact ⟨a, b, rfl, rfl, k _ H so .refl (.bl _)⟩
    | _ => exact ok.elim
  | _ => exact ok.elim
end
end L3

set_option Elab.async false
set_option linter.all false
set_option maxRecDepth 100000
set_option maxHeartbeats 2000000
set_option autoImplicit false
/-! L3N: comprehensions over pairs; starred parts of lists. -/
namespace L3
open PySem L2
section
/-- [e for x, y in xs if t] -/
def aLcP (ai : AI) (j k : Nat) (tt : AT) (te : AE) (vs : List Nat) : AE := fun τ S Q => ai τ S fun xs G S1 => ∀ D, S1 D = none → ∃ I : Nat → List AV → Store → Prop, I 0 [] (updS S1 D .hid) ∧
  (∀ (i : Nat) x acc S2, xs[i]? = some x → I i acc S2 → G S2 ∧ ∃ d1 d2, x = .tup [d1, d2] ∧ tt (((wipeA τ vs).set j (some d1)).set k (some d2)) S2 fun b S3 => if b = true then te (((wipeA τ vs).set j (some d1)).set k (some d2)) S3 fun y S4 => acc.length < sizeLine ∧ I (i + 1) (acc ++ [y]) S4 else I (i + 1) acc S3) ∧
  (∀ acc S2, I xs.length acc S2 → G S2 ∧ Q (.lst acc) (dropS S2 D))
theorem lcP_low {K : PySem.W.Frag} {wi : TI} {ai : AI} {g : TG} {tt : AT} {te : AE} {vs : List Nat} {j jj : Nat} (hj : j ∈ vs) (hjj : jj ∈ vs) (hwi : wi = lowI K ai) (hg : g = gTup K 2 (gCons (gName j) (gCons (gName jj) gNil))) : ∀ σ H QH, low K (aLcP ai j jj tt te vs) σ H QH → tLc wi g (lowT K tt) (low K te) vs σ H QH := by
  subst hwi hg
  intro σ H QH ⟨τ, S, Q, R, so, q, k⟩
  refine ⟨τ, S, _, R, so, q, fun J H1 xs G S1 so1 st1 it hI D hD => ?_⟩
  obtain ⟨I, i0, hstep, hend⟩ := hI D (so1.fresh hD)
  have nD : S1 D = none := so1.fresh hD
  -- the start
  have stD : Step H1 S1 (upd H1 D (.lst [])) (updS S1 D .hid) := step_put so1 hD
  have soD : StOk K (upd H1 D (.lst [])) (updS S1 D .hid) := stok_put (u := .hid) so1 hD ⟨_, upd_same⟩
  refine ⟨fun i m H' => ∃ acc S2 ws, I i acc S2 ∧ i + m = xs.length ∧ StOk K H' S2 ∧ S2 D = some .hid ∧ H' D = some (.lst ws) ∧ RelAs K H' S2 ws acc ∧
    (∀ a o, a ≠ D → S1 a = none → H1 a = some o → H' a = some o ∧ S2 a = none) ∧ (∀ a, S1 a = some .hid → H' a = H1 a ∧ S2 a = some .hid), ⟨xs.length, [], _, [], i0, by omega, soD, updS_same, upd_same, .nil, fun a o _ n h => stD.old a o n h, fun a h => stD.hid a h⟩, ?_⟩
  intro i m H2 ⟨acc, S2, ws, w2, hm, so2, hh2, hD2, r2, old2, hid2⟩
  have st2 : Step H1 S1 H2 S2 := ⟨fun a o n h => old2 a o (ne_of_none h hD) n h, hid2⟩
  by_cases hi : i < xs.length
  · right
    have hx : xs[i]? = some xs[i] := List.getElem?_eq_getElem hi
    obtain ⟨hG, d1, d2, ex, hq⟩ := hstep i _ acc S2 hx w2
    obtain ⟨hgo, hy⟩ := (it H2 S2 so2 st2 hG).1 i _ hx
    refine ⟨hgo, _, fun H' h => h, fun v H3 hv => ?_⟩
    obtain ⟨so3, st3, r3⟩ := hy v H3 hv
    rw [ex] at r3
    obtain ⟨av, ws0, ev, sq, rs0⟩ := rel_tupE r3
    obtain ⟨v1, v2, ew, rv1, rv2⟩ := rel_two rs0
    subst ev ew
    refine ⟨av, [v1, v2], rfl, sq, rfl, v1, [v2], rfl, v2, [], rfl, rfl, ?_⟩
    refine ⟨by rw [wipe_set hjj, wipe_set hj]; exact wipe_wipe σ vs vs fun _ h => h, ?_⟩
    have R3 : Rp K H3 S2 (((L2.wipe σ vs).set j (some v1)).set jj (some v2)) (((wipeA τ vs).set j (some d1)).set jj (some d2)) := ((((R.step st1).step st2).step st3).wipe vs |>.set rv1 j) |>.set rv2 jj
    have keep : ∀ {H4 : Hp} {S4 : Store}, Step H2 S2 H4 S4 → H4 D = some (.lst ws) ∧ S4 D = some .hid ∧ RelAs K H4 S4 ws acc ∧ (∀ a o, a ≠ D → S1 a = none → H1 a = some o → H4 a = some o ∧ S4 a = none) ∧ (∀ a, S1 a = some .hid → H4 a = H1 a ∧ S4 a = some .hid) := by
      intro H4 S4 st
      obtain ⟨e1, e2⟩ := st.hid D hh2
      exact ⟨e1.trans hD2, e2, r2.step st, fun a o ne n h => let ⟨h1, n1⟩ := old2 a o ne n h; st.old a o n1 h1, fun a h => let ⟨h1, n1⟩ := hid2 a h; let ⟨h3, n3⟩ := st.hid a n1; ⟨h3.trans h1, n3⟩⟩
    refine ⟨_, S2, _, R3, so3, hq, fun b H4 S4 so4 st4 q4 => ?_⟩
    cases b with
    | false =>
      rw [if_neg Bool.false_ne_true] at q4 ⊢
      obtain ⟨e1, e2, e3, e4, e5⟩ := keep (st3.trans st4)
      exact ⟨m - 1, by omega, acc, S4, ws, q4, by omega, so4, e2, e1, e3, e4, e5⟩
    | true =>
      rw [if_pos rfl] at q4 ⊢
      refine ⟨_, S4, _, R3.step st4, so4, q4, fun y H5 dy S5 so5 st5 r5 ⟨hz, w5⟩ => ?_⟩
      obtain ⟨e1, e2, e3, e4, e5⟩ := keep ((st3.trans st4).trans st5)
      refine ⟨ws, e1, by rw [r2.length]; exact hz, m - 1, by omega, acc ++ [dy], S5, ws ++ [y], w5, by omega, ?_⟩
      -- the list at D has grown; nothing else
      have grow : Old H5 S5 (upd H5 D (.lst (ws ++ [y]))) S5 := fun a o n h => by
        have ne : a ≠ D := by rintro rfl; rw [e2] at n; cases n
        exact ⟨by rw [upd_ne ne]; exact h, n⟩
      refine ⟨fun a o e => ?_, e2, upd_same, (e3.app (.cons r5 .nil)).stepO grow, fun a o ne n h => by rw [upd_ne ne]; exact e4 a o ne n h, fun a h => ?_⟩
      · by_cases z : a = D
        · subst z
          rw [e2] at e
          cases e
          exact ⟨_, upd_same⟩
        · exact (so5 a o e).stepO grow (upd_ne z)
      · have z : a ≠ D := by rintro rfl; rw [nD] at h; cases h
        rw [upd_ne z]
        exact e5 a h
  · left
    have e : i = xs.length := by omega
    subst e
    obtain ⟨hG, hq⟩ := hend acc S2 w2
    have less : Old H2 S2 H2 (dropS S2 D) := fun a o n h => ⟨h, by unfold dropS; split; rfl; exact n⟩
    refine ⟨(it H2 S2 so2 st2 hG).2, k _ H2 _ (dropS S2 D) (fun a o e => ?_) (st1.trans ⟨fun a o n h => ?_, fun a h => ?_⟩) (.lst hD2 dropS_same (r2.stepO less)) hq⟩
    · have ne : a ≠ D := by rintro rfl; rw [dropS_same] at e; cases e
      rw [dropS_ne ne] at e
      exact (so2 a o e).stepO less rfl
    · obtain ⟨h1, n1⟩ := st2.old a o n h
      exact ⟨h1, (less a o n1 h1).2⟩
    · obtain ⟨h1, n1⟩ := st2.hid a h
      have ne : a ≠ D := by rintro rfl; rw [nD] at h; cases h
      exact ⟨h1, by rw [dropS_ne ne]; exact n1⟩
end
section
variable {X : Cx} {elt tg iter : Expr} {ifs : List Expr} {scope : Scope} {own : List (Str × Nat)} {ai : AI} {tt : AT} {te : AE} {pos : Pos}
theorem e_lcP (j jj : Nat) (own : List (Str × Nat)) (hc : X.calm = true) (hN : X.N.Nodup) (hi : PI X tg iter (lowI X.K ai)) (ok : BlkOk X.N X.env.scope scope own)
    (hg : ∀ (s : Shared) (H : Hp) (C : Addr) (cl : List (Str × Addr)) (fp : List Addr), PG (X.blk s H scope (compEnvC scope cl C X.env) fp) tg (gTup X.K 2 (gCons (gName j) (gCons (gName jj) gNil))))
    (ht : ∀ (s : Shared) (H : Hp) (C : Addr) (cl : List (Str × Addr)) (fp : List Addr), PTs (X.blk s H scope (compEnvC scope cl C X.env) fp) ifs (lowT X.K tt))
    (he : ∀ (s : Shared) (H : Hp) (C : Addr) (cl : List (Str × Addr)) (fp : List Addr), PE (X.blk s H scope (compEnvC scope cl C X.env) fp) elt (low X.K te))
    (hj : j ∈ own.map (·.2) := by decide) (hjj : jj ∈ own.map (·.2) := by decide) (hs : ∀ x, foldedSetIterable iter X.env x = pure x := by intro _; rfl) : PE X (.ListComp elt [⟨tg, iter, ifs, 0⟩] scope pos) (low X.K (aLcP ai j jj tt te (own.map (·.2)))) :=
  (pe_lc (own := own) hc hN hi ok hg ht he hs).weak (lcP_low hj hjj rfl rfl)
end
/-- [*a, b] -/
def aStar (ta : AE) (tr : AA) : AA := fun τ S Q => ta τ S fun x S1 => ∃ xs, seqA S1 x = some xs ∧ tr τ S1 fun ys S2 => Q (xs ++ ys) S2
section
variable {X : Cx} {e : Expr} {es : List Expr} {ta : AE} {tr : AA} {p : Pos}
theorem a_star (ha : PE X e (low X.K ta)) (hr : PA X es (lowA X.K tr)) (hs : starEach (.Starred e p :: es) X.env = (true, eval e X.env) :: starEach es X.env := by rfl) : PA X (.Starred e p :: es) (lowA X.K (aStar ta tr)) :=
  (StX.pa_star ha hr hs).weak fun σ H QH ⟨τ, S, Q, R, so, q, k⟩ => ⟨τ, S, _, R, so, q, fun v H1 d S1 so1 st1 r1 ⟨xs, e, q1⟩ => by
    obtain ⟨a, vs, rfl, h, rs⟩ := rel_seqE so1 r1 e
    exact ⟨a, vs, rfl, h.symm, τ, S1, _, R.step st1, so1, q1, fun ws H2 ys S2 so2 st2 r2 q2 => k (vs ++ ws) H2 (xs ++ ys) S2 so2 (st1.trans st2) ((rs.step st2).app r2) q2⟩⟩
end
end L3

set_option Elab.async false
set_option linter.all false
set_option maxRecDepth 100000
set_option maxHeartbeats 1000000
set_option autoImplicit false
/-! L3P: in of lists and tuples, index, count, bits, three names at once. -/
namespace L3
open PySem L2 PyProof.Rows

def fl1 : AV → Bool
  | .non => true
  | .bl _ => true
  | .int _ => true
  | .str _ => true
  | _ => false
def toV : AV → V
  | .bl b => .bl b
  | .int i => .int i
  | .str z => .str z
  | _ => .non
/-- == of flat values -/
def eq1 : AV → AV → Bool
  | .non, .non => true
  | .bl a, .bl b => a == b
  | .bl a, .int b => (if a then 1 else 0) == b
  | .int a, .bl b => a == (if b then 1 else 0)
  | .int a, .int b => a == b
  | .str a, .str b => a == b
  | _, _ => false
theorem eq1_V {x y : AV} (fx : fl1 x = true) (fy : fl1 y = true) : eqV (toV x) (toV y) = eq1 x y := by
  cases x <;> first | (cases fx; done) | skip
  all_goals cases y <;> first | (cases fy; done) | rfl
section
variable {K : PySem.W.Frag} {H : Hp} {S : Store}
theorem rel_fl {v : V} {d : AV} (r : RelA K H S v d) (f : fl1 d = true) : v = toV d := by
  cases d <;> first | (cases f; done) | skip
  · exact rel_nonE r
  · exact rel_blE r
  · exact rel_intE r
  · exact rel_strE r
theorem toV_flat {d : AV} (f : fl1 d = true) : flatV (toV d) = true := by cases d <;> first | (cases f; done) | rfl
theorem rel_fls : ∀ {vs : List V} {ds : List AV}, RelAs K H S vs ds → ds.all fl1 = true → vs = ds.map toV
  | _, _, .nil, _ => rfl
  | _, _, .cons r t, e => by
    rw [List.all_cons, Bool.and_eq_true_iff] at e
    rw [rel_fl r e.1, rel_fls t e.2]
    rfl
end
theorem toVs_flat {ds : List AV} (h : ds.all fl1 = true) : (ds.map toV).all flatV = true := by
  rw [List.all_map]
  exact List.all_eq_true.mpr fun x hx => toV_flat (List.all_eq_true.mp h x hx)
theorem inV_to {x : AV} {xs : List AV} (fx : fl1 x = true) (fs : xs.all fl1 = true) : inV (toV x) (xs.map toV) = xs.any fun y => eq1 y x := by
  unfold inV
  rw [List.any_map]
  induction xs with
  | nil => rfl
  | cons y ys ih =>
    rw [List.all_cons, Bool.and_eq_true_iff] at fs
    rw [List.any_cons, List.any_cons, ih fs.2, Function.comp_apply, eq1_V fs.1 fx]
def inL (x : AV) : Option (List AV) → Ans
  | some xs => ⟨fl1 x = true ∧ xs.all fl1 = true, .bl (xs.any fun y => eq1 y x)⟩
  | none => badA
/-- x in xs: a sign in a text, a flat value in a list or tuple of flat ones -/
def inA (x y : AV) (S : Store) : Ans := match y with
  | .str z => inSA x (.str z) S
  | y => inL x (seqA S y)
def notA (a : Ans) : Ans := match a with
  | ⟨p, .bl b⟩ => ⟨p, .bl (!b)⟩
  | _ => badA
def ninA (x y : AV) (S : Store) : Ans := match y with
  | .str z => badA
  | y => notA (inL x (seqA S y))
section
variable {X : Cx}
theorem oin_seq {x y : V} {dx dy : AV} {S : Store} {H : Hp} {QH : VK} (so : StOk X.K H S) (rx : RelA X.K H S x dx) (ry : RelA X.K H S y dy) (ok : (inL dx (seqA S dy)).ok)
    (neg : Bool) (k : ∀ b, (inL dx (seqA S dy)).v = .bl b → QH (.bl (if neg then !b else b)) H) : rIn X.K neg x y H QH := by
  cases ey : seqA S dy with
  | none => rw [ey] at ok; exact ok.elim
  | some xs =>
    rw [ey] at ok k
    obtain ⟨f1, f2⟩ := ok
    obtain ⟨p, vs, rfl, hp, rs⟩ := rel_seqE so ry ey
    have e1 := rel_fl rx f1
    have e2 := rel_fls rs f2
    subst e1 e2
    refine ⟨p, _, rfl, hp, toV_flat f1, toVs_flat f2, ?_⟩
    have := k _ rfl
    rw [inV_to f1 f2]
    exact this
theorem o_in : OpR X (compareOp .In) (lowO X.K inA) := opr_weak (OpR.or op_in_sign op_in_seq) fun x y H QH ⟨dx, dy, S, rx, ry, so, ok, k⟩ => by
  have gen : inA dx dy S = inL dx (seqA S dy) → rIn X.K false x y H QH := fun e => by
    rw [e] at ok k
    exact oin_seq so rx ry ok false fun b eb => by rw [eb] at k; exact k _ H so .refl (.bl b)
  cases dy with
  | str j =>
    cases dx with
    | str i =>
      obtain ⟨c, rfl⟩ := ok
      obtain rfl := rel_strE rx
      obtain rfl := rel_strE ry
      exact .inl ⟨c, j, rfl, rfl, k _ H so .refl (.bl _)⟩
    | _ => exact ok.elim
  | _ => exact .inr (gen rfl)
theorem inL_bl {x : AV} {o : Option (List AV)} (ok : (inL x o).ok) : ∃ b, (inL x o).v = .bl b ∧ notA (inL x o) = ⟨(inL x o).ok, .bl (!b)⟩ := by
  cases o with
  | none => exact ok.elim
  | some xs => exact ⟨_, rfl, rfl⟩
theorem notA_ok {a : Ans} (h : (notA a).ok) : a.ok := by
  obtain ⟨p, v⟩ := a
  cases v <;> first | exact h | exact h.elim
theorem o_nin : OpR X (compareOp .NotIn) (lowO X.K ninA) := opr_weak op_notIn_seq fun x y H QH ⟨dx, dy, S, rx, ry, so, ok, k⟩ => by
  have gen : ninA dx dy S = notA (inL dx (seqA S dy)) → rIn X.K true x y H QH := fun e => by
    rw [e] at ok k
    have ok1 := notA_ok ok
    obtain ⟨b, e1, e2⟩ := inL_bl ok1
    rw [e2] at k
    exact oin_seq so rx ry ok1 true fun b' eb => by rw [e1] at eb; cases eb; exact k _ H so .refl (.bl _)
  cases dy with
  | str j => exact ok.elim
  | _ => exact gen rfl
theorem inA_tup {x : AV} {xs : List AV} {S : Store} : inA x (.tup xs) S = ⟨fl1 x = true ∧ xs.all fl1 = true, .bl (xs.any fun y => eq1 y x)⟩ := rfl
theorem inA_lst {x : AV} {xs : List AV} {S : Store} : inA x (.lst xs) S = ⟨fl1 x = true ∧ xs.all fl1 = true, .bl (xs.any fun y => eq1 y x)⟩ := rfl
theorem inA_sg {c : Nat} {z : Str} {S : Store} : inA (.str ⟨#[c]⟩) (.str z) S = ⟨True, .bl (decide (c ∈ z.cps.toList))⟩ := ans_tt ⟨c, rfl⟩ rfl
theorem ninA_tup {x : AV} {xs : List AV} {S : Store} : ninA x (.tup xs) S = ⟨fl1 x = true ∧ xs.all fl1 = true, .bl (!xs.any fun y => eq1 y x)⟩ := rfl
theorem ninA_lst {x : AV} {xs : List AV} {S : Store} : ninA x (.lst xs) S = ⟨fl1 x = true ∧ xs.all fl1 = true, .bl (!xs.any fun y => eq1 y x)⟩ := rfl
/-- bits -/
def shrA := intA (fun _ j => 0 ≤ j) fun i j => i / 2 ^ j.toNat
theorem o_shr : OpR X (binaryOp .RShift) (lowO X.K shrA) := o_int op_shr
def andA := intA (fun _ _ => True) fun i j => Builtin.bitAnd i j
theorem o_band : OpR X (binaryOp .BitAnd) (lowO X.K andA) := o_int (rI_tt op_and)
theorem shrA_ii {i j : Int} {S : Store} : shrA (.int i) (.int j) S = ⟨0 ≤ j, .int (i / 2 ^ j.toNat)⟩ := rfl
theorem andA_ii {i j : Int} {S : Store} : andA (.int i) (.int j) S = ⟨True, .int (Builtin.bitAnd i j)⟩ := rfl
/-- xs.index(y) -/
def mIndex (x : AV) (as : List AV) (S : Store) (Q : AK) : Prop := ∃ xs y j z, lstA S x = some xs ∧ as = [y] ∧ fl1 y = true ∧ xs.all fl1 = true ∧ xs[j]? = some z ∧ eq1 z y = true ∧ (∀ (m : Nat) z', m < j → xs[m]? = some z' → eq1 z' y = false) ∧ Q (.int (j : Nat)) S
theorem m_index : MtR X "list.index" (lowM X.K mIndex) := mtr_weak mt_index fun x vs H QH ⟨dx, as, S, Q, rx, rs, so, ⟨xs, y, j, z, ex, ea, f1, f2, hj, hz, hno, q⟩, k⟩ => by
  subst ea
  obtain ⟨w, rfl, rw'⟩ := rel_one rs
  obtain ⟨a, ws, rfl, hl, rl⟩ := rel_lstE so rx ex
  have e1 := rel_fl rw' f1
  have e2 := rel_fls rl f2
  subst e1 e2
  have fz : fl1 z = true := List.all_eq_true.mp f2 z (List.mem_of_getElem? hj)
  refine ⟨a, _, _, j, toV z, rfl, rfl, hl, toV_flat f1, toVs_flat f2, by rw [List.getElem?_map, hj]; rfl, by rw [eq1_V fz f1]; exact hz, fun m z' hm hz' => ?_, k _ H _ S so .refl (.int _) q⟩
  rw [List.getElem?_map] at hz'
  cases e : xs[m]? with
  | none => rw [e] at hz'; cases hz'
  | some y' =>
    rw [e] at hz'
    cases hz'
    rw [eq1_V (List.all_eq_true.mp f2 y' (List.mem_of_getElem? e)) f1]
    exact hno m y' hm e
/-- xs.count(n) of whole numbers -/
def mCount (x : AV) (as : List AV) (S : Store) (Q : AK) : Prop := ∃ (ns : List Int) (n : Int), lstA S x = some (ns.map .int) ∧ as = [.int n] ∧ Q (.int (ns.count n : Nat)) S
theorem rel_intL {K : PySem.W.Frag} {H : Hp} {S : Store} : ∀ {ns : List Int} {vs : List V}, RelAs K H S vs (ns.map AV.int) → vs = ns.map V.int
  | [], _, .nil => rfl
  | n :: ns, _, .cons r t => by rw [rel_intE r, rel_intL t]; rfl
theorem m_count : MtR X "list.count" (lowM X.K mCount) := mtr_weak mt_lcount fun x vs H QH ⟨dx, as, S, Q, rx, rs, so, ⟨ns, n, ex, ea, q⟩, k⟩ => by
  subst ea
  obtain ⟨w, rfl, rw'⟩ := rel_one rs
  obtain ⟨a, ws, rfl, hl, rl⟩ := rel_lstE so rx ex
  have e1 := rel_intL rl
  subst e1
  obtain rfl := rel_intE rw'
  exact ⟨a, ns, n, rfl, rfl, hl, k _ H _ S so .refl (.int _) q⟩
end
section
variable {X : Cx} {a b c : Expr} {t : AA} {pos : Pos}
/-- a, b, c = x, y, z -/
def aPar3 (i j l : Nat) (t : AA) : AS := fun D τ S => t τ S fun ds S1 => ∃ x y z, ds = [x, y, z] ∧ D.nx (((τ.set i (some x)).set j (some y)).set l (some z)) S1
theorem s_par3 {i j l : Nat} {x y z : Str} {px py pz pt : Pos} {kt k2 : Nat} {pt2 : Pos} (hc : X.calm = true) (hN : X.N.Nodup) (ha : PA X [a, b, c] (lowA X.K t)) (hi : X.N[i]? = some x := by rfl) (hj : X.N[j]? = some y := by rfl) (hl : X.N[l]? = some z := by rfl)
    (hij : i ≠ j := by decide) (hil : i ≠ l := by decide) (hjl : j ≠ l := by decide) (hx : X.env.scope.names.lookup x = some .local := by rfl) (hy : X.env.scope.names.lookup y = some .local := by rfl) (hz : X.env.scope.names.lookup z = some .local := by rfl)
    (h1 : swappedStores [.Tuple [.Name x px, .Name y py, .Name z pz] kt pt] (.Tuple [a, b, c] k2 pt2) X.env = pure (some [x, y, z]) := by rfl) (h2 : swapsWithSole [.Tuple [.Name x px, .Name y py, .Name z pz] kt pt] (.Tuple [a, b, c] k2 pt2) pos.line X.env = pure false := by rfl) :
    PS X (.Assign [.Tuple [.Name x px, .Name y py, .Name z pz] kt pt] (.Tuple [a, b, c] k2 pt2) pos) (lowS X.K (aPar3 i j l t)) := (ps_par3 hc hN hi hj hl hij hil hjl hx hy hz ha h1 h2).weak fun D σ H ⟨τ, S, DA, R, so, q, k⟩ =>
  ⟨τ, S, _, R, so, q, fun vs H1 ds S1 so1 st1 r1 ⟨x, y, z, e, q1⟩ => by
    subst e
    cases r1 with
    | cons rx rr =>
      cases rr with
      | cons ry rr =>
        cases rr with
        | cons rz rr =>
          cases rr
          exact ⟨_, _, _, rfl, k.nx _ H1 _ S1 so1 st1 ((((R.step st1).set rx i).set ry j).set rz l) q1⟩⟩
end
theorem ex_tri {x y z : AV} {P : AV → AV → AV → Prop} : (∃ a b c, [x, y, z] = [a, b, c] ∧ P a b c) = P x y z := propext ⟨fun ⟨d, es, f, e, p⟩ => by cases e; exact p, fun p => ⟨x, y, z, rfl, p⟩⟩

/-! ### comprehensions over lists, with tests, over pairs; loops over tuples -/
theorem lstA_upd {S : Store} {d : AV} {xs : List AV} {D : Addr} {o : AO} (h : lstA S d = some xs) (hD : S D = none) : lstA (updS S D o) d = some xs := by
  cases d with
  | ref l =>
    have ne : l ≠ D := by
      rintro rfl
      have h' : (match S l with | some (.lst xs) => some xs | _ => none) = some xs := h
      rw [hD] at h'
      cases h'
    show (match updS S D o l with | some (.lst xs) => some xs | _ => none) = some xs
    rw [updS_ne ne]
    exact h
  | _ => exact h
def LcGoF (tt : AT) (te : AE) (j : Nat) (vs : List Nat) (τ : ASt) (Q : AK) (G : Store → Prop) (xs : List AV) (S1 : Store) : Prop := ∀ D, S1 D = none → ∃ I : Nat → List AV → Store → Prop, I 0 [] (updS S1 D .hid) ∧
  (∀ (i : Nat) x acc S2, xs[i]? = some x → I i acc S2 → G S2 ∧ tt ((wipeA τ vs).set j (some x)) S2 fun b S3 => if b = true then te ((wipeA τ vs).set j (some x)) S3 fun y S4 => acc.length < sizeLine ∧ I (i + 1) (acc ++ [y]) S4 else I (i + 1) acc S3) ∧
  (∀ acc S2, I xs.length acc S2 → G S2 ∧ Q (.lst acc) (dropS S2 D))
theorem aLcF_lst {ta : AE} {tt : AT} {te : AE} {j : Nat} {vs : List Nat} {τ : ASt} {S : Store} {Q : AK} : aLc (aiLst ta) j tt te vs τ S Q = ta τ S fun d S1 => ∃ xs, lstA S1 d = some xs ∧ LcGoF tt te j vs τ Q (fun S2 => lstA S2 d = some xs) xs S1 := rfl
theorem aLcF_tup {ta : AE} {tt : AT} {te : AE} {j : Nat} {vs : List Nat} {τ : ASt} {S : Store} {Q : AK} : aLc (aiTup ta) j tt te vs τ S Q = ta τ S fun d S1 => ∃ xs, d = .tup xs ∧ LcGoF tt te j vs τ Q (fun _ => True) xs S1 := rfl
theorem aLcF_rng {t : AA} {tt : AT} {te : AE} {j : Nat} {vs : List Nat} {τ : ASt} {S : Store} {Q : AK} : aLc (aiRng1 t) j tt te vs τ S Q = t τ S fun ds S1 => ∃ n : Int, ds = [.int n] ∧ -(2 ^ 62) ≤ n ∧ n < 2 ^ 62 ∧ LcGoF tt te j vs τ Q (fun _ => True) (rngA 0 n.toNat) S1 := rfl
section
variable {xs : List AV} {tt : AT} {te : AE} {j : Nat} {vs : List Nat} {τ : ASt} {S1 : Store} {Q : AK} {G : Store → Prop}
/-- pure all the way -/
theorem lcF_pure (p : AV → Bool) (f : AV → AV) (hl : xs.length ≤ sizeLine) (hG : ∀ D, S1 D = none → G (updS S1 D .hid)) (stepT : ∀ x ∈ xs, ∀ (Sx : Store) (Qb : Bool → Store → Prop), Qb (p x) Sx → tt ((wipeA τ vs).set j (some x)) Sx Qb)
    (stepE : ∀ x ∈ xs, p x = true → ∀ (Sx : Store) (Qe : AK), Qe (f x) Sx → te ((wipeA τ vs).set j (some x)) Sx Qe) (q : Q (.lst ((xs.filter p).map f)) S1) : LcGoF tt te j vs τ Q G xs S1 := by
  intro D hD
  refine ⟨fun i acc S2 => i ≤ xs.length ∧ acc = ((xs.take i).filter p).map f ∧ S2 = updS S1 D .hid, ⟨Nat.zero_le _, rfl, rfl⟩, fun i x acc S2 hx ⟨hi, ea, es⟩ => ?_, fun acc S2 ⟨hi, ea, es⟩ => ?_⟩
  · have hlt := (List.getElem?_eq_some_iff.mp hx).1
    have hm := List.mem_of_getElem? hx
    subst es
    refine ⟨hG D hD, stepT x hm _ _ ?_⟩
    cases hp : p x with
    | false =>
      rw [if_neg Bool.false_ne_true]
      refine ⟨hlt, ?_, rfl⟩
      rw [ea, List.take_add_one, hx]
      simp [hp]
    | true =>
      rw [if_pos rfl]
      refine stepE x hm hp _ _ ⟨?_, hlt, ?_, rfl⟩
      · have h1 : ((xs.take i).filter p).length ≤ (xs.take i).length := List.length_filter_le ..
        rw [List.length_take] at h1
        rw [ea, List.length_map]
        omega
      · rw [ea, List.take_add_one, hx]
        simp [hp]
  · subst es
    refine ⟨hG D hD, ?_⟩
    rw [ea, List.take_length, dropS_upd hD]
    exact q
theorem lcF_all (f : AV → AV) (hl : xs.length ≤ sizeLine) (hG : ∀ D, S1 D = none → G (updS S1 D .hid)) (stepE : ∀ x ∈ xs, ∀ (Sx : Store) (Qe : AK), Qe (f x) Sx → te ((wipeA τ vs).set j (some x)) Sx Qe) (q : Q (.lst (xs.map f)) S1) : LcGoF aYes te j vs τ Q G xs S1 :=
  lcF_pure (fun _ => true) f hl hG (fun x _ Sx Qb h => h) (fun x hx _ => stepE x hx) (by rw [List.filter_eq_self.mpr (fun _ _ => rfl)]; exact q)
end
theorem lcF_allM {α : Type} {xs : List α} {te : AE} {j : Nat} {vs : List Nat} {τ : ASt} {S1 : Store} {Q : AK} {G : Store → Prop} (g : α → AV) (f : α → AV) (hl : xs.length ≤ sizeLine) (hG : ∀ D, S1 D = none → G (updS S1 D .hid))
    (stepE : ∀ x ∈ xs, ∀ (Sx : Store) (Qe : AK), Qe (f x) Sx → te ((wipeA τ vs).set j (some (g x))) Sx Qe) (q : Q (.lst (xs.map f)) S1) : LcGoF aYes te j vs τ Q G (xs.map g) S1 := by
  intro D hD
  refine ⟨fun i acc S2 => i ≤ xs.length ∧ acc = (xs.take i).map f ∧ S2 = updS S1 D .hid, ⟨Nat.zero_le _, rfl, rfl⟩, fun i x acc S2 hx ⟨hi, ea, es⟩ => ?_, fun acc S2 ⟨hi, ea, es⟩ => ?_⟩
  · rw [List.getElem?_map] at hx
    cases hy : xs[i]? with
    | none => rw [hy] at hx; cases hx
    | some y =>
      rw [hy] at hx
      cases hx
      have hlt := (List.getElem?_eq_some_iff.mp hy).1
      have hm := List.mem_of_getElem? hy
      subst es
      refine ⟨hG D hD, ?_⟩
      unfold aYes
      simp only [if_true]
      refine stepE y hm _ _ ⟨?_, hlt, ?_, rfl⟩
      · rw [ea, List.length_map, List.length_take]
        omega
      · rw [ea, List.take_add_one, hy]
        simp
  · subst es
    rw [List.length_map] at ea
    refine ⟨hG D hD, ?_⟩
    rw [ea, List.take_length, dropS_upd hD]
    exact q
theorem lcF_pureM {α : Type} {xs : List α} {tt : AT} {te : AE} {j : Nat} {vs : List Nat} {τ : ASt} {S1 : Store} {Q : AK} {G : Store → Prop} (g : α → AV) (p : α → Bool) (f : α → AV) (hl : xs.length ≤ sizeLine) (hG : ∀ D, S1 D = none → G (updS S1 D .hid))
    (stepT : ∀ x ∈ xs, ∀ (Sx : Store) (Qb : Bool → Store → Prop), Qb (p x) Sx → tt ((wipeA τ vs).set j (some (g x))) Sx Qb)
    (stepE : ∀ x ∈ xs, p x = true → ∀ (Sx : Store) (Qe : AK), Qe (f x) Sx → te ((wipeA τ vs).set j (some (g x))) Sx Qe) (q : Q (.lst ((xs.filter p).map f)) S1) : LcGoF tt te j vs τ Q G (xs.map g) S1 := by
  intro D hD
  refine ⟨fun i acc S2 => i ≤ xs.length ∧ acc = ((xs.take i).filter p).map f ∧ S2 = updS S1 D .hid, ⟨Nat.zero_le _, rfl, rfl⟩, fun i x acc S2 hx ⟨hi, ea, es⟩ => ?_, fun acc S2 ⟨hi, ea, es⟩ => ?_⟩
  · rw [List.getElem?_map] at hx
    cases hy : xs[i]? with
    | none => rw [hy] at hx; cases hx
    | some y =>
      rw [hy] at hx
      cases hx
      have hlt := (List.getElem?_eq_some_iff.mp hy).1
      have hm := List.mem_of_getElem? hy
      subst es
      refine ⟨hG D hD, stepT y hm _ _ ?_⟩
      cases hp : p y with
      | false =>
        rw [if_neg Bool.false_ne_true]
        refine ⟨hlt, ?_, rfl⟩
        rw [ea, List.take_add_one, hy]
        simp [hp]
      | true =>
        rw [if_pos rfl]
        refine stepE y hm hp _ _ ⟨?_, hlt, ?_, rfl⟩
        · have h1 : ((xs.take i).filter p).length ≤ (xs.take i).length := List.length_filter_le ..
          rw [List.length_take] at h1
          rw [ea, List.length_map]
          omega
        · rw [ea, List.take_add_one, hy]
          simp [hp]
  · subst es
    rw [List.length_map] at ea
    refine ⟨hG D hD, ?_⟩
    rw [ea, List.take_length, dropS_upd hD]
    exact q
/-- the store being of no account -/
theorem lcF_free {xs : List AV} {te : AE} {j : Nat} {vs : List Nat} {τ : ASt} {S1 : Store} {Q : AK} {G : Store → Prop} (A : AV → Prop) (hl : xs.length ≤ sizeLine) (hG : ∀ S2, G S2) (step : ∀ x ∈ xs, ∀ (Sx : Store) (Qe : AK), (∀ y S', A y → Qe y S') → te ((wipeA τ vs).set j (some x)) Sx Qe)
    (fin : ∀ acc S', (∀ y ∈ acc, A y) → acc.length = xs.length → Q (.lst acc) S') : LcGoF aYes te j vs τ Q G xs S1 := by
  intro D hD
  refine ⟨fun i acc S2 => acc.length = i ∧ ∀ y ∈ acc, A y, ⟨rfl, fun y h => by cases h⟩, fun i x acc S2 hx ⟨hi, ha⟩ => ⟨hG _, ?_⟩, fun acc S2 ⟨hi, ha⟩ => ⟨hG _, fin acc _ ha hi⟩⟩
  have hlt := (List.getElem?_eq_some_iff.mp hx).1
  unfold aYes
  simp only [if_true]
  refine step x (List.mem_of_getElem? hx) _ _ fun y S' hy => ⟨by omega, by rw [List.length_append, List.length_singleton, hi], fun w hw => ?_⟩
  rcases List.mem_append.mp hw with h | h
  · exact ha w h
  · cases List.mem_singleton.mp h; exact hy
/-- drawn things -/
theorem lcF_pot {Pt : Type} {xs : List AV} {te : AE} {j : Nat} {vs : List Nat} {τ : ASt} {S1 : Store} {Q : AK} {p : Addr} {G : Store → Prop} (po : Pt → AO) {pt : Pt} (I : Nat → Pt → Prop) (hp : S1 p = some (po pt)) (h0 : I 0 pt) (A : AV → Prop) (hl : xs.length ≤ sizeLine) (hG : ∀ S2, G S2)
    (step : ∀ k x pt' Sx (Qe : AK), xs[k]? = some x → k < xs.length → I k pt' → Sx p = some (po pt') → (∀ y pt2, A y → I (k + 1) pt2 → Qe y (updS Sx p (po pt2))) → te ((wipeA τ vs).set j (some x)) Sx Qe)
    (fin : ∀ acc pt', acc.length = xs.length → (∀ y ∈ acc, A y) → I xs.length pt' → Q (.lst acc) (updS S1 p (po pt'))) : LcGoF aYes te j vs τ Q G xs S1 := by
  intro D hD
  have ne : p ≠ D := by rintro rfl; rw [hp] at hD; cases hD
  refine ⟨fun i acc S2 => acc.length = i ∧ (∀ y ∈ acc, A y) ∧ ∃ pt', I i pt' ∧ S2 = updS (updS S1 p (po pt')) D .hid, ⟨rfl, (fun y h => by cases h), pt, h0, by rw [updS_self hp]⟩, fun i x acc S2 hx ⟨hi, ha, pt', hI, e⟩ => ⟨hG _, ?_⟩, fun acc S2 ⟨hi, ha, pt', hI, e⟩ => ⟨hG _, ?_⟩⟩
  · subst e
    have hlt := (List.getElem?_eq_some_iff.mp hx).1
    unfold aYes
    simp only [if_true]
    refine step i x pt' _ _ hx hlt hI (by rw [updS_ne ne, updS_same]) fun y pt2 hy hI2 => ⟨by omega, by rw [List.length_append, List.length_singleton, hi], fun w hw => ?_, pt2, hI2, ?_⟩
    · rcases List.mem_append.mp hw with h | h
      · exact ha w h
      · cases List.mem_singleton.mp h; exact hy
    · rw [← updS_comm ne, updS_updS]
  · subst e
    rw [dropS_upd (by rw [updS_ne (Ne.symm ne)]; exact hD)]
    exact fin acc pt' hi ha hI
/-- over pairs -/
def LcGoP (tt : AT) (te : AE) (j k : Nat) (vs : List Nat) (τ : ASt) (Q : AK) (G : Store → Prop) (xs : List AV) (S1 : Store) : Prop := ∀ D, S1 D = none → ∃ I : Nat → List AV → Store → Prop, I 0 [] (updS S1 D .hid) ∧
  (∀ (i : Nat) x acc S2, xs[i]? = some x → I i acc S2 → G S2 ∧ ∃ d1 d2, x = .tup [d1, d2] ∧ tt (((wipeA τ vs).set j (some d1)).set k (some d2)) S2 fun b S3 => if b = true then te (((wipeA τ vs).set j (some d1)).set k (some d2)) S3 fun y S4 => acc.length < sizeLine ∧ I (i + 1) (acc ++ [y]) S4 else I (i + 1) acc S3) ∧
  (∀ acc S2, I xs.length acc S2 → G S2 ∧ Q (.lst acc) (dropS S2 D))
theorem aLcP_lst {ta : AE} {tt : AT} {te : AE} {j k : Nat} {vs : List Nat} {τ : ASt} {S : Store} {Q : AK} : aLcP (aiLst ta) j k tt te vs τ S Q = ta τ S fun d S1 => ∃ xs, lstA S1 d = some xs ∧ LcGoP tt te j k vs τ Q (fun S2 => lstA S2 d = some xs) xs S1 := rfl
theorem aLcP_tup {ta : AE} {tt : AT} {te : AE} {j k : Nat} {vs : List Nat} {τ : ASt} {S : Store} {Q : AK} : aLcP (aiTup ta) j k tt te vs τ S Q = ta τ S fun d S1 => ∃ xs, d = .tup xs ∧ LcGoP tt te j k vs τ Q (fun _ => True) xs S1 := rfl
theorem aLcP_enum {t : AA} {tt : AT} {te : AE} {j k : Nat} {vs : List Nat} {τ : ASt} {S : Store} {Q : AK} : aLcP (aiEnum t) j k tt te vs τ S Q = t τ S fun ds S1 => ∃ d xs, ds = [d] ∧ lstA S1 d = some xs ∧ LcGoP tt te j k vs τ Q (fun S2 => lstA S2 d = some xs) (enumA xs) S1 := rfl
section
variable {α : Type} {xs : List α} {tt : AT} {te : AE} {j k : Nat} {vs : List Nat} {τ : ASt} {S1 : Store} {Q : AK} {G : Store → Prop}
theorem lcP_pure (u v : α → AV) (p : α → Bool) (f : α → AV) (hl : xs.length ≤ sizeLine) (hG : ∀ D, S1 D = none → G (updS S1 D .hid)) (stepT : ∀ x ∈ xs, ∀ (Sx : Store) (Qb : Bool → Store → Prop), Qb (p x) Sx → tt (((wipeA τ vs).set j (some (u x))).set k (some (v x))) Sx Qb)
    (stepE : ∀ x ∈ xs, p x = true → ∀ (Sx : Store) (Qe : AK), Qe (f x) Sx → te (((wipeA τ vs).set j (some (u x))).set k (some (v x))) Sx Qe) (q : Q (.lst ((xs.filter p).map f)) S1) : LcGoP tt te j k vs τ Q G (xs.map fun x => .tup [u x, v x]) S1 := by
  intro D hD
  refine ⟨fun i acc S2 => i ≤ xs.length ∧ acc = ((xs.take i).filter p).map f ∧ S2 = updS S1 D .hid, ⟨Nat.zero_le _, rfl, rfl⟩, fun i x acc S2 hx ⟨hi, ea, es⟩ => ?_, fun acc S2 ⟨hi, ea, es⟩ => ?_⟩
  · rw [List.getElem?_map] at hx
    cases hy : xs[i]? with
    | none => rw [hy] at hx; cases hx
    | some y =>
      rw [hy] at hx
      cases hx
      have hlt := (List.getElem?_eq_some_iff.mp hy).1
      have hm := List.mem_of_getElem? hy
      subst es
      refine ⟨hG D hD, _, _, rfl, stepT y hm _ _ ?_⟩
      cases hp : p y with
      | false =>
        rw [if_neg Bool.false_ne_true]
        refine ⟨hlt, ?_, rfl⟩
        rw [ea, List.take_add_one, hy]
        simp [hp]
      | true =>
        rw [if_pos rfl]
        refine stepE y hm hp _ _ ⟨?_, hlt, ?_, rfl⟩
        · have h1 : ((xs.take i).filter p).length ≤ (xs.take i).length := List.length_filter_le ..
          rw [List.length_take] at h1
          rw [ea, List.length_map]
          omega
        · rw [ea, List.take_add_one, hy]
          simp [hp]
  · subst es
    rw [List.length_map] at ea
    refine ⟨hG D hD, ?_⟩
    rw [ea, List.take_length, dropS_upd hD]
    exact q
end
theorem aFor_tup {ta : AE} {ag : AG} {tb : AS} {D : AEnds} {τ : ASt} {S : Store} : aFor (aiTup ta) ag tb D τ S = ta τ S fun d S1 => ∃ xs, d = .tup xs ∧ ForGo ag tb D τ xs S1 := rfl
/-- a loop over a list, all the way -/
def ForGoL (ag : AG) (tb : AS) (D : AEnds) (τ : ASt) (G : Store → Prop) (xs : List AV) (S1 : Store) : Prop := ∃ I : Nat → ASt → Store → Prop, I 0 τ S1 ∧
  (∀ (i : Nat) x τ2 S2, xs[i]? = some x → I i τ2 S2 → G S2 ∧ ag x τ2 S2 fun τ3 S3 => tb { D with nx := I (i + 1), ct := I (i + 1), bk := D.nx } τ3 S3) ∧ (∀ τ2 S2, I xs.length τ2 S2 → G S2 ∧ D.nx τ2 S2)
theorem aFor_lst {ta : AE} {ag : AG} {tb : AS} {D : AEnds} {τ : ASt} {S : Store} : aFor (aiLst ta) ag tb D τ S = ta τ S fun d S1 => ∃ xs, lstA S1 d = some xs ∧ ForGoL ag tb D τ (fun S2 => lstA S2 d = some xs) xs S1 := rfl
theorem aFor_enum {t : AA} {ag : AG} {tb : AS} {D : AEnds} {τ : ASt} {S : Store} : aFor (aiEnum t) ag tb D τ S = t τ S fun ds S1 => ∃ d xs, ds = [d] ∧ lstA S1 d = some xs ∧ ForGoL ag tb D τ (fun S2 => lstA S2 d = some xs) (enumA xs) S1 := rfl
theorem ForGoL.of {ag : AG} {tb : AS} {D : AEnds} {τ : ASt} {G : Store → Prop} {xs : List AV} {S1 : Store} (I : Nat → ASt → Store → Prop) (h0 : I 0 τ S1)
    (step : ∀ (i : Nat) x τ2 S2, xs[i]? = some x → i < xs.length → I i τ2 S2 → G S2 ∧ ag x τ2 S2 fun τ3 S3 => tb { D with nx := I (i + 1), ct := I (i + 1), bk := D.nx } τ3 S3) (fin : ∀ τ2 S2, I xs.length τ2 S2 → G S2 ∧ D.nx τ2 S2) : ForGoL ag tb D τ G xs S1 :=
  ⟨I, h0, fun i x τ2 S2 hx hi => step i x τ2 S2 hx (List.getElem?_eq_some_iff.mp hx).1 hi, fin⟩

/-! ### equality of lists of ints, of tuples of truths -/
theorem flat_ints : ∀ (ns : List Int), flatAs (ns.map .int) = true
  | [] => rfl
  | _ :: ns => flat_ints ns
theorem lay_ints : ∀ (ns : List Int), PyData.canLayAll0 (toDs (ns.map .int)) = true
  | [] => rfl
  | n :: ns => by
    show (PyData.canLay0 (.int n) && PyData.canLayAll0 (toDs (ns.map .int))) = true
    rw [lay_ints ns, Bool.and_true]
    rfl
theorem depth_ints : ∀ (ns : List Int), PyData.depthAll (toDs (ns.map .int)) = 0
  | [] => rfl
  | n :: ns => by
    show max (PyData.depth (.int n)) (PyData.depthAll (toDs (ns.map .int))) = 0
    rw [depth_ints ns]
    rfl
theorem eqv_ints : ∀ (ns ms : List Int), PyData.eqvAll (toDs (ns.map .int)) (toDs (ms.map .int)) = decide (ns = ms)
  | [], [] => by show PyData.eqvAll [] [] = _; unfold PyData.eqvAll; simp
  | [], m :: ms => by show PyData.eqvAll [] (_ :: _) = _; unfold PyData.eqvAll; simp
  | n :: ns, [] => by show PyData.eqvAll (_ :: _) [] = _; unfold PyData.eqvAll; simp
  | n :: ns, m :: ms => by
    show PyData.eqvAll (.int n :: toDs (ns.map .int)) (.int m :: toDs (ms.map .int)) = _
    unfold PyData.eqvAll
    rw [eqv_ints ns ms]
    unfold PyData.eqv
    by_cases h : n = m <;> by_cases h2 : ns = ms <;> simp [h, h2]
theorem eqA_ints {ns ms : List Int} {S : Store} : eqA (.lst (ns.map .int)) (.lst (ms.map .int)) S = ⟨True, .bl (decide (ns = ms))⟩ := by
  have ok : ∀ ns : List Int, okD S (.lst (ns.map .int)) := fun ns => ⟨flat_ints ns, by
    show SeqAt.shaped (.list (toDs (ns.map .int))) = true
    unfold SeqAt.shaped PyData.canLay0 PyData.depth
    rw [lay_ints, depth_ints]
    rfl⟩
  refine ans_tt ⟨ok ns, ok ms⟩ ?_
  show AV.bl (PyData.eqv (.list (toDs (ns.map .int))) (.list (toDs (ms.map .int)))) = _
  unfold PyData.eqv
  rw [eqv_ints]
theorem map_int_inj {ns ms : List Nat} : (ns.map fun n : Nat => (n : Int)) = (ms.map fun n : Nat => (n : Int)) ↔ ns = ms := by
  refine ⟨fun h => ?_, fun h => by rw [h]⟩
  have := congrArg (List.map Int.toNat) h
  rw [List.map_map, List.map_map] at this
  have e : (Int.toNat ∘ fun n : Nat => (n : Int)) = id := by funext n; exact Int.toNat_natCast n
  rw [e, List.map_id, List.map_id] at this
  exact this
theorem eqA_nats {ns ms : List Nat} {S : Store} : eqA (.lst (ns.map fun n => .int (n : Nat))) (.lst (ms.map fun n => .int (n : Nat))) S = ⟨True, .bl (decide (ns = ms))⟩ := by
  have e : ∀ l : List Nat, (l.map fun n => AV.int (n : Nat)) = (l.map fun n : Nat => (n : Int)).map .int := fun l => by rw [List.map_map]; rfl
  rw [e ns, e ms, eqA_ints]
  exact ans_tt trivial (congrArg AV.bl (decide_eq_decide.mpr map_int_inj))
theorem anyA_eq {α : Type} (l : List α) (f : α → Bool) (S : Store) : anyA (.lst (l.map fun c => AV.bl (f c))) S = ⟨True, .bl (l.any f)⟩ := by
  obtain ⟨a, b⟩ := anyA_map l f S
  have e : anyA (.lst (l.map fun c => AV.bl (f c))) S = ⟨(anyA (.lst (l.map fun c => AV.bl (f c))) S).ok, (anyA (.lst (l.map fun c => AV.bl (f c))) S).v⟩ := rfl
  rw [e, b, eq_true a]
theorem allA_eq {α : Type} (l : List α) (f : α → Bool) (S : Store) : allA (.lst (l.map fun c => AV.bl (f c))) S = ⟨True, .bl (l.all f)⟩ := by
  obtain ⟨a, b⟩ := allA_map l f S
  have e : allA (.lst (l.map fun c => AV.bl (f c))) S = ⟨(allA (.lst (l.map fun c => AV.bl (f c))) S).ok, (allA (.lst (l.map fun c => AV.bl (f c))) S).v⟩ := rfl
  rw [e, b, eq_true a]
theorem bc_or4 {a b c d : Bool} {P R : Prop} : bc a (bc b P (bc c (bc d P R) R)) (bc c (bc d P R) R) = bc (a && b || c && d) P R := by
  cases a <;> cases b <;> cases c <;> cases d <;> rfl
theorem nat_ne {a b : Nat} : (!decide ((a : Int) = (b : Int))) = (a != b) := by
  by_cases h : a = b
  · subst h; simp
  · have : (a : Int) ≠ b := fun z => h (Int.ofNat.inj z)
    simp [h, this]
theorem nat_eq {a b : Nat} : decide ((a : Int) = (b : Int)) = decide (a = b) := decide_eq_decide.mpr ⟨fun h => Int.ofNat.inj h, fun h => by rw [h]⟩
theorem nat_lt {a b : Nat} : decide ((a : Int) < (b : Int)) = decide (a < b) := decide_eq_decide.mpr Int.ofNat_lt
theorem nat_le {a b : Nat} : decide ((a : Int) ≤ (b : Int)) = decide (a ≤ b) := decide_eq_decide.mpr Int.ofNat_le
end L3

set_option Elab.async false
set_option linter.all false
set_option maxRecDepth 100000
set_option maxHeartbeats 1000000
set_option autoImplicit false
/-! ValM: values as the package means them, over AV; what loops over a stack of them reckon. -/
namespace Vm
open PySem L2 L3

def chB (c : Nat) : Bool := (decide (32 ≤ c) && decide (c ≤ 126)) || decide (c = 10)
def leafV : AV → Bool
  | .non => true
  | .int i => decide (-1000000000000000000 ≤ i) && decide (i ≤ 1000000000000000000)
  | .str z => decide (z.length ≤ 100000) && z.cps.toList.all chB
  | _ => false
mutual
/-- a value of at most this depth -/
def isVal : AV → Nat → Bool
  | .tup xs, k => decide (k ≠ 0) && isVals xs (k - 1)
  | .non, _ => leafV .non
  | .bl b, _ => leafV (.bl b)
  | .int i, _ => leafV (.int i)
  | .str z, _ => leafV (.str z)
  | .lst xs, _ => false
  | .rol xs, _ => false
  | .ref a, _ => false
  | .ty n, _ => false
def isVals : List AV → Nat → Bool
  | [], _ => true
  | x :: xs, k => isVal x k && isVals xs k
end
mutual
def cnt : AV → Nat
  | .str z => 1 + z.length
  | .tup xs => 1 + cnts xs
  | .lst xs => 1 + cnts xs
  | _ => 1
def cnts : List AV → Nat
  | [] => 0
  | x :: xs => cnt x + cnts xs
end
mutual
/-- data whose texts are short and whose signs are signs -/
def tame : AV → Bool
  | .str z => PyData.strOk z
  | .tup xs => tames xs
  | .lst xs => tames xs
  | .non => true
  | .bl _ => true
  | .int _ => true
  | _ => false
def tames : List AV → Bool
  | [] => true
  | x :: xs => tame x && tames xs
end
theorem isVals_all (k : Nat) : ∀ xs : List AV, isVals xs k = xs.all fun x => isVal x k
  | [] => rfl
  | x :: xs => by rw [isVals, List.all_cons, isVals_all k xs]
theorem tames_all : ∀ xs : List AV, tames xs = xs.all tame
  | [] => rfl
  | x :: xs => by rw [tames, List.all_cons, tames_all xs]
theorem cnts_sum : ∀ xs : List AV, cnts xs = (xs.map cnt).sum
  | [] => rfl
  | x :: xs => by rw [cnts, List.map_cons, List.sum_cons, cnts_sum xs]
theorem cnts_app : ∀ a b : List AV, cnts (a ++ b) = cnts a + cnts b
  | [], b => (Nat.zero_add _).symm
  | p :: a, b => by rw [List.cons_append, cnts, cnts, cnts_app a b]; omega
theorem isVals_app {k : Nat} {a b : List AV} : isVals (a ++ b) k = (isVals a k && isVals b k) := by
  rw [isVals_all, isVals_all, isVals_all, List.all_append]
theorem flatAs_all : ∀ xs : List AV, flatAs xs = xs.all flatA
  | [] => rfl
  | x :: xs => by rw [flatAs, List.all_cons, flatAs_all xs]
theorem cnt_pos : ∀ d : AV, 1 ≤ cnt d := fun d => by cases d <;> simp only [cnt] <;> omega
theorem len_cnts : ∀ xs : List AV, xs.length ≤ cnts xs
  | [] => Nat.le_refl _
  | x :: xs => by have := len_cnts xs; have := cnt_pos x; simp only [cnts, List.length_cons]; omega
mutual
theorem flat_tame : ∀ d : AV, tame d = true → flatA d = true
  | .non, _ => rfl
  | .bl _, _ => rfl
  | .int _, _ => rfl
  | .str _, _ => rfl
  | .tup xs, h => flats_tame xs h
  | .lst xs, h => flats_tame xs h
  | .rol xs, h => by cases h
  | .ref _, h => by cases h
  | .ty _, h => by cases h
theorem flats_tame : ∀ xs : List AV, tames xs = true → flatAs xs = true
  | [], _ => rfl
  | x :: xs, h => by
    have h := Bool.and_eq_true_iff.mp h
    exact Bool.and_eq_true_iff.mpr ⟨flat_tame x h.1, flats_tame xs h.2⟩
end
theorem ch_lt {c : Nat} (h : chB c = true) : c < 0x110000 := by
  simp only [chB, Bool.or_eq_true, Bool.and_eq_true, decide_eq_true_eq] at h
  omega
mutual
theorem val_tame : ∀ (d : AV) (k : Nat), isVal d k = true → tame d = true
  | .non, _, _ => rfl
  | .bl _, _, h => by cases h
  | .int _, _, _ => rfl
  | .str z, k, h => by
    have h : (decide (z.length ≤ 100000) && z.cps.toList.all chB) = true := h
    rw [Bool.and_eq_true_iff, decide_eq_true_eq, List.all_eq_true] at h
    have e : PyData.strOk z = true := by
      unfold PyData.strOk
      rw [← Array.all_toList, List.all_eq_true]
      exact fun c hc => decide_eq_true (ch_lt (h.2 c hc))
    exact e
  | .tup xs, k, h => vals_tame xs (k - 1) (Bool.and_eq_true_iff.mp h).2
  | .lst xs, _, h => by cases h
  | .rol xs, _, h => by cases h
  | .ref _, _, h => by cases h
  | .ty _, _, h => by cases h
theorem vals_tame : ∀ (xs : List AV) (k : Nat), isVals xs k = true → tames xs = true
  | [], _, _ => rfl
  | x :: xs, k, h => by
    have h := Bool.and_eq_true_iff.mp h
    exact Bool.and_eq_true_iff.mpr ⟨val_tame x k h.1, vals_tame xs k h.2⟩
end
mutual
theorem val_up : ∀ (d : AV) (j k : Nat), j ≤ k → isVal d j = true → isVal d k = true
  | .non, _, _, _, _ => rfl
  | .bl _, _, _, _, h => by cases h
  | .int _, _, _, _, h => h
  | .str z, _, _, _, h => h
  | .tup xs, j, k, hjk, h => by
    have h : (decide (j ≠ 0) && isVals xs (j - 1)) = true := h
    rw [Bool.and_eq_true_iff, decide_eq_true_eq] at h
    show (decide (k ≠ 0) && isVals xs (k - 1)) = true
    rw [vals_up xs (j - 1) (k - 1) (by omega) h.2, decide_eq_true (by omega : k ≠ 0)]
    rfl
  | .lst xs, _, _, _, h => by cases h
  | .rol xs, _, _, _, h => by cases h
  | .ref _, _, _, _, h => by cases h
  | .ty _, _, _, _, h => by cases h
theorem vals_up : ∀ (xs : List AV) (j k : Nat), j ≤ k → isVals xs j = true → isVals xs k = true
  | [], _, _, _, _ => rfl
  | x :: xs, j, k, hjk, h => by
    have h := Bool.and_eq_true_iff.mp h
    exact Bool.and_eq_true_iff.mpr ⟨val_up x j k hjk h.1, vals_up xs j k hjk h.2⟩
end
theorem int_short (i : Int) (h1 : -1000000000000000000 ≤ i) (h2 : i ≤ 1000000000000000000) : (PyData.shown (.int i)).length ≤ 20 := by
  have r : ∀ n : Nat, n < 10 ^ 19 → (Nat.repr n).length ≤ 19 := fun n hn => (Nat.length_repr_le_iff (n := n) (by decide : 0 < 19)).mpr hn
  show (Str.ofString (toString i)).length ≤ 20
  rw [ofString_length]
  cases i with
  | ofNat n =>
    have h3 : (n : Int) ≤ 1000000000000000000 := h2
    have := r n (by omega)
    show (Nat.repr n).length ≤ 20
    omega
  | negSucc n =>
    have := r (n + 1) (by omega)
    show ("-" ++ Nat.repr (n + 1)).length ≤ 20
    rw [String.length_append]
    have : ("-" : String).length = 1 := rfl
    omega
mutual
theorem val_lay : ∀ (d : AV) (k : Nat), isVal d k = true → (toD d).canLay0 = true ∧ (toD d).depth ≤ k ∧ (toD d).leavesShort 20 = true
  | .non, _, _ => ⟨rfl, Nat.zero_le _, by decide +kernel⟩
  | .bl _, _, h => by cases h
  | .int i, _, h => by
    have h : (decide (-1000000000000000000 ≤ i) && decide (i ≤ 1000000000000000000)) = true := h
    rw [Bool.and_eq_true_iff, decide_eq_true_eq, decide_eq_true_eq] at h
    exact ⟨rfl, Nat.zero_le _, decide_eq_true (int_short i h.1 h.2)⟩
  | .str z, k, h => by
    have t := val_tame (.str z) k h
    refine ⟨t, Nat.zero_le _, ?_⟩
    show (z.cps.toList.all fun c => decide (c < 16 ^ 8)) = true
    rw [List.all_eq_true]
    intro c hc
    have h : (decide (z.length ≤ 100000) && z.cps.toList.all chB) = true := h
    rw [Bool.and_eq_true_iff, List.all_eq_true] at h
    have := ch_lt (h.2 c hc)
    exact decide_eq_true (by omega)
  | .tup xs, k, h => by
    have h : (decide (k ≠ 0) && isVals xs (k - 1)) = true := h
    rw [Bool.and_eq_true_iff, decide_eq_true_eq] at h
    obtain ⟨a, b, c⟩ := vals_lay xs (k - 1) h.2
    refine ⟨a, ?_, c⟩
    show PyData.depthAll (toDs xs) + 1 ≤ k
    omega
  | .lst xs, _, h => by cases h
  | .rol xs, _, h => by cases h
  | .ref _, _, h => by cases h
  | .ty _, _, h => by cases h
theorem vals_lay : ∀ (xs : List AV) (k : Nat), isVals xs k = true → PyData.canLayAll0 (toDs xs) = true ∧ PyData.depthAll (toDs xs) ≤ k ∧ PyData.leavesShortAll 20 (toDs xs) = true
  | [], _, _ => ⟨rfl, Nat.zero_le _, by decide +kernel⟩
  | x :: xs, k, h => by
    have h := Bool.and_eq_true_iff.mp h
    obtain ⟨a, b, c⟩ := val_lay x k h.1
    obtain ⟨a2, b2, c2⟩ := vals_lay xs k h.2
    refine ⟨?_, ?_, ?_⟩
    · show (PyData.canLay0 (toD x) && PyData.canLayAll0 (toDs xs)) = true
      rw [a, a2]; rfl
    · show max (PyData.depth (toD x)) (PyData.depthAll (toDs xs)) ≤ k
      omega
    · show (PyData.leavesShort 20 (toD x) && PyData.leavesShortAll 20 (toDs xs)) = true
      rw [c, c2]; rfl
end
mutual
theorem show_val : ∀ (d : AV) (k : Nat), isVal d k = true → (toD d).showable = true ∧ (toD d).hasDict = false
  | .non, _, _ => ⟨rfl, rfl⟩
  | .bl _, _, h => by cases h
  | .int i, _, h => by
    have h : (decide (-1000000000000000000 ≤ i) && decide (i ≤ 1000000000000000000)) = true := h
    rw [Bool.and_eq_true_iff, decide_eq_true_eq, decide_eq_true_eq] at h
    refine ⟨decide_eq_true ?_, rfl⟩
    have : i.natAbs < 2 ^ 60 := by omega
    rcases Nat.eq_zero_or_pos i.natAbs with e | e
    · rw [e]; decide
    · exact Nat.lt_trans ((Nat.log2_lt (by omega)).mpr this) (by decide)
  | .str z, k, h => ⟨rfl, rfl⟩
  | .tup xs, k, h => by
    have h : (decide (k ≠ 0) && isVals xs (k - 1)) = true := h
    rw [Bool.and_eq_true_iff, decide_eq_true_eq] at h
    exact show_vals xs (k - 1) h.2
  | .lst xs, _, h => by cases h
  | .rol xs, _, h => by cases h
  | .ref _, _, h => by cases h
  | .ty _, _, h => by cases h
theorem show_vals : ∀ (xs : List AV) (k : Nat), isVals xs k = true → PyData.showableAll (toDs xs) = true ∧ PyData.hasDictAll (toDs xs) = false
  | [], _, _ => ⟨rfl, rfl⟩
  | x :: xs, k, h => by
    have h := Bool.and_eq_true_iff.mp h
    obtain ⟨a, b⟩ := show_val x k h.1
    obtain ⟨a2, b2⟩ := show_vals xs k h.2
    refine ⟨?_, ?_⟩
    · show (PyData.showable (toD x) && PyData.showableAll (toDs xs)) = true
      rw [a, a2]; rfl
    · show (PyData.hasDict (toD x) || PyData.hasDictAll (toDs xs)) = false
      rw [b, b2]; rfl
end
mutual
theorem bulk_val : ∀ (d : AV) (k : Nat), isVal d k = true → (toD d).bulk + 1 ≤ cnt d
  | .non, _, _ => Nat.le_refl _
  | .bl _, _, h => by cases h
  | .int i, _, h => Nat.le_refl _
  | .str z, k, h => by
    show z.cps.size + 1 ≤ 1 + z.length
    have : z.length = z.cps.size := rfl
    omega
  | .tup xs, k, h => by
    have h : (decide (k ≠ 0) && isVals xs (k - 1)) = true := h
    rw [Bool.and_eq_true_iff] at h
    have := bulk_vals xs (k - 1) h.2
    show PyData.bulkAll (toDs xs) + 1 ≤ 1 + cnts xs
    omega
  | .lst xs, _, h => by cases h
  | .rol xs, _, h => by cases h
  | .ref _, _, h => by cases h
  | .ty _, _, h => by cases h
theorem bulk_vals : ∀ (xs : List AV) (k : Nat), isVals xs k = true → PyData.bulkAll (toDs xs) ≤ cnts xs
  | [], _, _ => Nat.le_refl _
  | x :: xs, k, h => by
    have h := Bool.and_eq_true_iff.mp h
    have a := bulk_val x k h.1
    have b := bulk_vals xs k h.2
    show PyData.bulk (toD x) + 1 + PyData.bulkAll (toDs xs) ≤ cnt x + cnts xs
    omega
end
/-- a value's text fits -/
theorem shown_val {d : AV} {k : Nat} (h : isVal d k = true) (hc : cnt d ≤ 700000) : (toD d).shown.length ≤ sizeLine := by
  have a := PyData.shown_le_bulk 20 (by decide) (toD d) (val_lay d k h).2.2
  have b := bulk_val d k h
  have : sizeLine = 16777216 := by decide +kernel
  omega
theorem repr_ok {d : AV} {k : Nat} (S : Store) (h : isVal d k = true) (hk : k ≤ 60) (hc : cnt d ≤ 700000) : (reprA d S).ok ∧ (reprA d S).v = .str (toD d).shown := by
  have e : derefA S d = d := by cases d <;> first | rfl | cases h
  have e2 : datA S d = toD d := by unfold datA; rw [e]
  unfold reprA
  rw [e, e2]
  obtain ⟨a, b⟩ := show_val d k h
  have := (val_lay d k h).2.1
  exact ⟨⟨flat_tame d (val_tame d k h), a, b, by omega, shown_val h hc⟩, rfl⟩
theorem repr_bl {b : Bool} (S : Store) : (reprA (.bl b) S).ok ∧ (reprA (.bl b) S).v = .str (toD (.bl b)).shown := by
  refine ⟨⟨rfl, rfl, rfl, Nat.zero_le _, ?_⟩, rfl⟩
  show (PyData.shown (.bool b)).length ≤ sizeLine
  cases b <;> decide +kernel
/-! ### seals -/
/-- what may stand at == -/
def lay (d : AV) : Bool := (toD d).canLay0 && decide ((toD d).depth ≤ 60)
theorem lay_shaped {d : AV} (h : lay d = true) : SeqAt.shaped (toD d) = true := by
  unfold lay at h
  unfold SeqAt.shaped
  rw [Bool.and_eq_true_iff, decide_eq_true_eq] at h ⊢
  exact ⟨h.1, by omega⟩
theorem val_lays {d : AV} {k : Nat} (h : isVal d k = true) (hk : k ≤ 60) : lay d = true := by
  obtain ⟨a, b, _⟩ := val_lay d k h
  unfold lay
  rw [a, decide_eq_true (by omega)]
  rfl
def nmB : AV → Bool
  | .str z => (decide (1 ≤ z.length) && decide (z.length ≤ 8)) && z.cps.toList.all fun c => decide (c ∈ ("abcdefghijklmnopqrstuvwxyz" : Str).cps.toList)
  | _ => false
def wordB (w : Str) : AV → Bool
  | .str z => decide (z = w)
  | _ => false
def sealB : AV → Bool
  | .tup [x, y, _] => wordB "seal" x && nmB y
  | _ => false
mutual
def sb (w : Bool) : AV → List AV
  | .tup xs => (if sealB (.tup xs) = true then [.tup xs] else []) ++ (if (w || !sealB (.tup xs)) = true then sbs w xs else [])
  | _ => []
def sbs (w : Bool) : List AV → List AV
  | [] => []
  | x :: xs => sb w x ++ sbs w xs
end
theorem sbs_app (w : Bool) : ∀ xs ys : List AV, sbs w (xs ++ ys) = sbs w xs ++ sbs w ys
  | [], _ => rfl
  | x :: xs, ys => by rw [List.cons_append, sbs, sbs, sbs_app w xs ys, List.append_assoc]
mutual
theorem sb_in (w : Bool) : ∀ (d : AV) (k : Nat), isVal d k = true → ∀ s ∈ sb w d, isVal s k = true ∧ cnt s ≤ cnt d
  | .tup xs, k, h, s, hs => by
    have h' : (decide (k ≠ 0) && isVals xs (k - 1)) = true := h
    rw [Bool.and_eq_true_iff, decide_eq_true_eq] at h'
    rw [sb, List.mem_append] at hs
    rcases hs with hs | hs
    · split at hs
      · cases List.mem_singleton.mp hs; exact ⟨h, Nat.le_refl _⟩
      · cases hs
    · split at hs
      · obtain ⟨a, b⟩ := sbs_in w xs (k - 1) h'.2 s hs
        refine ⟨val_up s (k - 1) k (by omega) a, ?_⟩
        show cnt s ≤ 1 + cnts xs
        omega
      · cases hs
  | .non, _, _, _, hs => by cases hs
  | .bl _, _, _, _, hs => by cases hs
  | .int _, _, _, _, hs => by cases hs
  | .str _, _, _, _, hs => by cases hs
  | .lst _, _, _, _, hs => by cases hs
  | .rol _, _, _, _, hs => by cases hs
  | .ref _, _, _, _, hs => by cases hs
  | .ty _, _, _, _, hs => by cases hs
theorem sbs_in (w : Bool) : ∀ (xs : List AV) (k : Nat), isVals xs k = true → ∀ s ∈ sbs w xs, isVal s k = true ∧ cnt s ≤ cnts xs
  | [], _, _, _, hs => by cases hs
  | x :: xs, k, h, s, hs => by
    have h := Bool.and_eq_true_iff.mp h
    rw [sbs, List.mem_append] at hs
    show _ ∧ cnt s ≤ cnt x + cnts xs
    rcases hs with hs | hs
    · obtain ⟨a, b⟩ := sb_in w x k h.1 s hs
      exact ⟨a, by omega⟩
    · obtain ⟨a, b⟩ := sbs_in w xs k h.2 s hs
      exact ⟨a, by omega⟩
end
mutual
theorem sb_len (w : Bool) : ∀ d : AV, (sb w d).length ≤ cnt d
  | .tup xs => by
    have := sbs_len w xs
    rw [sb, List.length_append]
    show _ ≤ 1 + cnts xs
    split <;> split <;> simp only [List.length_cons, List.length_nil] <;> omega
  | .non => Nat.zero_le _
  | .bl _ => Nat.zero_le _
  | .int _ => Nat.zero_le _
  | .str _ => Nat.zero_le _
  | .lst _ => Nat.zero_le _
  | .rol _ => Nat.zero_le _
  | .ref _ => Nat.zero_le _
  | .ty _ => Nat.zero_le _
theorem sbs_len (w : Bool) : ∀ xs : List AV, (sbs w xs).length ≤ cnts xs
  | [] => Nat.zero_le _
  | x :: xs => by
    have := sb_len w x
    have := sbs_len w xs
    rw [sbs, List.length_append, cnts]
    omega
end
mutual
theorem sb_cnt (w : Bool) : ∀ (d : AV) (k : Nat), isVal d k = true → cnts (sb w d) ≤ k * cnt d
  | .tup xs, k, h => by
    have h' : (decide (k ≠ 0) && isVals xs (k - 1)) = true := h
    rw [Bool.and_eq_true_iff, decide_eq_true_eq] at h'
    obtain ⟨j, rfl⟩ : ∃ j, k = j + 1 := ⟨k - 1, by omega⟩
    have a := sbs_cnt w xs j h'.2
    have e : cnt (.tup xs) = 1 + cnts xs := rfl
    have e2 : (j + 1) * cnt (.tup xs) = j * (1 + cnts xs) + (1 + cnts xs) := by rw [e, Nat.succ_mul]
    have e3 : j * (1 + cnts xs) = j + j * cnts xs := by rw [Nat.mul_add, Nat.mul_one]
    rw [sb, cnts_app]
    have l1 : cnts (if sealB (.tup xs) = true then [AV.tup xs] else []) ≤ 1 + cnts xs := by
      split
      · show cnt (.tup xs) + 0 ≤ _; omega
      · exact Nat.zero_le _
    have l2 : cnts (if (w || !sealB (.tup xs)) = true then sbs w xs else []) ≤ j * cnts xs := by
      split
      · exact a
      · exact Nat.zero_le _
    omega
  | .non, _, _ => Nat.zero_le _
  | .bl _, _, _ => Nat.zero_le _
  | .int _, _, _ => Nat.zero_le _
  | .str _, _, _ => Nat.zero_le _
  | .lst _, _, _ => Nat.zero_le _
  | .rol _, _, _ => Nat.zero_le _
  | .ref _, _, _ => Nat.zero_le _
  | .ty _, _, _ => Nat.zero_le _
theorem sbs_cnt (w : Bool) : ∀ (xs : List AV) (k : Nat), isVals xs k = true → cnts (sbs w xs) ≤ k * cnts xs
  | [], _, _ => Nat.zero_le _
  | x :: xs, k, h => by
    have h := Bool.and_eq_true_iff.mp h
    have a := sb_cnt w x k h.1
    have b := sbs_cnt w xs k h.2
    rw [sbs, cnts_app, cnts, Nat.mul_add]
    omega
end
/-- the seals of a value make a value -/
theorem sb_val {d : AV} {k : Nat} (w : Bool) (h : isVal d k = true) : isVal (.tup (sb w d)) (k + 1) = true ∧ cnt (.tup (sb w d)) ≤ 1 + k * cnt d := by
  refine ⟨?_, ?_⟩
  · show (decide (k + 1 ≠ 0) && isVals (sb w d) (k + 1 - 1)) = true
    rw [Nat.add_sub_cancel, isVals_all, decide_eq_true (by omega : k + 1 ≠ 0), Bool.true_and, List.all_eq_true]
    exact fun s hs => (sb_in w d k h s hs).1
  · have a := sb_cnt w d k h
    show 1 + cnts (sb w d) ≤ _
    omega
end Vm

set_option Elab.async false
set_option linter.all false
set_option maxRecDepth 100000
set_option maxHeartbeats 1000000
set_option autoImplicit false
/-! PotM: what the drawn numbers need -/
namespace L3
open PySem L2
abbrev Pt := Int × Int × Int
def potO (t : Pt) : AO := .lst [.int t.1, .int t.2.1, .int t.2.2]
def okP (N : Nat) (t : Pt) : Prop := 0 ≤ t.1 ∧ 0 ≤ t.2.1 ∧ t.2.1 < 2305843009213693951 ∧ 0 ≤ t.2.2 ∧ t.2.2 ≤ N
theorem okP.up {M N : Nat} {t : Pt} (h : okP M t) (k : M ≤ N) : okP N t := ⟨h.1, h.2.1, h.2.2.1, h.2.2.2.1, by have := h.2.2.2.2; omega⟩
theorem ixNZ {n : Nat} {i : Int} (h0 : 0 ≤ i) (h1 : i < n) : ixN n i = some i.toNat := by
  unfold ixN
  rw [if_pos h0, if_pos h1]
theorem ixL_at {xs : List AV} {i : Int} (h0 : 0 ≤ i) (h1 : i < xs.length) : ∃ y, y ∈ xs ∧ ixL (some xs) (.int i) = ⟨True, y⟩ := by
  have e : atI xs i = some xs[i.toNat] := by
    unfold atI
    rw [ixNZ h0 h1]
    exact List.getElem?_eq_getElem (by omega)
  refine ⟨xs[i.toNat], List.getElem_mem .., ?_⟩
  show (⟨(atI xs i).isSome = true, (atI xs i).getD .non⟩ : Ans) = _
  rw [e]
  exact ans_tt rfl rfl
theorem ixA_lst {xs : List AV} {i : Int} {S : Store} (h0 : 0 ≤ i) (h1 : i < xs.length) : ∃ y, y ∈ xs ∧ ixA (.lst xs) (.int i) S = ⟨True, y⟩ := ixL_at h0 h1
theorem ixA_rol {xs : List AV} {i : Int} {S : Store} (h0 : 0 ≤ i) (h1 : i < xs.length) : ∃ y, y ∈ xs ∧ ixA (.rol xs) (.int i) S = ⟨True, y⟩ := ixL_at h0 h1
theorem ixA_tup {xs : List AV} {i : Int} {S : Store} (h0 : 0 ≤ i) (h1 : i < xs.length) : ∃ y, y ∈ xs ∧ ixA (.tup xs) (.int i) S = ⟨True, y⟩ := ixL_at h0 h1
theorem ixA_str {z : Str} {i : Int} {S : Store} (hz : z.length ≤ sizeLine) (h0 : 0 ≤ i) (h1 : i < z.length) : ∃ c, c ∈ z.cps.toList ∧ ixA (.str z) (.int i) S = ⟨True, .str ⟨#[c]⟩⟩ := by
  have hl : z.length = z.cps.toList.length := (Array.length_toList).symm
  have h2 : i.toNat < z.cps.toList.length := by omega
  have e : atI z.cps.toList i = some z.cps.toList[i.toNat] := by
    unfold atI
    rw [ixNZ h0 (by omega)]
    exact List.getElem?_eq_getElem h2
  refine ⟨z.cps.toList[i.toNat], List.getElem_mem .., ?_⟩
  show (⟨z.length ≤ sizeLine ∧ (atI z.cps.toList i).isSome = true, .str ⟨#[(atI z.cps.toList i).getD 0]⟩⟩ : Ans) = _
  rw [e]
  exact ans_tt ⟨hz, rfl⟩ rfl
theorem ixP {S : Store} {p : Addr} {t : Pt} (h : S p = some (potO t)) {i : Int} : ixA (.ref p) (.int i) S = ixL (some [.int t.1, .int t.2.1, .int t.2.2]) (.int i) := by
  show ixL (lstA S (.ref p)) (.int i) = _
  rw [lstA_ref h]
theorem ixP0 {S : Store} {p : Addr} {t : Pt} (h : S p = some (potO t)) : ixA (.ref p) (.int 0) S = ⟨True, .int t.1⟩ := (ixP h).trans (ans_tt rfl rfl)
theorem ixP1 {S : Store} {p : Addr} {t : Pt} (h : S p = some (potO t)) : ixA (.ref p) (.int 1) S = ⟨True, .int t.2.1⟩ := (ixP h).trans (ans_tt rfl rfl)
theorem ixP2 {S : Store} {p : Addr} {t : Pt} (h : S p = some (potO t)) : ixA (.ref p) (.int 2) S = ⟨True, .int t.2.2⟩ := (ixP h).trans (ans_tt rfl rfl)
theorem prime_ix {i : Int} (h0 : 0 ≤ i) (h1 : i < 5) : ∃ v : Int, 0 < v ∧ v < 2147483648 ∧ ∀ S, ixA (.lst [.int 2147483647, .int 2147483629, .int 2147483587, .int 2147483579, .int 2147483563]) (.int i) S = ⟨True, .int v⟩ := by
  have : i = 0 ∨ i = 1 ∨ i = 2 ∨ i = 3 ∨ i = 4 := by omega
  rcases this with rfl | rfl | rfl | rfl | rfl
  · exact ⟨2147483647, by decide, by decide, fun S => ans_tt rfl rfl⟩
  · exact ⟨2147483629, by decide, by decide, fun S => ans_tt rfl rfl⟩
  · exact ⟨2147483587, by decide, by decide, fun S => ans_tt rfl rfl⟩
  · exact ⟨2147483579, by decide, by decide, fun S => ans_tt rfl rfl⟩
  · exact ⟨2147483563, by decide, by decide, fun S => ans_tt rfl rfl⟩
theorem mulL {i j : Int} (h : -(2 ^ 64) < i) (h' : i < 2 ^ 64) : CMulB i j := .inl (.inl ⟨h, h'⟩)
theorem mulR {i j : Int} (h : -(2 ^ 64) < j) (h' : j < 2 ^ 64) : CMulB i j := .inl (.inr ⟨h, h'⟩)
theorem divS {i j : Int} (h : 0 < j) (h' : j < 2 ^ 64) : CDivW i j := by
  have : j.natAbs.log2 < 64 := (Nat.log2_lt (by omega)).mpr (by omega)
  exact ⟨h, by omega⟩
theorem powS {i j : Int} (h0 : 0 ≤ i) (h : i < 2 ^ 512) (h1 : 0 ≤ j) (h2 : j ≤ 2 ^ 17) : CPowB i j := by
  have b : Builtin.Int.intBits i ≤ 512 := intBits_le_iff.mpr (by omega)
  refine ⟨h1, ?_⟩
  have h3 : (Builtin.Int.intBits i : Int) * j ≤ 512 * j := Int.mul_le_mul_of_nonneg_right (by omega) h1
  omega
theorem ix1_0 {S : Store} {p : Addr} {x : AV} (h : S p = some (.lst [x])) : ixA (.ref p) (.int 0) S = ⟨True, x⟩ := by
  show ixL (lstA S (.ref p)) (.int 0) = _
  rw [lstA_ref h]
  exact ans_tt rfl rfl
theorem ix3_0 {S : Store} {p : Addr} {x y z : AV} (h : S p = some (.lst [x, y, z])) : ixA (.ref p) (.int 0) S = ⟨True, x⟩ := by
  show ixL (lstA S (.ref p)) (.int 0) = _
  rw [lstA_ref h]
  exact ans_tt rfl rfl
theorem ix3_1 {S : Store} {p : Addr} {x y z : AV} (h : S p = some (.lst [x, y, z])) : ixA (.ref p) (.int 1) S = ⟨True, y⟩ := by
  show ixL (lstA S (.ref p)) (.int 1) = _
  rw [lstA_ref h]
  exact ans_tt rfl rfl
theorem ix3_2 {S : Store} {p : Addr} {x y z : AV} (h : S p = some (.lst [x, y, z])) : ixA (.ref p) (.int 2) S = ⟨True, z⟩ := by
  show ixL (lstA S (.ref p)) (.int 2) = _
  rw [lstA_ref h]
  exact ans_tt rfl rfl
theorem ixU_0 {S : Store} {p : Addr} {x y z : AV} : ixA (.ref p) (.int 0) (updS S p (.lst [x, y, z])) = ⟨True, x⟩ := ix3_0 updS_same
theorem ixU_1 {S : Store} {p : Addr} {x y z : AV} : ixA (.ref p) (.int 1) (updS S p (.lst [x, y, z])) = ⟨True, y⟩ := ix3_1 updS_same
theorem ixU_2 {S : Store} {p : Addr} {x y z : AV} : ixA (.ref p) (.int 2) (updS S p (.lst [x, y, z])) = ⟨True, z⟩ := ix3_2 updS_same
theorem SubAt3_0 {S : Store} {p : Addr} {x y z d : AV} {Q : Store → Prop} (h : S p = some (.lst [x, y, z])) (q : Q (updS S p (.lst [d, y, z]))) : SubAt (.ref p) (.int 0) d S Q := ⟨p, _, 0, 0, rfl, rfl, h, rfl, q⟩
theorem SubAt3_2 {S : Store} {p : Addr} {x y z d : AV} {Q : Store → Prop} (h : S p = some (.lst [x, y, z])) (q : Q (updS S p (.lst [x, y, d]))) : SubAt (.ref p) (.int 2) d S Q := ⟨p, _, 2, 2, rfl, rfl, h, rfl, q⟩
/-- what a draw asks and gives -/
def spTake : ASp := fun ds S Q => ∃ p t n N, ds = [.ref p, .int n] ∧ 0 < n ∧ n < 2 ^ 62 ∧ S p = some (potO t) ∧ okP N t ∧ N < 2 ^ 40 ∧ ∀ t' r, okP (N + 1) t' → 0 ≤ r → r < n → Q (.int r) (updS S p (potO t'))
/-- what may stand in _law_of -/
def partsA : AV → Option (List AV)
  | .str z => if z.length ≤ sizeLine then some (signsA z) else none
  | .lst xs => some xs
  | .tup xs => some xs
  | _ => none
def spOne : ASp := fun ds S Q => ∃ p t x xs N, ds = [.ref p, x] ∧ partsA x = some xs ∧ xs ≠ [] ∧ xs.length < 2 ^ 40 ∧ S p = some (potO t) ∧ okP N t ∧ N < 2 ^ 40 ∧ ∀ t' y, okP (N + 1) t' → y ∈ xs → Q y (updS S p (potO t'))
theorem one_str {p : Addr} {t : Pt} {z : Str} {N : Nat} {S : Store} {Q : AK} (hz : 0 < z.length) (hz2 : z.length ≤ 16777216) (hp : S p = some (potO t)) (ok : okP N t) (hN : N < 2 ^ 40)
    (q : ∀ t' c, okP (N + 1) t' → c ∈ z.cps.toList → Q (.str ⟨#[c]⟩) (updS S p (potO t'))) : spOne [.ref p, .str z] S Q := by
  have hl : (signsA z).length = z.length := by unfold signsA; rw [List.length_map, Array.length_toList]; rfl
  refine ⟨p, t, _, signsA z, N, rfl, if_pos (le_sl hz2), ?_, by omega, hp, ok, hN, fun t' y ok' hy => ?_⟩
  · exact List.ne_nil_of_length_pos (by omega)
  · obtain ⟨c, hc, rfl⟩ := List.mem_map.mp hy
    exact q t' c ok' hc
theorem one_lst {p : Addr} {t : Pt} {xs : List AV} {N : Nat} {S : Store} {Q : AK} (hz : 0 < xs.length) (hz2 : xs.length < 2 ^ 40) (hp : S p = some (potO t)) (ok : okP N t) (hN : N < 2 ^ 40)
    (q : ∀ t' y, okP (N + 1) t' → y ∈ xs → Q y (updS S p (potO t'))) : spOne [.ref p, .lst xs] S Q :=
  ⟨p, t, _, xs, N, rfl, rfl, List.ne_nil_of_length_pos hz, hz2, hp, ok, hN, q⟩
theorem take_of {p : Addr} {t : Pt} {n : Int} {N : Nat} {S : Store} {Q : AK} (hn : 0 < n) (hn2 : n < 2 ^ 62) (hp : S p = some (potO t)) (ok : okP N t) (hN : N < 2 ^ 40)
    (q : ∀ t' r, okP (N + 1) t' → 0 ≤ r → r < n → Q (.int r) (updS S p (potO t'))) : spTake [.ref p, .int n] S Q := ⟨p, t, n, N, rfl, hn, hn2, hp, ok, hN, q⟩
/-- one sign of those that a value may have -/
def Sgn (y : AV) : Prop := ∃ c, y = .str ⟨#[c]⟩ ∧ Vm.chB c = true
theorem join_tl : ∀ xs : List Str, (Str.join (Str.ofString "") xs).cps.toList = xs.flatMap (·.cps.toList)
  | [] => rfl
  | [x] => by simp [Str.join]
  | x :: z :: r => by
    have e : (Str.ofString "").cps.toList = [] := by decide +kernel
    show ((x.cps ++ (Str.ofString "").cps) ++ (Str.join (Str.ofString "") (z :: r)).cps).toList = _
    rw [Array.toList_append, Array.toList_append, e, join_tl (z :: r), List.append_nil]
    rfl
theorem sgn_all : ∀ {acc : List AV}, (∀ y ∈ acc, Sgn y) → acc.all isStrA = true ∧ ((acc.map strOf).map (·.length)).sum = acc.length ∧ ((acc.map strOf).flatMap (·.cps.toList)).length = acc.length ∧ ∀ c ∈ (acc.map strOf).flatMap (·.cps.toList), Vm.chB c = true
  | [], _ => ⟨rfl, rfl, rfl, fun c h => by cases h⟩
  | x :: xs, h => by
    obtain ⟨c, rfl, hc⟩ := h x (List.mem_cons_self ..)
    obtain ⟨a, b, d, e⟩ := sgn_all fun y hy => h y (List.mem_cons_of_mem _ hy)
    refine ⟨by rw [List.all_cons, a]; rfl, ?_, ?_, fun k hk => ?_⟩
    · rw [List.map_cons, List.map_cons, List.sum_cons, b, List.length_cons]; show 1 + _ = _; omega
    · rw [List.map_cons, List.flatMap_cons, List.length_append, d, List.length_cons]; show 1 + _ = _; omega
    · rw [List.map_cons, List.flatMap_cons] at hk
      rcases List.mem_append.mp hk with h | h
      · have h : k ∈ [c] := h
        cases List.mem_singleton.mp h; exact hc
      · exact e k h
theorem sgn_join {acc : List AV} (h : ∀ y ∈ acc, Sgn y) {S : Store} {Q : AK} (hl : acc.length ≤ 1000000) (q : ∀ z : Str, z.length = acc.length → (∀ c ∈ z.cps.toList, Vm.chB c = true) → Q (.str z) S) : mJoin (.str (Str.ofString "")) [.lst acc] S Q := by
  obtain ⟨a, b, d, e⟩ := sgn_all h
  have e0 : (Str.ofString "").length = 0 := by decide +kernel
  refine ⟨_, _, acc, rfl, rfl, rfl, a, ?_, ?_⟩
  · rw [b, e0]; omega
  · rw [TL.join_eq]
    refine q _ ?_ (by rw [join_tl]; exact e)
    show (Str.join (Str.ofString "") (acc.map strOf)).cps.size = _
    rw [← Array.length_toList, join_tl, d]
theorem cube_okG {A B b c : Int} (hA : 0 ≤ A) (hA2 : A < 2 ^ 20) (hB : 0 ≤ B) (hB2 : B < 2 ^ 20) (h0 : 0 ≤ b) (h1 : b < 2305843009213693951) (h2 : 0 ≤ c) (h3 : c < 2 ^ 41) : 0 ≤ b + A * c * c + B ∧ b + A * c * c + B < 2 ^ 512 := by
  have hAc : 0 ≤ A * c := Int.mul_nonneg hA h2
  have a : 0 ≤ A * c * c := Int.mul_nonneg hAc h2
  have d : A * c * c ≤ A * c * 2 ^ 41 := Int.mul_le_mul_of_nonneg_left (by omega) hAc
  have e : A * c ≤ 2 ^ 20 * c := Int.mul_le_mul_of_nonneg_right (by omega) h2
  omega
theorem cube_ok {b c : Int} (h0 : 0 ≤ b) (h1 : b < 2305843009213693951) (h2 : 0 ≤ c) (h3 : c < 2 ^ 41) : 0 ≤ b + 99029 * c * c + 719 ∧ b + 99029 * c * c + 719 < 2 ^ 512 := by
  have a : 0 ≤ 99029 * c * c := Int.mul_nonneg (by omega) h2
  have d : 99029 * c * c ≤ 99029 * c * 2 ^ 41 := Int.mul_le_mul_of_nonneg_left (by omega) (by omega)
  omega
/-- the row of values that is being made -/
structure RowOk (m i : Nat) (ds : List AV) : Prop where
  ne : 0 < ds.length
  len : ds.length ≤ 20 + i
  val : Vm.isVals ds (2 * i) = true
  cnt : Vm.cnts ds ≤ 10 * m + 11 * i
theorem vals_part {ds : List AV} {k j : Nat} (h : Vm.isVals ds k = true) : Vm.isVals (ds.take j) k = true ∧ Vm.isVals (ds.drop j) k = true ∧ Vm.cnts (ds.take j) + Vm.cnts (ds.drop j) = Vm.cnts ds := by
  have e := List.take_append_drop j ds
  have h1 : Vm.isVals (ds.take j ++ ds.drop j) k = true := by rw [e]; exact h
  rw [Vm.isVals_app, Bool.and_eq_true_iff] at h1
  refine ⟨h1.1, h1.2, ?_⟩
  rw [← Vm.cnts_app, e]
theorem RowOk.tup {m i j : Nat} {ds : List AV} (h : RowOk m i ds) : RowOk m (i + 1) (ds.take j ++ [.tup (ds.drop j)]) := by
  obtain ⟨a, b, c⟩ := vals_part (j := j) h.val
  refine ⟨by simp, ?_, ?_, ?_⟩
  · have := h.len
    rw [List.length_append, List.length_take, List.length_singleton]; omega
  · rw [Vm.isVals_app, Vm.vals_up _ (2 * i) (2 * (i + 1)) (by omega) a]
    show (true && ((decide (2 * (i + 1) ≠ 0) && Vm.isVals (ds.drop j) (2 * (i + 1) - 1)) && true)) = true
    rw [Vm.vals_up _ (2 * i) (2 * (i + 1) - 1) (by omega) b, decide_eq_true (by omega)]
    rfl
  · have := h.cnt
    rw [Vm.cnts_app]
    show _ + (1 + Vm.cnts (ds.drop j) + 0) ≤ _
    omega
theorem RowOk.seal {m i j : Nat} {ds : List AV} {nm : AV} (h : RowOk m i ds) (h1 : Vm.isVal nm 0 = true) (h2 : Vm.cnt nm ≤ 4) : RowOk m (i + 1) (ds.take j ++ [.tup [.str "seal", nm, .tup (ds.drop j)]]) := by
  obtain ⟨a, b, c⟩ := vals_part (j := j) h.val
  refine ⟨by simp, ?_, ?_, ?_⟩
  · have := h.len
    rw [List.length_append, List.length_take, List.length_singleton]; omega
  · rw [Vm.isVals_app, Vm.vals_up _ (2 * i) (2 * (i + 1)) (by omega) a]
    have s1 : Vm.isVal (.str "seal") (2 * (i + 1) - 1) = true := by show Vm.leafV (.str "seal") = true; decide +kernel
    show (true && ((decide (2 * (i + 1) ≠ 0) && (Vm.isVal (.str "seal") (2 * (i + 1) - 1) && (Vm.isVal nm (2 * (i + 1) - 1) && ((decide (2 * (i + 1) - 1 ≠ 0) && Vm.isVals (ds.drop j) (2 * (i + 1) - 1 - 1)) && true)))) && true)) = true
    rw [Vm.vals_up _ (2 * i) (2 * (i + 1) - 1 - 1) (by omega) b, decide_eq_true (by omega), decide_eq_true (by omega), s1, Vm.val_up nm 0 _ (by omega) h1]
    rfl
  · have := h.cnt
    have s1 : Vm.cnt (.str "seal") = 5 := by decide +kernel
    rw [Vm.cnts_app]
    show _ + ((1 + (Vm.cnt (.str "seal") + (Vm.cnt nm + ((1 + Vm.cnts (ds.drop j)) + 0)))) + 0) ≤ _
    omega
theorem RowOk.start {m : Nat} {ds : List AV} (h0 : 0 < ds.length) (h1 : ds.length ≤ m) (hm : m ≤ 20) (h : ∀ y ∈ ds, Vm.isVal y 0 = true ∧ Vm.cnt y ≤ 10) : RowOk m 0 ds := by
  refine ⟨h0, by omega, by rw [Vm.isVals_all, List.all_eq_true]; exact fun x hx => (h x hx).1, ?_⟩
  have : ∀ xs : List AV, (∀ y ∈ xs, Vm.cnt y ≤ 10) → Vm.cnts xs ≤ 10 * xs.length := by
    intro xs
    induction xs with
    | nil => intro _; exact Nat.zero_le _
    | cons x xs ih =>
      intro h
      have a := h x (List.mem_cons_self ..)
      have b := ih fun y hy => h y (List.mem_cons_of_mem _ hy)
      rw [Vm.cnts, List.length_cons]
      omega
  have := this ds fun y hy => (h y hy).2
  omega
/-- the same, of any parts -/
structure RowG (m i : Nat) (ds : List AV) : Prop where
  ne : 0 < ds.length
  len : ds.length ≤ 20 + i
  val : Vm.isVals ds (2 * i) = true
  cnt : Vm.cnts ds ≤ m + 11 * i
theorem vals_partG {ds : List AV} {k j : Nat} (h : Vm.isVals ds k = true) : Vm.isVals (ds.take j) k = true ∧ Vm.isVals (ds.drop j) k = true ∧ Vm.cnts (ds.take j) + Vm.cnts (ds.drop j) = Vm.cnts ds := by
  have e := List.take_append_drop j ds
  have h1 : Vm.isVals (ds.take j ++ ds.drop j) k = true := by rw [e]; exact h
  rw [Vm.isVals_app, Bool.and_eq_true_iff] at h1
  refine ⟨h1.1, h1.2, ?_⟩
  rw [← Vm.cnts_app, e]
theorem RowG.tup {m i j : Nat} {ds : List AV} (h : RowG m i ds) : RowG m (i + 1) (ds.take j ++ [.tup (ds.drop j)]) := by
  obtain ⟨a, b, c⟩ := vals_partG (j := j) h.val
  refine ⟨by simp, ?_, ?_, ?_⟩
  · have := h.len
    rw [List.length_append, List.length_take, List.length_singleton]; omega
  · rw [Vm.isVals_app, Vm.vals_up _ (2 * i) (2 * (i + 1)) (by omega) a]
    show (true && ((decide (2 * (i + 1) ≠ 0) && Vm.isVals (ds.drop j) (2 * (i + 1) - 1)) && true)) = true
    rw [Vm.vals_up _ (2 * i) (2 * (i + 1) - 1) (by omega) b, decide_eq_true (by omega)]
    rfl
  · have := h.cnt
    rw [Vm.cnts_app]
    show _ + (1 + Vm.cnts (ds.drop j) + 0) ≤ _
    omega
theorem RowG.seal {m i j : Nat} {ds : List AV} {nm : AV} (h : RowG m i ds) (h1 : Vm.isVal nm 0 = true) (h2 : Vm.cnt nm ≤ 4) : RowG m (i + 1) (ds.take j ++ [.tup [.str "seal", nm, .tup (ds.drop j)]]) := by
  obtain ⟨a, b, c⟩ := vals_partG (j := j) h.val
  refine ⟨by simp, ?_, ?_, ?_⟩
  · have := h.len
    rw [List.length_append, List.length_take, List.length_singleton]; omega
  · rw [Vm.isVals_app, Vm.vals_up _ (2 * i) (2 * (i + 1)) (by omega) a]
    have s1 : Vm.isVal (.str "seal") (2 * (i + 1) - 1) = true := by show Vm.leafV (.str "seal") = true; decide +kernel
    show (true && ((decide (2 * (i + 1) ≠ 0) && (Vm.isVal (.str "seal") (2 * (i + 1) - 1) && (Vm.isVal nm (2 * (i + 1) - 1) && ((decide (2 * (i + 1) - 1 ≠ 0) && Vm.isVals (ds.drop j) (2 * (i + 1) - 1 - 1)) && true)))) && true)) = true
    rw [Vm.vals_up _ (2 * i) (2 * (i + 1) - 1 - 1) (by omega) b, decide_eq_true (by omega), decide_eq_true (by omega), s1, Vm.val_up nm 0 _ (by omega) h1]
    rfl
  · have := h.cnt
    have s1 : Vm.cnt (.str "seal") = 5 := by decide +kernel
    rw [Vm.cnts_app]
    show _ + ((1 + (Vm.cnt (.str "seal") + (Vm.cnt nm + ((1 + Vm.cnts (ds.drop j)) + 0)))) + 0) ≤ _
    omega
theorem RowG.start {m c M : Nat} {ds : List AV} (h0 : 0 < ds.length) (h1 : ds.length ≤ m) (hm : m ≤ 20) (hM : M = c * m) (h : ∀ y ∈ ds, Vm.isVal y 0 = true ∧ Vm.cnt y ≤ c) : RowG M 0 ds := by
  refine ⟨h0, by omega, by rw [Vm.isVals_all, List.all_eq_true]; exact fun x hx => (h x hx).1, ?_⟩
  have : ∀ xs : List AV, (∀ y ∈ xs, Vm.cnt y ≤ c) → Vm.cnts xs ≤ c * xs.length := by
    intro xs
    induction xs with
    | nil => intro _; exact Nat.zero_le _
    | cons x xs ih =>
      intro h
      have a := h x (List.mem_cons_self ..)
      have b := ih fun y hy => h y (List.mem_cons_of_mem _ hy)
      rw [Vm.cnts, List.length_cons, Nat.mul_succ]
      omega
  have a := this ds fun y hy => (h y hy).2
  have b := Nat.mul_le_mul_left c h1
  omega
theorem cutL_neg {ds : List AV} {k : Nat} (h0 : 0 < k) (h : k ≤ ds.length) : cutL ds (some (-(k : Int))) none = ds.drop (ds.length - k) := by
  have e : HT.sIx ds.length 0 (some (-(k : Int))) = ds.length - k := by
    show (if -(k : Int) < 0 then (-(k : Int) + (ds.length : Int)).toNat else _) = _
    rw [if_pos (by omega)]
    omega
  unfold cutL
  rw [e, HT.sIx_none]
  exact List.take_of_length_le (by rw [List.length_drop]; omega)
theorem cutL_hi {ds : List AV} {k : Nat} (h : k ≤ ds.length) : cutL ds none (some (k : Int)) = ds.take k := by
  unfold cutL
  rw [HT.sIx_none, HT.sIx_nat, List.drop_zero, Nat.min_eq_left h, Nat.sub_zero]
theorem cutL_lo {ds : List AV} {k : Nat} (h : k ≤ ds.length) : cutL ds (some (k : Int)) none = ds.drop k := by
  unfold cutL
  rw [HT.sIx_none, HT.sIx_nat, Nat.min_eq_left h]
  exact List.take_of_length_le (by rw [List.length_drop]; omega)
theorem repr_v {d : AV} {k : Nat} (h : Vm.isVal d k = true) (hk : k ≤ 60) (hc : Vm.cnt d ≤ 700000) (S : Store) : reprA d S = ⟨True, .str (toD d).shown⟩ := by
  obtain ⟨a, b⟩ := Vm.repr_ok S h hk hc
  have : reprA d S = ⟨(reprA d S).ok, (reprA d S).v⟩ := rfl
  rw [this, b, eq_true a]
theorem repr_b (b : Bool) (S : Store) : reprA (.bl b) S = ⟨True, .str (toD (.bl b)).shown⟩ := by
  obtain ⟨a, c⟩ := Vm.repr_bl (b := b) S
  have : reprA (.bl b) S = ⟨(reprA (.bl b) S).ok, (reprA (.bl b) S).v⟩ := rfl
  rw [this, c, eq_true a]
theorem addA_rl {l : Addr} {xs ys : List AV} {S : Store} (h : S l = some (.lst xs)) : addA (.ref l) (.lst ys) S = ⟨xs.length + ys.length ≤ sizeLine, .lst (xs ++ ys)⟩ := by
  show catA (wstA S (.ref l)) (some ys) = _
  rw [wstA_ref h]
  rfl
theorem sgn_val {z : Str} {k n : Nat} (hl : z.length ≤ n) (hn : n ≤ 100000) (hc : ∀ c ∈ z.cps.toList, Vm.chB c = true) : Vm.isVal (.str z) k = true ∧ Vm.cnt (.str z) ≤ 1 + n := by
  refine ⟨?_, by show 1 + z.length ≤ _; omega⟩
  show (decide (z.length ≤ 100000) && z.cps.toList.all Vm.chB) = true
  rw [decide_eq_true (by omega), List.all_eq_true.mpr hc]
  rfl
end L3

set_option autoImplicit false
/-! LesM: statements on statements, desks, what can go wrong first: the plain law of k78 -/
namespace Les
abbrev Mk := Bool × Option Nat
def dsk (m : List Mk) (n : Nat) : Bool := ((m[n]?).map (·.1)).getD false
def par (m : List Mk) (n : Nat) : Option Nat := (m[n]?).bind (·.2)
def chain (m : List Mk) : Nat → Option Nat → List Nat
  | 0, _ => []
  | _ + 1, none => []
  | f + 1, some n => n :: chain m f (par m n)
/-- from a statement down to the first one -/
def rowO (m : List Mk) : Option Nat → List Nat
  | none => []
  | some n => chain m (n + 1) (some n)
def WF (m : List Mk) : Prop := ∀ n p, par m n = some p → p < n
theorem chain_fuel {m : List Mk} (w : WF m) : ∀ (f g n : Nat), n < f → n < g → chain m f (some n) = chain m g (some n) := by
  intro f
  induction f with
  | zero => intro g n h; omega
  | succ f ih =>
    intro g n h1 h2
    obtain ⟨g, rfl⟩ : ∃ k, g = k + 1 := ⟨g - 1, by omega⟩
    show n :: chain m f (par m n) = n :: chain m g (par m n)
    congr 1
    cases e : par m n with
    | none => cases f <;> cases g <;> rfl
    | some p => exact ih g p (by have := w n p e; omega) (by have := w n p e; omega)
theorem row_eq {m : List Mk} (w : WF m) (n : Nat) : rowO m (some n) = n :: rowO m (par m n) := by
  show n :: chain m n (par m n) = _
  congr 1
  cases e : par m n with
  | none => cases n <;> rfl
  | some p => exact chain_fuel w n (p + 1) p (w n p e) (by omega)
def cnt (m : List Mk) (o : Option Nat) (d : Bool) : Nat := (rowO m o).countP fun k => dsk m k == d
theorem cnt_none (m : List Mk) (d : Bool) : cnt m none d = 0 := rfl
theorem cnt_some {m : List Mk} (w : WF m) (n : Nat) (d : Bool) : cnt m (some n) d = cnt m (par m n) d + (if dsk m n = d then 1 else 0) := by
  unfold cnt
  rw [row_eq w, List.countP_cons]
  congr 1
  by_cases h : dsk m n = d <;> simp [h]
def Lt (m : List Mk) (o : Option Nat) : Prop := ∀ n, o = some n → n < m.length
theorem par_lt {m : List Mk} (w : WF m) {n : Nat} (h : n < m.length) : Lt m (par m n) := fun p e => by have := w n p e; omega
theorem dsk_app {m : List Mk} {e : Mk} {n : Nat} (h : n < m.length) : dsk (m ++ [e]) n = dsk m n := by
  unfold dsk; rw [List.getElem?_append_left h]
theorem par_app {m : List Mk} {e : Mk} {n : Nat} (h : n < m.length) : par (m ++ [e]) n = par m n := by
  unfold par; rw [List.getElem?_append_left h]
theorem dsk_new {m : List Mk} {e : Mk} : dsk (m ++ [e]) m.length = e.1 := by
  unfold dsk; rw [List.getElem?_append_right (Nat.le_refl _)]; simp
theorem par_new {m : List Mk} {e : Mk} : par (m ++ [e]) m.length = e.2 := by
  unfold par; rw [List.getElem?_append_right (Nat.le_refl _)]; simp
theorem wf_app {m : List Mk} {e : Mk} (w : WF m) (h : Lt m e.2) : WF (m ++ [e]) := by
  intro n p hp
  by_cases h1 : n < m.length
  · rw [par_app h1] at hp; exact w n p hp
  · by_cases h2 : n = m.length
    · subst h2; rw [par_new] at hp; exact h p hp
    · unfold par at hp
      rw [List.getElem?_eq_none (by simp; omega)] at hp
      cases hp
theorem row_app {m : List Mk} {e : Mk} (w : WF m) (h : Lt m e.2) : ∀ (k : Nat) (o : Option Nat), (∀ n, o = some n → n < k) → Lt m o → rowO (m ++ [e]) o = rowO m o := by
  intro k
  induction k with
  | zero => intro o h1 _; cases o with
    | none => rfl
    | some n => exact absurd (h1 n rfl) (by omega)
  | succ k ih =>
    intro o h1 h2
    cases o with
    | none => rfl
    | some n =>
      have hn := h2 n rfl
      rw [row_eq w, row_eq (wf_app w h), par_app hn]
      congr 1
      exact ih _ (fun p hp => by have := w n p hp; have := h1 n rfl; omega) (par_lt w hn)
theorem row_app' {m : List Mk} {e : Mk} (w : WF m) (h : Lt m e.2) {o : Option Nat} (ho : Lt m o) : rowO (m ++ [e]) o = rowO m o :=
  row_app w h m.length o ho ho
theorem row_lt {m : List Mk} (w : WF m) : ∀ (k : Nat) (o : Option Nat), (∀ n, o = some n → n < k) → ∀ j ∈ rowO m o, ∃ n, o = some n ∧ j ≤ n := by
  intro k
  induction k with
  | zero => intro o h1 j hj; cases o with
    | none => cases hj
    | some n => exact absurd (h1 n rfl) (by omega)
  | succ k ih =>
    intro o h1 j hj
    cases o with
    | none => cases hj
    | some n =>
      rw [row_eq w] at hj
      rcases List.mem_cons.mp hj with rfl | hj
      · exact ⟨j, rfl, Nat.le_refl _⟩
      · obtain ⟨p, hp, hle⟩ := ih _ (fun p hp => by have := w n p hp; have := h1 n rfl; omega) j hj
        exact ⟨n, rfl, by have := w n p hp; omega⟩
theorem row_mem_lt {m : List Mk} (w : WF m) {o : Option Nat} (ho : Lt m o) {j : Nat} (h : j ∈ rowO m o) : j < m.length := by
  obtain ⟨n, rfl, hle⟩ := row_lt w m.length o ho j h
  have := ho n rfl; omega
theorem row_len {m : List Mk} (w : WF m) : ∀ (k : Nat) (o : Option Nat), (∀ n, o = some n → n < k) → (rowO m o).length ≤ k := by
  intro k
  induction k with
  | zero => intro o h1; cases o with
    | none => exact Nat.le_refl _
    | some n => exact absurd (h1 n rfl) (by omega)
  | succ k ih =>
    intro o h1
    cases o with
    | none => exact Nat.zero_le _
    | some n =>
      rw [row_eq w, List.length_cons]
      have := ih (par m n) (fun p hp => by have := w n p hp; have := h1 n rfl; omega)
      omega
theorem cnt_app {m : List Mk} {e : Mk} (w : WF m) (h : Lt m e.2) {o : Option Nat} (ho : Lt m o) (d : Bool) : cnt (m ++ [e]) o d = cnt m o d := by
  unfold cnt
  rw [row_app' w h ho]
  apply List.countP_congr
  intro j hj
  rw [dsk_app (row_mem_lt w ho hj)]
theorem cnt_new {m : List Mk} {e : Mk} (w : WF m) (h : Lt m e.2) (d : Bool) : cnt (m ++ [e]) (some m.length) d = cnt m e.2 d + (if e.1 = d then 1 else 0) := by
  rw [cnt_some (wf_app w h), par_new, dsk_new, cnt_app w h h]
/-- whoever is in a row has its row within -/
theorem row_suf {m : List Mk} (w : WF m) : ∀ (k : Nat) (o : Option Nat), (∀ n, o = some n → n < k) → ∀ j ∈ rowO m o, rowO m (some j) <:+ rowO m o := by
  intro k
  induction k with
  | zero => intro o h1 j hj; cases o with
    | none => cases hj
    | some n => exact absurd (h1 n rfl) (by omega)
  | succ k ih =>
    intro o h1 j hj
    cases o with
    | none => cases hj
    | some n =>
      have e := row_eq w n
      rw [e] at hj
      rcases List.mem_cons.mp hj with rfl | hj
      · exact List.suffix_refl _
      · rw [e]
        exact (ih _ (fun p hp => by have := w n p hp; have := h1 n rfl; omega) j hj).trans (List.suffix_cons _ _)
/-- of each desk, each count has its statement in the row -/
theorem row_at {m : List Mk} (w : WF m) (d : Bool) (c : Nat) (hc : 0 < c) : ∀ (k : Nat) (o : Option Nat), (∀ n, o = some n → n < k) → c ≤ cnt m o d → ∃ j ∈ rowO m o, dsk m j = d ∧ cnt m (some j) d = c := by
  intro k
  induction k with
  | zero => intro o h1 h; cases o with
    | none => rw [cnt_none] at h; omega
    | some n => exact absurd (h1 n rfl) (by omega)
  | succ k ih =>
    intro o h1 h
    cases o with
    | none => rw [cnt_none] at h; omega
    | some n =>
      have e := cnt_some w n d
      by_cases hx : dsk m n = d ∧ cnt m (some n) d = c
      · exact ⟨n, by rw [row_eq w]; exact List.mem_cons_self, hx⟩
      · have h2 : c ≤ cnt m (par m n) d := by
          by_cases hd : dsk m n = d
          · rw [if_pos hd] at e
            have : cnt m (some n) d ≠ c := fun z => hx ⟨hd, z⟩
            omega
          · rw [if_neg hd] at e; omega
        obtain ⟨j, hj, h3⟩ := ih _ (fun p hp => by have := w n p hp; have := h1 n rfl; omega) h2
        exact ⟨j, by rw [row_eq w]; exact List.mem_cons_of_mem _ hj, h3⟩
/-- no statement of a desk has the count of another one -/
def Uq (m : List Mk) : Prop := ∀ j k, j < m.length → k < m.length → dsk m j = dsk m k → cnt m (some j) (dsk m j) = cnt m (some k) (dsk m j) → j = k
theorem not_left {m : List Mk} (w : WF m) (u : Uq m) {e n : Option Nat} (he : Lt m e) (hn : Lt m n) (d : Bool) (h1 : cnt m n d = cnt m e d) (h2 : cnt m e (!d) ≤ cnt m n (!d)) : rowO m e <:+ rowO m n := by
  cases e with
  | none => exact List.nil_suffix
  | some k =>
    have hk := he k rfl
    have hx : cnt m (some k) (dsk m k) ≤ cnt m n (dsk m k) := by
      by_cases hd : dsk m k = d
      · rw [hd]; omega
      · have : dsk m k = !d := by cases h : dsk m k <;> cases h' : d <;> simp_all
        rw [this]; exact h2
    have h0 : 0 < cnt m (some k) (dsk m k) := by rw [cnt_some w, if_pos rfl]; omega
    obtain ⟨j, hj, hd, hc⟩ := row_at w (dsk m k) _ h0 m.length n hn hx
    have hjl := row_mem_lt w hn hj
    have : j = k := u j k hjl hk hd (by rw [hd]; exact hc)
    subst this
    exact row_suf w m.length n hn j hj

/-! ### runs -/
structure LRun where
  made : List Mk
  a0 : Option Nat
  a1 : Option Nat
  h0 : Bool
  h1 : Bool
  kept : Option Nat
def LRun.at_ (s : LRun) (d : Bool) : Option Nat := if d then s.a1 else s.a0
def LRun.hand (s : LRun) (d : Bool) : Bool := if d then s.h1 else s.h0
def LRun.setAt (s : LRun) (d : Bool) (o : Option Nat) : LRun := if d then { s with a1 := o } else { s with a0 := o }
def LRun.setHand (s : LRun) (d : Bool) (b : Bool) : LRun := if d then { s with h1 := b } else { s with h0 := b }
structure LRule where
  own : Bool
  oth : Bool
  ahead : Bool
  turn : Bool
structure Good (r : LRule) (hon : Bool) (s : LRun) : Prop where
  wf : WF s.made
  lt : ∀ d, Lt s.made (s.at_ d)
  kl : Lt s.made s.kept
  uq : Uq s.made
  hd : ∀ d, s.hand d = true → ∃ n, s.at_ d = some n
  ah : r.ahead = true → ∀ n, n < s.made.length → cnt s.made (some n) (dsk s.made n) ≤ cnt s.made (s.at_ (dsk s.made n)) (dsk s.made n)
  ot : hon = true → ∀ d, cnt s.made (s.at_ d) (!d) ≤ cnt s.made s.kept (!d)
  tn : hon = true → r.turn = true → (∀ d, s.hand d = false → cnt s.made (s.at_ d) d = cnt s.made s.kept d) ∧ (∀ d, s.hand d = true → s.hand (!d) = false ∧ ∃ n, s.at_ d = some n ∧ dsk s.made n = d ∧ par s.made n = s.kept)
theorem Good.start (r : LRule) (hon : Bool) : Good r hon ⟨[], none, none, false, false, none⟩ := by
  refine ⟨fun n p h => by simp [par] at h, fun d n h => ?_, fun n h => (nomatch h), fun j k h => (nomatch h), fun d h => ?_, fun _ n h => (nomatch h), fun _ d => ?_, fun _ _ => ⟨fun d _ => ?_, fun d h => ?_⟩⟩
  · cases d <;> cases h
  · cases d <;> cases h
  · cases d <;> exact Nat.le_refl _
  · cases d <;> rfl
  · cases d <;> cases h
section
variable {r : LRule} {hon : Bool} {s : LRun}
theorem at_set (s : LRun) (d e : Bool) (o : Option Nat) : (s.setAt d o).at_ e = if e = d then o else s.at_ e := by
  cases d <;> cases e <;> rfl
theorem hand_set (s : LRun) (d e : Bool) (b : Bool) : (s.setHand d b).hand e = if e = d then b else s.hand e := by
  cases d <;> cases e <;> rfl
theorem at_hand (s : LRun) (d e : Bool) (b : Bool) : (s.setHand d b).at_ e = s.at_ e := by
  cases d <;> cases e <;> rfl
theorem hand_at (s : LRun) (d e : Bool) (o : Option Nat) : (s.setAt d o).hand e = s.hand e := by
  cases d <;> cases e <;> rfl
theorem made_set (s : LRun) (d : Bool) (o : Option Nat) : (s.setAt d o).made = s.made := by cases d <;> rfl
theorem made_hand (s : LRun) (d : Bool) (b : Bool) : (s.setHand d b).made = s.made := by cases d <;> rfl
theorem kept_set (s : LRun) (d : Bool) (o : Option Nat) : (s.setAt d o).kept = s.kept := by cases d <;> rfl
theorem kept_hand (s : LRun) (d : Bool) (b : Bool) : (s.setHand d b).kept = s.kept := by cases d <;> rfl
theorem ne_not {d e : Bool} (h : e ≠ d) : e = !d := by cases d <;> cases e <;> simp_all
theorem not_ne (d : Bool) : (!d) ≠ d := by cases d <;> simp
/-- a statement that is there already -/
def again (s : LRun) (d : Bool) : Bool := (List.range s.made.length).any fun n => dsk s.made n == d && cnt s.made (some n) d == cnt s.made (s.at_ d) d + 1
def makeS (s : LRun) (d : Bool) : LRun := ({ s with made := s.made ++ [(d, s.at_ d)] }.setAt d (some s.made.length)).setHand d true
theorem make_twice (I : Good r hon s) {d : Bool} (h : again s d = true) : r.ahead = false := by
  cases ha : r.ahead with
  | false => rfl
  | true =>
    obtain ⟨n, hn, hq⟩ := List.any_eq_true.mp h
    rw [List.mem_range] at hn
    rw [Bool.and_eq_true, beq_iff_eq, beq_iff_eq] at hq
    have := I.ah ha n hn
    rw [hq.1] at this
    omega
theorem makeS_made (s : LRun) (d : Bool) : (makeS s d).made = s.made ++ [(d, s.at_ d)] := by
  unfold makeS; rw [made_hand, made_set]
theorem makeS_at (s : LRun) (d e : Bool) : (makeS s d).at_ e = if e = d then some s.made.length else s.at_ e := by
  unfold makeS; rw [at_hand, at_set]; rfl
theorem makeS_hand (s : LRun) (d e : Bool) : (makeS s d).hand e = if e = d then true else s.hand e := by
  unfold makeS; rw [hand_set, hand_at]; rfl
theorem makeS_kept (s : LRun) (d : Bool) : (makeS s d).kept = s.kept := by
  unfold makeS; rw [kept_hand, kept_set]
theorem make_ok (I : Good r hon s) {d : Bool} (h : again s d = false) (can : hon = true → r.turn = true → s.at_ d = s.kept ∧ s.h0 = false ∧ s.h1 = false) : Good r hon (makeS s d) := by
  have lt := I.lt d
  have lt' : Lt s.made (d, s.at_ d).2 := lt
  have w' := wf_app I.wf lt'
  have lts : ∀ {o : Option Nat}, Lt s.made o → Lt (s.made ++ [(d, s.at_ d)]) o := fun h n e => by have := h n e; rw [List.length_append]; omega
  have cn : ∀ e, cnt (s.made ++ [(d, s.at_ d)]) (some s.made.length) e = cnt s.made (s.at_ d) e + (if d = e then 1 else 0) := fun e => cnt_new I.wf lt' e
  have ca : ∀ {o : Option Nat} (e : Bool), Lt s.made o → cnt (s.made ++ [(d, s.at_ d)]) o e = cnt s.made o e := fun e h => cnt_app I.wf lt' h e
  have cs : ∀ {n : Nat} (e : Bool), n < s.made.length → cnt (s.made ++ [(d, s.at_ d)]) (some n) e = cnt s.made (some n) e := fun e h => ca e (fun _ z => by cases z; exact h)
  have noag : ∀ n, n < s.made.length → dsk s.made n = d → cnt s.made (some n) d ≠ cnt s.made (s.at_ d) d + 1 := fun n hn hd hc => by
    have : again s d = true := List.any_eq_true.mpr ⟨n, List.mem_range.mpr hn, by rw [Bool.and_eq_true, beq_iff_eq, beq_iff_eq]; exact ⟨hd, hc⟩⟩
    rw [h] at this; cases this
  have atc : ∀ e, cnt (s.made ++ [(d, s.at_ d)]) ((makeS s d).at_ e) e = cnt s.made (s.at_ e) e + (if e = d then 1 else 0) := fun e => by
    rw [makeS_at]
    by_cases he : e = d
    · subst he; rw [if_pos rfl, if_pos rfl, cn, if_pos rfl]
    · rw [if_neg he, if_neg he, ca e (I.lt e)]
      rfl
  refine ⟨by rw [makeS_made]; exact w', fun e => ?_, ?_, ?_, fun e he => ?_, fun ha n hn => ?_, fun hh e => ?_, fun hh ht => ?_⟩
  · rw [makeS_made, makeS_at]
    split
    · intro n z; cases z; rw [List.length_append]; exact Nat.lt_succ_self _
    · exact lts (I.lt e)
  · rw [makeS_made, makeS_kept]; exact lts I.kl
  · rw [makeS_made]
    intro j k hj hk hd hc
    rw [List.length_append, List.length_singleton] at hj hk
    by_cases h1 : j < s.made.length
    · by_cases h2 : k < s.made.length
      · rw [dsk_app h1, dsk_app h2] at hd
        rw [dsk_app h1, cs _ h1, cs _ h2] at hc
        exact I.uq j k h1 h2 hd hc
      · have e : k = s.made.length := by omega
        subst e
        rw [dsk_app h1, dsk_new] at hd
        have hd' : dsk s.made j = d := hd
        rw [dsk_app h1, hd', cs _ h1, cn, if_pos rfl] at hc
        exact absurd hc (noag j h1 hd')
    · have e : j = s.made.length := by omega
      subst e
      by_cases h2 : k < s.made.length
      · rw [dsk_app h2, dsk_new] at hd
        have hd' : d = dsk s.made k := hd
        rw [dsk_new, cn, cs _ h2] at hc
        have hc' : cnt s.made (s.at_ d) d + (if d = d then 1 else 0) = cnt s.made (some k) d := hc
        rw [if_pos rfl] at hc'
        exact absurd hc'.symm (noag k h2 hd'.symm)
      · omega
  · rw [makeS_hand] at he
    rw [makeS_at]
    by_cases q : e = d
    · rw [if_pos q]; exact ⟨_, rfl⟩
    · rw [if_neg q] at he ⊢; exact I.hd e he
  · rw [makeS_made] at hn ⊢
    rw [List.length_append, List.length_singleton] at hn
    by_cases h1 : n < s.made.length
    · rw [dsk_app h1, cs _ h1, atc]
      have := I.ah ha n h1
      omega
    · have e : n = s.made.length := by omega
      subst e
      rw [dsk_new, atc]
      show cnt _ (some s.made.length) d ≤ cnt s.made (s.at_ d) d + (if d = d then 1 else 0)
      rw [cn]
      exact Nat.le_refl _
  · rw [makeS_made, makeS_kept, makeS_at, ca _ I.kl]
    by_cases q : e = d
    · subst q
      rw [if_pos rfl, cn, if_neg (Ne.symm (not_ne e))]
      exact I.ot hh e
    · rw [if_neg q, ca _ (I.lt e)]
      exact I.ot hh e
  · obtain ⟨c1, c2, c3⟩ := can hh ht
    have hf : ∀ e, s.hand e = false := fun e => by cases e <;> assumption
    rw [makeS_made, makeS_kept]
    refine ⟨fun e he => ?_, fun e he => ?_⟩
    · rw [makeS_hand] at he
      by_cases q : e = d
      · rw [if_pos q] at he; cases he
      · rw [atc, if_neg q, ca _ I.kl]
        exact (I.tn hh ht).1 e (hf e)
    · rw [makeS_hand] at he
      by_cases q : e = d
      · subst q
        rw [makeS_hand, if_neg (not_ne e), makeS_at, if_pos rfl]
        exact ⟨hf _, _, rfl, dsk_new, by rw [par_new]; exact c1⟩
      · rw [if_neg q, hf e] at he; cases he
/-- a statement is handed to the house -/
def handS (s : LRun) (d : Bool) : LRun := { s.setHand d false with kept := if ((s.at_ d).bind (par s.made) == s.kept) = true then s.at_ d else s.kept }
theorem handS_made (s : LRun) (d : Bool) : (handS s d).made = s.made := by cases d <;> rfl
theorem handS_at (s : LRun) (d e : Bool) : (handS s d).at_ e = s.at_ e := by cases d <;> cases e <;> rfl
theorem handS_hand (s : LRun) (d e : Bool) : (handS s d).hand e = if e = d then false else s.hand e := by cases d <;> cases e <;> rfl
theorem handS_kept (s : LRun) (d : Bool) : (handS s d).kept = if ((s.at_ d).bind (par s.made) == s.kept) = true then s.at_ d else s.kept := rfl
theorem hand_ok (I : Good r hon s) {d : Bool} (hd : s.hand d = true) : Good r hon (handS s d) := by
  obtain ⟨n, hn⟩ := I.hd d hd
  have step : ∀ e, cnt s.made s.kept e ≤ cnt s.made (handS s d).kept e := fun e => by
    rw [handS_kept, hn]
    split
    · next h =>
      rw [beq_iff_eq] at h
      rw [cnt_some I.wf]
      have h' : par s.made n = s.kept := h
      rw [h']
      omega
    · exact Nat.le_refl _
  refine ⟨by rw [handS_made]; exact I.wf, fun e => by rw [handS_made, handS_at]; exact I.lt e, ?_, by rw [handS_made]; exact I.uq, fun e he => ?_, fun ha => by
      intro k hk
      rw [handS_made] at hk ⊢
      rw [handS_at]
      exact I.ah ha k hk, fun hh e => ?_, fun hh ht => ?_⟩
  · rw [handS_made, handS_kept]
    split
    · exact I.lt d
    · exact I.kl
  · rw [handS_at]
    rw [handS_hand] at he
    by_cases q : e = d
    · rw [if_pos q] at he; cases he
    · rw [if_neg q] at he; exact I.hd e he
  · rw [handS_made, handS_at]
    exact Nat.le_trans (I.ot hh e) (step _)
  · obtain ⟨t1, t2⟩ := I.tn hh ht
    obtain ⟨h2, k, hk, dk, pk⟩ := t2 d hd
    have hkept : (handS s d).kept = some k := by
      rw [handS_kept, hk]
      have : ((some k).bind (par s.made) == s.kept) = true := by rw [beq_iff_eq]; exact pk
      rw [if_pos this]
    have off : ∀ e, (handS s d).hand e = false := fun e => by
      rw [handS_hand]
      by_cases q : e = d
      · rw [if_pos q]
      · rw [if_neg q, ne_not q]; exact h2
    refine ⟨fun e _ => ?_, fun e he => by rw [off] at he; cases he⟩
    rw [handS_made, handS_at, hkept]
    by_cases q : e = d
    · subst q; rw [hk]
    · rw [cnt_some I.wf, pk, dk, if_neg (Ne.symm q)]
      rw [ne_not q]
      exact t1 _ h2
/-- a desk falls: what is not written ahead is gone -/
def fallS (s : LRun) (d : Bool) : LRun := (s.setAt d ((s.at_ d).bind (par s.made))).setHand d false
theorem fallS_made (s : LRun) (d : Bool) : (fallS s d).made = s.made := by cases d <;> rfl
theorem fallS_kept (s : LRun) (d : Bool) : (fallS s d).kept = s.kept := by cases d <;> rfl
theorem fallS_at (s : LRun) (d e : Bool) : (fallS s d).at_ e = if e = d then (s.at_ d).bind (par s.made) else s.at_ e := by cases d <;> cases e <;> rfl
theorem fallS_hand (s : LRun) (d e : Bool) : (fallS s d).hand e = if e = d then false else s.hand e := by cases d <;> cases e <;> rfl
theorem fall_ok (I : Good r hon s) {d : Bool} (ha : r.ahead = false) (hd : s.hand d = true) : Good r hon (fallS s d) := by
  obtain ⟨n, hn⟩ := I.hd d hd
  have hb : (s.at_ d).bind (par s.made) = par s.made n := by rw [hn]; rfl
  have le : ∀ e, cnt s.made (par s.made n) e ≤ cnt s.made (s.at_ d) e := fun e => by rw [hn, cnt_some I.wf]; omega
  refine ⟨by rw [fallS_made]; exact I.wf, fun e => ?_, by rw [fallS_made, fallS_kept]; exact I.kl, by rw [fallS_made]; exact I.uq, fun e he => ?_, (fun h => by rw [ha] at h; cases h), fun hh e => ?_, fun hh ht => ?_⟩
  · rw [fallS_made, fallS_at, hb]
    split
    · exact par_lt I.wf (I.lt d n hn)
    · exact I.lt e
  · rw [fallS_hand] at he
    rw [fallS_at]
    by_cases q : e = d
    · rw [if_pos q] at he; cases he
    · rw [if_neg q] at he ⊢; exact I.hd e he
  · rw [fallS_made, fallS_kept, fallS_at, hb]
    by_cases q : e = d
    · subst q; rw [if_pos rfl]; exact Nat.le_trans (le _) (I.ot hh e)
    · rw [if_neg q]; exact I.ot hh e
  · obtain ⟨t1, t2⟩ := I.tn hh ht
    obtain ⟨h2, k, hk, dk, pk⟩ := t2 d hd
    have : k = n := by rw [hn] at hk; exact (Option.some.inj hk).symm
    subst this
    have off : ∀ e, (fallS s d).hand e = false := fun e => by
      rw [fallS_hand]
      by_cases q : e = d
      · rw [if_pos q]
      · rw [if_neg q, ne_not q]; exact h2
    refine ⟨fun e _ => ?_, fun e he => by rw [off] at he; cases he⟩
    rw [fallS_made, fallS_kept, fallS_at, hb]
    by_cases q : e = d
    · subst q; rw [if_pos rfl, pk]
    · rw [if_neg q, ne_not q]; exact t1 _ h2
/-- a statement is shown to a desk -/
def suspB (r : LRule) (s : LRun) (d : Bool) (n : Nat) : Bool := (r.own && (cnt s.made (some n) d != cnt s.made (s.at_ d) d)) || (r.oth && decide (cnt s.made (some n) (!d) < cnt s.made (s.at_ d) (!d)))
def goneB (s : LRun) (d : Bool) (n : Nat) : Bool := !(decide (rowO s.made (s.at_ d) <:+ rowO s.made (some n)))
def showS (s : LRun) (d : Bool) (n : Nat) : LRun := if (some n == s.at_ d) = true then s else (s.setAt d (some n)).setHand d false
theorem susp_word (I : Good r hon s) {d : Bool} {n : Nat} (hh : hon = true) (hk : some n = s.kept) (hd : s.hand d = false) (h : suspB r s d n = true) : r.own = true ∧ r.turn = false := by
  unfold suspB at h
  rw [hk] at h
  have h2 : decide (cnt s.made s.kept (!d) < cnt s.made (s.at_ d) (!d)) = false := decide_eq_false (by have := I.ot hh d; omega)
  rw [h2, Bool.and_false, Bool.or_false, Bool.and_eq_true] at h
  refine ⟨h.1, ?_⟩
  cases ht : r.turn with
  | false => rfl
  | true =>
    have := (I.tn hh ht).1 d hd
    have h3 := h.2
    rw [this] at h3
    simp at h3
theorem left_word (I : Good r hon s) {d : Bool} {n : Nat} (hn : n < s.made.length) (h : suspB r s d n = false) (hg : goneB s d n = true) : r.own = false ∨ r.oth = false := by
  cases h1 : r.own with
  | false => exact .inl rfl
  | true =>
    cases h2 : r.oth with
    | false => exact .inr rfl
    | true =>
      unfold suspB at h
      rw [h1, h2, Bool.true_and, Bool.true_and, Bool.or_eq_false_iff] at h
      have e1 : cnt s.made (some n) d = cnt s.made (s.at_ d) d := by simpa using h.1
      have e2 : cnt s.made (s.at_ d) (!d) ≤ cnt s.made (some n) (!d) := by have := of_decide_eq_false h.2; omega
      have := not_left I.wf I.uq (I.lt d) (fun k z => by cases z; exact hn) d e1 e2
      unfold goneB at hg
      rw [decide_eq_true this] at hg
      cases hg
theorem showS_same {s : LRun} {d : Bool} {n : Nat} (h : some n = s.at_ d) : showS s d n = s := by
  unfold showS; rw [if_pos (beq_iff_eq.mpr h)]
theorem show_ok (I : Good r hon s) {d : Bool} {n : Nat} (hn : n < s.made.length) (can : hon = true → some n = s.kept ∧ s.hand d = false) (hg : goneB s d n = false) : Good r hon (showS s d n) := by
  by_cases q0 : some n = s.at_ d
  · rw [showS_same q0]; exact I
  have es : showS s d n = (s.setAt d (some n)).setHand d false := by
    unfold showS; rw [if_neg (fun z => q0 (beq_iff_eq.mp z))]
  rw [es]
  have sm : ((s.setAt d (some n)).setHand d false).made = s.made := by rw [made_hand, made_set]
  have sk : ((s.setAt d (some n)).setHand d false).kept = s.kept := by rw [kept_hand, kept_set]
  have sa : ∀ e, ((s.setAt d (some n)).setHand d false).at_ e = if e = d then some n else s.at_ e := fun e => by rw [at_hand, at_set]
  have sh : ∀ e, ((s.setAt d (some n)).setHand d false).hand e = if e = d then false else s.hand e := fun e => by rw [hand_set, hand_at]
  have suf : rowO s.made (s.at_ d) <:+ rowO s.made (some n) := by
    unfold goneB at hg
    simpa using hg
  have grow : ∀ e, cnt s.made (s.at_ d) e ≤ cnt s.made (some n) e := fun e => suf.sublist.countP_le
  refine ⟨by rw [sm]; exact I.wf, fun e => ?_, by rw [sm, sk]; exact I.kl, by rw [sm]; exact I.uq, fun e he => ?_, fun ha k hk => ?_, fun hh e => ?_, fun hh ht => ?_⟩
  · rw [sm, sa]
    split
    · intro k z; cases z; exact hn
    · exact I.lt e
  · rw [sh] at he
    rw [sa]
    by_cases q : e = d
    · rw [if_pos q] at he; cases he
    · rw [if_neg q] at he ⊢; exact I.hd e he
  · rw [sm] at hk ⊢
    rw [sa]
    have := I.ah ha k hk
    by_cases q : dsk s.made k = d
    · rw [if_pos q]
      have g := grow (dsk s.made k)
      rw [q] at this g ⊢
      omega
    · rw [if_neg q]; exact this
  · rw [sm, sk, sa]
    by_cases q : e = d
    · rw [if_pos q, (can hh).1]; exact Nat.le_refl _
    · rw [if_neg q]; exact I.ot hh e
  · obtain ⟨t1, t2⟩ := I.tn hh ht
    obtain ⟨c1, c2⟩ := can hh
    rw [sm, sk]
    refine ⟨fun e he => ?_, fun e he => ?_⟩
    · rw [sa]
      rw [sh] at he
      by_cases q : e = d
      · rw [if_pos q, c1]
      · rw [if_neg q] at he ⊢; exact t1 e he
    · rw [sh] at he
      by_cases q : e = d
      · rw [if_pos q] at he; cases he
      · rw [if_neg q] at he
        obtain ⟨x1, k, x2, x3, x4⟩ := t2 e he
        rw [sh, sa, if_neg q]
        refine ⟨?_, k, x2, x3, x4⟩
        by_cases q' : (!e) = d
        · rw [if_pos q']
        · rw [if_neg q']; exact x1
end
end Les

set_option Elab.async false
set_option linter.all false
set_option maxRecDepth 100000
set_option maxHeartbeats 1000000
set_option autoImplicit false
/-! LesV: the values of k78 -/
namespace L3
open PySem L2 Les
def dk (d : Bool) : AV := .int (if d then 1 else 0)
def oN : Option Nat → AV
  | none => .non
  | some n => .int n
def mkA (e : Mk) : AV := .tup [dk e.1, oN e.2]
def madeA (m : List Mk) : AV := .tup (m.map mkA)
def atA (s : LRun) : AV := .tup [oN s.a0, oN s.a1]
def hndA (s : LRun) : AV := .tup [.bl s.h0, .bl s.h1]
def stA (s : LRun) : AV := .tup [madeA s.made, atA s, hndA s, oN s.kept]
def ruleA (r : LRule) : AV := .tup [.bl r.own, .bl r.oth, .bl r.ahead, .bl r.turn]
def nmA (d : Bool) : AV := .str (if d then "b" else "a")
inductive Ev where
  | make (d : Bool) | hand (d : Bool) | fall (d : Bool) | shw (d : Bool) (n : Nat)
def evA : Ev → AV
  | .make d => .tup [.str "make", nmA d]
  | .hand d => .tup [.str "hand", nmA d]
  | .fall d => .tup [.str "fall", nmA d]
  | .shw d n => .tup [.str "show", nmA d, .int n]
theorem ix_dk {x y : AV} {d : Bool} {S : Store} : ixA (.tup [x, y]) (dk d) S = ⟨True, if d then y else x⟩ := by
  cases d <;> exact ans_tt rfl rfl
theorem ix_at {s : LRun} {d : Bool} {S : Store} : ixA (atA s) (dk d) S = ⟨True, oN (s.at_ d)⟩ := by
  cases d <;> exact ans_tt rfl rfl
theorem ix_hnd {s : LRun} {d : Bool} {S : Store} : ixA (hndA s) (dk d) S = ⟨True, .bl (s.hand d)⟩ := by
  cases d <;> exact ans_tt rfl rfl
theorem ix2_0 {x y : AV} {S : Store} : ixA (.tup [x, y]) (.int 0) S = ⟨True, x⟩ := ans_tt rfl rfl
theorem ix2_1 {x y : AV} {S : Store} : ixA (.tup [x, y]) (.int 1) S = ⟨True, y⟩ := ans_tt rfl rfl
theorem ixt3_0 {x y z : AV} {S : Store} : ixA (.tup [x, y, z]) (.int 0) S = ⟨True, x⟩ := ans_tt rfl rfl
theorem ixt3_1 {x y z : AV} {S : Store} : ixA (.tup [x, y, z]) (.int 1) S = ⟨True, y⟩ := ans_tt rfl rfl
theorem ixt3_2 {x y z : AV} {S : Store} : ixA (.tup [x, y, z]) (.int 2) S = ⟨True, z⟩ := ans_tt rfl rfl
theorem ixt4_0 {x y z w : AV} {S : Store} : ixA (.tup [x, y, z, w]) (.int 0) S = ⟨True, x⟩ := ans_tt rfl rfl
theorem ixt4_1 {x y z w : AV} {S : Store} : ixA (.tup [x, y, z, w]) (.int 1) S = ⟨True, y⟩ := ans_tt rfl rfl
theorem ixt4_2 {x y z w : AV} {S : Store} : ixA (.tup [x, y, z, w]) (.int 2) S = ⟨True, z⟩ := ans_tt rfl rfl
theorem ixt4_3 {x y z w : AV} {S : Store} : ixA (.tup [x, y, z, w]) (.int 3) S = ⟨True, w⟩ := ans_tt rfl rfl
theorem ix_made {m : List Mk} {n : Nat} {S : Store} (h : n < m.length) : ixA (madeA m) (.int n) S = ⟨True, .tup [dk (dsk m n), oN (par m n)]⟩ := by
  show ixL (some (m.map mkA)) (.int n) = _
  have e : atI (m.map mkA) (n : Int) = some (.tup [dk (dsk m n), oN (par m n)]) := by
    unfold atI
    rw [ixNZ (Int.natCast_nonneg n) (by rw [List.length_map]; omega)]
    show (m.map mkA)[((n : Int)).toNat]? = _
    rw [Int.toNat_natCast, List.getElem?_map, List.getElem?_eq_getElem h]
    unfold dsk par mkA
    rw [List.getElem?_eq_getElem h]
    rfl
  show (⟨(atI (m.map mkA) (n : Int)).isSome = true, (atI (m.map mkA) (n : Int)).getD .non⟩ : Ans) = _
  rw [e]
  exact ans_tt rfl rfl
theorem ix_madeO {m : List Mk} {o : Option Nat} {n : Nat} {S : Store} (ho : o = some n) (h : n < m.length) : ixA (madeA m) (oN o) S = ⟨True, .tup [dk (dsk m n), oN (par m n)]⟩ := by
  subst ho; exact ix_made h
theorem okD_oN {o : Option Nat} {S : Store} : okD S (oN o) := by
  cases o <;> exact ⟨rfl, rfl⟩
theorem eqA_oN {a b : Option Nat} {S : Store} : eqA (oN a) (oN b) S = ⟨True, .bl (decide (a = b))⟩ := by
  cases a with
  | none =>
    cases b with
    | none => exact ans_tt ⟨⟨rfl, rfl⟩, ⟨rfl, rfl⟩⟩ (by show AV.bl (PyData.eqv .none .none) = _; unfold PyData.eqv; simp)
    | some j => exact ans_tt ⟨⟨rfl, rfl⟩, ⟨rfl, rfl⟩⟩ (by show AV.bl (PyData.eqv .none (.int j)) = _; unfold PyData.eqv; simp)
  | some i =>
    cases b with
    | none => exact ans_tt ⟨⟨rfl, rfl⟩, ⟨rfl, rfl⟩⟩ (by show AV.bl (PyData.eqv (.int i) .none) = _; unfold PyData.eqv; simp)
    | some j => exact ans_tt trivial (congrArg AV.bl (decide_eq_decide.mpr ⟨fun h => congrArg some (Int.ofNat.inj h), fun h => by cases h; rfl⟩))
theorem neA_oN {a b : Option Nat} {S : Store} : neA (oN a) (oN b) S = ⟨True, .bl (!decide (a = b))⟩ := by
  cases a with
  | none =>
    cases b with
    | none => exact ans_tt ⟨⟨rfl, rfl⟩, ⟨rfl, rfl⟩⟩ (by show AV.bl (!PyData.eqv .none .none) = _; unfold PyData.eqv; simp)
    | some j => exact ans_tt ⟨⟨rfl, rfl⟩, ⟨rfl, rfl⟩⟩ (by show AV.bl (!PyData.eqv .none (.int j)) = _; unfold PyData.eqv; simp)
  | some i =>
    cases b with
    | none => exact ans_tt ⟨⟨rfl, rfl⟩, ⟨rfl, rfl⟩⟩ (by show AV.bl (!PyData.eqv (.int i) .none) = _; unfold PyData.eqv; simp)
    | some j => exact ans_tt trivial (congrArg (fun b => AV.bl (!b)) (decide_eq_decide.mpr ⟨fun h => congrArg some (Int.ofNat.inj h), fun h => by cases h; rfl⟩))
theorem eqA_nO {n : Nat} {b : Option Nat} {S : Store} : eqA (.int (n : Nat)) (oN b) S = ⟨True, .bl (decide (some n = b))⟩ := eqA_oN (a := some n)
theorem neA_nO {n : Nat} {b : Option Nat} {S : Store} : neA (.int (n : Nat)) (oN b) S = ⟨True, .bl (!decide (some n = b))⟩ := neA_oN (a := some n)
theorem eqA_off {a b : Bool} {S : Store} : eqA (.tup [.bl a, .bl b]) (.tup [.bl false, .bl false]) S = ⟨True, .bl (!a && !b)⟩ := by
  refine ans_tt ⟨⟨rfl, by cases a <;> cases b <;> rfl⟩, ⟨rfl, rfl⟩⟩ ?_
  show AV.bl (PyData.eqv (.tuple [.bool a, .bool b]) (.tuple [.bool false, .bool false])) = _
  unfold PyData.eqv PyData.eqvAll PyData.eqvAll PyData.eqvAll PyData.eqv
  cases a <;> cases b <;> rfl
theorem eqA_dk {a b : Bool} {S : Store} : eqA (dk a) (dk b) S = ⟨True, .bl (a == b)⟩ := by
  cases a <;> cases b <;> exact ans_tt trivial rfl
theorem nonA_oN {o : Option Nat} : nonA (oN o) = o.isNone := by cases o <;> rfl
theorem index_nm {d : Bool} {S : Store} {Q : AK} (q : Q (dk d) S) : mIndex (.lst [.str "a", .str "b"]) [nmA d] S Q := by
  cases d with
  | false => exact ⟨_, .str "a", 0, .str "a", rfl, rfl, rfl, rfl, rfl, by decide +kernel, fun m z' h => by omega, q⟩
  | true => exact ⟨_, .str "b", 1, .str "b", rfl, rfl, rfl, rfl, rfl, by decide +kernel, fun m z' h hz => by
      have : m = 0 := by omega
      subst this
      cases hz
      decide +kernel, q⟩
theorem sw_1 : decide (("hand" : Str) = "make") = false := by decide +kernel
theorem sw_2 : decide (("fall" : Str) = "make") = false := by decide +kernel
theorem sw_3 : decide (("show" : Str) = "make") = false := by decide +kernel
theorem sw_4 : decide (("make" : Str) = "hand") = false := by decide +kernel
theorem sw_5 : decide (("fall" : Str) = "hand") = false := by decide +kernel
theorem sw_6 : decide (("show" : Str) = "hand") = false := by decide +kernel
theorem sw_7 : decide (("make" : Str) = "show") = false := by decide +kernel
theorem sw_8 : decide (("hand" : Str) = "show") = false := by decide +kernel
theorem sw_9 : decide (("fall" : Str) = "show") = false := by decide +kernel
theorem sw_10 : decide (("make" : Str) = "fall") = false := by decide +kernel
theorem sw_11 : decide (("hand" : Str) = "fall") = false := by decide +kernel
/-- the words of a rule -/
def wordsS (r : LRule) : List Str := ((([(("left" : Str), !r.own || !r.oth), ("suspected", r.own && !r.turn), ("twice", !r.ahead)] : List (Str × Bool)).filter (·.2)).map (·.1))
def wordsA (r : LRule) : AV := .tup ((wordsS r).map .str)
/-- whether an event can be -/
def canB (r : LRule) (hon : Bool) (s : LRun) : Ev → Bool
  | .make d => !(hon && r.turn) || (decide (s.at_ d = s.kept) && (!s.h0 && !s.h1))
  | .hand d => s.hand d
  | .fall _ => true
  | .shw d n => decide (n < s.made.length) && (!hon || (decide (some n = s.kept) && !s.hand d))
def wrongS (w : Str) : Bool := decide (w = "left") || (decide (w = "twice") || decide (w = "suspected"))
theorem cutL_to {ds : List AV} {k : Nat} : cutL ds none (some (k : Int)) = ds.take k := by
  unfold cutL
  rw [HT.sIx_none, HT.sIx_nat, List.drop_zero, Nat.sub_zero]
  by_cases h : k ≤ ds.length
  · rw [Nat.min_eq_left h]
  · rw [Nat.min_eq_right (by omega), List.take_length, List.take_of_length_le (by omega)]
def cntA (m : List Mk) (o : Option Nat) : AV := .tup [.int (cnt m o false : Nat), .int (cnt m o true : Nat)]
theorem ix_cnt {m : List Mk} {o : Option Nat} {d : Bool} {S : Store} : ixA (cntA m o) (dk d) S = ⟨True, .int (cnt m o d : Nat)⟩ := by
  cases d <;> exact ans_tt rfl rfl
theorem sub_dk {d : Bool} {S : Store} : subA (.int 1) (dk d) S = ⟨True, dk (!d)⟩ := by
  cases d <;> exact ans_tt trivial rfl
theorem eqA_hnd {s : LRun} {S : Store} : eqA (hndA s) (.tup [.bl false, .bl false]) S = ⟨True, .bl (!s.h0 && !s.h1)⟩ := eqA_off
theorem cnt_count {m : List Mk} {o : Option Nat} (d : Bool) : (((rowO m o).reverse.map fun n => (if dsk m n then (1 : Int) else 0)).count (if d then 1 else 0)) = cnt m o d := by
  unfold cnt
  rw [List.count_eq_countP, List.countP_map, List.countP_reverse]
  apply List.countP_congr
  intro n _
  cases h : dsk m n <;> cases d <;> simp [h]
theorem pre_suf {a b : List Nat} : (b.reverse.take a.reverse.length = a.reverse) ↔ a <:+ b := by
  rw [← List.reverse_prefix, List.prefix_iff_eq_take]
  exact ⟨fun h => h.symm, fun h => h.symm⟩
theorem setAt_with {s : LRun} {d : Bool} {o : Option Nat} : (if d = true then AV.tup [oN s.a0, oN o] else .tup [oN o, oN s.a1]) = atA (s.setAt d o) := by cases d <;> rfl
theorem setHand_with {s : LRun} {d b : Bool} : (if d = true then AV.tup [.bl s.h0, .bl b] else .tup [.bl b, .bl s.h1]) = hndA (s.setHand d b) := by cases d <;> rfl
theorem lenA_made {m : List Mk} {S : Store} : lenA (madeA m) S = ⟨True, .int (m.length : Nat)⟩ := by
  show (⟨True, .int ((m.map mkA).length : Nat)⟩ : Ans) = _
  rw [List.length_map]
theorem addA_made {m : List Mk} {d : Bool} {o : Option Nat} {S : Store} : addA (madeA m) (.tup [.tup [dk d, oN o]]) S = ⟨m.length + 1 ≤ sizeLine, madeA (m ++ [(d, o)])⟩ := by
  show (⟨(m.map mkA).length + 1 ≤ sizeLine, .tup (m.map mkA ++ [.tup [dk d, oN o]])⟩ : Ans) = _
  rw [List.length_map]
  unfold madeA
  rw [List.map_append]
  rfl
/-- what is shown -/
def shownW (r : LRule) (hon : Bool) (s : LRun) (d : Bool) (n : Nat) : Str := if suspB r s d n then (if hon then "suspected" else "refused") else if goneB s d n then "left" else "over"
def shownS (r : LRule) (s : LRun) (d : Bool) (n : Nat) : LRun := if suspB r s d n then s else showS s d n
def stepW (r : LRule) (hon : Bool) (s : LRun) : Ev → Str
  | .make d => if again s d then "twice" else "made"
  | .hand d => if ((s.at_ d).bind (par s.made) == s.kept) then "kept" else "turned away"
  | .fall d => "fallen"
  | .shw d n => shownW r hon s d n
def stepS (r : LRule) (s : LRun) : Ev → LRun
  | .make d => makeS s d
  | .hand d => handS s d
  | .fall d => if r.ahead || !s.hand d then s else fallS s d
  | .shw d n => shownS r s d n
theorem wrong_not (w : Str) (h : wrongS w = true) : w = "left" ∨ w = "twice" ∨ w = "suspected" := by
  unfold wrongS at h
  simpa using h
theorem step_good {r : LRule} {hon : Bool} {s : LRun} (I : Good r hon s) (e : Ev) (can : canB r hon s e = true) :
    (wrongS (stepW r hon s e) = true → stepW r hon s e ∈ wordsS r) ∧ (wrongS (stepW r hon s e) = false → Good r hon (stepS r s e)) := by
  have memL : r.own = false ∨ r.oth = false → ("left" : Str) ∈ wordsS r := fun h => by
    obtain ⟨a, b, c, d⟩ := r
    have h : a = false ∨ b = false := h
    rcases h with rfl | rfl <;> cases c <;> cases d <;> first | (cases a <;> decide +kernel) | (cases b <;> decide +kernel)
  have memS : r.own = true ∧ r.turn = false → ("suspected" : Str) ∈ wordsS r := fun h => by
    obtain ⟨a, b, c, d⟩ := r
    obtain ⟨h1, h2⟩ := h
    have h1 : a = true := h1
    have h2 : d = false := h2
    subst h1 h2
    cases b <;> cases c <;> decide +kernel
  have memT : r.ahead = false → ("twice" : Str) ∈ wordsS r := fun h => by
    obtain ⟨a, b, c, d⟩ := r
    have h : c = false := h
    subst h
    cases a <;> cases b <;> cases d <;> decide +kernel
  cases e with
  | make d =>
    show (wrongS (if again s d = true then ("twice" : Str) else "made") = true → _) ∧ _
    cases ha : again s d with
    | true =>
      refine ⟨fun _ => ?_, fun h => ?_⟩
      · show (if again s d = true then ("twice" : Str) else "made") ∈ _
        rw [if_pos ha]
        exact memT (make_twice I ha)
      · have h : wrongS (if again s d = true then ("twice" : Str) else "made") = false := h
        rw [if_pos ha] at h
        exact absurd h (by decide +kernel)
    | false =>
      refine ⟨fun h => ?_, fun _ => ?_⟩
      · exact absurd h (by decide +kernel)
      · refine make_ok I ha fun hh ht => ?_
        have can : (!(hon && r.turn) || (decide (s.at_ d = s.kept) && (!s.h0 && !s.h1))) = true := can
        rw [hh, ht] at can
        simpa using can
  | hand d =>
    refine ⟨fun h => ?_, fun _ => hand_ok I can⟩
    exfalso
    have h : wrongS (if ((s.at_ d).bind (par s.made) == s.kept) = true then ("kept" : Str) else "turned away") = true := h
    split at h
    · exact absurd h (by decide +kernel)
    · exact absurd h (by decide +kernel)
  | fall d =>
    refine ⟨fun h => absurd (show wrongS "fallen" = true from h) (by decide +kernel), fun _ => ?_⟩
    show Good r hon (if (r.ahead || !s.hand d) = true then s else fallS s d)
    cases h1 : r.ahead with
    | true => exact I
    | false =>
      cases h2 : s.hand d with
      | false => exact I
      | true => exact fall_ok I h1 h2
  | shw d n =>
    have can : (decide (n < s.made.length) && (!hon || (decide (some n = s.kept) && !s.hand d))) = true := can
    rw [Bool.and_eq_true, decide_eq_true_eq] at can
    obtain ⟨hn, can⟩ := can
    have can' : hon = true → some n = s.kept ∧ s.hand d = false := fun hh => by
      rw [hh] at can
      simpa using can
    show (wrongS (shownW r hon s d n) = true → shownW r hon s d n ∈ _) ∧ (wrongS (shownW r hon s d n) = false → Good r hon (shownS r s d n))
    unfold shownW shownS
    cases h1 : suspB r s d n with
    | true =>
      simp only [if_true]
      refine ⟨fun h => ?_, fun _ => I⟩
      cases hh : hon with
      | true =>
        simp only [if_true]
        exact memS (susp_word I hh (can' hh).1 (can' hh).2 h1)
      | false =>
        rw [hh] at h
        exact absurd h (by decide +kernel)
    | false =>
      simp only [Bool.false_eq_true, if_false]
      cases h2 : goneB s d n with
      | true =>
        simp only [if_true]
        exact ⟨fun _ => memL (left_word I hn h1 h2), fun h => absurd h (by decide +kernel)⟩
      | false =>
        simp only [Bool.false_eq_true, if_false]
        exact ⟨fun h => absurd h (by decide +kernel), fun _ => show_ok I hn can' h2⟩
/-- all events of their forms -/
def evsOf (n : Nat) (d : Bool) : List Ev := [.make d, .hand d, .fall d] ++ (List.range n).map (.shw d)
def evsAll (n : Nat) : List Ev := evsOf n false ++ evsOf n true
end L3

set_option Elab.async false
set_option linter.all false
set_option maxRecDepth 100000
set_option maxHeartbeats 1000000
namespace G
open PySem L2 L3 PyProof.Rows
def top (i : Nat) : Stmt := PySem.Challenge.pw_lyinghouse_k78_words_of_wrong_events.main.body.getD i (.Pass ⟨0, 0, 0, 0⟩)
abbrev st_check_rule : Stmt := top 8
abbrev nm_check_rule : List Str := ["rule", "part"]
theorem sc_check_rule : FnScope nm_check_rule ["rule"] (defScope st_check_rule) := ⟨rfl, rfl, rfl, by decide +kernel, rfl, by decide +kernel, by decide +kernel⟩
abbrev st_wrong_words : Stmt := top 9
abbrev nm_wrong_words : List Str := ["rule", "own", "others", "ahead", "turn", "found", "word", "can_be"]
theorem sc_wrong_words : FnScope nm_wrong_words ["rule"] (defScope st_wrong_words) := ⟨rfl, rfl, rfl, by decide +kernel, rfl, by decide +kernel, by decide +kernel⟩
abbrev st__law_pot : Stmt := top 11
abbrev nm__law_pot : List Str := ["script", "place", "cell", "own", "small"]
theorem sc__law_pot : FnScope nm__law_pot ["script", "place"] (defScope st__law_pot) := ⟨rfl, rfl, rfl, by decide +kernel, rfl, by decide +kernel, by decide +kernel⟩
abbrev st__law_take : Stmt := top 12
abbrev nm__law_take : List Str := ["pot", "upto", "digit", "prime", "blend"]
theorem sc__law_take : FnScope nm__law_take ["pot", "upto"] (defScope st__law_take) := ⟨rfl, rfl, rfl, by decide +kernel, rfl, by decide +kernel, by decide +kernel⟩
abbrev st__law_of : Stmt := top 13
abbrev nm__law_of : List Str := ["pot", "some"]
theorem sc__law_of : FnScope nm__law_of ["pot", "some"] (defScope st__law_of) := ⟨rfl, rfl, rfl, by decide +kernel, rfl, by decide +kernel, by decide +kernel⟩
abbrev st__law_cells : Stmt := top 14
abbrev nm__law_cells : List Str := ["script", "most"]
theorem sc__law_cells : FnScope nm__law_cells ["script", "most"] (defScope st__law_cells) := ⟨rfl, rfl, rfl, by decide +kernel, rfl, by decide +kernel, by decide +kernel⟩
abbrev st__law_row_of : Stmt := top 15
abbrev nm__law_row_of : List Str := ["made", "number", "found"]
theorem sc__law_row_of : FnScope nm__law_row_of ["made", "number"] (defScope st__law_row_of) := ⟨rfl, rfl, rfl, by decide +kernel, rfl, by decide +kernel, by decide +kernel⟩
abbrev st__law_counts_of : Stmt := top 16
abbrev nm__law_counts_of : List Str := ["made", "number", "desks", "one"]
theorem sc__law_counts_of : FnScope nm__law_counts_of ["made", "number"] (defScope st__law_counts_of) := ⟨rfl, rfl, rfl, by decide +kernel, rfl, by decide +kernel, by decide +kernel⟩
abbrev st__law_begin : Stmt := top 17
abbrev nm__law_begin : List Str := []
theorem sc__law_begin : FnScope nm__law_begin [] (defScope st__law_begin) := ⟨rfl, rfl, rfl, by decide +kernel, rfl, by decide +kernel, by decide +kernel⟩
abbrev st__law_with : Stmt := top 18
abbrev nm__law_with : List Str := ["pair", "desk", "value"]
theorem sc__law_with : FnScope nm__law_with ["pair", "desk", "value"] (defScope st__law_with) := ⟨rfl, rfl, rfl, by decide +kernel, rfl, by decide +kernel, by decide +kernel⟩
abbrev st__law_can : Stmt := top 19
abbrev nm__law_can : List Str := ["rule", "is_honest", "state", "event", "made", "at", "hand", "kept", "desk"]
theorem sc__law_can : FnScope nm__law_can ["rule", "is_honest", "state", "event"] (defScope st__law_can) := ⟨rfl, rfl, rfl, by decide +kernel, rfl, by decide +kernel, by decide +kernel⟩
abbrev st__law_shown : Stmt := top 20
abbrev nm__law_shown : List Str := ["rule", "is_honest", "state", "desk", "number", "made", "at", "hand", "kept", "here", "there", "other", "elder", "row", "later"]
theorem sc__law_shown : FnScope nm__law_shown ["rule", "is_honest", "state", "desk", "number"] (defScope st__law_shown) := ⟨rfl, rfl, rfl, by decide +kernel, rfl, by decide +kernel, by decide +kernel⟩
abbrev st__law_step : Stmt := top 21
abbrev nm__law_step : List Str := ["rule", "is_honest", "state", "event", "made", "at", "hand", "kept", "desk", "is_kept", "own", "is_again", "one", "later"]
theorem sc__law_step : FnScope nm__law_step ["rule", "is_honest", "state", "event"] (defScope st__law_step) := ⟨rfl, rfl, rfl, by decide +kernel, rfl, by decide +kernel, by decide +kernel⟩
abbrev st__law_events : Stmt := top 22
abbrev nm__law_events : List Str := ["rule", "is_honest", "state", "found", "name", "number", "event"]
theorem sc__law_events : FnScope nm__law_events ["rule", "is_honest", "state"] (defScope st__law_events) := ⟨rfl, rfl, rfl, by decide +kernel, rfl, by decide +kernel, by decide +kernel⟩
abbrev st__law_is_wrong : Stmt := top 23
abbrev nm__law_is_wrong : List Str := ["word"]
theorem sc__law_is_wrong : FnScope nm__law_is_wrong ["word"] (defScope st__law_is_wrong) := ⟨rfl, rfl, rfl, by decide +kernel, rfl, by decide +kernel, by decide +kernel⟩
abbrev st__law_words : Stmt := top 24
abbrev nm__law_words : List Str := ["rule", "own", "others", "ahead", "turn", "some", "word", "can_be"]
theorem sc__law_words : FnScope nm__law_words ["rule"] (defScope st__law_words) := ⟨rfl, rfl, rfl, by decide +kernel, rfl, by decide +kernel, by decide +kernel⟩
abbrev st__law_first_wrong : Stmt := top 25
abbrev nm__law_first_wrong : List Str := ["pot", "rule", "many", "state", "is_honest", "lap", "some", "word"]
theorem sc__law_first_wrong : FnScope nm__law_first_wrong ["pot", "rule", "many"] (defScope st__law_first_wrong) := ⟨rfl, rfl, rfl, by decide +kernel, rfl, by decide +kernel, by decide +kernel⟩
abbrev st__law_right : Stmt := top 26
abbrev nm__law_right : List Str := ["pot", "number", "rule", "part", "lap", "word"]
theorem sc__law_right : FnScope nm__law_right ["pot"] (defScope st__law_right) := ⟨rfl, rfl, rfl, by decide +kernel, rfl, by decide +kernel, by decide +kernel⟩
abbrev st_law : Stmt := top 27
abbrev nm_law : List Str := ["script", "place"]
theorem sc_law : FnScope nm_law ["script"] (defScope st_law) := ⟨rfl, rfl, rfl, by decide +kernel, rfl, by decide +kernel, by decide +kernel⟩
structure Txt (K : PySem.W.Frag) (mg : Str → Option Value) : Prop where
  n_abs : mg "abs" = none
  n_all : mg "all" = none
  n_any : mg "any" = none
  n_bool : mg "bool" = none
  n_int : mg "int" = none
  n_isinstance : mg "isinstance" = none
  n_len : mg "len" = none
  n_list : mg "list" = none
  n_max : mg "max" = none
  n_min : mg "min" = none
  n_range : mg "range" = none
  n_repr : mg "repr" = none
  n_sum : mg "sum" = none
  n_tuple : mg "tuple" = none
  c_LEFT : ∃ t, mg "LEFT" = some (.str "left" t)
  c_TWICE : ∃ t, mg "TWICE" = some (.str "twice" t)
  c_SUSPECTED : ∃ t, mg "SUSPECTED" = some (.str "suspected" t)
  c_CHECKS : ∃ t, mg "CHECKS" = some (.int 4 t)
  d_check_rule : Def K mg "check_rule" st_check_rule ["rule"]
  d_wrong_words : Def K mg "wrong_words" st_wrong_words ["rule"]
  d__law_pot : Def K mg "_law_pot" st__law_pot ["script", "place"]
  d__law_take : Def K mg "_law_take" st__law_take ["pot", "upto"]
  d__law_of : Def K mg "_law_of" st__law_of ["pot", "some"]
  d__law_cells : Def K mg "_law_cells" st__law_cells ["script", "most"]
  d__law_row_of : Def K mg "_law_row_of" st__law_row_of ["made", "number"]
  d__law_counts_of : Def K mg "_law_counts_of" st__law_counts_of ["made", "number"]
  d__law_begin : Def K mg "_law_begin" st__law_begin []
  d__law_with : Def K mg "_law_with" st__law_with ["pair", "desk", "value"]
  d__law_can : Def K mg "_law_can" st__law_can ["rule", "is_honest", "state", "event"]
  d__law_shown : Def K mg "_law_shown" st__law_shown ["rule", "is_honest", "state", "desk", "number"]
  d__law_step : Def K mg "_law_step" st__law_step ["rule", "is_honest", "state", "event"]
  d__law_events : Def K mg "_law_events" st__law_events ["rule", "is_honest", "state"]
  d__law_is_wrong : Def K mg "_law_is_wrong" st__law_is_wrong ["word"]
  d__law_words : Def K mg "_law_words" st__law_words ["rule"]
  d__law_first_wrong : Def K mg "_law_first_wrong" st__law_first_wrong ["pot", "rule", "many"]
  d__law_right : Def K mg "_law_right" st__law_right ["pot"]
  d_law : Def K mg "law" st_law ["script"]
open Les
local macro_rules | `(tactic| walk_at "rd") => `(tactic| simp only [↓ite_bc, bc_t, bc_f, aFor_rng, lstA_lst, lstA_rol, aLcS_rng, eqA_ii, eqA_ss, neA_ii, neA_ss, updS_same, updS_updS, startA, List.map_cons, List.map_nil, List.cons_append, List.nil_append, List.length_cons, List.length_nil, Nat.zero_add, Nat.add_zero, Nat.reduceAdd, Nat.reduceSub, List.replicate_succ, List.replicate_zero, List.replicate,
  aVar_z, aVar_s, aC, aNil, aCons, aTup, aLstV, aLst, aOp, aUn, aTru, aTst, aCmp, aChn, aChnT, aAnd, aOr, aNot, aIf, aAndV, aOrV, aNotV, aCB, aCall, aNext, aSeq, aBrk, aCnt, aRet, aRetN, aIfS, aNev,
  agName, agNil, agCons, agTup, aAsg, aPar, aDrop, aCallK, aCallKn, aM, aM0, aAddS, aYes, one1, one2, wipeA, aRevT, aRevL, agSub_def, aSl, aPart, aNoPart, cutAns_rol, cutAns_lst, cutAns_tup, cutAns_str, aLstRg, aRg1, ex_some, tupleA_lst, tupleA_tup, wstA_lst,
  List.set_cons_zero, List.set_cons_succ, List.set, ex_bl, ex_int, ex_str, ex_tup, ex_eq, ex_cons, ex_pair, ex_one1, ex_one_int, and_tt, truA_bl, truOk_bl, truA_int, truOk_int, truA_lst, truOk_lst, truA_tup, truOk_tup, truA_refU, truOk_refU, Bool.not_true, Bool.not_false,
  addA_ii, addA_ss, addA_tt, addA_ll, intA_ii, int2A_ii, subA_ii, mulA_ii, modA_ii, fdivA_ii, powA_ii, negA_i, ltA_ii, leA_ii, gtA_ii, geA_ii, ltA_ss, leA_ss, gtA_ss, geA_ss, isA, isntA, nonA, isiA_non, isiA_bl, isiA_int, isiA_str, isiA_tup, isiA_lst, isiA_rol, lenA_str, lenA_tup, lenA_lst, lenA_rol, absA_i, toIntA_i, toIntA_b, isIntA, isiB, String.reduceBEq, List.contains_cons, List.contains_nil, Bool.or_true, Bool.true_or, Bool.or_false, Bool.false_or, Bool.and_true, Bool.true_and, Bool.and_false, Bool.false_and, Bool.not_eq_true, if_true, if_false, decide_true, decide_false, Bool.false_eq_true, eq_self, reduceCtorEq, true_and, false_and, and_false, badA, exists_false, aFld, aPut, agFld, aPutAug, aMeth, aMake, mulX_ii, mulX_si, mulX_li, strA_i, strA_s, intXA_i, intXA_b, isBA_bb, isntBA_bb, aPar3, ex_tri, inA_tup, inA_lst, ninA_tup, ninA_lst, shrA_ii, andA_ii, aFor_tup, aFor_lst, aFor_enum, aLcF_lst, aLcF_tup, aLcF_rng, aLcP_lst, aLcP_tup, aLcP_enum])

def inB (d : AV) (a b : Int) : Bool := match d with
  | .int i => decide (a ≤ i) && decide (i ≤ b)
  | _ => false
def lenOk (d : AV) : Prop := match d with
  | .str z => z.length ≤ sizeLine
  | _ => True
theorem sg_lt {c k : Nat} : decide ([c] < [k]) = decide (c < k) := by
  refine decide_eq_decide.mpr ⟨fun h => ?_, fun h => List.Lex.rel h⟩
  cases h with
  | rel h => exact h
  | cons h => cases h
theorem sg_le1 {c : Nat} : (!decide ([c] < (" " : Str).cps.toList)) = decide (32 ≤ c) := by
  have e : (" " : Str).cps.toList = [32] := by decide +kernel
  rw [e]
  show (!decide ([c] < [32])) = _
  rw [sg_lt]
  by_cases h : c < 32
  · rw [decide_eq_true h, decide_eq_false (by omega)]; rfl
  · rw [decide_eq_false h, decide_eq_true (by omega)]; rfl
theorem sg_le2 {c : Nat} : (!decide (("~" : Str).cps.toList < [c])) = decide (c ≤ 126) := by
  have e : ("~" : Str).cps.toList = [126] := by decide +kernel
  rw [e]
  show (!decide ([126] < [c])) = _
  rw [sg_lt]
  by_cases h : 126 < c
  · rw [decide_eq_true h, decide_eq_false (by omega)]; rfl
  · rw [decide_eq_false h, decide_eq_true (by omega)]; rfl
theorem sg_eq {c : Nat} : decide ((⟨#[c]⟩ : Str) = ("\n" : Str)) = decide (c = 10) := by
  have e : ("\n" : Str) = ⟨#[10]⟩ := by decide +kernel
  rw [e]
  refine decide_eq_decide.mpr ⟨fun h => ?_, fun h => by rw [h]⟩
  have h : #[c] = #[10] := congrArg (fun z : Str => z.cps) h
  have h : [c] = [10] := congrArg (fun z : Array Nat => z.toList) h
  exact (List.cons.inj h).1
def single (d : AV) : Bool := match d with
  | .non => true
  | .int i => inB (.int i) (-1000000000000000000) 1000000000000000000
  | .str z => decide (z.length ≤ 100000) && z.cps.toList.all Vm.chB
  | _ => false
def pr (p : AV × Nat) : AV := .tup [p.1, .int p.2]
def wsum : List (AV × Nat) → Nat
  | [] => 0
  | p :: ps => Vm.cnt p.1 + wsum ps
theorem wsum_app : ∀ a b : List (AV × Nat), wsum (a ++ b) = wsum a + wsum b
  | [], b => (Nat.zero_add _).symm
  | p :: a, b => by rw [List.cons_append, wsum, wsum, wsum_app a b]; omega
theorem wsum_map (k : Nat) : ∀ xs : List AV, wsum (xs.map fun x => (x, k)) = Vm.cnts xs
  | [] => rfl
  | x :: xs => by rw [List.map_cons, wsum, wsum_map k xs]; rfl
theorem wsum_len : ∀ a : List (AV × Nat), a.length ≤ wsum a
  | [] => Nat.le_refl _
  | p :: a => by have := Vm.cnt_pos p.1; have := wsum_len a; rw [List.length_cons, wsum]; omega
theorem eq_nil_or_last {α : Type} (l : List α) : l = [] ∨ ∃ i x, l = i ++ [x] := by
  rcases h : l.reverse with _ | ⟨x, i⟩
  · exact .inl (List.reverse_eq_nil_iff.mp h)
  · exact .inr ⟨i.reverse, x, by rw [← List.reverse_reverse l, h, List.reverse_cons]⟩
theorem tyL {S : Store} {l : Addr} {xs : List AV} (h : S l = some (.lst xs)) : tyA "list" S (.ref l) := by
  show match S l with | some (.lst _) => "list" = "list" | some (.dK _) => "list" = "dict" | _ => False
  rw [h]
theorem seal_ne {xs : List AV} (h : xs.length ≠ 3) : Vm.sealB (.tup xs) = false := by
  rcases xs with _ | ⟨x, _ | ⟨y, _ | ⟨z, _ | ⟨w, xs⟩⟩⟩⟩ <;> first | rfl | exact absurd rfl h
theorem len3 {xs : List AV} (h : xs.length = 3) : ∃ x y z, xs = [x, y, z] := by
  rcases xs with _ | ⟨x, _ | ⟨y, _ | ⟨z, _ | ⟨w, xs⟩⟩⟩⟩
  · cases h
  · cases h
  · cases h
  · exact ⟨x, y, z, rfl⟩
  · simp only [List.length_cons] at h; omega
theorem lay_tup {x y z : AV} (h : Vm.lay (.tup [x, y, z]) = true) : Vm.lay x = true := by
  unfold Vm.lay at h ⊢
  rw [Bool.and_eq_true_iff, decide_eq_true_eq] at h ⊢
  have h1 : (PyData.canLay0 (toD x) && PyData.canLayAll0 (toDs [y, z])) = true := h.1
  have h2 : max (PyData.depth (toD x)) (PyData.depthAll (toDs [y, z])) + 1 ≤ 60 := h.2
  exact ⟨(Bool.and_eq_true_iff.mp h1).1, by omega⟩
theorem tame3 {x y z : AV} (h : Vm.tame (.tup [x, y, z]) = true) : Vm.tame x = true ∧ Vm.tame y = true := by
  have h : (Vm.tame x && (Vm.tame y && (Vm.tame z && true))) = true := h
  simp only [Bool.and_eq_true] at h
  exact ⟨h.1, h.2.1⟩
theorem cnt3 (x y z : AV) : Vm.cnt x + Vm.cnt y ≤ Vm.cnt (.tup [x, y, z]) := by
  show _ ≤ 1 + (Vm.cnt x + (Vm.cnt y + (Vm.cnt z + 0)))
  omega
theorem len_ok {d : AV} {n : Nat} (h : Vm.cnt d ≤ n) (hn : n ≤ 16777216) : lenOk d := by
  cases d <;> first | trivial | skip
  rename_i z
  have : Vm.cnt (.str z) = 1 + z.length := rfl
  exact le_sl (by omega)
theorem ix30 {x y z : AV} {S : Store} : ixA (.tup [x, y, z]) (.int 0) S = ⟨True, x⟩ := ans_tt rfl rfl
theorem ix31 {x y z : AV} {S : Store} : ixA (.tup [x, y, z]) (.int 1) S = ⟨True, y⟩ := ans_tt rfl rfl
theorem eq_w {d : AV} {S : Store} {w : Str} (h : Vm.tame d = true) (hs : Vm.lay d = true) (hw : SeqAt.shaped (.str w) = true := by decide +kernel) : eqA d (.str w) S = ⟨True, .bl (Vm.wordB w d)⟩ := by
  obtain ⟨a, b⟩ := eqA_s (S := S) (Vm.flat_tame d h) (Vm.lay_shaped hs) hw
  have : eqA d (.str w) S = ⟨(eqA d (.str w) S).ok, (eqA d (.str w) S).v⟩ := rfl
  rw [this, b, eq_true a]
  cases d <;> rfl
theorem cnts_app (a b : List AV) : Vm.cnts (a ++ b) = Vm.cnts a + Vm.cnts b := Vm.cnts_app a b
theorem cnts_rev : ∀ a : List AV, Vm.cnts a.reverse = Vm.cnts a
  | [] => rfl
  | p :: a => by rw [List.reverse_cons, cnts_app, cnts_rev a, Vm.cnts, Vm.cnts, Vm.cnts]; omega
theorem lay_mem {xs : List AV} (h : Vm.lay (.tup xs) = true) : ∀ x ∈ xs, Vm.lay x = true := by
  unfold Vm.lay at h ⊢
  rw [Bool.and_eq_true_iff, decide_eq_true_eq] at h
  have h1 : PyData.canLayAll0 (toDs xs) = true := h.1
  have h2 : PyData.depthAll (toDs xs) + 1 ≤ 60 := h.2
  clear h
  induction xs with
  | nil => intro x hx; cases hx
  | cons y ys ih =>
    intro x hx
    have h1 : (PyData.canLay0 (toD y) && PyData.canLayAll0 (toDs ys)) = true := h1
    have h2 : max (PyData.depth (toD y)) (PyData.depthAll (toDs ys)) + 1 ≤ 60 := h2
    rw [Bool.and_eq_true_iff] at h1
    rcases List.mem_cons.mp hx with rfl | hx
    · rw [Bool.and_eq_true_iff, decide_eq_true_eq]
      exact ⟨h1.1, by omega⟩
    · exact ih h1.2 (by omega) x hx
theorem tame_mem {xs : List AV} (h : Vm.tame (.tup xs) = true) : ∀ x ∈ xs, Vm.tame x = true := by
  have h : Vm.tames xs = true := h
  rw [Vm.tames_all, List.all_eq_true] at h
  exact h
theorem cnt_tup (xs : List AV) : Vm.cnt (.tup xs) = 1 + Vm.cnts xs := rfl
theorem sb_one (w : Bool) (xs : List AV) : Vm.sb w (.tup xs) = (bif Vm.sealB (.tup xs) then [.tup xs] else []) ++ (bif (w || !Vm.sealB (.tup xs)) then Vm.sbs w xs else []) := by
  rw [Vm.sb]
  cases Vm.sealB (.tup xs) <;> cases w <;> rfl
theorem sb_non {w : Bool} {d : AV} (h : isTup d = false) : Vm.sb w d = [] := by
  cases d <;> first | rfl | cases h
theorem isTup_ex {d : AV} (h : isTup d = true) : ∃ xs, d = .tup xs := by
  cases d <;> first | exact ⟨_, rfl⟩ | cases h
/-- what the walk over a stack of values keeps -/
structure StkOk (d : AV) (w : Bool) (found ls : List AV) (m : Nat) : Prop where
  sum : Vm.cnts ls = m
  le : m ≤ 10000000
  tame : ∀ x ∈ ls, Vm.tame x = true
  lay : ∀ x ∈ ls, Vm.lay x = true
  eq : found ++ Vm.sbs w ls.reverse = Vm.sb w d
  dc : Vm.cnt d ≤ 10000000
theorem StkOk.flen {d : AV} {w : Bool} {found ls : List AV} {m : Nat} (h : StkOk d w found ls m) : found.length ≤ 10000000 := by
  have h1 := Vm.sb_len w d
  have h2 := congrArg List.length h.eq
  have := h.dc
  rw [List.length_append] at h2
  omega
theorem StkOk.start {d : AV} {w : Bool} (h1 : Vm.tame d = true) (h2 : Vm.lay d = true) (h3 : Vm.cnt d ≤ 10000000) : StkOk d w [] [d] (Vm.cnt d) :=
  ⟨Nat.add_zero _, h3, fun x hx => by cases List.mem_singleton.mp hx; exact h1, fun x hx => by cases List.mem_singleton.mp hx; exact h2, by show Vm.sb w d ++ [] = _; rw [List.append_nil], h3⟩
theorem StkOk.last {d : AV} {w : Bool} {found init : List AV} {one : AV} {m : Nat} (h : StkOk d w found (init ++ [one]) m) : Vm.tame one = true ∧ Vm.lay one = true ∧ Vm.cnt one ≤ 10000000 := by
  refine ⟨h.tame one (by simp), h.lay one (by simp), ?_⟩
  have h1 := h.sum
  have h2 := h.le
  rw [cnts_app] at h1
  have e : Vm.cnts [one] = Vm.cnt one := Nat.add_zero _
  omega
theorem StkOk.pop {d : AV} {w : Bool} {found init : List AV} {one : AV} {m : Nat} (h : StkOk d w found (init ++ [one]) m) (e : Vm.sb w one = []) : ∃ m', m' < m ∧ StkOk d w found init m' := by
  have h1 := h.sum
  have h2 := h.le
  have h3 := h.eq
  have h4 := Vm.cnt_pos one
  rw [cnts_app] at h1
  have e1 : Vm.cnts [one] = Vm.cnt one := Nat.add_zero _
  rw [List.reverse_append, List.reverse_cons, List.reverse_nil, List.nil_append, List.cons_append, List.nil_append, Vm.sbs, e, List.nil_append] at h3
  exact ⟨_, by omega, rfl, by omega, fun x hx => h.tame x (List.mem_append_left _ hx), fun x hx => h.lay x (List.mem_append_left _ hx), h3, h.dc⟩
theorem StkOk.go {d : AV} {w : Bool} {found init xs : List AV} {m : Nat} (h : StkOk d w found (init ++ [.tup xs]) m) :
    ∃ m', m' < m ∧ StkOk d w (found ++ bif Vm.sealB (.tup xs) then [.tup xs] else []) (init ++ bif (w || !Vm.sealB (.tup xs)) then xs.reverse else []) m' := by
  have h1 := h.sum
  have h2 := h.le
  have h3 := h.eq
  rw [cnts_app] at h1
  have e1 : Vm.cnts [.tup xs] = Vm.cnt (.tup xs) := Nat.add_zero _
  rw [cnt_tup] at e1
  rw [List.reverse_append, List.reverse_cons, List.reverse_nil, List.nil_append, List.cons_append, List.nil_append, Vm.sbs, sb_one] at h3
  have tl := tame_mem (h.tame (.tup xs) (by simp))
  have ll := lay_mem (h.lay (.tup xs) (by simp))
  cases hb : (w || !Vm.sealB (.tup xs)) <;> rw [hb] at h3
  · refine ⟨Vm.cnts init, by omega, by simp only [cond_false, List.append_nil], by omega, fun x hx => ?_, fun x hx => ?_, ?_, h.dc⟩
    · simp only [cond_false, List.append_nil] at hx; exact h.tame x (List.mem_append_left _ hx)
    · simp only [cond_false, List.append_nil] at hx; exact h.lay x (List.mem_append_left _ hx)
    · rw [← h3]; simp only [cond_false, List.append_nil, List.append_assoc]
  · refine ⟨Vm.cnts init + Vm.cnts xs, by omega, by simp only [cond_true]; rw [cnts_app, cnts_rev], by omega, fun x hx => ?_, fun x hx => ?_, ?_, h.dc⟩
    · simp only [cond_true] at hx
      rcases List.mem_append.mp hx with hx | hx
      · exact h.tame x (List.mem_append_left _ hx)
      · exact tl x (List.mem_reverse.mp hx)
    · simp only [cond_true] at hx
      rcases List.mem_append.mp hx with hx | hx
      · exact h.lay x (List.mem_append_left _ hx)
      · exact ll x (List.mem_reverse.mp hx)
    · rw [← h3]; simp only [cond_true, List.reverse_append, List.reverse_reverse, Vm.sbs_app, List.append_assoc]
theorem two_same {S : Store} {l l1 : Addr} {a b : AO} (h : l ≠ l1) : updS (updS S l a) l1 b l = some a := by rw [updS_ne h, updS_same]
theorem two_upd {S : Store} {l l1 : Addr} {a b c : AO} (h : l ≠ l1) : updS (updS (updS S l a) l1 b) l c = updS (updS S l c) l1 b := by
  rw [updS_comm h, updS_updS, ← updS_comm h]
theorem neA_of {x y : AV} {S : Store} {b : Bool} (h : eqA x y S = ⟨True, .bl b⟩) : neA x y S = ⟨True, .bl (!b)⟩ := by
  have h1 : (eqA x y S).ok := by rw [h]; trivial
  have h2 : (eqA x y S).v = .bl b := by rw [h]
  have key : (neA x y S).ok ∧ (neA x y S).v = .bl (!b) := by
    cases x <;> cases y
    all_goals first
      | exact ⟨h1, by have h2 := AV.bl.inj h2; exact congrArg AV.bl (congrArg (fun c => !c) h2)⟩
      | exact ⟨trivial, by have h2 := AV.bl.inj h2; exact congrArg AV.bl (congrArg (fun c => !c) h2)⟩
  have : neA x y S = ⟨(neA x y S).ok, (neA x y S).v⟩ := rfl
  rw [this, key.2, eq_true key.1]
theorem ne_w {d : AV} {S : Store} {w : Str} (h : Vm.tame d = true) (hs : Vm.lay d = true) (hw : SeqAt.shaped (.str w) = true := by decide +kernel) : neA d (.str w) S = ⟨True, .bl (!Vm.wordB w d)⟩ := neA_of (eq_w h hs hw)
theorem flatAs_tame {xs : List AV} (h : ∀ x ∈ xs, Vm.tame x = true) : flatAs xs = true := by
  rw [Vm.flatAs_all, List.all_eq_true]
  exact fun x hx => Vm.flat_tame x (h x hx)
theorem lays_all : ∀ {xs : List AV}, (∀ x ∈ xs, Vm.lay x = true) → PyData.canLayAll0 (toDs xs) = true ∧ PyData.depthAll (toDs xs) ≤ 60
  | [], _ => ⟨rfl, Nat.zero_le _⟩
  | x :: xs, h => by
    have a := h x (List.mem_cons_self ..)
    unfold Vm.lay at a
    rw [Bool.and_eq_true_iff, decide_eq_true_eq] at a
    obtain ⟨b, c⟩ := lays_all fun y hy => h y (List.mem_cons_of_mem _ hy)
    refine ⟨?_, ?_⟩
    · show (PyData.canLay0 (toD x) && PyData.canLayAll0 (toDs xs)) = true
      rw [a.1, b]; rfl
    · show max (PyData.depth (toD x)) (PyData.depthAll (toDs xs)) ≤ 60
      omega
theorem ne_nil {S : Store} {l : Addr} {xs : List AV} (h : S l = some (.lst xs)) (ht : ∀ x ∈ xs, Vm.tame x = true) (hy : ∀ x ∈ xs, Vm.lay x = true) : neA (.ref l) (.lst []) S = ⟨True, .bl (!xs.isEmpty)⟩ := by
  have e : datA S (.ref l) = .list (toDs xs) := by unfold datA; rw [derefA_ref h]; rfl
  have e2 : datA S (.lst []) = .list [] := rfl
  obtain ⟨a, b⟩ := lays_all hy
  have ok : okD S (.ref l) := by
    refine ⟨by rw [derefA_ref h]; exact flatAs_tame ht, ?_⟩
    rw [e]
    unfold SeqAt.shaped
    rw [Bool.and_eq_true_iff, decide_eq_true_eq]
    refine ⟨a, ?_⟩
    show PyData.depthAll (toDs xs) + 1 ≤ 64
    omega
  have ok2 : okD S (.lst []) := ⟨rfl, by rw [e2]; decide +kernel⟩
  show (⟨okD S (.ref l) ∧ okD S (.lst []), .bl (!PyData.eqv (datA S (.ref l)) (datA S (.lst [])))⟩ : Ans) = _
  refine ans_tt ⟨ok, ok2⟩ ?_
  rw [e, e2]
  cases xs with
  | nil => rw [toDs]; unfold PyData.eqv; rfl
  | cons x xs => rw [toDs]; unfold PyData.eqv; rfl
theorem rt_two {S : Store} {l l1 : Addr} {a b : List AV} {Q : AK} (ne : l ≠ l1) (hl : S l = none) (hn1 : S l1 = none) (q : Q (.lst a) S) : RtW Q (.ref l) (updS (updS S l (.lst a)) l1 (.lst b)) :=
  rt_frz (two_same ne) (.new (.new .refl hl (by rw [hl]; simp) (by simp)) hn1 (by rw [updS_ne (Ne.symm ne), hn1]; simp) (by simp)) hl q
theorem rt_two' {S : Store} {l l1 : Addr} {a b : List AV} {d : AV} {Q : AK} (ne : l ≠ l1) (hl : S l = none) (hn1 : S l1 = none) (q : Q d S) : RtW Q d (updS (updS S l (.lst a)) l1 (.lst b)) :=
  rt_sub (.new (.new .refl hl (by rw [hl]; simp) (by simp)) hn1 (by rw [updS_ne (Ne.symm ne), hn1]; simp) (by simp)) q
def piA (p : AV × Bool) : AV := match p.2 with
  | true => .tup [.str ")", .bl true]
  | false => .tup [p.1, .bl false]
def piL (p : AV × Bool) : AV := match p.2 with
  | true => .lst [.str ")"]
  | false => p.1
def goodA (y : AV) : Prop := Vm.isVal y 30 = true ∧ Vm.cnt y ≤ 400000
theorem cnts_leM {m : Nat} : ∀ xs : List AV, (∀ s ∈ xs, Vm.cnt s ≤ m) → Vm.cnts xs ≤ xs.length * m
  | [], _ => Nat.zero_le _
  | x :: xs, h => by
    have a := h x (List.mem_cons_self ..)
    have b := cnts_leM xs fun s hs => h s (List.mem_cons_of_mem _ hs)
    rw [Vm.cnts, List.length_cons, Nat.succ_mul]
    omega

def evAt (n : Nat) : Nat → List Ev
  | 0 => []
  | 1 => evsOf n false
  | _ => evsAll n
theorem words_val (r : LRule) : Vm.isVal (wordsA r) 30 = true ∧ Vm.cnt (wordsA r) ≤ 700000 := by
  obtain ⟨a, b, c, d⟩ := r
  cases a <;> cases b <;> cases c <;> cases d <;> exact ⟨by decide +kernel, by decide +kernel⟩
def PreM (s : LRun) : Prop := WF s.made ∧ (∀ d, Lt s.made (s.at_ d)) ∧ Lt s.made s.kept ∧ s.made.length ≤ 1000 ∧ ∀ d, s.hand d = true → ∃ n, s.at_ d = some n
theorem lc_words {w1 w2 w3 : Str} {b1 b2 b3 : Bool} {o0 o1 o2 o3 o4 o5 : Option AV} {Q : AK} {S : Store} (q : Q (.lst ((([(w1, b1), (w2, b2), (w3, b3)] : List (Str × Bool)).filter (·.2)).map fun x => .str x.1)) S) :
    LcGoP (aTru (aVar 7)) (aVar 6) 6 7 [6, 7] [o0, o1, o2, o3, o4, o5, none, none] Q (fun _ => True) [.tup [.str w1, .bl b1], .tup [.str w2, .bl b2], .tup [.str w3, .bl b3]] S := by
  refine lcP_pure (xs := [(w1, b1), (w2, b2), (w3, b3)]) (fun x => .str x.1) (fun x => .bl x.2) (·.2) (fun x => .str x.1) (le_sl (n := 3) (by decide)) (fun _ _ => trivial) (fun x _ Sx Qb h => ?_) (fun x _ _ Sx Qe h => ?_) q
  · exact ⟨_, rfl, trivial, h⟩
  · exact ⟨_, rfl, h⟩
section
variable {P : Program} {w : World} {K : PySem.W.Frag} {mg : Str → Option Value} {base : Heap}
def sp_check_rule : ASp := fun ds S Q => ∃ r, ds = [ruleA r] ∧ Q .non S
set_option maxHeartbeats 4000000 in
theorem fn_check_rule (T : Txt K mg)  : FnX P w K mg base 1 "check_rule" st_check_rule ["rule"] sp_check_rule := by
  refine FnX.of T.d_check_rule fun f fd F => F.ok4 sc_check_rule (fun ds S Q h => by unfold sp_check_rule at h; first | (obtain ⟨_, rfl, _⟩ := h; rfl) | (obtain ⟨_, _, rfl, _⟩ := h; rfl) | (obtain ⟨_, _, _, rfl, _⟩ := h; rfl) | (obtain ⟨_, _, _, _, rfl, _⟩ := h; rfl) | (obtain ⟨_, _, _, _, _, rfl, _⟩ := h; rfl) | (obtain ⟨_, _, _, _, _, _, rfl, _⟩ := h; rfl) | (obtain ⟨_, _, _, _, _, _, _, rfl, _⟩ := h; rfl)) fun cdv A gd out s H E hr => ?_
  refine ⟨_, (s_one (s_if (w_or (t_not (t_tru (e_cb c_isi T.n_isinstance (by decide +kernel) (a_cons (e_var 0) (a_cons (e_bty (n := "tuple") T.n_tuple (by decide +kernel)) a_nil))))) (w_or (t_cmp (o_ne hr.units) (e_cb c_len T.n_len (by decide +kernel) (a_cons (e_var 0) a_nil)) (e_gI T.c_CHECKS)) (w_or1 (t_not (t_tru (e_cb (c_all rfl) T.n_all (by decide +kernel) (a_cons (e_lc 1 [("part", 1)] rfl sc_check_rule.nd (i_tup (e_var 0)) (blkOk_by (N := nm_check_rule) (sc := defScope st_check_rule) (by decide +kernel)) (fun _ _ _ _ _ => pg_name sc_check_rule.nd rfl (Or.inl rfl)) (fun _ _ _ _ _ => ts_nil) (fun _ _ _ _ _ => (e_cb c_isi T.n_isinstance (by decide +kernel) (a_cons (e_var 1) (a_cons (e_bty (n := "bool") T.n_bool (by decide +kernel)) a_nil))))) a_nil))))))).pt (s_one s_nev) s_nil)), ?_⟩
  rintro _ S Q ⟨⟨r1, r2, r3, r4⟩, rfl, q⟩
  simp only [↓ite_bc, bc_t, bc_f, aFor_rng, lstA_lst, lstA_rol, aLcS_rng, eqA_ii, eqA_ss, neA_ii, neA_ss, updS_same, updS_updS, startA, List.map_cons, List.map_nil, List.cons_append, List.nil_append, List.length_cons, List.length_nil, Nat.zero_add, Nat.add_zero, Nat.reduceAdd, Nat.reduceSub, List.replicate_succ, List.replicate_zero, List.replicate,  aVar_z, aVar_s, aC, aNil, aCons, aTup, aLstV, aLst, aOp, aUn, aTru, aTst, aCmp, aChn, aChnT, aAnd, aOr, aNot, aIf, aAndV, aOrV, aNotV, aCB, aCall, aNext, aSeq, aBrk, aCnt, aRet, aRetN, aIfS, aNev,  agName, agNil, agCons, agTup, aAsg, aPar, aDrop, aCallK, aCallKn, aM, aM0, aAddS, aYes, one1, one2, wipeA, aRevT, aRevL, agSub_def, aSl, aPart, aNoPart, cutAns_rol, cutAns_lst, cutAns_tup, cutAns_str, aLstRg, aRg1, ex_some, tupleA_lst, tupleA_tup, wstA_lst,  List.set_cons_zero, List.set_cons_succ, List.set, ex_bl, ex_int, ex_str, ex_tup, ex_eq, ex_cons, ex_pair, ex_one1, ex_one_int, and_tt, truA_bl, truOk_bl, truA_int, truOk_int, truA_lst, truOk_lst, truA_tup, truOk_tup, truA_refU, truOk_refU, Bool.not_true, Bool.not_false,  addA_ii, addA_ss, addA_tt, addA_ll, intA_ii, int2A_ii, subA_ii, mulA_ii, modA_ii, fdivA_ii, powA_ii, negA_i, ltA_ii, leA_ii, gtA_ii, geA_ii, ltA_ss, leA_ss, gtA_ss, geA_ss, isA, isntA, nonA, isiA_non, isiA_bl, isiA_int, isiA_str, isiA_tup, isiA_lst, isiA_rol, lenA_str, lenA_tup, lenA_lst, lenA_rol, absA_i, toIntA_i, toIntA_b, isIntA, isiB, String.reduceBEq, List.contains_cons, List.contains_nil, Bool.or_true, Bool.true_or, Bool.or_false, Bool.false_or, Bool.and_true, Bool.true_and, Bool.and_false, Bool.false_and, Bool.not_eq_true, if_true, if_false, decide_true, decide_false, Bool.false_eq_true, eq_self, reduceCtorEq, true_and, false_and, and_false, badA, exists_false, aFld, aPut, agFld, aPutAug, aMeth, aMake, mulX_ii, mulX_si, mulX_li, strA_i, strA_s, intXA_i, intXA_b, isBA_bb, isntBA_bb, aPar3, ex_tri, inA_tup, inA_lst, ninA_tup, ninA_lst, shrA_ii, andA_ii, aFor_tup, aFor_lst, aFor_enum, aLcF_lst, aLcF_tup, aLcF_rng, aLcP_lst, aLcP_tup, aLcP_enum, Int.cast_ofNat_Int, Int.reduceEq, Int.reduceLT, Int.reduceLE, Int.reduceNeg, Int.reduceAdd, Int.reduceSub, ruleA]
  refine lcF_all (fun _ => .bl true) (le_sl (n := 4) (by decide)) (fun _ _ => trivial) (fun x hx Sx Qe h => ?_) ?_
  · obtain ⟨b, rfl⟩ : ∃ b, x = .bl b := by
      simp only [List.mem_cons, List.not_mem_nil, or_false] at hx
      rcases hx with rfl | rfl | rfl | rfl <;> exact ⟨_, rfl⟩
    simp only [↓ite_bc, bc_t, bc_f, aFor_rng, lstA_lst, lstA_rol, aLcS_rng, eqA_ii, eqA_ss, neA_ii, neA_ss, updS_same, updS_updS, startA, List.map_cons, List.map_nil, List.cons_append, List.nil_append, List.length_cons, List.length_nil, Nat.zero_add, Nat.add_zero, Nat.reduceAdd, Nat.reduceSub, List.replicate_succ, List.replicate_zero, List.replicate,  aVar_z, aVar_s, aC, aNil, aCons, aTup, aLstV, aLst, aOp, aUn, aTru, aTst, aCmp, aChn, aChnT, aAnd, aOr, aNot, aIf, aAndV, aOrV, aNotV, aCB, aCall, aNext, aSeq, aBrk, aCnt, aRet, aRetN, aIfS, aNev,  agName, agNil, agCons, agTup, aAsg, aPar, aDrop, aCallK, aCallKn, aM, aM0, aAddS, aYes, one1, one2, wipeA, aRevT, aRevL, agSub_def, aSl, aPart, aNoPart, cutAns_rol, cutAns_lst, cutAns_tup, cutAns_str, aLstRg, aRg1, ex_some, tupleA_lst, tupleA_tup, wstA_lst,  List.set_cons_zero, List.set_cons_succ, List.set, ex_bl, ex_int, ex_str, ex_tup, ex_eq, ex_cons, ex_pair, ex_one1, ex_one_int, and_tt, truA_bl, truOk_bl, truA_int, truOk_int, truA_lst, truOk_lst, truA_tup, truOk_tup, truA_refU, truOk_refU, Bool.not_true, Bool.not_false,  addA_ii, addA_ss, addA_tt, addA_ll, intA_ii, int2A_ii, subA_ii, mulA_ii, modA_ii, fdivA_ii, powA_ii, negA_i, ltA_ii, leA_ii, gtA_ii, geA_ii, ltA_ss, leA_ss, gtA_ss, geA_ss, isA, isntA, nonA, isiA_non, isiA_bl, isiA_int, isiA_str, isiA_tup, isiA_lst, isiA_rol, lenA_str, lenA_tup, lenA_lst, lenA_rol, absA_i, toIntA_i, toIntA_b, isIntA, isiB, String.reduceBEq, List.contains_cons, List.contains_nil, Bool.or_true, Bool.true_or, Bool.or_false, Bool.false_or, Bool.and_true, Bool.true_and, Bool.and_false, Bool.false_and, Bool.not_eq_true, if_true, if_false, decide_true, decide_false, Bool.false_eq_true, eq_self, reduceCtorEq, true_and, false_and, and_false, badA, exists_false, aFld, aPut, agFld, aPutAug, aMeth, aMake, mulX_ii, mulX_si, mulX_li, strA_i, strA_s, intXA_i, intXA_b, isBA_bb, isntBA_bb, aPar3, ex_tri, inA_tup, inA_lst, ninA_tup, ninA_lst, shrA_ii, andA_ii, aFor_tup, aFor_lst, aFor_enum, aLcF_lst, aLcF_tup, aLcF_rng, aLcP_lst, aLcP_tup, aLcP_enum, Int.cast_ofNat_Int, Int.reduceEq, Int.reduceLT, Int.reduceLE, Int.reduceNeg, Int.reduceAdd, Int.reduceSub]
    exact h
  · simp only [↓ite_bc, bc_t, bc_f, aFor_rng, lstA_lst, lstA_rol, aLcS_rng, eqA_ii, eqA_ss, neA_ii, neA_ss, updS_same, updS_updS, startA, List.map_cons, List.map_nil, List.cons_append, List.nil_append, List.length_cons, List.length_nil, Nat.zero_add, Nat.add_zero, Nat.reduceAdd, Nat.reduceSub, List.replicate_succ, List.replicate_zero, List.replicate,  aVar_z, aVar_s, aC, aNil, aCons, aTup, aLstV, aLst, aOp, aUn, aTru, aTst, aCmp, aChn, aChnT, aAnd, aOr, aNot, aIf, aAndV, aOrV, aNotV, aCB, aCall, aNext, aSeq, aBrk, aCnt, aRet, aRetN, aIfS, aNev,  agName, agNil, agCons, agTup, aAsg, aPar, aDrop, aCallK, aCallKn, aM, aM0, aAddS, aYes, one1, one2, wipeA, aRevT, aRevL, agSub_def, aSl, aPart, aNoPart, cutAns_rol, cutAns_lst, cutAns_tup, cutAns_str, aLstRg, aRg1, ex_some, tupleA_lst, tupleA_tup, wstA_lst,  List.set_cons_zero, List.set_cons_succ, List.set, ex_bl, ex_int, ex_str, ex_tup, ex_eq, ex_cons, ex_pair, ex_one1, ex_one_int, and_tt, truA_bl, truOk_bl, truA_int, truOk_int, truA_lst, truOk_lst, truA_tup, truOk_tup, truA_refU, truOk_refU, Bool.not_true, Bool.not_false,  addA_ii, addA_ss, addA_tt, addA_ll, intA_ii, int2A_ii, subA_ii, mulA_ii, modA_ii, fdivA_ii, powA_ii, negA_i, ltA_ii, leA_ii, gtA_ii, geA_ii, ltA_ss, leA_ss, gtA_ss, geA_ss, isA, isntA, nonA, isiA_non, isiA_bl, isiA_int, isiA_str, isiA_tup, isiA_lst, isiA_rol, lenA_str, lenA_tup, lenA_lst, lenA_rol, absA_i, toIntA_i, toIntA_b, isIntA, isiB, String.reduceBEq, List.contains_cons, List.contains_nil, Bool.or_true, Bool.true_or, Bool.or_false, Bool.false_or, Bool.and_true, Bool.true_and, Bool.and_false, Bool.false_and, Bool.not_eq_true, if_true, if_false, decide_true, decide_false, Bool.false_eq_true, eq_self, reduceCtorEq, true_and, false_and, and_false, badA, exists_false, aFld, aPut, agFld, aPutAug, aMeth, aMake, mulX_ii, mulX_si, mulX_li, strA_i, strA_s, intXA_i, intXA_b, isBA_bb, isntBA_bb, aPar3, ex_tri, inA_tup, inA_lst, ninA_tup, ninA_lst, shrA_ii, andA_ii, aFor_tup, aFor_lst, aFor_enum, aLcF_lst, aLcF_tup, aLcF_rng, aLcP_lst, aLcP_tup, aLcP_enum, Int.cast_ofNat_Int, Int.reduceEq, Int.reduceLT, Int.reduceLE, Int.reduceNeg, Int.reduceAdd, Int.reduceSub, show allA (.lst [.bl true, .bl true, .bl true, .bl true]) S = ⟨True, .bl true⟩ from ans_tt rfl rfl]
    exact rt_same q
def sp_wrong_words : ASp := fun ds S Q => ∃ r, ds = [ruleA r] ∧ Q (wordsA r) S
set_option maxHeartbeats 4000000 in
theorem fn_wrong_words (T : Txt K mg) (F_check_rule : Fn4 P w K mg base 1 "check_rule" ["rule"] sp_check_rule) : FnX P w K mg base 2 "wrong_words" st_wrong_words ["rule"] sp_wrong_words := by
  refine FnX.of T.d_wrong_words fun f fd F => F.ok4 sc_wrong_words (fun ds S Q h => by unfold sp_wrong_words at h; first | (obtain ⟨_, rfl, _⟩ := h; rfl) | (obtain ⟨_, _, rfl, _⟩ := h; rfl) | (obtain ⟨_, _, _, rfl, _⟩ := h; rfl) | (obtain ⟨_, _, _, _, rfl, _⟩ := h; rfl) | (obtain ⟨_, _, _, _, _, rfl, _⟩ := h; rfl) | (obtain ⟨_, _, _, _, _, _, rfl, _⟩ := h; rfl) | (obtain ⟨_, _, _, _, _, _, _, rfl, _⟩ := h; rfl)) fun cdv A gd out s H E hr => ?_
  refine ⟨_, (s_cons (s_expr (f_call F_check_rule gd (hr.mono (by decide)) (a_cons (e_var 0) a_nil)))
    (s_cons (s_asg (e_var 0) (g_tup rfl (gs_cons (g_name 1 sc_wrong_words.nd) (gs_cons (g_name 2 sc_wrong_words.nd) (gs_cons (g_name 3 sc_wrong_words.nd) (gs_cons (g_name 4 sc_wrong_words.nd) gs_nil))))))
    (s_cons (s_set 5 sc_wrong_words.nd (e_lstV (a_cons (e_tup (a_cons (e_gS T.c_LEFT) (a_cons (e_or (e_not (e_var 1)) (e_one (e_not (e_var 2)))) a_nil))) (a_cons (e_tup (a_cons (e_gS T.c_SUSPECTED) (a_cons (e_and (e_var 1) (e_one (e_not (e_var 4)))) a_nil))) (a_cons (e_tup (a_cons (e_gS T.c_TWICE) (a_cons (e_not (e_var 3)) a_nil))) a_nil)))))
    (s_one (s_ret (e_ct c_tuple T.n_tuple (by decide +kernel) (a_cons (e_lcP 6 7 [("word", 6), ("can_be", 7)] rfl sc_wrong_words.nd (i_lst (e_var 5)) (blkOk_by (N := nm_wrong_words) (sc := defScope st_wrong_words) (by decide +kernel)) (fun _ _ _ _ _ => pg_tup rfl (pgs_cons (pg_name sc_wrong_words.nd rfl (Or.inl rfl)) (pgs_cons (pg_name sc_wrong_words.nd rfl (Or.inl rfl)) pgs_nil))) (fun _ _ _ _ _ => (ts_one (t_tru (e_var 7)))) (fun _ _ _ _ _ => (e_var 6))) a_nil))))))), ?_⟩
  rintro _ S Q ⟨r, rfl, q⟩
  simp only [↓ite_bc, bc_t, bc_f, aFor_rng, lstA_lst, lstA_rol, aLcS_rng, eqA_ii, eqA_ss, neA_ii, neA_ss, updS_same, updS_updS, startA, List.map_cons, List.map_nil, List.cons_append, List.nil_append, List.length_cons, List.length_nil, Nat.zero_add, Nat.add_zero, Nat.reduceAdd, Nat.reduceSub, List.replicate_succ, List.replicate_zero, List.replicate,  aVar_z, aVar_s, aC, aNil, aCons, aTup, aLstV, aLst, aOp, aUn, aTru, aTst, aCmp, aChn, aChnT, aAnd, aOr, aNot, aIf, aAndV, aOrV, aNotV, aCB, aCall, aNext, aSeq, aBrk, aCnt, aRet, aRetN, aIfS, aNev,  agName, agNil, agCons, agTup, aAsg, aPar, aDrop, aCallK, aCallKn, aM, aM0, aAddS, aYes, one1, one2, wipeA, aRevT, aRevL, agSub_def, aSl, aPart, aNoPart, cutAns_rol, cutAns_lst, cutAns_tup, cutAns_str, aLstRg, aRg1, ex_some, tupleA_lst, tupleA_tup, wstA_lst,  List.set_cons_zero, List.set_cons_succ, List.set, ex_bl, ex_int, ex_str, ex_tup, ex_eq, ex_cons, ex_pair, ex_one1, ex_one_int, and_tt, truA_bl, truOk_bl, truA_int, truOk_int, truA_lst, truOk_lst, truA_tup, truOk_tup, truA_refU, truOk_refU, Bool.not_true, Bool.not_false,  addA_ii, addA_ss, addA_tt, addA_ll, intA_ii, int2A_ii, subA_ii, mulA_ii, modA_ii, fdivA_ii, powA_ii, negA_i, ltA_ii, leA_ii, gtA_ii, geA_ii, ltA_ss, leA_ss, gtA_ss, geA_ss, isA, isntA, nonA, isiA_non, isiA_bl, isiA_int, isiA_str, isiA_tup, isiA_lst, isiA_rol, lenA_str, lenA_tup, lenA_lst, lenA_rol, absA_i, toIntA_i, toIntA_b, isIntA, isiB, String.reduceBEq, List.contains_cons, List.contains_nil, Bool.or_true, Bool.true_or, Bool.or_false, Bool.false_or, Bool.and_true, Bool.true_and, Bool.and_false, Bool.false_and, Bool.not_eq_true, if_true, if_false, decide_true, decide_false, Bool.false_eq_true, eq_self, reduceCtorEq, true_and, false_and, and_false, badA, exists_false, aFld, aPut, agFld, aPutAug, aMeth, aMake, mulX_ii, mulX_si, mulX_li, strA_i, strA_s, intXA_i, intXA_b, isBA_bb, isntBA_bb, aPar3, ex_tri, inA_tup, inA_lst, ninA_tup, ninA_lst, shrA_ii, andA_ii, aFor_tup, aFor_lst, aFor_enum, aLcF_lst, aLcF_tup, aLcF_rng, aLcP_lst, aLcP_tup, aLcP_enum, Int.cast_ofNat_Int, Int.reduceEq, Int.reduceLT, Int.reduceLE, Int.reduceNeg, Int.reduceAdd, Int.reduceSub]
  refine ⟨r, rfl, ?_⟩
  obtain ⟨r1, r2, r3, r4⟩ := r
  cases r1 <;> cases r2 <;> cases r3 <;> cases r4
  all_goals simp only [↓ite_bc, bc_t, bc_f, aFor_rng, lstA_lst, lstA_rol, aLcS_rng, eqA_ii, eqA_ss, neA_ii, neA_ss, updS_same, updS_updS, startA, List.map_cons, List.map_nil, List.cons_append, List.nil_append, List.length_cons, List.length_nil, Nat.zero_add, Nat.add_zero, Nat.reduceAdd, Nat.reduceSub, List.replicate_succ, List.replicate_zero, List.replicate,  aVar_z, aVar_s, aC, aNil, aCons, aTup, aLstV, aLst, aOp, aUn, aTru, aTst, aCmp, aChn, aChnT, aAnd, aOr, aNot, aIf, aAndV, aOrV, aNotV, aCB, aCall, aNext, aSeq, aBrk, aCnt, aRet, aRetN, aIfS, aNev,  agName, agNil, agCons, agTup, aAsg, aPar, aDrop, aCallK, aCallKn, aM, aM0, aAddS, aYes, one1, one2, wipeA, aRevT, aRevL, agSub_def, aSl, aPart, aNoPart, cutAns_rol, cutAns_lst, cutAns_tup, cutAns_str, aLstRg, aRg1, ex_some, tupleA_lst, tupleA_tup, wstA_lst,  List.set_cons_zero, List.set_cons_succ, List.set, ex_bl, ex_int, ex_str, ex_tup, ex_eq, ex_cons, ex_pair, ex_one1, ex_one_int, and_tt, truA_bl, truOk_bl, truA_int, truOk_int, truA_lst, truOk_lst, truA_tup, truOk_tup, truA_refU, truOk_refU, Bool.not_true, Bool.not_false,  addA_ii, addA_ss, addA_tt, addA_ll, intA_ii, int2A_ii, subA_ii, mulA_ii, modA_ii, fdivA_ii, powA_ii, negA_i, ltA_ii, leA_ii, gtA_ii, geA_ii, ltA_ss, leA_ss, gtA_ss, geA_ss, isA, isntA, nonA, isiA_non, isiA_bl, isiA_int, isiA_str, isiA_tup, isiA_lst, isiA_rol, lenA_str, lenA_tup, lenA_lst, lenA_rol, absA_i, toIntA_i, toIntA_b, isIntA, isiB, String.reduceBEq, List.contains_cons, List.contains_nil, Bool.or_true, Bool.true_or, Bool.or_false, Bool.false_or, Bool.and_true, Bool.true_and, Bool.and_false, Bool.false_and, Bool.not_eq_true, if_true, if_false, decide_true, decide_false, Bool.false_eq_true, eq_self, reduceCtorEq, true_and, false_and, and_false, badA, exists_false, aFld, aPut, agFld, aPutAug, aMeth, aMake, mulX_ii, mulX_si, mulX_li, strA_i, strA_s, intXA_i, intXA_b, isBA_bb, isntBA_bb, aPar3, ex_tri, inA_tup, inA_lst, ninA_tup, ninA_lst, shrA_ii, andA_ii, aFor_tup, aFor_lst, aFor_enum, aLcF_lst, aLcF_tup, aLcF_rng, aLcP_lst, aLcP_tup, aLcP_enum, Int.cast_ofNat_Int, Int.reduceEq, Int.reduceLT, Int.reduceLE, Int.reduceNeg, Int.reduceAdd, Int.reduceSub, ruleA]
  all_goals refine ⟨rfl, ?_⟩
  all_goals repeat (refine ⟨le_sl (by decide), ?_⟩)
  all_goals refine lc_words ?_
  all_goals simp only [↓ite_bc, bc_t, bc_f, aFor_rng, lstA_lst, lstA_rol, aLcS_rng, eqA_ii, eqA_ss, neA_ii, neA_ss, updS_same, updS_updS, startA, List.map_cons, List.map_nil, List.cons_append, List.nil_append, List.length_cons, List.length_nil, Nat.zero_add, Nat.add_zero, Nat.reduceAdd, Nat.reduceSub, List.replicate_succ, List.replicate_zero, List.replicate,  aVar_z, aVar_s, aC, aNil, aCons, aTup, aLstV, aLst, aOp, aUn, aTru, aTst, aCmp, aChn, aChnT, aAnd, aOr, aNot, aIf, aAndV, aOrV, aNotV, aCB, aCall, aNext, aSeq, aBrk, aCnt, aRet, aRetN, aIfS, aNev,  agName, agNil, agCons, agTup, aAsg, aPar, aDrop, aCallK, aCallKn, aM, aM0, aAddS, aYes, one1, one2, wipeA, aRevT, aRevL, agSub_def, aSl, aPart, aNoPart, cutAns_rol, cutAns_lst, cutAns_tup, cutAns_str, aLstRg, aRg1, ex_some, tupleA_lst, tupleA_tup, wstA_lst,  List.set_cons_zero, List.set_cons_succ, List.set, ex_bl, ex_int, ex_str, ex_tup, ex_eq, ex_cons, ex_pair, ex_one1, ex_one_int, and_tt, truA_bl, truOk_bl, truA_int, truOk_int, truA_lst, truOk_lst, truA_tup, truOk_tup, truA_refU, truOk_refU, Bool.not_true, Bool.not_false,  addA_ii, addA_ss, addA_tt, addA_ll, intA_ii, int2A_ii, subA_ii, mulA_ii, modA_ii, fdivA_ii, powA_ii, negA_i, ltA_ii, leA_ii, gtA_ii, geA_ii, ltA_ss, leA_ss, gtA_ss, geA_ss, isA, isntA, nonA, isiA_non, isiA_bl, isiA_int, isiA_str, isiA_tup, isiA_lst, isiA_rol, lenA_str, lenA_tup, lenA_lst, lenA_rol, absA_i, toIntA_i, toIntA_b, isIntA, isiB, String.reduceBEq, List.contains_cons, List.contains_nil, Bool.or_true, Bool.true_or, Bool.or_false, Bool.false_or, Bool.and_true, Bool.true_and, Bool.and_false, Bool.false_and, Bool.not_eq_true, if_true, if_false, decide_true, decide_false, Bool.false_eq_true, eq_self, reduceCtorEq, true_and, false_and, and_false, badA, exists_false, aFld, aPut, agFld, aPutAug, aMeth, aMake, mulX_ii, mulX_si, mulX_li, strA_i, strA_s, intXA_i, intXA_b, isBA_bb, isntBA_bb, aPar3, ex_tri, inA_tup, inA_lst, ninA_tup, ninA_lst, shrA_ii, andA_ii, aFor_tup, aFor_lst, aFor_enum, aLcF_lst, aLcF_tup, aLcF_rng, aLcP_lst, aLcP_tup, aLcP_enum, Int.cast_ofNat_Int, Int.reduceEq, Int.reduceLT, Int.reduceLE, Int.reduceNeg, Int.reduceAdd, Int.reduceSub]
  all_goals exact rt_same q
def sp__law_pot : ASp := fun ds S Q => ∃ (ns : List Int) (k : Nat), ds = [.rol (ns.map .int), .int k] ∧ k < 1000 ∧ ∀ l t, S l = none → okP 0 t → Q (.ref l) (updS S l (potO t))
set_option maxHeartbeats 4000000 in
theorem fn__law_pot (T : Txt K mg)  : FnX P w K mg base 1 "_law_pot" st__law_pot ["script", "place"] sp__law_pot := by
  refine FnX.of T.d__law_pot fun f fd F => F.ok4 sc__law_pot (fun ds S Q h => by unfold sp__law_pot at h; first | (obtain ⟨_, rfl, _⟩ := h; rfl) | (obtain ⟨_, _, rfl, _⟩ := h; rfl) | (obtain ⟨_, _, _, rfl, _⟩ := h; rfl) | (obtain ⟨_, _, _, _, rfl, _⟩ := h; rfl) | (obtain ⟨_, _, _, _, _, rfl, _⟩ := h; rfl) | (obtain ⟨_, _, _, _, _, _, rfl, _⟩ := h; rfl) | (obtain ⟨_, _, _, _, _, _, _, rfl, _⟩ := h; rfl)) fun cdv A gd out s H E hr => ?_
  refine ⟨_, (s_cons (s_set 2 sc__law_pot.nd (e_if (t_cmp o_lt (e_var 1) (e_cb c_len T.n_len (by decide +kernel) (a_cons (e_var 0) a_nil))) (e_ix o_ix (e_var 0) (e_var 1)) (e_op o_add (e_op o_add (e_op o_mod (e_cb (c_sum rfl) T.n_sum (by decide +kernel) (a_cons (e_sl (e_var 0) o_none (o_some e_int)) a_nil)) e_int) (e_op o_mul e_int (e_var 1))) e_int)))
    (s_cons (s_set 3 sc__law_pot.nd (e_op o_mul (e_op o_mod (e_ct c_int T.n_int (by decide +kernel) (a_cons (e_cb c_abs T.n_abs (by decide +kernel) (a_cons (e_var 2) a_nil)) a_nil)) (e_op o_pow (e_op o_pow e_int e_int) e_int)) (e_ct c_int T.n_int (by decide +kernel) (a_cons (e_cmp o_ge (e_cb c_abs T.n_abs (by decide +kernel) (a_cons (e_var 2) a_nil)) (e_op o_pow e_int e_int)) a_nil))))
    (s_cons (s_set 4 sc__law_pot.nd (e_op o_mod (e_ct c_int T.n_int (by decide +kernel) (a_cons (e_var 2) a_nil)) e_int))
    (s_one (s_ret (e_lst (a_cons (e_var 3) (a_cons (e_op o_mod (e_ct c_int T.n_int (by decide +kernel) (a_cons (e_op o_add (e_op o_add (e_op o_mul (e_var 4) e_int) (e_op o_mul (e_op o_mul e_int (e_var 1)) (e_var 1))) e_int) a_nil)) e_int) (a_cons e_int a_nil))))))))), ?_⟩
  rintro _ S Q ⟨ns, k, rfl, hk, q⟩
  have big : CPowB 10 60 ∧ CPowB (10 ^ Int.toNat 60) 5 ∧ CPowB 10 18 := ⟨powS (by omega) (by omega) (by omega) (by omega), powS (by decide +kernel) (by decide +kernel) (by omega) (by omega), powS (by omega) (by omega) (by omega) (by omega)⟩
  have bigp : (0 : Int) < (10 ^ Int.toNat 60) ^ Int.toNat 5 := by decide +kernel
  have fin : ∀ (i : Int) (own : Int), 0 ≤ own → ∀ l, S l = none → RtW Q (.ref l) (updS S l (.lst [.int own, .int (i % 2305843009213693921), .int 0])) := fun i own ho l hl =>
    rt_same (q l (own, i % 2305843009213693921, 0) hl ⟨ho, Int.emod_nonneg _ (by omega), by have := Int.emod_lt_of_pos i (b := 2305843009213693921) (by omega); show i % 2305843009213693921 < 2305843009213693951; omega, Int.le_refl _, Int.le_refl _⟩)
  have owns : ∀ (x : Int) (g : Bool), 0 ≤ x % ((10 ^ Int.toNat 60) ^ Int.toNat 5) * (if g = true then 1 else 0) := fun x g => Int.mul_nonneg (Int.emod_nonneg _ (by omega)) (by cases g <;> decide)
  have bR : ∀ (x : Int) (g : Bool), CMulB x (if g = true then 1 else 0) := fun x g => mulR (by cases g <;> decide) (by cases g <;> decide)
  walk_at "rd"
  rw [List.length_map]
  by_cases hkn : k < ns.length
  · obtain ⟨y, hy, he⟩ := ixA_rol (xs := ns.map .int) (i := (k : Int)) (S := S) (by omega) (by rw [List.length_map]; omega)
    obtain ⟨i, _, rfl⟩ := List.mem_map.mp hy
    rw [decide_eq_true (by omega)]
    simp only [↓ite_bc, bc_t, bc_f, aFor_rng, lstA_lst, lstA_rol, aLcS_rng, eqA_ii, eqA_ss, neA_ii, neA_ss, updS_same, updS_updS, startA, List.map_cons, List.map_nil, List.cons_append, List.nil_append, List.length_cons, List.length_nil, Nat.zero_add, Nat.add_zero, Nat.reduceAdd, Nat.reduceSub, List.replicate_succ, List.replicate_zero, List.replicate,  aVar_z, aVar_s, aC, aNil, aCons, aTup, aLstV, aLst, aOp, aUn, aTru, aTst, aCmp, aChn, aChnT, aAnd, aOr, aNot, aIf, aAndV, aOrV, aNotV, aCB, aCall, aNext, aSeq, aBrk, aCnt, aRet, aRetN, aIfS, aNev,  agName, agNil, agCons, agTup, aAsg, aPar, aDrop, aCallK, aCallKn, aM, aM0, aAddS, aYes, one1, one2, wipeA, aRevT, aRevL, agSub_def, aSl, aPart, aNoPart, cutAns_rol, cutAns_lst, cutAns_tup, cutAns_str, aLstRg, aRg1, ex_some, tupleA_lst, tupleA_tup, wstA_lst,  List.set_cons_zero, List.set_cons_succ, List.set, ex_bl, ex_int, ex_str, ex_tup, ex_eq, ex_cons, ex_pair, ex_one1, ex_one_int, and_tt, truA_bl, truOk_bl, truA_int, truOk_int, truA_lst, truOk_lst, truA_tup, truOk_tup, truA_refU, truOk_refU, Bool.not_true, Bool.not_false,  addA_ii, addA_ss, addA_tt, addA_ll, intA_ii, int2A_ii, subA_ii, mulA_ii, modA_ii, fdivA_ii, powA_ii, negA_i, ltA_ii, leA_ii, gtA_ii, geA_ii, ltA_ss, leA_ss, gtA_ss, geA_ss, isA, isntA, nonA, isiA_non, isiA_bl, isiA_int, isiA_str, isiA_tup, isiA_lst, isiA_rol, lenA_str, lenA_tup, lenA_lst, lenA_rol, absA_i, toIntA_i, toIntA_b, isIntA, isiB, String.reduceBEq, List.contains_cons, List.contains_nil, Bool.or_true, Bool.true_or, Bool.or_false, Bool.false_or, Bool.and_true, Bool.true_and, Bool.and_false, Bool.false_and, Bool.not_eq_true, if_true, if_false, decide_true, decide_false, Bool.false_eq_true, eq_self, reduceCtorEq, true_and, false_and, and_false, badA, exists_false, aFld, aPut, agFld, aPutAug, aMeth, aMake, mulX_ii, mulX_si, mulX_li, strA_i, strA_s, intXA_i, intXA_b, isBA_bb, isntBA_bb, aPar3, ex_tri, inA_tup, inA_lst, ninA_tup, ninA_lst, shrA_ii, andA_ii, aFor_tup, aFor_lst, aFor_enum, aLcF_lst, aLcF_tup, aLcF_rng, aLcP_lst, aLcP_tup, aLcP_enum, he]
    refine ⟨big.1, big.2.1, bigp, big.2.2, bR _ _, by omega, mulR (by omega) (by omega), mulR (by omega) (by omega), mulR (by omega) (by omega), by omega, le_sl (by omega), ?_⟩
    exact fin _ _ (owns _ _)
  · rw [decide_eq_false (by omega)]
    obtain ⟨s, hs⟩ := sum_cut ns none (some 1)
    simp only [↓ite_bc, bc_t, bc_f, aFor_rng, lstA_lst, lstA_rol, aLcS_rng, eqA_ii, eqA_ss, neA_ii, neA_ss, updS_same, updS_updS, startA, List.map_cons, List.map_nil, List.cons_append, List.nil_append, List.length_cons, List.length_nil, Nat.zero_add, Nat.add_zero, Nat.reduceAdd, Nat.reduceSub, List.replicate_succ, List.replicate_zero, List.replicate,  aVar_z, aVar_s, aC, aNil, aCons, aTup, aLstV, aLst, aOp, aUn, aTru, aTst, aCmp, aChn, aChnT, aAnd, aOr, aNot, aIf, aAndV, aOrV, aNotV, aCB, aCall, aNext, aSeq, aBrk, aCnt, aRet, aRetN, aIfS, aNev,  agName, agNil, agCons, agTup, aAsg, aPar, aDrop, aCallK, aCallKn, aM, aM0, aAddS, aYes, one1, one2, wipeA, aRevT, aRevL, agSub_def, aSl, aPart, aNoPart, cutAns_rol, cutAns_lst, cutAns_tup, cutAns_str, aLstRg, aRg1, ex_some, tupleA_lst, tupleA_tup, wstA_lst,  List.set_cons_zero, List.set_cons_succ, List.set, ex_bl, ex_int, ex_str, ex_tup, ex_eq, ex_cons, ex_pair, ex_one1, ex_one_int, and_tt, truA_bl, truOk_bl, truA_int, truOk_int, truA_lst, truOk_lst, truA_tup, truOk_tup, truA_refU, truOk_refU, Bool.not_true, Bool.not_false,  addA_ii, addA_ss, addA_tt, addA_ll, intA_ii, int2A_ii, subA_ii, mulA_ii, modA_ii, fdivA_ii, powA_ii, negA_i, ltA_ii, leA_ii, gtA_ii, geA_ii, ltA_ss, leA_ss, gtA_ss, geA_ss, isA, isntA, nonA, isiA_non, isiA_bl, isiA_int, isiA_str, isiA_tup, isiA_lst, isiA_rol, lenA_str, lenA_tup, lenA_lst, lenA_rol, absA_i, toIntA_i, toIntA_b, isIntA, isiB, String.reduceBEq, List.contains_cons, List.contains_nil, Bool.or_true, Bool.true_or, Bool.or_false, Bool.false_or, Bool.and_true, Bool.true_and, Bool.and_false, Bool.false_and, Bool.not_eq_true, if_true, if_false, decide_true, decide_false, Bool.false_eq_true, eq_self, reduceCtorEq, true_and, false_and, and_false, badA, exists_false, aFld, aPut, agFld, aPutAug, aMeth, aMake, mulX_ii, mulX_si, mulX_li, strA_i, strA_s, intXA_i, intXA_b, isBA_bb, isntBA_bb, aPar3, ex_tri, inA_tup, inA_lst, ninA_tup, ninA_lst, shrA_ii, andA_ii, aFor_tup, aFor_lst, aFor_enum, aLcF_lst, aLcF_tup, aLcF_rng, aLcP_lst, aLcP_tup, aLcP_enum, hs]
    refine ⟨by omega, mulR (by omega) (by omega), big.1, big.2.1, bigp, big.2.2, bR _ _, by omega, mulR (by omega) (by omega), mulR (by omega) (by omega), mulR (by omega) (by omega), by omega, le_sl (by omega), ?_⟩
    exact fin _ _ (owns _ _)
abbrev sp__law_take : ASp := spTake
set_option maxHeartbeats 4000000 in
theorem fn__law_take (T : Txt K mg)  : FnX P w K mg base 1 "_law_take" st__law_take ["pot", "upto"] sp__law_take := by
  refine FnX.of T.d__law_take fun f fd F => F.ok4 sc__law_take (fun ds S Q h => by obtain ⟨_, _, _, _, rfl, _⟩ := h; rfl) fun cdv A gd out s H E hr => ?_
  refine ⟨_, (s_cons (s_if (t_cmp o_gt (e_ix o_ix (e_var 0) e_int) e_int) (s_cons (s_set 2 sc__law_take.nd (e_op o_mod (e_ct c_int T.n_int (by decide +kernel) (a_cons (e_ix o_ix (e_var 0) e_int) a_nil)) (e_var 1)))
    (s_cons (s_asg (e_op o_fdiv (e_ix o_ix (e_var 0) e_int) (e_var 1)) (g_sub (e_var 0) e_int))
    (s_one (s_ret (e_var 2))))) s_nil)
    (s_cons (s_asg (e_op o_add (e_ix o_ix (e_var 0) e_int) e_int) (g_sub (e_var 0) e_int))
    (s_cons (s_set 3 sc__law_take.nd (e_ix o_ix (e_lstV (a_cons e_int (a_cons e_int (a_cons e_int (a_cons e_int (a_cons e_int a_nil)))))) (e_op o_mod (e_ct c_int T.n_int (by decide +kernel) (a_cons (e_ix o_ix (e_var 0) e_int) a_nil)) e_int)))
    (s_cons (s_set 4 sc__law_take.nd (e_op o_mod (e_ct c_int T.n_int (by decide +kernel) (a_cons (e_op o_pow (e_ct c_int T.n_int (by decide +kernel) (a_cons (e_op o_add (e_op o_add (e_ix o_ix (e_var 0) e_int) (e_op o_mul (e_op o_mul e_int (e_ix o_ix (e_var 0) e_int)) (e_ix o_ix (e_var 0) e_int))) e_int) a_nil)) e_int) a_nil)) (e_var 3)))
    (s_cons (s_set 4 sc__law_take.nd (e_op o_mod (e_ct c_int T.n_int (by decide +kernel) (a_cons (e_op o_mul (e_var 4) (e_op o_add (e_op o_mod (e_ct c_int T.n_int (by decide +kernel) (a_cons (e_var 4) a_nil)) e_int) (e_op o_mul e_int (e_ix o_ix (e_var 0) e_int)))) a_nil)) e_int))
    (s_one (s_ret (e_op o_mod (e_ct c_int T.n_int (by decide +kernel) (a_cons (e_op o_fdiv (e_var 4) e_int) a_nil)) (e_var 1))))))))), ?_⟩
  rintro _ S Q ⟨p, ⟨a, b, c⟩, n, N, rfl, hn0, hn1, hp, ok, hN, q⟩
  obtain ⟨h1, h2, h3, h4, h5⟩ := ok
  have hp : S p = some (.lst [.int a, .int b, .int c]) := hp
  simp only [↓ite_bc, bc_t, bc_f, aFor_rng, lstA_lst, lstA_rol, aLcS_rng, eqA_ii, eqA_ss, neA_ii, neA_ss, updS_same, updS_updS, startA, List.map_cons, List.map_nil, List.cons_append, List.nil_append, List.length_cons, List.length_nil, Nat.zero_add, Nat.add_zero, Nat.reduceAdd, Nat.reduceSub, List.replicate_succ, List.replicate_zero, List.replicate,  aVar_z, aVar_s, aC, aNil, aCons, aTup, aLstV, aLst, aOp, aUn, aTru, aTst, aCmp, aChn, aChnT, aAnd, aOr, aNot, aIf, aAndV, aOrV, aNotV, aCB, aCall, aNext, aSeq, aBrk, aCnt, aRet, aRetN, aIfS, aNev,  agName, agNil, agCons, agTup, aAsg, aPar, aDrop, aCallK, aCallKn, aM, aM0, aAddS, aYes, one1, one2, wipeA, aRevT, aRevL, agSub_def, aSl, aPart, aNoPart, cutAns_rol, cutAns_lst, cutAns_tup, cutAns_str, aLstRg, aRg1, ex_some, tupleA_lst, tupleA_tup, wstA_lst,  List.set_cons_zero, List.set_cons_succ, List.set, ex_bl, ex_int, ex_str, ex_tup, ex_eq, ex_cons, ex_pair, ex_one1, ex_one_int, and_tt, truA_bl, truOk_bl, truA_int, truOk_int, truA_lst, truOk_lst, truA_tup, truOk_tup, truA_refU, truOk_refU, Bool.not_true, Bool.not_false,  addA_ii, addA_ss, addA_tt, addA_ll, intA_ii, int2A_ii, subA_ii, mulA_ii, modA_ii, fdivA_ii, powA_ii, negA_i, ltA_ii, leA_ii, gtA_ii, geA_ii, ltA_ss, leA_ss, gtA_ss, geA_ss, isA, isntA, nonA, isiA_non, isiA_bl, isiA_int, isiA_str, isiA_tup, isiA_lst, isiA_rol, lenA_str, lenA_tup, lenA_lst, lenA_rol, absA_i, toIntA_i, toIntA_b, isIntA, isiB, String.reduceBEq, List.contains_cons, List.contains_nil, Bool.or_true, Bool.true_or, Bool.or_false, Bool.false_or, Bool.and_true, Bool.true_and, Bool.and_false, Bool.false_and, Bool.not_eq_true, if_true, if_false, decide_true, decide_false, Bool.false_eq_true, eq_self, reduceCtorEq, true_and, false_and, and_false, badA, exists_false, aFld, aPut, agFld, aPutAug, aMeth, aMake, mulX_ii, mulX_si, mulX_li, strA_i, strA_s, intXA_i, intXA_b, isBA_bb, isntBA_bb, aPar3, ex_tri, inA_tup, inA_lst, ninA_tup, ninA_lst, shrA_ii, andA_ii, aFor_tup, aFor_lst, aFor_enum, aLcF_lst, aLcF_tup, aLcF_rng, aLcP_lst, aLcP_tup, aLcP_enum, ix3_0 hp, ix3_1 hp, ix3_2 hp]
  by_cases ha : 0 < a
  · rw [decide_eq_true ha]
    simp only [↓ite_bc, bc_t, bc_f, aFor_rng, lstA_lst, lstA_rol, aLcS_rng, eqA_ii, eqA_ss, neA_ii, neA_ss, updS_same, updS_updS, startA, List.map_cons, List.map_nil, List.cons_append, List.nil_append, List.length_cons, List.length_nil, Nat.zero_add, Nat.add_zero, Nat.reduceAdd, Nat.reduceSub, List.replicate_succ, List.replicate_zero, List.replicate,  aVar_z, aVar_s, aC, aNil, aCons, aTup, aLstV, aLst, aOp, aUn, aTru, aTst, aCmp, aChn, aChnT, aAnd, aOr, aNot, aIf, aAndV, aOrV, aNotV, aCB, aCall, aNext, aSeq, aBrk, aCnt, aRet, aRetN, aIfS, aNev,  agName, agNil, agCons, agTup, aAsg, aPar, aDrop, aCallK, aCallKn, aM, aM0, aAddS, aYes, one1, one2, wipeA, aRevT, aRevL, agSub_def, aSl, aPart, aNoPart, cutAns_rol, cutAns_lst, cutAns_tup, cutAns_str, aLstRg, aRg1, ex_some, tupleA_lst, tupleA_tup, wstA_lst,  List.set_cons_zero, List.set_cons_succ, List.set, ex_bl, ex_int, ex_str, ex_tup, ex_eq, ex_cons, ex_pair, ex_one1, ex_one_int, and_tt, truA_bl, truOk_bl, truA_int, truOk_int, truA_lst, truOk_lst, truA_tup, truOk_tup, truA_refU, truOk_refU, Bool.not_true, Bool.not_false,  addA_ii, addA_ss, addA_tt, addA_ll, intA_ii, int2A_ii, subA_ii, mulA_ii, modA_ii, fdivA_ii, powA_ii, negA_i, ltA_ii, leA_ii, gtA_ii, geA_ii, ltA_ss, leA_ss, gtA_ss, geA_ss, isA, isntA, nonA, isiA_non, isiA_bl, isiA_int, isiA_str, isiA_tup, isiA_lst, isiA_rol, lenA_str, lenA_tup, lenA_lst, lenA_rol, absA_i, toIntA_i, toIntA_b, isIntA, isiB, String.reduceBEq, List.contains_cons, List.contains_nil, Bool.or_true, Bool.true_or, Bool.or_false, Bool.false_or, Bool.and_true, Bool.true_and, Bool.and_false, Bool.false_and, Bool.not_eq_true, if_true, if_false, decide_true, decide_false, Bool.false_eq_true, eq_self, reduceCtorEq, true_and, false_and, and_false, badA, exists_false, aFld, aPut, agFld, aPutAug, aMeth, aMake, mulX_ii, mulX_si, mulX_li, strA_i, strA_s, intXA_i, intXA_b, isBA_bb, isntBA_bb, aPar3, ex_tri, inA_tup, inA_lst, ninA_tup, ninA_lst, shrA_ii, andA_ii, aFor_tup, aFor_lst, aFor_enum, aLcF_lst, aLcF_tup, aLcF_rng, aLcP_lst, aLcP_tup, aLcP_enum, ix3_0 hp]
    refine ⟨hn0, divS hn0 (by omega), SubAt3_0 hp ?_⟩
    simp only [↓ite_bc, bc_t, bc_f, aFor_rng, lstA_lst, lstA_rol, aLcS_rng, eqA_ii, eqA_ss, neA_ii, neA_ss, updS_same, updS_updS, startA, List.map_cons, List.map_nil, List.cons_append, List.nil_append, List.length_cons, List.length_nil, Nat.zero_add, Nat.add_zero, Nat.reduceAdd, Nat.reduceSub, List.replicate_succ, List.replicate_zero, List.replicate,  aVar_z, aVar_s, aC, aNil, aCons, aTup, aLstV, aLst, aOp, aUn, aTru, aTst, aCmp, aChn, aChnT, aAnd, aOr, aNot, aIf, aAndV, aOrV, aNotV, aCB, aCall, aNext, aSeq, aBrk, aCnt, aRet, aRetN, aIfS, aNev,  agName, agNil, agCons, agTup, aAsg, aPar, aDrop, aCallK, aCallKn, aM, aM0, aAddS, aYes, one1, one2, wipeA, aRevT, aRevL, agSub_def, aSl, aPart, aNoPart, cutAns_rol, cutAns_lst, cutAns_tup, cutAns_str, aLstRg, aRg1, ex_some, tupleA_lst, tupleA_tup, wstA_lst,  List.set_cons_zero, List.set_cons_succ, List.set, ex_bl, ex_int, ex_str, ex_tup, ex_eq, ex_cons, ex_pair, ex_one1, ex_one_int, and_tt, truA_bl, truOk_bl, truA_int, truOk_int, truA_lst, truOk_lst, truA_tup, truOk_tup, truA_refU, truOk_refU, Bool.not_true, Bool.not_false,  addA_ii, addA_ss, addA_tt, addA_ll, intA_ii, int2A_ii, subA_ii, mulA_ii, modA_ii, fdivA_ii, powA_ii, negA_i, ltA_ii, leA_ii, gtA_ii, geA_ii, ltA_ss, leA_ss, gtA_ss, geA_ss, isA, isntA, nonA, isiA_non, isiA_bl, isiA_int, isiA_str, isiA_tup, isiA_lst, isiA_rol, lenA_str, lenA_tup, lenA_lst, lenA_rol, absA_i, toIntA_i, toIntA_b, isIntA, isiB, String.reduceBEq, List.contains_cons, List.contains_nil, Bool.or_true, Bool.true_or, Bool.or_false, Bool.false_or, Bool.and_true, Bool.true_and, Bool.and_false, Bool.false_and, Bool.not_eq_true, if_true, if_false, decide_true, decide_false, Bool.false_eq_true, eq_self, reduceCtorEq, true_and, false_and, and_false, badA, exists_false, aFld, aPut, agFld, aPutAug, aMeth, aMake, mulX_ii, mulX_si, mulX_li, strA_i, strA_s, intXA_i, intXA_b, isBA_bb, isntBA_bb, aPar3, ex_tri, inA_tup, inA_lst, ninA_tup, ninA_lst, shrA_ii, andA_ii, aFor_tup, aFor_lst, aFor_enum, aLcF_lst, aLcF_tup, aLcF_rng, aLcP_lst, aLcP_tup, aLcP_enum, ]
    exact rt_same (q (a / n, b, c) (a % n) ⟨Int.ediv_nonneg h1 (by omega), h2, h3, h4, by show c ≤ ((N + 1 : Nat) : Int); have : c ≤ N := h5; omega⟩ (Int.emod_nonneg _ (by omega)) (Int.emod_lt_of_pos _ hn0))
  · rw [decide_eq_false ha]
    simp only [↓ite_bc, bc_t, bc_f, aFor_rng, lstA_lst, lstA_rol, aLcS_rng, eqA_ii, eqA_ss, neA_ii, neA_ss, updS_same, updS_updS, startA, List.map_cons, List.map_nil, List.cons_append, List.nil_append, List.length_cons, List.length_nil, Nat.zero_add, Nat.add_zero, Nat.reduceAdd, Nat.reduceSub, List.replicate_succ, List.replicate_zero, List.replicate,  aVar_z, aVar_s, aC, aNil, aCons, aTup, aLstV, aLst, aOp, aUn, aTru, aTst, aCmp, aChn, aChnT, aAnd, aOr, aNot, aIf, aAndV, aOrV, aNotV, aCB, aCall, aNext, aSeq, aBrk, aCnt, aRet, aRetN, aIfS, aNev,  agName, agNil, agCons, agTup, aAsg, aPar, aDrop, aCallK, aCallKn, aM, aM0, aAddS, aYes, one1, one2, wipeA, aRevT, aRevL, agSub_def, aSl, aPart, aNoPart, cutAns_rol, cutAns_lst, cutAns_tup, cutAns_str, aLstRg, aRg1, ex_some, tupleA_lst, tupleA_tup, wstA_lst,  List.set_cons_zero, List.set_cons_succ, List.set, ex_bl, ex_int, ex_str, ex_tup, ex_eq, ex_cons, ex_pair, ex_one1, ex_one_int, and_tt, truA_bl, truOk_bl, truA_int, truOk_int, truA_lst, truOk_lst, truA_tup, truOk_tup, truA_refU, truOk_refU, Bool.not_true, Bool.not_false,  addA_ii, addA_ss, addA_tt, addA_ll, intA_ii, int2A_ii, subA_ii, mulA_ii, modA_ii, fdivA_ii, powA_ii, negA_i, ltA_ii, leA_ii, gtA_ii, geA_ii, ltA_ss, leA_ss, gtA_ss, geA_ss, isA, isntA, nonA, isiA_non, isiA_bl, isiA_int, isiA_str, isiA_tup, isiA_lst, isiA_rol, lenA_str, lenA_tup, lenA_lst, lenA_rol, absA_i, toIntA_i, toIntA_b, isIntA, isiB, String.reduceBEq, List.contains_cons, List.contains_nil, Bool.or_true, Bool.true_or, Bool.or_false, Bool.false_or, Bool.and_true, Bool.true_and, Bool.and_false, Bool.false_and, Bool.not_eq_true, if_true, if_false, decide_true, decide_false, Bool.false_eq_true, eq_self, reduceCtorEq, true_and, false_and, and_false, badA, exists_false, aFld, aPut, agFld, aPutAug, aMeth, aMake, mulX_ii, mulX_si, mulX_li, strA_i, strA_s, intXA_i, intXA_b, isBA_bb, isntBA_bb, aPar3, ex_tri, inA_tup, inA_lst, ninA_tup, ninA_lst, shrA_ii, andA_ii, aFor_tup, aFor_lst, aFor_enum, aLcF_lst, aLcF_tup, aLcF_rng, aLcP_lst, aLcP_tup, aLcP_enum, ix3_2 hp]
    refine SubAt3_2 hp ?_
    obtain ⟨v, hv0, hv1, hv⟩ := prime_ix (i := (c + 1) % 5) (by omega) (by omega)
    simp only [↓ite_bc, bc_t, bc_f, aFor_rng, lstA_lst, lstA_rol, aLcS_rng, eqA_ii, eqA_ss, neA_ii, neA_ss, updS_same, updS_updS, startA, List.map_cons, List.map_nil, List.cons_append, List.nil_append, List.length_cons, List.length_nil, Nat.zero_add, Nat.add_zero, Nat.reduceAdd, Nat.reduceSub, List.replicate_succ, List.replicate_zero, List.replicate,  aVar_z, aVar_s, aC, aNil, aCons, aTup, aLstV, aLst, aOp, aUn, aTru, aTst, aCmp, aChn, aChnT, aAnd, aOr, aNot, aIf, aAndV, aOrV, aNotV, aCB, aCall, aNext, aSeq, aBrk, aCnt, aRet, aRetN, aIfS, aNev,  agName, agNil, agCons, agTup, aAsg, aPar, aDrop, aCallK, aCallKn, aM, aM0, aAddS, aYes, one1, one2, wipeA, aRevT, aRevL, agSub_def, aSl, aPart, aNoPart, cutAns_rol, cutAns_lst, cutAns_tup, cutAns_str, aLstRg, aRg1, ex_some, tupleA_lst, tupleA_tup, wstA_lst,  List.set_cons_zero, List.set_cons_succ, List.set, ex_bl, ex_int, ex_str, ex_tup, ex_eq, ex_cons, ex_pair, ex_one1, ex_one_int, and_tt, truA_bl, truOk_bl, truA_int, truOk_int, truA_lst, truOk_lst, truA_tup, truOk_tup, truA_refU, truOk_refU, Bool.not_true, Bool.not_false,  addA_ii, addA_ss, addA_tt, addA_ll, intA_ii, int2A_ii, subA_ii, mulA_ii, modA_ii, fdivA_ii, powA_ii, negA_i, ltA_ii, leA_ii, gtA_ii, geA_ii, ltA_ss, leA_ss, gtA_ss, geA_ss, isA, isntA, nonA, isiA_non, isiA_bl, isiA_int, isiA_str, isiA_tup, isiA_lst, isiA_rol, lenA_str, lenA_tup, lenA_lst, lenA_rol, absA_i, toIntA_i, toIntA_b, isIntA, isiB, String.reduceBEq, List.contains_cons, List.contains_nil, Bool.or_true, Bool.true_or, Bool.or_false, Bool.false_or, Bool.and_true, Bool.true_and, Bool.and_false, Bool.false_and, Bool.not_eq_true, if_true, if_false, decide_true, decide_false, Bool.false_eq_true, eq_self, reduceCtorEq, true_and, false_and, and_false, badA, exists_false, aFld, aPut, agFld, aPutAug, aMeth, aMake, mulX_ii, mulX_si, mulX_li, strA_i, strA_s, intXA_i, intXA_b, isBA_bb, isntBA_bb, aPar3, ex_tri, inA_tup, inA_lst, ninA_tup, ninA_lst, shrA_ii, andA_ii, aFor_tup, aFor_lst, aFor_enum, aLcF_lst, aLcF_tup, aLcF_rng, aLcP_lst, aLcP_tup, aLcP_enum, ixU_0, ixU_1, ixU_2, hv]
    have h4' : 0 ≤ c := h4
    have h5' : c ≤ N := h5
    obtain ⟨k1, k2⟩ := cube_okG (A := 98269) (B := 431) (b := b) (c := c + 1) (by omega) (by omega) (by omega) (by omega) h2 h3 (by omega) (by omega)
    generalize b + 98269 * (c + 1) * (c + 1) + 431 = w at k1 k2 ⊢
    have m1 : 0 ≤ w ^ Int.toNat 3 % v := Int.emod_nonneg _ (by omega)
    have m2 : w ^ Int.toNat 3 % v < v := Int.emod_lt_of_pos _ hv0
    generalize w ^ Int.toNat 3 % v = e at m1 m2 ⊢
    refine ⟨le_sl (by omega), by omega, mulL (by omega) (by omega), mulR (by omega) (by omega), powS k1 k2 (by omega) (by omega), hv0, by omega, mulL (by omega) (by omega), mulL (by omega) (by omega), by omega, divS (by omega) (by omega), hn0, ?_⟩
    exact rt_same (q (a, b, c + 1) _ ⟨h1, h2, h3, by show 0 ≤ c + 1; omega, by show c + 1 ≤ ((N + 1 : Nat) : Int); omega⟩ (Int.emod_nonneg _ (by omega)) (Int.emod_lt_of_pos _ hn0))
abbrev sp__law_of : ASp := spOne
set_option maxHeartbeats 4000000 in
theorem fn__law_of (T : Txt K mg) (F__law_take : Fn4 P w K mg base 1 "_law_take" ["pot", "upto"] sp__law_take) : FnX P w K mg base 2 "_law_of" st__law_of ["pot", "some"] sp__law_of := by
  refine FnX.of T.d__law_of fun f fd F => F.ok4 sc__law_of (fun ds S Q h => by obtain ⟨_, _, _, _, _, rfl, _⟩ := h; rfl) fun cdv A gd out s H E hr => ?_
  refine ⟨_, (s_one (s_ret (e_ix o_ix (e_var 1) (f_call F__law_take gd (hr.mono (by decide)) (a_cons (e_var 0) (a_cons (e_cb c_len T.n_len (by decide +kernel) (a_cons (e_var 1) a_nil)) a_nil)))))), ?_⟩
  rintro _ S Q ⟨p, t, x, xs, N, rfl, hx, hne, hl, hp, ok, hN, q⟩
  walk_at "rd"
  cases x with
  | str z =>
    have hx : (if z.length ≤ sizeLine then some (signsA z) else none) = some xs := hx
    split at hx
    · rename_i hz
      cases hx
      have hl0 : (signsA z).length = z.length := by unfold signsA; rw [List.length_map, Array.length_toList]; rfl
      have hz0 : 0 < (signsA z).length := List.length_pos_iff.mpr hne
      simp only [↓ite_bc, bc_t, bc_f, aFor_rng, lstA_lst, lstA_rol, aLcS_rng, eqA_ii, eqA_ss, neA_ii, neA_ss, updS_same, updS_updS, startA, List.map_cons, List.map_nil, List.cons_append, List.nil_append, List.length_cons, List.length_nil, Nat.zero_add, Nat.add_zero, Nat.reduceAdd, Nat.reduceSub, List.replicate_succ, List.replicate_zero, List.replicate,  aVar_z, aVar_s, aC, aNil, aCons, aTup, aLstV, aLst, aOp, aUn, aTru, aTst, aCmp, aChn, aChnT, aAnd, aOr, aNot, aIf, aAndV, aOrV, aNotV, aCB, aCall, aNext, aSeq, aBrk, aCnt, aRet, aRetN, aIfS, aNev,  agName, agNil, agCons, agTup, aAsg, aPar, aDrop, aCallK, aCallKn, aM, aM0, aAddS, aYes, one1, one2, wipeA, aRevT, aRevL, agSub_def, aSl, aPart, aNoPart, cutAns_rol, cutAns_lst, cutAns_tup, cutAns_str, aLstRg, aRg1, ex_some, tupleA_lst, tupleA_tup, wstA_lst,  List.set_cons_zero, List.set_cons_succ, List.set, ex_bl, ex_int, ex_str, ex_tup, ex_eq, ex_cons, ex_pair, ex_one1, ex_one_int, and_tt, truA_bl, truOk_bl, truA_int, truOk_int, truA_lst, truOk_lst, truA_tup, truOk_tup, truA_refU, truOk_refU, Bool.not_true, Bool.not_false,  addA_ii, addA_ss, addA_tt, addA_ll, intA_ii, int2A_ii, subA_ii, mulA_ii, modA_ii, fdivA_ii, powA_ii, negA_i, ltA_ii, leA_ii, gtA_ii, geA_ii, ltA_ss, leA_ss, gtA_ss, geA_ss, isA, isntA, nonA, isiA_non, isiA_bl, isiA_int, isiA_str, isiA_tup, isiA_lst, isiA_rol, lenA_str, lenA_tup, lenA_lst, lenA_rol, absA_i, toIntA_i, toIntA_b, isIntA, isiB, String.reduceBEq, List.contains_cons, List.contains_nil, Bool.or_true, Bool.true_or, Bool.or_false, Bool.false_or, Bool.and_true, Bool.true_and, Bool.and_false, Bool.false_and, Bool.not_eq_true, if_true, if_false, decide_true, decide_false, Bool.false_eq_true, eq_self, reduceCtorEq, true_and, false_and, and_false, badA, exists_false, aFld, aPut, agFld, aPutAug, aMeth, aMake, mulX_ii, mulX_si, mulX_li, strA_i, strA_s, intXA_i, intXA_b, isBA_bb, isntBA_bb, aPar3, ex_tri, inA_tup, inA_lst, ninA_tup, ninA_lst, shrA_ii, andA_ii, aFor_tup, aFor_lst, aFor_enum, aLcF_lst, aLcF_tup, aLcF_rng, aLcP_lst, aLcP_tup, aLcP_enum, ]
      refine ⟨hz, p, t, _, N, rfl, by omega, by omega, hp, ok, hN, fun t' r ok' h0 h1 => ?_⟩
      obtain ⟨c, hc, he⟩ := ixA_str (S := updS S p (potO t')) hz h0 h1
      rw [he]
      exact ⟨trivial, rt_same (q t' _ ok' (List.mem_map.mpr ⟨c, hc, rfl⟩))⟩
    · cases hx
  | lst ys =>
    cases hx
    have hz0 : 0 < xs.length := List.length_pos_iff.mpr hne
    simp only [↓ite_bc, bc_t, bc_f, aFor_rng, lstA_lst, lstA_rol, aLcS_rng, eqA_ii, eqA_ss, neA_ii, neA_ss, updS_same, updS_updS, startA, List.map_cons, List.map_nil, List.cons_append, List.nil_append, List.length_cons, List.length_nil, Nat.zero_add, Nat.add_zero, Nat.reduceAdd, Nat.reduceSub, List.replicate_succ, List.replicate_zero, List.replicate,  aVar_z, aVar_s, aC, aNil, aCons, aTup, aLstV, aLst, aOp, aUn, aTru, aTst, aCmp, aChn, aChnT, aAnd, aOr, aNot, aIf, aAndV, aOrV, aNotV, aCB, aCall, aNext, aSeq, aBrk, aCnt, aRet, aRetN, aIfS, aNev,  agName, agNil, agCons, agTup, aAsg, aPar, aDrop, aCallK, aCallKn, aM, aM0, aAddS, aYes, one1, one2, wipeA, aRevT, aRevL, agSub_def, aSl, aPart, aNoPart, cutAns_rol, cutAns_lst, cutAns_tup, cutAns_str, aLstRg, aRg1, ex_some, tupleA_lst, tupleA_tup, wstA_lst,  List.set_cons_zero, List.set_cons_succ, List.set, ex_bl, ex_int, ex_str, ex_tup, ex_eq, ex_cons, ex_pair, ex_one1, ex_one_int, and_tt, truA_bl, truOk_bl, truA_int, truOk_int, truA_lst, truOk_lst, truA_tup, truOk_tup, truA_refU, truOk_refU, Bool.not_true, Bool.not_false,  addA_ii, addA_ss, addA_tt, addA_ll, intA_ii, int2A_ii, subA_ii, mulA_ii, modA_ii, fdivA_ii, powA_ii, negA_i, ltA_ii, leA_ii, gtA_ii, geA_ii, ltA_ss, leA_ss, gtA_ss, geA_ss, isA, isntA, nonA, isiA_non, isiA_bl, isiA_int, isiA_str, isiA_tup, isiA_lst, isiA_rol, lenA_str, lenA_tup, lenA_lst, lenA_rol, absA_i, toIntA_i, toIntA_b, isIntA, isiB, String.reduceBEq, List.contains_cons, List.contains_nil, Bool.or_true, Bool.true_or, Bool.or_false, Bool.false_or, Bool.and_true, Bool.true_and, Bool.and_false, Bool.false_and, Bool.not_eq_true, if_true, if_false, decide_true, decide_false, Bool.false_eq_true, eq_self, reduceCtorEq, true_and, false_and, and_false, badA, exists_false, aFld, aPut, agFld, aPutAug, aMeth, aMake, mulX_ii, mulX_si, mulX_li, strA_i, strA_s, intXA_i, intXA_b, isBA_bb, isntBA_bb, aPar3, ex_tri, inA_tup, inA_lst, ninA_tup, ninA_lst, shrA_ii, andA_ii, aFor_tup, aFor_lst, aFor_enum, aLcF_lst, aLcF_tup, aLcF_rng, aLcP_lst, aLcP_tup, aLcP_enum, ]
    refine ⟨p, t, _, N, rfl, by omega, by omega, hp, ok, hN, fun t' r ok' h0 h1 => ?_⟩
    obtain ⟨y, hy, he⟩ := ixA_lst (S := updS S p (potO t')) h0 h1
    rw [he]
    exact ⟨trivial, rt_same (q t' _ ok' hy)⟩
  | tup ys =>
    cases hx
    have hz0 : 0 < xs.length := List.length_pos_iff.mpr hne
    simp only [↓ite_bc, bc_t, bc_f, aFor_rng, lstA_lst, lstA_rol, aLcS_rng, eqA_ii, eqA_ss, neA_ii, neA_ss, updS_same, updS_updS, startA, List.map_cons, List.map_nil, List.cons_append, List.nil_append, List.length_cons, List.length_nil, Nat.zero_add, Nat.add_zero, Nat.reduceAdd, Nat.reduceSub, List.replicate_succ, List.replicate_zero, List.replicate,  aVar_z, aVar_s, aC, aNil, aCons, aTup, aLstV, aLst, aOp, aUn, aTru, aTst, aCmp, aChn, aChnT, aAnd, aOr, aNot, aIf, aAndV, aOrV, aNotV, aCB, aCall, aNext, aSeq, aBrk, aCnt, aRet, aRetN, aIfS, aNev,  agName, agNil, agCons, agTup, aAsg, aPar, aDrop, aCallK, aCallKn, aM, aM0, aAddS, aYes, one1, one2, wipeA, aRevT, aRevL, agSub_def, aSl, aPart, aNoPart, cutAns_rol, cutAns_lst, cutAns_tup, cutAns_str, aLstRg, aRg1, ex_some, tupleA_lst, tupleA_tup, wstA_lst,  List.set_cons_zero, List.set_cons_succ, List.set, ex_bl, ex_int, ex_str, ex_tup, ex_eq, ex_cons, ex_pair, ex_one1, ex_one_int, and_tt, truA_bl, truOk_bl, truA_int, truOk_int, truA_lst, truOk_lst, truA_tup, truOk_tup, truA_refU, truOk_refU, Bool.not_true, Bool.not_false,  addA_ii, addA_ss, addA_tt, addA_ll, intA_ii, int2A_ii, subA_ii, mulA_ii, modA_ii, fdivA_ii, powA_ii, negA_i, ltA_ii, leA_ii, gtA_ii, geA_ii, ltA_ss, leA_ss, gtA_ss, geA_ss, isA, isntA, nonA, isiA_non, isiA_bl, isiA_int, isiA_str, isiA_tup, isiA_lst, isiA_rol, lenA_str, lenA_tup, lenA_lst, lenA_rol, absA_i, toIntA_i, toIntA_b, isIntA, isiB, String.reduceBEq, List.contains_cons, List.contains_nil, Bool.or_true, Bool.true_or, Bool.or_false, Bool.false_or, Bool.and_true, Bool.true_and, Bool.and_false, Bool.false_and, Bool.not_eq_true, if_true, if_false, decide_true, decide_false, Bool.false_eq_true, eq_self, reduceCtorEq, true_and, false_and, and_false, badA, exists_false, aFld, aPut, agFld, aPutAug, aMeth, aMake, mulX_ii, mulX_si, mulX_li, strA_i, strA_s, intXA_i, intXA_b, isBA_bb, isntBA_bb, aPar3, ex_tri, inA_tup, inA_lst, ninA_tup, ninA_lst, shrA_ii, andA_ii, aFor_tup, aFor_lst, aFor_enum, aLcF_lst, aLcF_tup, aLcF_rng, aLcP_lst, aLcP_tup, aLcP_enum, ]
    refine ⟨p, t, _, N, rfl, by omega, by omega, hp, ok, hN, fun t' r ok' h0 h1 => ?_⟩
    obtain ⟨y, hy, he⟩ := ixA_tup (S := updS S p (potO t')) h0 h1
    rw [he]
    exact ⟨trivial, rt_same (q t' _ ok' hy)⟩
  | _ => cases hx
def sp__law_cells : ASp := fun ds S Q => ∃ (ns : List Int) (m : Nat), ds = [.rol (ns.map .int), .int m] ∧ 0 < m ∧ m < 1000 ∧ ns.length ≤ 63 ∧ ∀ n : Nat, 0 < n → n ≤ m → Q (.lst (rngA 0 n)) S
set_option maxHeartbeats 4000000 in
theorem fn__law_cells (T : Txt K mg)  : FnX P w K mg base 1 "_law_cells" st__law_cells ["script", "most"] sp__law_cells := by
  refine FnX.of T.d__law_cells fun f fd F => F.ok4 sc__law_cells (fun ds S Q h => by unfold sp__law_cells at h; first | (obtain ⟨_, rfl, _⟩ := h; rfl) | (obtain ⟨_, _, rfl, _⟩ := h; rfl) | (obtain ⟨_, _, _, rfl, _⟩ := h; rfl) | (obtain ⟨_, _, _, _, rfl, _⟩ := h; rfl) | (obtain ⟨_, _, _, _, _, rfl, _⟩ := h; rfl) | (obtain ⟨_, _, _, _, _, _, rfl, _⟩ := h; rfl) | (obtain ⟨_, _, _, _, _, _, _, rfl, _⟩ := h; rfl)) fun cdv A gd out s H E hr => ?_
  refine ⟨_, (s_one (s_ret (e_lstRg1 rfl T.n_list T.n_range (e_cb (c_max2 rfl) T.n_max (by decide +kernel) (a_cons e_int (a_cons (e_cb (c_min2 rfl) T.n_min (by decide +kernel) (a_cons (e_var 1) (a_cons (e_cb c_len T.n_len (by decide +kernel) (a_cons (e_var 0) a_nil)) a_nil))) a_nil)))))), ?_⟩
  rintro _ S Q ⟨ns, m, rfl, hm, hm2, hl, q⟩
  walk_at "rd"
  rw [List.length_map]
  have e : ∃ n : Nat, 0 < n ∧ n ≤ m ∧ (if (if (ns.length : Int) < (m : Int) then (ns.length : Int) else (m : Int)) > 1 then (if (ns.length : Int) < (m : Int) then (ns.length : Int) else (m : Int)) else 1) = (n : Int) := by
    by_cases h1 : (ns.length : Int) < m
    · rw [if_pos h1]
      by_cases h2 : (ns.length : Int) > 1
      · exact ⟨ns.length, by omega, by omega, by rw [if_pos h2]⟩
      · exact ⟨1, by omega, by omega, by rw [if_neg h2]; rfl⟩
    · rw [if_neg h1]
      by_cases h2 : (m : Int) > 1
      · exact ⟨m, by omega, by omega, by rw [if_pos h2]⟩
      · exact ⟨1, by omega, by omega, by rw [if_neg h2]; rfl⟩
  obtain ⟨n, hn0, hn1, he⟩ := e
  rw [he]
  have e2 : ((n : Int) - 0).toNat = n := by omega
  rw [e2]
  exact ⟨by unfold RgOk; omega, rt_same (q n hn0 hn1)⟩
def sp__law_row_of : ASp := fun ds S Q => ∃ m o, ds = [madeA m, oN o] ∧ WF m ∧ Lt m o ∧ m.length ≤ 1000 ∧ Q (.lst ((rowO m o).reverse.map fun n => .int (n : Nat))) S
set_option maxHeartbeats 4000000 in
theorem fn__law_row_of (T : Txt K mg)  : FnX P w K mg base 1 "_law_row_of" st__law_row_of ["made", "number"] sp__law_row_of := by
  refine FnX.of T.d__law_row_of fun f fd F => F.ok4 sc__law_row_of (fun ds S Q h => by unfold sp__law_row_of at h; first | (obtain ⟨_, rfl, _⟩ := h; rfl) | (obtain ⟨_, _, rfl, _⟩ := h; rfl) | (obtain ⟨_, _, _, rfl, _⟩ := h; rfl) | (obtain ⟨_, _, _, _, rfl, _⟩ := h; rfl) | (obtain ⟨_, _, _, _, _, rfl, _⟩ := h; rfl) | (obtain ⟨_, _, _, _, _, _, rfl, _⟩ := h; rfl) | (obtain ⟨_, _, _, _, _, _, _, rfl, _⟩ := h; rfl)) fun cdv A gd out s H E hr => ?_
  refine ⟨_, (s_cons (s_set 2 sc__law_row_of.nd (e_lst a_nil))
    (s_cons (s_while PassesOwn.never (t_cmp o_isnt (e_var 1) e_non) (s_cons (s_expr (e_bm PySem.F.plainAttrs_list PySem.F.slot_list_append PySem.F.type_list_append m_append (e_var 2) (a_cons (e_var 1) a_nil)))
    (s_one (s_set 1 sc__law_row_of.nd (e_ix o_ix (e_ix o_ix (e_var 0) (e_var 1)) e_int)))))
    (s_one (s_ret (e_revL (e_var 2)))))), ?_⟩
  rintro _ S Q ⟨m, o, rfl, w, ho, hm, q⟩
  simp only [↓ite_bc, bc_t, bc_f, aFor_rng, lstA_lst, lstA_rol, aLcS_rng, eqA_ii, eqA_ss, neA_ii, neA_ss, updS_same, updS_updS, startA, List.map_cons, List.map_nil, List.cons_append, List.nil_append, List.length_cons, List.length_nil, Nat.zero_add, Nat.add_zero, Nat.reduceAdd, Nat.reduceSub, List.replicate_succ, List.replicate_zero, List.replicate,  aVar_z, aVar_s, aC, aNil, aCons, aTup, aLstV, aLst, aOp, aUn, aTru, aTst, aCmp, aChn, aChnT, aAnd, aOr, aNot, aIf, aAndV, aOrV, aNotV, aCB, aCall, aNext, aSeq, aBrk, aCnt, aRet, aRetN, aIfS, aNev,  agName, agNil, agCons, agTup, aAsg, aPar, aDrop, aCallK, aCallKn, aM, aM0, aAddS, aYes, one1, one2, wipeA, aRevT, aRevL, agSub_def, aSl, aPart, aNoPart, cutAns_rol, cutAns_lst, cutAns_tup, cutAns_str, aLstRg, aRg1, ex_some, tupleA_lst, tupleA_tup, wstA_lst,  List.set_cons_zero, List.set_cons_succ, List.set, ex_bl, ex_int, ex_str, ex_tup, ex_eq, ex_cons, ex_pair, ex_one1, ex_one_int, and_tt, truA_bl, truOk_bl, truA_int, truOk_int, truA_lst, truOk_lst, truA_tup, truOk_tup, truA_refU, truOk_refU, Bool.not_true, Bool.not_false,  addA_ii, addA_ss, addA_tt, addA_ll, intA_ii, int2A_ii, subA_ii, mulA_ii, modA_ii, fdivA_ii, powA_ii, negA_i, ltA_ii, leA_ii, gtA_ii, geA_ii, ltA_ss, leA_ss, gtA_ss, geA_ss, isA, isntA, nonA, isiA_non, isiA_bl, isiA_int, isiA_str, isiA_tup, isiA_lst, isiA_rol, lenA_str, lenA_tup, lenA_lst, lenA_rol, absA_i, toIntA_i, toIntA_b, isIntA, isiB, String.reduceBEq, List.contains_cons, List.contains_nil, Bool.or_true, Bool.true_or, Bool.or_false, Bool.false_or, Bool.and_true, Bool.true_and, Bool.and_false, Bool.false_and, Bool.not_eq_true, if_true, if_false, decide_true, decide_false, Bool.false_eq_true, eq_self, reduceCtorEq, true_and, false_and, and_false, badA, exists_false, aFld, aPut, agFld, aPutAug, aMeth, aMake, mulX_ii, mulX_si, mulX_li, strA_i, strA_s, intXA_i, intXA_b, isBA_bb, isntBA_bb, aPar3, ex_tri, inA_tup, inA_lst, ninA_tup, ninA_lst, shrA_ii, andA_ii, aFor_tup, aFor_lst, aFor_enum, aLcF_lst, aLcF_tup, aLcF_rng, aLcP_lst, aLcP_tup, aLcP_enum, Int.cast_ofNat_Int, Int.reduceEq, Int.reduceLT, Int.reduceLE, Int.reduceNeg, Int.reduceAdd, Int.reduceSub]
  refine ⟨le_sl (by decide), fun l hl => ?_⟩
  refine ⟨fun k τ S' => ∃ (found : List Nat) (o' : Option Nat), τ = [some (madeA m), some (oN o'), some (.ref l)] ∧ S' = updS S l (.lst (found.map fun n => .int (n : Nat))) ∧ found ++ rowO m o' = rowO m o ∧ Lt m o' ∧ k = (rowO m o').length,
    ⟨_, [], o, rfl, rfl, rfl, ho, rfl⟩, ?_⟩
  rintro k _ _ ⟨found, o', rfl, rfl, he, ho', rfl⟩
  simp only [↓ite_bc, bc_t, bc_f, aFor_rng, lstA_lst, lstA_rol, aLcS_rng, eqA_ii, eqA_ss, neA_ii, neA_ss, updS_same, updS_updS, startA, List.map_cons, List.map_nil, List.cons_append, List.nil_append, List.length_cons, List.length_nil, Nat.zero_add, Nat.add_zero, Nat.reduceAdd, Nat.reduceSub, List.replicate_succ, List.replicate_zero, List.replicate,  aVar_z, aVar_s, aC, aNil, aCons, aTup, aLstV, aLst, aOp, aUn, aTru, aTst, aCmp, aChn, aChnT, aAnd, aOr, aNot, aIf, aAndV, aOrV, aNotV, aCB, aCall, aNext, aSeq, aBrk, aCnt, aRet, aRetN, aIfS, aNev,  agName, agNil, agCons, agTup, aAsg, aPar, aDrop, aCallK, aCallKn, aM, aM0, aAddS, aYes, one1, one2, wipeA, aRevT, aRevL, agSub_def, aSl, aPart, aNoPart, cutAns_rol, cutAns_lst, cutAns_tup, cutAns_str, aLstRg, aRg1, ex_some, tupleA_lst, tupleA_tup, wstA_lst,  List.set_cons_zero, List.set_cons_succ, List.set, ex_bl, ex_int, ex_str, ex_tup, ex_eq, ex_cons, ex_pair, ex_one1, ex_one_int, and_tt, truA_bl, truOk_bl, truA_int, truOk_int, truA_lst, truOk_lst, truA_tup, truOk_tup, truA_refU, truOk_refU, Bool.not_true, Bool.not_false,  addA_ii, addA_ss, addA_tt, addA_ll, intA_ii, int2A_ii, subA_ii, mulA_ii, modA_ii, fdivA_ii, powA_ii, negA_i, ltA_ii, leA_ii, gtA_ii, geA_ii, ltA_ss, leA_ss, gtA_ss, geA_ss, isA, isntA, nonA, isiA_non, isiA_bl, isiA_int, isiA_str, isiA_tup, isiA_lst, isiA_rol, lenA_str, lenA_tup, lenA_lst, lenA_rol, absA_i, toIntA_i, toIntA_b, isIntA, isiB, String.reduceBEq, List.contains_cons, List.contains_nil, Bool.or_true, Bool.true_or, Bool.or_false, Bool.false_or, Bool.and_true, Bool.true_and, Bool.and_false, Bool.false_and, Bool.not_eq_true, if_true, if_false, decide_true, decide_false, Bool.false_eq_true, eq_self, reduceCtorEq, true_and, false_and, and_false, badA, exists_false, aFld, aPut, agFld, aPutAug, aMeth, aMake, mulX_ii, mulX_si, mulX_li, strA_i, strA_s, intXA_i, intXA_b, isBA_bb, isntBA_bb, aPar3, ex_tri, inA_tup, inA_lst, ninA_tup, ninA_lst, shrA_ii, andA_ii, aFor_tup, aFor_lst, aFor_enum, aLcF_lst, aLcF_tup, aLcF_rng, aLcP_lst, aLcP_tup, aLcP_enum, Int.cast_ofNat_Int, Int.reduceEq, Int.reduceLT, Int.reduceLE, Int.reduceNeg, Int.reduceAdd, Int.reduceSub, nonA_oN]
  have hlen : found.length ≤ 1000 := by
    have h1 := row_len w m.length o ho
    have h2 := congrArg List.length he
    rw [List.length_append] at h2
    omega
  cases o' with
  | none =>
    simp only [↓ite_bc, bc_t, bc_f, aFor_rng, lstA_lst, lstA_rol, aLcS_rng, eqA_ii, eqA_ss, neA_ii, neA_ss, updS_same, updS_updS, startA, List.map_cons, List.map_nil, List.cons_append, List.nil_append, List.length_cons, List.length_nil, Nat.zero_add, Nat.add_zero, Nat.reduceAdd, Nat.reduceSub, List.replicate_succ, List.replicate_zero, List.replicate,  aVar_z, aVar_s, aC, aNil, aCons, aTup, aLstV, aLst, aOp, aUn, aTru, aTst, aCmp, aChn, aChnT, aAnd, aOr, aNot, aIf, aAndV, aOrV, aNotV, aCB, aCall, aNext, aSeq, aBrk, aCnt, aRet, aRetN, aIfS, aNev,  agName, agNil, agCons, agTup, aAsg, aPar, aDrop, aCallK, aCallKn, aM, aM0, aAddS, aYes, one1, one2, wipeA, aRevT, aRevL, agSub_def, aSl, aPart, aNoPart, cutAns_rol, cutAns_lst, cutAns_tup, cutAns_str, aLstRg, aRg1, ex_some, tupleA_lst, tupleA_tup, wstA_lst,  List.set_cons_zero, List.set_cons_succ, List.set, ex_bl, ex_int, ex_str, ex_tup, ex_eq, ex_cons, ex_pair, ex_one1, ex_one_int, and_tt, truA_bl, truOk_bl, truA_int, truOk_int, truA_lst, truOk_lst, truA_tup, truOk_tup, truA_refU, truOk_refU, Bool.not_true, Bool.not_false,  addA_ii, addA_ss, addA_tt, addA_ll, intA_ii, int2A_ii, subA_ii, mulA_ii, modA_ii, fdivA_ii, powA_ii, negA_i, ltA_ii, leA_ii, gtA_ii, geA_ii, ltA_ss, leA_ss, gtA_ss, geA_ss, isA, isntA, nonA, isiA_non, isiA_bl, isiA_int, isiA_str, isiA_tup, isiA_lst, isiA_rol, lenA_str, lenA_tup, lenA_lst, lenA_rol, absA_i, toIntA_i, toIntA_b, isIntA, isiB, String.reduceBEq, List.contains_cons, List.contains_nil, Bool.or_true, Bool.true_or, Bool.or_false, Bool.false_or, Bool.and_true, Bool.true_and, Bool.and_false, Bool.false_and, Bool.not_eq_true, if_true, if_false, decide_true, decide_false, Bool.false_eq_true, eq_self, reduceCtorEq, true_and, false_and, and_false, badA, exists_false, aFld, aPut, agFld, aPutAug, aMeth, aMake, mulX_ii, mulX_si, mulX_li, strA_i, strA_s, intXA_i, intXA_b, isBA_bb, isntBA_bb, aPar3, ex_tri, inA_tup, inA_lst, ninA_tup, ninA_lst, shrA_ii, andA_ii, aFor_tup, aFor_lst, aFor_enum, aLcF_lst, aLcF_tup, aLcF_rng, aLcP_lst, aLcP_tup, aLcP_enum, Int.cast_ofNat_Int, Int.reduceEq, Int.reduceLT, Int.reduceLE, Int.reduceNeg, Int.reduceAdd, Int.reduceSub, show oN none = AV.non from rfl]
    refine ⟨_, lstA_ref updS_same, ?_⟩
    have e : found = rowO m o := by rw [← he]; show found = found ++ []; rw [List.append_nil]
    subst e
    rw [← List.map_reverse]
    exact rt_new hl q
  | some n =>
    have hn := ho' n rfl
    have hr := row_eq w n
    simp only [↓ite_bc, bc_t, bc_f, aFor_rng, lstA_lst, lstA_rol, aLcS_rng, eqA_ii, eqA_ss, neA_ii, neA_ss, updS_same, updS_updS, startA, List.map_cons, List.map_nil, List.cons_append, List.nil_append, List.length_cons, List.length_nil, Nat.zero_add, Nat.add_zero, Nat.reduceAdd, Nat.reduceSub, List.replicate_succ, List.replicate_zero, List.replicate,  aVar_z, aVar_s, aC, aNil, aCons, aTup, aLstV, aLst, aOp, aUn, aTru, aTst, aCmp, aChn, aChnT, aAnd, aOr, aNot, aIf, aAndV, aOrV, aNotV, aCB, aCall, aNext, aSeq, aBrk, aCnt, aRet, aRetN, aIfS, aNev,  agName, agNil, agCons, agTup, aAsg, aPar, aDrop, aCallK, aCallKn, aM, aM0, aAddS, aYes, one1, one2, wipeA, aRevT, aRevL, agSub_def, aSl, aPart, aNoPart, cutAns_rol, cutAns_lst, cutAns_tup, cutAns_str, aLstRg, aRg1, ex_some, tupleA_lst, tupleA_tup, wstA_lst,  List.set_cons_zero, List.set_cons_succ, List.set, ex_bl, ex_int, ex_str, ex_tup, ex_eq, ex_cons, ex_pair, ex_one1, ex_one_int, and_tt, truA_bl, truOk_bl, truA_int, truOk_int, truA_lst, truOk_lst, truA_tup, truOk_tup, truA_refU, truOk_refU, Bool.not_true, Bool.not_false,  addA_ii, addA_ss, addA_tt, addA_ll, intA_ii, int2A_ii, subA_ii, mulA_ii, modA_ii, fdivA_ii, powA_ii, negA_i, ltA_ii, leA_ii, gtA_ii, geA_ii, ltA_ss, leA_ss, gtA_ss, geA_ss, isA, isntA, nonA, isiA_non, isiA_bl, isiA_int, isiA_str, isiA_tup, isiA_lst, isiA_rol, lenA_str, lenA_tup, lenA_lst, lenA_rol, absA_i, toIntA_i, toIntA_b, isIntA, isiB, String.reduceBEq, List.contains_cons, List.contains_nil, Bool.or_true, Bool.true_or, Bool.or_false, Bool.false_or, Bool.and_true, Bool.true_and, Bool.and_false, Bool.false_and, Bool.not_eq_true, if_true, if_false, decide_true, decide_false, Bool.false_eq_true, eq_self, reduceCtorEq, true_and, false_and, and_false, badA, exists_false, aFld, aPut, agFld, aPutAug, aMeth, aMake, mulX_ii, mulX_si, mulX_li, strA_i, strA_s, intXA_i, intXA_b, isBA_bb, isntBA_bb, aPar3, ex_tri, inA_tup, inA_lst, ninA_tup, ninA_lst, shrA_ii, andA_ii, aFor_tup, aFor_lst, aFor_enum, aLcF_lst, aLcF_tup, aLcF_rng, aLcP_lst, aLcP_tup, aLcP_enum, Int.cast_ofNat_Int, Int.reduceEq, Int.reduceLT, Int.reduceLE, Int.reduceNeg, Int.reduceAdd, Int.reduceSub, show oN (some n) = .int n from rfl]
    refine ⟨tyL updS_same, l, _, _, rfl, rfl, updS_same, by have := le_sl (n := 16777216) (by omega); rw [List.length_map]; omega, ?_⟩
    simp only [↓ite_bc, bc_t, bc_f, aFor_rng, lstA_lst, lstA_rol, aLcS_rng, eqA_ii, eqA_ss, neA_ii, neA_ss, updS_same, updS_updS, startA, List.map_cons, List.map_nil, List.cons_append, List.nil_append, List.length_cons, List.length_nil, Nat.zero_add, Nat.add_zero, Nat.reduceAdd, Nat.reduceSub, List.replicate_succ, List.replicate_zero, List.replicate,  aVar_z, aVar_s, aC, aNil, aCons, aTup, aLstV, aLst, aOp, aUn, aTru, aTst, aCmp, aChn, aChnT, aAnd, aOr, aNot, aIf, aAndV, aOrV, aNotV, aCB, aCall, aNext, aSeq, aBrk, aCnt, aRet, aRetN, aIfS, aNev,  agName, agNil, agCons, agTup, aAsg, aPar, aDrop, aCallK, aCallKn, aM, aM0, aAddS, aYes, one1, one2, wipeA, aRevT, aRevL, agSub_def, aSl, aPart, aNoPart, cutAns_rol, cutAns_lst, cutAns_tup, cutAns_str, aLstRg, aRg1, ex_some, tupleA_lst, tupleA_tup, wstA_lst,  List.set_cons_zero, List.set_cons_succ, List.set, ex_bl, ex_int, ex_str, ex_tup, ex_eq, ex_cons, ex_pair, ex_one1, ex_one_int, and_tt, truA_bl, truOk_bl, truA_int, truOk_int, truA_lst, truOk_lst, truA_tup, truOk_tup, truA_refU, truOk_refU, Bool.not_true, Bool.not_false,  addA_ii, addA_ss, addA_tt, addA_ll, intA_ii, int2A_ii, subA_ii, mulA_ii, modA_ii, fdivA_ii, powA_ii, negA_i, ltA_ii, leA_ii, gtA_ii, geA_ii, ltA_ss, leA_ss, gtA_ss, geA_ss, isA, isntA, nonA, isiA_non, isiA_bl, isiA_int, isiA_str, isiA_tup, isiA_lst, isiA_rol, lenA_str, lenA_tup, lenA_lst, lenA_rol, absA_i, toIntA_i, toIntA_b, isIntA, isiB, String.reduceBEq, List.contains_cons, List.contains_nil, Bool.or_true, Bool.true_or, Bool.or_false, Bool.false_or, Bool.and_true, Bool.true_and, Bool.and_false, Bool.false_and, Bool.not_eq_true, if_true, if_false, decide_true, decide_false, Bool.false_eq_true, eq_self, reduceCtorEq, true_and, false_and, and_false, badA, exists_false, aFld, aPut, agFld, aPutAug, aMeth, aMake, mulX_ii, mulX_si, mulX_li, strA_i, strA_s, intXA_i, intXA_b, isBA_bb, isntBA_bb, aPar3, ex_tri, inA_tup, inA_lst, ninA_tup, ninA_lst, shrA_ii, andA_ii, aFor_tup, aFor_lst, aFor_enum, aLcF_lst, aLcF_tup, aLcF_rng, aLcP_lst, aLcP_tup, aLcP_enum, Int.cast_ofNat_Int, Int.reduceEq, Int.reduceLT, Int.reduceLE, Int.reduceNeg, Int.reduceAdd, Int.reduceSub, ix_made hn, ix2_1]
    refine ⟨_, ?_, found ++ [n], par m n, rfl, ?_, ?_, par_lt w hn, rfl⟩
    · rw [hr]; exact Nat.lt_succ_self _
    · rw [List.map_append]; rfl
    · rw [← he, hr, List.append_assoc]; rfl
def sp__law_counts_of : ASp := fun ds S Q => ∃ m o, ds = [madeA m, oN o] ∧ WF m ∧ Lt m o ∧ m.length ≤ 1000 ∧ Q (cntA m o) S
set_option maxHeartbeats 4000000 in
theorem fn__law_counts_of (T : Txt K mg) (F__law_row_of : Fn4 P w K mg base 1 "_law_row_of" ["made", "number"] sp__law_row_of) : FnX P w K mg base 2 "_law_counts_of" st__law_counts_of ["made", "number"] sp__law_counts_of := by
  refine FnX.of T.d__law_counts_of fun f fd F => F.ok4 sc__law_counts_of (fun ds S Q h => by unfold sp__law_counts_of at h; first | (obtain ⟨_, rfl, _⟩ := h; rfl) | (obtain ⟨_, _, rfl, _⟩ := h; rfl) | (obtain ⟨_, _, _, rfl, _⟩ := h; rfl) | (obtain ⟨_, _, _, _, rfl, _⟩ := h; rfl) | (obtain ⟨_, _, _, _, _, rfl, _⟩ := h; rfl) | (obtain ⟨_, _, _, _, _, _, rfl, _⟩ := h; rfl) | (obtain ⟨_, _, _, _, _, _, _, rfl, _⟩ := h; rfl)) fun cdv A gd out s H E hr => ?_
  refine ⟨_, (s_cons (s_setLc 2 3 [("one", 3)] rfl sc__law_counts_of.nd (i_lst (f_call F__law_row_of gd (hr.mono (by decide)) (a_cons (e_var 0) (a_cons (e_var 1) a_nil)))) (blkOk_by (N := nm__law_counts_of) (sc := defScope st__law_counts_of) (by decide +kernel)) (fun _ _ _ _ _ => pg_name sc__law_counts_of.nd rfl (Or.inl rfl)) (fun _ _ _ _ _ => ts_nil) (fun _ _ _ _ _ => (e_ix o_ix (e_ix o_ix (e_var 0) (e_var 3)) e_int)))
    (s_one (s_ret (e_tup (a_cons (e_bm PySem.F.plainAttrs_list PySem.F.slot_list_count PySem.F.type_list_count m_count (e_var 2) (a_cons e_int a_nil)) (a_cons (e_bm PySem.F.plainAttrs_list PySem.F.slot_list_count PySem.F.type_list_count m_count (e_var 2) (a_cons e_int a_nil)) a_nil)))))), ?_⟩
  rintro _ S Q ⟨m, o, rfl, w, ho, hm, q⟩
  simp only [↓ite_bc, bc_t, bc_f, aFor_rng, lstA_lst, lstA_rol, aLcS_rng, eqA_ii, eqA_ss, neA_ii, neA_ss, updS_same, updS_updS, startA, List.map_cons, List.map_nil, List.cons_append, List.nil_append, List.length_cons, List.length_nil, Nat.zero_add, Nat.add_zero, Nat.reduceAdd, Nat.reduceSub, List.replicate_succ, List.replicate_zero, List.replicate,  aVar_z, aVar_s, aC, aNil, aCons, aTup, aLstV, aLst, aOp, aUn, aTru, aTst, aCmp, aChn, aChnT, aAnd, aOr, aNot, aIf, aAndV, aOrV, aNotV, aCB, aCall, aNext, aSeq, aBrk, aCnt, aRet, aRetN, aIfS, aNev,  agName, agNil, agCons, agTup, aAsg, aPar, aDrop, aCallK, aCallKn, aM, aM0, aAddS, aYes, one1, one2, wipeA, aRevT, aRevL, agSub_def, aSl, aPart, aNoPart, cutAns_rol, cutAns_lst, cutAns_tup, cutAns_str, aLstRg, aRg1, ex_some, tupleA_lst, tupleA_tup, wstA_lst,  List.set_cons_zero, List.set_cons_succ, List.set, ex_bl, ex_int, ex_str, ex_tup, ex_eq, ex_cons, ex_pair, ex_one1, ex_one_int, and_tt, truA_bl, truOk_bl, truA_int, truOk_int, truA_lst, truOk_lst, truA_tup, truOk_tup, truA_refU, truOk_refU, Bool.not_true, Bool.not_false,  addA_ii, addA_ss, addA_tt, addA_ll, intA_ii, int2A_ii, subA_ii, mulA_ii, modA_ii, fdivA_ii, powA_ii, negA_i, ltA_ii, leA_ii, gtA_ii, geA_ii, ltA_ss, leA_ss, gtA_ss, geA_ss, isA, isntA, nonA, isiA_non, isiA_bl, isiA_int, isiA_str, isiA_tup, isiA_lst, isiA_rol, lenA_str, lenA_tup, lenA_lst, lenA_rol, absA_i, toIntA_i, toIntA_b, isIntA, isiB, String.reduceBEq, List.contains_cons, List.contains_nil, Bool.or_true, Bool.true_or, Bool.or_false, Bool.false_or, Bool.and_true, Bool.true_and, Bool.and_false, Bool.false_and, Bool.not_eq_true, if_true, if_false, decide_true, decide_false, Bool.false_eq_true, eq_self, reduceCtorEq, true_and, false_and, and_false, badA, exists_false, aFld, aPut, agFld, aPutAug, aMeth, aMake, mulX_ii, mulX_si, mulX_li, strA_i, strA_s, intXA_i, intXA_b, isBA_bb, isntBA_bb, aPar3, ex_tri, inA_tup, inA_lst, ninA_tup, ninA_lst, shrA_ii, andA_ii, aFor_tup, aFor_lst, aFor_enum, aLcF_lst, aLcF_tup, aLcF_rng, aLcP_lst, aLcP_tup, aLcP_enum, Int.cast_ofNat_Int, Int.reduceEq, Int.reduceLT, Int.reduceLE, Int.reduceNeg, Int.reduceAdd, Int.reduceSub]
  refine ⟨m, o, rfl, w, ho, hm, _, rfl, ?_⟩
  have hl := row_len w m.length o ho
  refine lcF_allM (fun n : Nat => .int (n : Nat)) (fun n => dk (dsk m n)) (le_sl (by rw [List.length_reverse]; omega)) (fun _ _ => rfl) (fun n hn Sx Qe h => ?_) ?_
  · have hn := row_mem_lt w ho (List.mem_reverse.mp hn)
    simp only [↓ite_bc, bc_t, bc_f, aFor_rng, lstA_lst, lstA_rol, aLcS_rng, eqA_ii, eqA_ss, neA_ii, neA_ss, updS_same, updS_updS, startA, List.map_cons, List.map_nil, List.cons_append, List.nil_append, List.length_cons, List.length_nil, Nat.zero_add, Nat.add_zero, Nat.reduceAdd, Nat.reduceSub, List.replicate_succ, List.replicate_zero, List.replicate,  aVar_z, aVar_s, aC, aNil, aCons, aTup, aLstV, aLst, aOp, aUn, aTru, aTst, aCmp, aChn, aChnT, aAnd, aOr, aNot, aIf, aAndV, aOrV, aNotV, aCB, aCall, aNext, aSeq, aBrk, aCnt, aRet, aRetN, aIfS, aNev,  agName, agNil, agCons, agTup, aAsg, aPar, aDrop, aCallK, aCallKn, aM, aM0, aAddS, aYes, one1, one2, wipeA, aRevT, aRevL, agSub_def, aSl, aPart, aNoPart, cutAns_rol, cutAns_lst, cutAns_tup, cutAns_str, aLstRg, aRg1, ex_some, tupleA_lst, tupleA_tup, wstA_lst,  List.set_cons_zero, List.set_cons_succ, List.set, ex_bl, ex_int, ex_str, ex_tup, ex_eq, ex_cons, ex_pair, ex_one1, ex_one_int, and_tt, truA_bl, truOk_bl, truA_int, truOk_int, truA_lst, truOk_lst, truA_tup, truOk_tup, truA_refU, truOk_refU, Bool.not_true, Bool.not_false,  addA_ii, addA_ss, addA_tt, addA_ll, intA_ii, int2A_ii, subA_ii, mulA_ii, modA_ii, fdivA_ii, powA_ii, negA_i, ltA_ii, leA_ii, gtA_ii, geA_ii, ltA_ss, leA_ss, gtA_ss, geA_ss, isA, isntA, nonA, isiA_non, isiA_bl, isiA_int, isiA_str, isiA_tup, isiA_lst, isiA_rol, lenA_str, lenA_tup, lenA_lst, lenA_rol, absA_i, toIntA_i, toIntA_b, isIntA, isiB, String.reduceBEq, List.contains_cons, List.contains_nil, Bool.or_true, Bool.true_or, Bool.or_false, Bool.false_or, Bool.and_true, Bool.true_and, Bool.and_false, Bool.false_and, Bool.not_eq_true, if_true, if_false, decide_true, decide_false, Bool.false_eq_true, eq_self, reduceCtorEq, true_and, false_and, and_false, badA, exists_false, aFld, aPut, agFld, aPutAug, aMeth, aMake, mulX_ii, mulX_si, mulX_li, strA_i, strA_s, intXA_i, intXA_b, isBA_bb, isntBA_bb, aPar3, ex_tri, inA_tup, inA_lst, ninA_tup, ninA_lst, shrA_ii, andA_ii, aFor_tup, aFor_lst, aFor_enum, aLcF_lst, aLcF_tup, aLcF_rng, aLcP_lst, aLcP_tup, aLcP_enum, Int.cast_ofNat_Int, Int.reduceEq, Int.reduceLT, Int.reduceLE, Int.reduceNeg, Int.reduceAdd, Int.reduceSub, ix_made hn, ix2_0]
    exact h
  · have e : ((rowO m o).reverse.map fun n => dk (dsk m n)) = ((rowO m o).reverse.map fun n => (if dsk m n then (1 : Int) else 0)).map .int := by rw [List.map_map]; rfl
    rw [e]
    refine ⟨rfl, _, 0, rfl, rfl, ?_⟩
    refine ⟨rfl, _, 1, rfl, rfl, ?_⟩
    refine ⟨le_sl (by decide), ?_⟩
    have e0 := cnt_count (m := m) (o := o) false
    have e1 := cnt_count (m := m) (o := o) true
    simp only [Bool.false_eq_true, if_false, if_true] at e0 e1
    rw [e0, e1]
    exact rt_same q
def sp__law_begin : ASp := fun ds S Q => ds = [] ∧ Q (stA ⟨[], none, none, false, false, none⟩) S
set_option maxHeartbeats 4000000 in
theorem fn__law_begin (T : Txt K mg)  : FnX P w K mg base 1 "_law_begin" st__law_begin [] sp__law_begin := by
  refine FnX.of T.d__law_begin fun f fd F => F.ok4 sc__law_begin (fun ds S Q h => by obtain ⟨rfl, _⟩ := h; rfl) fun cdv A gd out s H E hr => ?_
  refine ⟨_, (s_one (s_ret (e_tup (a_cons (e_tup a_nil) (a_cons (e_tup (a_cons e_non (a_cons e_non a_nil))) (a_cons (e_tup (a_cons e_bl (a_cons e_bl a_nil))) (a_cons e_non a_nil))))))), ?_⟩
  rintro _ S Q ⟨rfl, q⟩
  simp only [↓ite_bc, bc_t, bc_f, aFor_rng, lstA_lst, lstA_rol, aLcS_rng, eqA_ii, eqA_ss, neA_ii, neA_ss, updS_same, updS_updS, startA, List.map_cons, List.map_nil, List.cons_append, List.nil_append, List.length_cons, List.length_nil, Nat.zero_add, Nat.add_zero, Nat.reduceAdd, Nat.reduceSub, List.replicate_succ, List.replicate_zero, List.replicate,  aVar_z, aVar_s, aC, aNil, aCons, aTup, aLstV, aLst, aOp, aUn, aTru, aTst, aCmp, aChn, aChnT, aAnd, aOr, aNot, aIf, aAndV, aOrV, aNotV, aCB, aCall, aNext, aSeq, aBrk, aCnt, aRet, aRetN, aIfS, aNev,  agName, agNil, agCons, agTup, aAsg, aPar, aDrop, aCallK, aCallKn, aM, aM0, aAddS, aYes, one1, one2, wipeA, aRevT, aRevL, agSub_def, aSl, aPart, aNoPart, cutAns_rol, cutAns_lst, cutAns_tup, cutAns_str, aLstRg, aRg1, ex_some, tupleA_lst, tupleA_tup, wstA_lst,  List.set_cons_zero, List.set_cons_succ, List.set, ex_bl, ex_int, ex_str, ex_tup, ex_eq, ex_cons, ex_pair, ex_one1, ex_one_int, and_tt, truA_bl, truOk_bl, truA_int, truOk_int, truA_lst, truOk_lst, truA_tup, truOk_tup, truA_refU, truOk_refU, Bool.not_true, Bool.not_false,  addA_ii, addA_ss, addA_tt, addA_ll, intA_ii, int2A_ii, subA_ii, mulA_ii, modA_ii, fdivA_ii, powA_ii, negA_i, ltA_ii, leA_ii, gtA_ii, geA_ii, ltA_ss, leA_ss, gtA_ss, geA_ss, isA, isntA, nonA, isiA_non, isiA_bl, isiA_int, isiA_str, isiA_tup, isiA_lst, isiA_rol, lenA_str, lenA_tup, lenA_lst, lenA_rol, absA_i, toIntA_i, toIntA_b, isIntA, isiB, String.reduceBEq, List.contains_cons, List.contains_nil, Bool.or_true, Bool.true_or, Bool.or_false, Bool.false_or, Bool.and_true, Bool.true_and, Bool.and_false, Bool.false_and, Bool.not_eq_true, if_true, if_false, decide_true, decide_false, Bool.false_eq_true, eq_self, reduceCtorEq, true_and, false_and, and_false, badA, exists_false, aFld, aPut, agFld, aPutAug, aMeth, aMake, mulX_ii, mulX_si, mulX_li, strA_i, strA_s, intXA_i, intXA_b, isBA_bb, isntBA_bb, aPar3, ex_tri, inA_tup, inA_lst, ninA_tup, ninA_lst, shrA_ii, andA_ii, aFor_tup, aFor_lst, aFor_enum, aLcF_lst, aLcF_tup, aLcF_rng, aLcP_lst, aLcP_tup, aLcP_enum, Int.cast_ofNat_Int, Int.reduceEq, Int.reduceLT, Int.reduceLE, Int.reduceNeg, Int.reduceAdd, Int.reduceSub]
  repeat (refine ⟨le_sl (by decide), ?_⟩)
  exact rt_same q
def sp__law_with : ASp := fun ds S Q => ∃ a b d v, ds = [.tup [a, b], dk d, v] ∧ Q (if d = true then .tup [a, v] else .tup [v, b]) S
set_option maxHeartbeats 4000000 in
theorem fn__law_with (T : Txt K mg)  : FnX P w K mg base 1 "_law_with" st__law_with ["pair", "desk", "value"] sp__law_with := by
  refine FnX.of T.d__law_with fun f fd F => F.ok4 sc__law_with (fun ds S Q h => by unfold sp__law_with at h; first | (obtain ⟨_, rfl, _⟩ := h; rfl) | (obtain ⟨_, _, rfl, _⟩ := h; rfl) | (obtain ⟨_, _, _, rfl, _⟩ := h; rfl) | (obtain ⟨_, _, _, _, rfl, _⟩ := h; rfl) | (obtain ⟨_, _, _, _, _, rfl, _⟩ := h; rfl) | (obtain ⟨_, _, _, _, _, _, rfl, _⟩ := h; rfl) | (obtain ⟨_, _, _, _, _, _, _, rfl, _⟩ := h; rfl)) fun cdv A gd out s H E hr => ?_
  refine ⟨_, (s_one (s_ret (e_if (t_cmp (o_eq hr.units) (e_var 1) e_int) (e_tup (a_cons (e_var 2) (a_cons (e_ix o_ix (e_var 0) e_int) a_nil))) (e_tup (a_cons (e_ix o_ix (e_var 0) e_int) (a_cons (e_var 2) a_nil)))))), ?_⟩
  rintro _ S Q ⟨a, b, d, v, rfl, q⟩
  cases d
  · simp only [↓ite_bc, bc_t, bc_f, aFor_rng, lstA_lst, lstA_rol, aLcS_rng, eqA_ii, eqA_ss, neA_ii, neA_ss, updS_same, updS_updS, startA, List.map_cons, List.map_nil, List.cons_append, List.nil_append, List.length_cons, List.length_nil, Nat.zero_add, Nat.add_zero, Nat.reduceAdd, Nat.reduceSub, List.replicate_succ, List.replicate_zero, List.replicate,  aVar_z, aVar_s, aC, aNil, aCons, aTup, aLstV, aLst, aOp, aUn, aTru, aTst, aCmp, aChn, aChnT, aAnd, aOr, aNot, aIf, aAndV, aOrV, aNotV, aCB, aCall, aNext, aSeq, aBrk, aCnt, aRet, aRetN, aIfS, aNev,  agName, agNil, agCons, agTup, aAsg, aPar, aDrop, aCallK, aCallKn, aM, aM0, aAddS, aYes, one1, one2, wipeA, aRevT, aRevL, agSub_def, aSl, aPart, aNoPart, cutAns_rol, cutAns_lst, cutAns_tup, cutAns_str, aLstRg, aRg1, ex_some, tupleA_lst, tupleA_tup, wstA_lst,  List.set_cons_zero, List.set_cons_succ, List.set, ex_bl, ex_int, ex_str, ex_tup, ex_eq, ex_cons, ex_pair, ex_one1, ex_one_int, and_tt, truA_bl, truOk_bl, truA_int, truOk_int, truA_lst, truOk_lst, truA_tup, truOk_tup, truA_refU, truOk_refU, Bool.not_true, Bool.not_false,  addA_ii, addA_ss, addA_tt, addA_ll, intA_ii, int2A_ii, subA_ii, mulA_ii, modA_ii, fdivA_ii, powA_ii, negA_i, ltA_ii, leA_ii, gtA_ii, geA_ii, ltA_ss, leA_ss, gtA_ss, geA_ss, isA, isntA, nonA, isiA_non, isiA_bl, isiA_int, isiA_str, isiA_tup, isiA_lst, isiA_rol, lenA_str, lenA_tup, lenA_lst, lenA_rol, absA_i, toIntA_i, toIntA_b, isIntA, isiB, String.reduceBEq, List.contains_cons, List.contains_nil, Bool.or_true, Bool.true_or, Bool.or_false, Bool.false_or, Bool.and_true, Bool.true_and, Bool.and_false, Bool.false_and, Bool.not_eq_true, if_true, if_false, decide_true, decide_false, Bool.false_eq_true, eq_self, reduceCtorEq, true_and, false_and, and_false, badA, exists_false, aFld, aPut, agFld, aPutAug, aMeth, aMake, mulX_ii, mulX_si, mulX_li, strA_i, strA_s, intXA_i, intXA_b, isBA_bb, isntBA_bb, aPar3, ex_tri, inA_tup, inA_lst, ninA_tup, ninA_lst, shrA_ii, andA_ii, aFor_tup, aFor_lst, aFor_enum, aLcF_lst, aLcF_tup, aLcF_rng, aLcP_lst, aLcP_tup, aLcP_enum, Int.cast_ofNat_Int, Int.reduceEq, Int.reduceLT, Int.reduceLE, Int.reduceNeg, Int.reduceAdd, Int.reduceSub, show dk false = .int 0 from rfl, ix2_1, ix2_0]
    exact ⟨le_sl (by decide), rt_same q⟩
  · simp only [↓ite_bc, bc_t, bc_f, aFor_rng, lstA_lst, lstA_rol, aLcS_rng, eqA_ii, eqA_ss, neA_ii, neA_ss, updS_same, updS_updS, startA, List.map_cons, List.map_nil, List.cons_append, List.nil_append, List.length_cons, List.length_nil, Nat.zero_add, Nat.add_zero, Nat.reduceAdd, Nat.reduceSub, List.replicate_succ, List.replicate_zero, List.replicate,  aVar_z, aVar_s, aC, aNil, aCons, aTup, aLstV, aLst, aOp, aUn, aTru, aTst, aCmp, aChn, aChnT, aAnd, aOr, aNot, aIf, aAndV, aOrV, aNotV, aCB, aCall, aNext, aSeq, aBrk, aCnt, aRet, aRetN, aIfS, aNev,  agName, agNil, agCons, agTup, aAsg, aPar, aDrop, aCallK, aCallKn, aM, aM0, aAddS, aYes, one1, one2, wipeA, aRevT, aRevL, agSub_def, aSl, aPart, aNoPart, cutAns_rol, cutAns_lst, cutAns_tup, cutAns_str, aLstRg, aRg1, ex_some, tupleA_lst, tupleA_tup, wstA_lst,  List.set_cons_zero, List.set_cons_succ, List.set, ex_bl, ex_int, ex_str, ex_tup, ex_eq, ex_cons, ex_pair, ex_one1, ex_one_int, and_tt, truA_bl, truOk_bl, truA_int, truOk_int, truA_lst, truOk_lst, truA_tup, truOk_tup, truA_refU, truOk_refU, Bool.not_true, Bool.not_false,  addA_ii, addA_ss, addA_tt, addA_ll, intA_ii, int2A_ii, subA_ii, mulA_ii, modA_ii, fdivA_ii, powA_ii, negA_i, ltA_ii, leA_ii, gtA_ii, geA_ii, ltA_ss, leA_ss, gtA_ss, geA_ss, isA, isntA, nonA, isiA_non, isiA_bl, isiA_int, isiA_str, isiA_tup, isiA_lst, isiA_rol, lenA_str, lenA_tup, lenA_lst, lenA_rol, absA_i, toIntA_i, toIntA_b, isIntA, isiB, String.reduceBEq, List.contains_cons, List.contains_nil, Bool.or_true, Bool.true_or, Bool.or_false, Bool.false_or, Bool.and_true, Bool.true_and, Bool.and_false, Bool.false_and, Bool.not_eq_true, if_true, if_false, decide_true, decide_false, Bool.false_eq_true, eq_self, reduceCtorEq, true_and, false_and, and_false, badA, exists_false, aFld, aPut, agFld, aPutAug, aMeth, aMake, mulX_ii, mulX_si, mulX_li, strA_i, strA_s, intXA_i, intXA_b, isBA_bb, isntBA_bb, aPar3, ex_tri, inA_tup, inA_lst, ninA_tup, ninA_lst, shrA_ii, andA_ii, aFor_tup, aFor_lst, aFor_enum, aLcF_lst, aLcF_tup, aLcF_rng, aLcP_lst, aLcP_tup, aLcP_enum, Int.cast_ofNat_Int, Int.reduceEq, Int.reduceLT, Int.reduceLE, Int.reduceNeg, Int.reduceAdd, Int.reduceSub, show dk true = .int 1 from rfl, ix2_1, ix2_0]
    exact ⟨le_sl (by decide), rt_same q⟩
def sp__law_can : ASp := fun ds S Q => ∃ r hon s e, ds = [ruleA r, .bl hon, stA s, evA e] ∧ Q (.bl (canB r hon s e)) S
set_option maxHeartbeats 4000000 in
theorem fn__law_can (T : Txt K mg)  : FnX P w K mg base 1 "_law_can" st__law_can ["rule", "is_honest", "state", "event"] sp__law_can := by
  refine FnX.of T.d__law_can fun f fd F => F.ok4 sc__law_can (fun ds S Q h => by unfold sp__law_can at h; first | (obtain ⟨_, rfl, _⟩ := h; rfl) | (obtain ⟨_, _, rfl, _⟩ := h; rfl) | (obtain ⟨_, _, _, rfl, _⟩ := h; rfl) | (obtain ⟨_, _, _, _, rfl, _⟩ := h; rfl) | (obtain ⟨_, _, _, _, _, rfl, _⟩ := h; rfl) | (obtain ⟨_, _, _, _, _, _, rfl, _⟩ := h; rfl) | (obtain ⟨_, _, _, _, _, _, _, rfl, _⟩ := h; rfl)) fun cdv A gd out s H E hr => ?_
  refine ⟨_, (s_cons (s_asg (e_var 2) (g_tup rfl (gs_cons (g_name 4 sc__law_can.nd) (gs_cons (g_name 5 sc__law_can.nd) (gs_cons (g_name 6 sc__law_can.nd) (gs_cons (g_name 7 sc__law_can.nd) gs_nil))))))
    (s_cons (s_set 8 sc__law_can.nd (e_bm PySem.F.plainAttrs_list PySem.F.slot_list_index PySem.F.type_list_index m_index (e_lstV (a_cons e_str (a_cons e_str a_nil))) (a_cons (e_ix o_ix (e_var 3) e_int) a_nil)))
    (s_cons (s_if (t_cmp (o_eq hr.units) (e_ix o_ix (e_var 3) e_int) e_str) (s_one (s_ret (e_or (e_not (e_and (e_var 1) (e_one (e_ix o_ix (e_var 0) e_int)))) (e_one (e_and (e_cmp (o_eq hr.units) (e_ix o_ix (e_var 5) (e_var 8)) (e_var 7)) (e_one (e_cmp (o_eq hr.units) (e_var 6) (e_tup (a_cons e_bl (a_cons e_bl a_nil)))))))))) s_nil)
    (s_cons (s_if (t_cmp (o_eq hr.units) (e_ix o_ix (e_var 3) e_int) e_str) (s_one (s_ret (e_ix o_ix (e_var 6) (e_var 8)))) s_nil)
    (s_cons (s_if (t_cmp (o_eq hr.units) (e_ix o_ix (e_var 3) e_int) e_str) (s_cons (s_if (t_not (t_chn o_le o_lt e_int (e_ix o_ix (e_var 3) e_int) (e_cb c_len T.n_len (by decide +kernel) (a_cons (e_var 4) a_nil)))) (s_one (s_ret e_bl)) s_nil)
    (s_one (s_ret (e_or (e_not (e_var 1)) (e_one (e_and (e_cmp (o_eq hr.units) (e_ix o_ix (e_var 3) e_int) (e_var 7)) (e_one (e_not (e_ix o_ix (e_var 6) (e_var 8)))))))))) s_nil)
    (s_one (s_ret e_bl))))))), ?_⟩
  rintro _ S Q ⟨r, hon, s, e, rfl, q⟩
  cases e with
  | make d =>
    simp only [↓ite_bc, bc_t, bc_f, aFor_rng, lstA_lst, lstA_rol, aLcS_rng, eqA_ii, eqA_ss, neA_ii, neA_ss, updS_same, updS_updS, startA, List.map_cons, List.map_nil, List.cons_append, List.nil_append, List.length_cons, List.length_nil, Nat.zero_add, Nat.add_zero, Nat.reduceAdd, Nat.reduceSub, List.replicate_succ, List.replicate_zero, List.replicate,  aVar_z, aVar_s, aC, aNil, aCons, aTup, aLstV, aLst, aOp, aUn, aTru, aTst, aCmp, aChn, aChnT, aAnd, aOr, aNot, aIf, aAndV, aOrV, aNotV, aCB, aCall, aNext, aSeq, aBrk, aCnt, aRet, aRetN, aIfS, aNev,  agName, agNil, agCons, agTup, aAsg, aPar, aDrop, aCallK, aCallKn, aM, aM0, aAddS, aYes, one1, one2, wipeA, aRevT, aRevL, agSub_def, aSl, aPart, aNoPart, cutAns_rol, cutAns_lst, cutAns_tup, cutAns_str, aLstRg, aRg1, ex_some, tupleA_lst, tupleA_tup, wstA_lst,  List.set_cons_zero, List.set_cons_succ, List.set, ex_bl, ex_int, ex_str, ex_tup, ex_eq, ex_cons, ex_pair, ex_one1, ex_one_int, and_tt, truA_bl, truOk_bl, truA_int, truOk_int, truA_lst, truOk_lst, truA_tup, truOk_tup, truA_refU, truOk_refU, Bool.not_true, Bool.not_false,  addA_ii, addA_ss, addA_tt, addA_ll, intA_ii, int2A_ii, subA_ii, mulA_ii, modA_ii, fdivA_ii, powA_ii, negA_i, ltA_ii, leA_ii, gtA_ii, geA_ii, ltA_ss, leA_ss, gtA_ss, geA_ss, isA, isntA, nonA, isiA_non, isiA_bl, isiA_int, isiA_str, isiA_tup, isiA_lst, isiA_rol, lenA_str, lenA_tup, lenA_lst, lenA_rol, absA_i, toIntA_i, toIntA_b, isIntA, isiB, String.reduceBEq, List.contains_cons, List.contains_nil, Bool.or_true, Bool.true_or, Bool.or_false, Bool.false_or, Bool.and_true, Bool.true_and, Bool.and_false, Bool.false_and, Bool.not_eq_true, if_true, if_false, decide_true, decide_false, Bool.false_eq_true, eq_self, reduceCtorEq, true_and, false_and, and_false, badA, exists_false, aFld, aPut, agFld, aPutAug, aMeth, aMake, mulX_ii, mulX_si, mulX_li, strA_i, strA_s, intXA_i, intXA_b, isBA_bb, isntBA_bb, aPar3, ex_tri, inA_tup, inA_lst, ninA_tup, ninA_lst, shrA_ii, andA_ii, aFor_tup, aFor_lst, aFor_enum, aLcF_lst, aLcF_tup, aLcF_rng, aLcP_lst, aLcP_tup, aLcP_enum, Int.cast_ofNat_Int, Int.reduceEq, Int.reduceLT, Int.reduceLE, Int.reduceNeg, Int.reduceAdd, Int.reduceSub, stA, evA, ruleA, ix2_0, ix2_1, ixt4_3]
    refine ⟨rfl, le_sl (by decide), rfl, index_nm ?_⟩
    simp only [↓ite_bc, bc_t, bc_f, aFor_rng, lstA_lst, lstA_rol, aLcS_rng, eqA_ii, eqA_ss, neA_ii, neA_ss, updS_same, updS_updS, startA, List.map_cons, List.map_nil, List.cons_append, List.nil_append, List.length_cons, List.length_nil, Nat.zero_add, Nat.add_zero, Nat.reduceAdd, Nat.reduceSub, List.replicate_succ, List.replicate_zero, List.replicate,  aVar_z, aVar_s, aC, aNil, aCons, aTup, aLstV, aLst, aOp, aUn, aTru, aTst, aCmp, aChn, aChnT, aAnd, aOr, aNot, aIf, aAndV, aOrV, aNotV, aCB, aCall, aNext, aSeq, aBrk, aCnt, aRet, aRetN, aIfS, aNev,  agName, agNil, agCons, agTup, aAsg, aPar, aDrop, aCallK, aCallKn, aM, aM0, aAddS, aYes, one1, one2, wipeA, aRevT, aRevL, agSub_def, aSl, aPart, aNoPart, cutAns_rol, cutAns_lst, cutAns_tup, cutAns_str, aLstRg, aRg1, ex_some, tupleA_lst, tupleA_tup, wstA_lst,  List.set_cons_zero, List.set_cons_succ, List.set, ex_bl, ex_int, ex_str, ex_tup, ex_eq, ex_cons, ex_pair, ex_one1, ex_one_int, and_tt, truA_bl, truOk_bl, truA_int, truOk_int, truA_lst, truOk_lst, truA_tup, truOk_tup, truA_refU, truOk_refU, Bool.not_true, Bool.not_false,  addA_ii, addA_ss, addA_tt, addA_ll, intA_ii, int2A_ii, subA_ii, mulA_ii, modA_ii, fdivA_ii, powA_ii, negA_i, ltA_ii, leA_ii, gtA_ii, geA_ii, ltA_ss, leA_ss, gtA_ss, geA_ss, isA, isntA, nonA, isiA_non, isiA_bl, isiA_int, isiA_str, isiA_tup, isiA_lst, isiA_rol, lenA_str, lenA_tup, lenA_lst, lenA_rol, absA_i, toIntA_i, toIntA_b, isIntA, isiB, String.reduceBEq, List.contains_cons, List.contains_nil, Bool.or_true, Bool.true_or, Bool.or_false, Bool.false_or, Bool.and_true, Bool.true_and, Bool.and_false, Bool.false_and, Bool.not_eq_true, if_true, if_false, decide_true, decide_false, Bool.false_eq_true, eq_self, reduceCtorEq, true_and, false_and, and_false, badA, exists_false, aFld, aPut, agFld, aPutAug, aMeth, aMake, mulX_ii, mulX_si, mulX_li, strA_i, strA_s, intXA_i, intXA_b, isBA_bb, isntBA_bb, aPar3, ex_tri, inA_tup, inA_lst, ninA_tup, ninA_lst, shrA_ii, andA_ii, aFor_tup, aFor_lst, aFor_enum, aLcF_lst, aLcF_tup, aLcF_rng, aLcP_lst, aLcP_tup, aLcP_enum, Int.cast_ofNat_Int, Int.reduceEq, Int.reduceLT, Int.reduceLE, Int.reduceNeg, Int.reduceAdd, Int.reduceSub, stA, evA, ruleA, ix2_0, ix2_1, ixt4_3, ix_at, eqA_oN, eqA_hnd]
    have q : Q (.bl (!(hon && r.turn) || (decide (s.at_ d = s.kept) && (!s.h0 && !s.h1)))) S := q
    generalize r.turn = t at q ⊢
    generalize decide (s.at_ d = s.kept) = b at q ⊢
    cases hon <;> cases t <;> cases b <;> first | exact rt_same q | exact ⟨le_sl (by decide), rt_same q⟩
  | hand d =>
    simp only [↓ite_bc, bc_t, bc_f, aFor_rng, lstA_lst, lstA_rol, aLcS_rng, eqA_ii, eqA_ss, neA_ii, neA_ss, updS_same, updS_updS, startA, List.map_cons, List.map_nil, List.cons_append, List.nil_append, List.length_cons, List.length_nil, Nat.zero_add, Nat.add_zero, Nat.reduceAdd, Nat.reduceSub, List.replicate_succ, List.replicate_zero, List.replicate,  aVar_z, aVar_s, aC, aNil, aCons, aTup, aLstV, aLst, aOp, aUn, aTru, aTst, aCmp, aChn, aChnT, aAnd, aOr, aNot, aIf, aAndV, aOrV, aNotV, aCB, aCall, aNext, aSeq, aBrk, aCnt, aRet, aRetN, aIfS, aNev,  agName, agNil, agCons, agTup, aAsg, aPar, aDrop, aCallK, aCallKn, aM, aM0, aAddS, aYes, one1, one2, wipeA, aRevT, aRevL, agSub_def, aSl, aPart, aNoPart, cutAns_rol, cutAns_lst, cutAns_tup, cutAns_str, aLstRg, aRg1, ex_some, tupleA_lst, tupleA_tup, wstA_lst,  List.set_cons_zero, List.set_cons_succ, List.set, ex_bl, ex_int, ex_str, ex_tup, ex_eq, ex_cons, ex_pair, ex_one1, ex_one_int, and_tt, truA_bl, truOk_bl, truA_int, truOk_int, truA_lst, truOk_lst, truA_tup, truOk_tup, truA_refU, truOk_refU, Bool.not_true, Bool.not_false,  addA_ii, addA_ss, addA_tt, addA_ll, intA_ii, int2A_ii, subA_ii, mulA_ii, modA_ii, fdivA_ii, powA_ii, negA_i, ltA_ii, leA_ii, gtA_ii, geA_ii, ltA_ss, leA_ss, gtA_ss, geA_ss, isA, isntA, nonA, isiA_non, isiA_bl, isiA_int, isiA_str, isiA_tup, isiA_lst, isiA_rol, lenA_str, lenA_tup, lenA_lst, lenA_rol, absA_i, toIntA_i, toIntA_b, isIntA, isiB, String.reduceBEq, List.contains_cons, List.contains_nil, Bool.or_true, Bool.true_or, Bool.or_false, Bool.false_or, Bool.and_true, Bool.true_and, Bool.and_false, Bool.false_and, Bool.not_eq_true, if_true, if_false, decide_true, decide_false, Bool.false_eq_true, eq_self, reduceCtorEq, true_and, false_and, and_false, badA, exists_false, aFld, aPut, agFld, aPutAug, aMeth, aMake, mulX_ii, mulX_si, mulX_li, strA_i, strA_s, intXA_i, intXA_b, isBA_bb, isntBA_bb, aPar3, ex_tri, inA_tup, inA_lst, ninA_tup, ninA_lst, shrA_ii, andA_ii, aFor_tup, aFor_lst, aFor_enum, aLcF_lst, aLcF_tup, aLcF_rng, aLcP_lst, aLcP_tup, aLcP_enum, Int.cast_ofNat_Int, Int.reduceEq, Int.reduceLT, Int.reduceLE, Int.reduceNeg, Int.reduceAdd, Int.reduceSub, stA, evA, ruleA, ix2_0, ix2_1, ixt4_3]
    refine ⟨rfl, le_sl (by decide), rfl, index_nm ?_⟩
    simp only [↓ite_bc, bc_t, bc_f, aFor_rng, lstA_lst, lstA_rol, aLcS_rng, eqA_ii, eqA_ss, neA_ii, neA_ss, updS_same, updS_updS, startA, List.map_cons, List.map_nil, List.cons_append, List.nil_append, List.length_cons, List.length_nil, Nat.zero_add, Nat.add_zero, Nat.reduceAdd, Nat.reduceSub, List.replicate_succ, List.replicate_zero, List.replicate,  aVar_z, aVar_s, aC, aNil, aCons, aTup, aLstV, aLst, aOp, aUn, aTru, aTst, aCmp, aChn, aChnT, aAnd, aOr, aNot, aIf, aAndV, aOrV, aNotV, aCB, aCall, aNext, aSeq, aBrk, aCnt, aRet, aRetN, aIfS, aNev,  agName, agNil, agCons, agTup, aAsg, aPar, aDrop, aCallK, aCallKn, aM, aM0, aAddS, aYes, one1, one2, wipeA, aRevT, aRevL, agSub_def, aSl, aPart, aNoPart, cutAns_rol, cutAns_lst, cutAns_tup, cutAns_str, aLstRg, aRg1, ex_some, tupleA_lst, tupleA_tup, wstA_lst,  List.set_cons_zero, List.set_cons_succ, List.set, ex_bl, ex_int, ex_str, ex_tup, ex_eq, ex_cons, ex_pair, ex_one1, ex_one_int, and_tt, truA_bl, truOk_bl, truA_int, truOk_int, truA_lst, truOk_lst, truA_tup, truOk_tup, truA_refU, truOk_refU, Bool.not_true, Bool.not_false,  addA_ii, addA_ss, addA_tt, addA_ll, intA_ii, int2A_ii, subA_ii, mulA_ii, modA_ii, fdivA_ii, powA_ii, negA_i, ltA_ii, leA_ii, gtA_ii, geA_ii, ltA_ss, leA_ss, gtA_ss, geA_ss, isA, isntA, nonA, isiA_non, isiA_bl, isiA_int, isiA_str, isiA_tup, isiA_lst, isiA_rol, lenA_str, lenA_tup, lenA_lst, lenA_rol, absA_i, toIntA_i, toIntA_b, isIntA, isiB, String.reduceBEq, List.contains_cons, List.contains_nil, Bool.or_true, Bool.true_or, Bool.or_false, Bool.false_or, Bool.and_true, Bool.true_and, Bool.and_false, Bool.false_and, Bool.not_eq_true, if_true, if_false, decide_true, decide_false, Bool.false_eq_true, eq_self, reduceCtorEq, true_and, false_and, and_false, badA, exists_false, aFld, aPut, agFld, aPutAug, aMeth, aMake, mulX_ii, mulX_si, mulX_li, strA_i, strA_s, intXA_i, intXA_b, isBA_bb, isntBA_bb, aPar3, ex_tri, inA_tup, inA_lst, ninA_tup, ninA_lst, shrA_ii, andA_ii, aFor_tup, aFor_lst, aFor_enum, aLcF_lst, aLcF_tup, aLcF_rng, aLcP_lst, aLcP_tup, aLcP_enum, Int.cast_ofNat_Int, Int.reduceEq, Int.reduceLT, Int.reduceLE, Int.reduceNeg, Int.reduceAdd, Int.reduceSub, stA, evA, ruleA, ix2_0, ix2_1, ixt4_3, ix_at, eqA_oN, eqA_hnd, sw_1, ix_hnd]
    exact rt_same q
  | fall d =>
    simp only [↓ite_bc, bc_t, bc_f, aFor_rng, lstA_lst, lstA_rol, aLcS_rng, eqA_ii, eqA_ss, neA_ii, neA_ss, updS_same, updS_updS, startA, List.map_cons, List.map_nil, List.cons_append, List.nil_append, List.length_cons, List.length_nil, Nat.zero_add, Nat.add_zero, Nat.reduceAdd, Nat.reduceSub, List.replicate_succ, List.replicate_zero, List.replicate,  aVar_z, aVar_s, aC, aNil, aCons, aTup, aLstV, aLst, aOp, aUn, aTru, aTst, aCmp, aChn, aChnT, aAnd, aOr, aNot, aIf, aAndV, aOrV, aNotV, aCB, aCall, aNext, aSeq, aBrk, aCnt, aRet, aRetN, aIfS, aNev,  agName, agNil, agCons, agTup, aAsg, aPar, aDrop, aCallK, aCallKn, aM, aM0, aAddS, aYes, one1, one2, wipeA, aRevT, aRevL, agSub_def, aSl, aPart, aNoPart, cutAns_rol, cutAns_lst, cutAns_tup, cutAns_str, aLstRg, aRg1, ex_some, tupleA_lst, tupleA_tup, wstA_lst,  List.set_cons_zero, List.set_cons_succ, List.set, ex_bl, ex_int, ex_str, ex_tup, ex_eq, ex_cons, ex_pair, ex_one1, ex_one_int, and_tt, truA_bl, truOk_bl, truA_int, truOk_int, truA_lst, truOk_lst, truA_tup, truOk_tup, truA_refU, truOk_refU, Bool.not_true, Bool.not_false,  addA_ii, addA_ss, addA_tt, addA_ll, intA_ii, int2A_ii, subA_ii, mulA_ii, modA_ii, fdivA_ii, powA_ii, negA_i, ltA_ii, leA_ii, gtA_ii, geA_ii, ltA_ss, leA_ss, gtA_ss, geA_ss, isA, isntA, nonA, isiA_non, isiA_bl, isiA_int, isiA_str, isiA_tup, isiA_lst, isiA_rol, lenA_str, lenA_tup, lenA_lst, lenA_rol, absA_i, toIntA_i, toIntA_b, isIntA, isiB, String.reduceBEq, List.contains_cons, List.contains_nil, Bool.or_true, Bool.true_or, Bool.or_false, Bool.false_or, Bool.and_true, Bool.true_and, Bool.and_false, Bool.false_and, Bool.not_eq_true, if_true, if_false, decide_true, decide_false, Bool.false_eq_true, eq_self, reduceCtorEq, true_and, false_and, and_false, badA, exists_false, aFld, aPut, agFld, aPutAug, aMeth, aMake, mulX_ii, mulX_si, mulX_li, strA_i, strA_s, intXA_i, intXA_b, isBA_bb, isntBA_bb, aPar3, ex_tri, inA_tup, inA_lst, ninA_tup, ninA_lst, shrA_ii, andA_ii, aFor_tup, aFor_lst, aFor_enum, aLcF_lst, aLcF_tup, aLcF_rng, aLcP_lst, aLcP_tup, aLcP_enum, Int.cast_ofNat_Int, Int.reduceEq, Int.reduceLT, Int.reduceLE, Int.reduceNeg, Int.reduceAdd, Int.reduceSub, stA, evA, ruleA, ix2_0, ix2_1, ixt4_3]
    refine ⟨rfl, le_sl (by decide), rfl, index_nm ?_⟩
    simp only [↓ite_bc, bc_t, bc_f, aFor_rng, lstA_lst, lstA_rol, aLcS_rng, eqA_ii, eqA_ss, neA_ii, neA_ss, updS_same, updS_updS, startA, List.map_cons, List.map_nil, List.cons_append, List.nil_append, List.length_cons, List.length_nil, Nat.zero_add, Nat.add_zero, Nat.reduceAdd, Nat.reduceSub, List.replicate_succ, List.replicate_zero, List.replicate,  aVar_z, aVar_s, aC, aNil, aCons, aTup, aLstV, aLst, aOp, aUn, aTru, aTst, aCmp, aChn, aChnT, aAnd, aOr, aNot, aIf, aAndV, aOrV, aNotV, aCB, aCall, aNext, aSeq, aBrk, aCnt, aRet, aRetN, aIfS, aNev,  agName, agNil, agCons, agTup, aAsg, aPar, aDrop, aCallK, aCallKn, aM, aM0, aAddS, aYes, one1, one2, wipeA, aRevT, aRevL, agSub_def, aSl, aPart, aNoPart, cutAns_rol, cutAns_lst, cutAns_tup, cutAns_str, aLstRg, aRg1, ex_some, tupleA_lst, tupleA_tup, wstA_lst,  List.set_cons_zero, List.set_cons_succ, List.set, ex_bl, ex_int, ex_str, ex_tup, ex_eq, ex_cons, ex_pair, ex_one1, ex_one_int, and_tt, truA_bl, truOk_bl, truA_int, truOk_int, truA_lst, truOk_lst, truA_tup, truOk_tup, truA_refU, truOk_refU, Bool.not_true, Bool.not_false,  addA_ii, addA_ss, addA_tt, addA_ll, intA_ii, int2A_ii, subA_ii, mulA_ii, modA_ii, fdivA_ii, powA_ii, negA_i, ltA_ii, leA_ii, gtA_ii, geA_ii, ltA_ss, leA_ss, gtA_ss, geA_ss, isA, isntA, nonA, isiA_non, isiA_bl, isiA_int, isiA_str, isiA_tup, isiA_lst, isiA_rol, lenA_str, lenA_tup, lenA_lst, lenA_rol, absA_i, toIntA_i, toIntA_b, isIntA, isiB, String.reduceBEq, List.contains_cons, List.contains_nil, Bool.or_true, Bool.true_or, Bool.or_false, Bool.false_or, Bool.and_true, Bool.true_and, Bool.and_false, Bool.false_and, Bool.not_eq_true, if_true, if_false, decide_true, decide_false, Bool.false_eq_true, eq_self, reduceCtorEq, true_and, false_and, and_false, badA, exists_false, aFld, aPut, agFld, aPutAug, aMeth, aMake, mulX_ii, mulX_si, mulX_li, strA_i, strA_s, intXA_i, intXA_b, isBA_bb, isntBA_bb, aPar3, ex_tri, inA_tup, inA_lst, ninA_tup, ninA_lst, shrA_ii, andA_ii, aFor_tup, aFor_lst, aFor_enum, aLcF_lst, aLcF_tup, aLcF_rng, aLcP_lst, aLcP_tup, aLcP_enum, Int.cast_ofNat_Int, Int.reduceEq, Int.reduceLT, Int.reduceLE, Int.reduceNeg, Int.reduceAdd, Int.reduceSub, stA, evA, ruleA, ix2_0, ix2_1, ixt4_3, ix_at, eqA_oN, eqA_hnd, sw_2, sw_5, sw_9, ix_hnd]
    exact rt_same q
  | shw d n =>
    simp only [↓ite_bc, bc_t, bc_f, aFor_rng, lstA_lst, lstA_rol, aLcS_rng, eqA_ii, eqA_ss, neA_ii, neA_ss, updS_same, updS_updS, startA, List.map_cons, List.map_nil, List.cons_append, List.nil_append, List.length_cons, List.length_nil, Nat.zero_add, Nat.add_zero, Nat.reduceAdd, Nat.reduceSub, List.replicate_succ, List.replicate_zero, List.replicate,  aVar_z, aVar_s, aC, aNil, aCons, aTup, aLstV, aLst, aOp, aUn, aTru, aTst, aCmp, aChn, aChnT, aAnd, aOr, aNot, aIf, aAndV, aOrV, aNotV, aCB, aCall, aNext, aSeq, aBrk, aCnt, aRet, aRetN, aIfS, aNev,  agName, agNil, agCons, agTup, aAsg, aPar, aDrop, aCallK, aCallKn, aM, aM0, aAddS, aYes, one1, one2, wipeA, aRevT, aRevL, agSub_def, aSl, aPart, aNoPart, cutAns_rol, cutAns_lst, cutAns_tup, cutAns_str, aLstRg, aRg1, ex_some, tupleA_lst, tupleA_tup, wstA_lst,  List.set_cons_zero, List.set_cons_succ, List.set, ex_bl, ex_int, ex_str, ex_tup, ex_eq, ex_cons, ex_pair, ex_one1, ex_one_int, and_tt, truA_bl, truOk_bl, truA_int, truOk_int, truA_lst, truOk_lst, truA_tup, truOk_tup, truA_refU, truOk_refU, Bool.not_true, Bool.not_false,  addA_ii, addA_ss, addA_tt, addA_ll, intA_ii, int2A_ii, subA_ii, mulA_ii, modA_ii, fdivA_ii, powA_ii, negA_i, ltA_ii, leA_ii, gtA_ii, geA_ii, ltA_ss, leA_ss, gtA_ss, geA_ss, isA, isntA, nonA, isiA_non, isiA_bl, isiA_int, isiA_str, isiA_tup, isiA_lst, isiA_rol, lenA_str, lenA_tup, lenA_lst, lenA_rol, absA_i, toIntA_i, toIntA_b, isIntA, isiB, String.reduceBEq, List.contains_cons, List.contains_nil, Bool.or_true, Bool.true_or, Bool.or_false, Bool.false_or, Bool.and_true, Bool.true_and, Bool.and_false, Bool.false_and, Bool.not_eq_true, if_true, if_false, decide_true, decide_false, Bool.false_eq_true, eq_self, reduceCtorEq, true_and, false_and, and_false, badA, exists_false, aFld, aPut, agFld, aPutAug, aMeth, aMake, mulX_ii, mulX_si, mulX_li, strA_i, strA_s, intXA_i, intXA_b, isBA_bb, isntBA_bb, aPar3, ex_tri, inA_tup, inA_lst, ninA_tup, ninA_lst, shrA_ii, andA_ii, aFor_tup, aFor_lst, aFor_enum, aLcF_lst, aLcF_tup, aLcF_rng, aLcP_lst, aLcP_tup, aLcP_enum, Int.cast_ofNat_Int, Int.reduceEq, Int.reduceLT, Int.reduceLE, Int.reduceNeg, Int.reduceAdd, Int.reduceSub, stA, evA, ruleA, ixt3_0, ixt3_1, ixt3_2, ixt4_3]
    refine ⟨rfl, le_sl (by decide), rfl, index_nm ?_⟩
    simp only [↓ite_bc, bc_t, bc_f, aFor_rng, lstA_lst, lstA_rol, aLcS_rng, eqA_ii, eqA_ss, neA_ii, neA_ss, updS_same, updS_updS, startA, List.map_cons, List.map_nil, List.cons_append, List.nil_append, List.length_cons, List.length_nil, Nat.zero_add, Nat.add_zero, Nat.reduceAdd, Nat.reduceSub, List.replicate_succ, List.replicate_zero, List.replicate,  aVar_z, aVar_s, aC, aNil, aCons, aTup, aLstV, aLst, aOp, aUn, aTru, aTst, aCmp, aChn, aChnT, aAnd, aOr, aNot, aIf, aAndV, aOrV, aNotV, aCB, aCall, aNext, aSeq, aBrk, aCnt, aRet, aRetN, aIfS, aNev,  agName, agNil, agCons, agTup, aAsg, aPar, aDrop, aCallK, aCallKn, aM, aM0, aAddS, aYes, one1, one2, wipeA, aRevT, aRevL, agSub_def, aSl, aPart, aNoPart, cutAns_rol, cutAns_lst, cutAns_tup, cutAns_str, aLstRg, aRg1, ex_some, tupleA_lst, tupleA_tup, wstA_lst,  List.set_cons_zero, List.set_cons_succ, List.set, ex_bl, ex_int, ex_str, ex_tup, ex_eq, ex_cons, ex_pair, ex_one1, ex_one_int, and_tt, truA_bl, truOk_bl, truA_int, truOk_int, truA_lst, truOk_lst, truA_tup, truOk_tup, truA_refU, truOk_refU, Bool.not_true, Bool.not_false,  addA_ii, addA_ss, addA_tt, addA_ll, intA_ii, int2A_ii, subA_ii, mulA_ii, modA_ii, fdivA_ii, powA_ii, negA_i, ltA_ii, leA_ii, gtA_ii, geA_ii, ltA_ss, leA_ss, gtA_ss, geA_ss, isA, isntA, nonA, isiA_non, isiA_bl, isiA_int, isiA_str, isiA_tup, isiA_lst, isiA_rol, lenA_str, lenA_tup, lenA_lst, lenA_rol, absA_i, toIntA_i, toIntA_b, isIntA, isiB, String.reduceBEq, List.contains_cons, List.contains_nil, Bool.or_true, Bool.true_or, Bool.or_false, Bool.false_or, Bool.and_true, Bool.true_and, Bool.and_false, Bool.false_and, Bool.not_eq_true, if_true, if_false, decide_true, decide_false, Bool.false_eq_true, eq_self, reduceCtorEq, true_and, false_and, and_false, badA, exists_false, aFld, aPut, agFld, aPutAug, aMeth, aMake, mulX_ii, mulX_si, mulX_li, strA_i, strA_s, intXA_i, intXA_b, isBA_bb, isntBA_bb, aPar3, ex_tri, inA_tup, inA_lst, ninA_tup, ninA_lst, shrA_ii, andA_ii, aFor_tup, aFor_lst, aFor_enum, aLcF_lst, aLcF_tup, aLcF_rng, aLcP_lst, aLcP_tup, aLcP_enum, Int.cast_ofNat_Int, Int.reduceEq, Int.reduceLT, Int.reduceLE, Int.reduceNeg, Int.reduceAdd, Int.reduceSub, stA, evA, ruleA, ixt3_0, ixt3_1, ixt3_2, ixt4_3, ix_at, eqA_oN, eqA_hnd, sw_3, sw_6, ix_hnd, madeA, decide_eq_true (show (0:Int) ≤ n by omega), List.length_map, Int.ofNat_lt, eqA_nO]
    have q : Q (.bl (decide (n < s.made.length) && (!hon || (decide (some n = s.kept) && !s.hand d)))) S := q
    generalize decide (n < s.made.length) = a at q ⊢
    generalize decide (some n = s.kept) = b at q ⊢
    cases a <;> cases hon <;> cases b <;> exact rt_same q
def sp__law_shown : ASp := fun ds S Q => ∃ r hon s d n, ds = [ruleA r, .bl hon, stA s, dk d, .int (n : Nat)] ∧ PreM s ∧ n < s.made.length ∧ Q (.tup [.str (shownW r hon s d n), stA (shownS r s d n)]) S
set_option maxHeartbeats 4000000 in
theorem fn__law_shown (T : Txt K mg) (F__law_counts_of : Fn4 P w K mg base 2 "_law_counts_of" ["made", "number"] sp__law_counts_of) (F__law_row_of : Fn4 P w K mg base 1 "_law_row_of" ["made", "number"] sp__law_row_of) (F__law_with : Fn4 P w K mg base 1 "_law_with" ["pair", "desk", "value"] sp__law_with) : FnX P w K mg base 3 "_law_shown" st__law_shown ["rule", "is_honest", "state", "desk", "number"] sp__law_shown := by
  refine FnX.of T.d__law_shown fun f fd F => F.ok4 sc__law_shown (fun ds S Q h => by unfold sp__law_shown at h; first | (obtain ⟨_, rfl, _⟩ := h; rfl) | (obtain ⟨_, _, rfl, _⟩ := h; rfl) | (obtain ⟨_, _, _, rfl, _⟩ := h; rfl) | (obtain ⟨_, _, _, _, rfl, _⟩ := h; rfl) | (obtain ⟨_, _, _, _, _, rfl, _⟩ := h; rfl) | (obtain ⟨_, _, _, _, _, _, rfl, _⟩ := h; rfl) | (obtain ⟨_, _, _, _, _, _, _, rfl, _⟩ := h; rfl)) fun cdv A gd out s H E hr => ?_
  refine ⟨_, (s_cons (s_asg (e_var 2) (g_tup rfl (gs_cons (g_name 5 sc__law_shown.nd) (gs_cons (g_name 6 sc__law_shown.nd) (gs_cons (g_name 7 sc__law_shown.nd) (gs_cons (g_name 8 sc__law_shown.nd) gs_nil))))))
    (s_cons (s_par3 (i := 9) (j := 10) (l := 11) rfl sc__law_shown.nd (a_cons (f_call F__law_counts_of gd (hr.mono (by decide)) (a_cons (e_var 5) (a_cons (e_ix o_ix (e_var 6) (e_var 3)) a_nil))) (a_cons (f_call F__law_counts_of gd (hr.mono (by decide)) (a_cons (e_var 5) (a_cons (e_var 4) a_nil))) (a_cons (e_op o_sub e_int (e_var 3)) a_nil))))
    (s_cons (s_if (w_or (w_and (t_tru (e_ix o_ix (e_var 0) e_int)) (w_and1 (t_cmp (o_ne hr.units) (e_ix o_ix (e_var 10) (e_var 3)) (e_ix o_ix (e_var 9) (e_var 3))))).pt (w_or1 (w_and (t_tru (e_ix o_ix (e_var 0) e_int)) (w_and1 (t_cmp o_lt (e_ix o_ix (e_var 10) (e_var 11)) (e_ix o_ix (e_var 9) (e_var 11))))).pt)).pt (s_one (s_ret (e_tup (a_cons (e_if (t_tru (e_var 1)) e_str e_str) (a_cons (e_var 2) a_nil))))) s_nil)
    (s_cons (s_par (i := 12) (j := 13) rfl sc__law_shown.nd (a_cons (f_call F__law_row_of gd (hr.mono (by decide)) (a_cons (e_var 5) (a_cons (e_ix o_ix (e_var 6) (e_var 3)) a_nil))) (a_cons (f_call F__law_row_of gd (hr.mono (by decide)) (a_cons (e_var 5) (a_cons (e_var 4) a_nil))) a_nil)))
    (s_cons (s_set 14 sc__law_shown.nd (e_var 2))
    (s_cons (s_if (t_cmp (o_ne hr.units) (e_var 4) (e_ix o_ix (e_var 6) (e_var 3))) (s_one (s_set 14 sc__law_shown.nd (e_tup (a_cons (e_var 5) (a_cons (f_call F__law_with gd (hr.mono (by decide)) (a_cons (e_var 6) (a_cons (e_var 3) (a_cons (e_var 4) a_nil)))) (a_cons (f_call F__law_with gd (hr.mono (by decide)) (a_cons (e_var 7) (a_cons (e_var 3) (a_cons e_bl a_nil)))) (a_cons (e_var 8) a_nil))))))) s_nil)
    (s_one (s_ret (e_tup (a_cons (e_if (t_cmp (o_eq hr.units) (e_sl (e_var 13) o_none (o_some (e_cb c_len T.n_len (by decide +kernel) (a_cons (e_var 12) a_nil)))) (e_var 12)) e_str e_str) (a_cons (e_var 14) a_nil))))))))))), ?_⟩
  rintro _ S Q ⟨r, hon, s, d, n, rfl, ⟨w, hat, hk, hm, hh⟩, hn, q⟩
  have ho : Lt s.made (some n) := fun _ z => by cases z; exact hn
  simp only [↓ite_bc, bc_t, bc_f, aFor_rng, lstA_lst, lstA_rol, aLcS_rng, eqA_ii, eqA_ss, neA_ii, neA_ss, updS_same, updS_updS, startA, List.map_cons, List.map_nil, List.cons_append, List.nil_append, List.length_cons, List.length_nil, Nat.zero_add, Nat.add_zero, Nat.reduceAdd, Nat.reduceSub, List.replicate_succ, List.replicate_zero, List.replicate,  aVar_z, aVar_s, aC, aNil, aCons, aTup, aLstV, aLst, aOp, aUn, aTru, aTst, aCmp, aChn, aChnT, aAnd, aOr, aNot, aIf, aAndV, aOrV, aNotV, aCB, aCall, aNext, aSeq, aBrk, aCnt, aRet, aRetN, aIfS, aNev,  agName, agNil, agCons, agTup, aAsg, aPar, aDrop, aCallK, aCallKn, aM, aM0, aAddS, aYes, one1, one2, wipeA, aRevT, aRevL, agSub_def, aSl, aPart, aNoPart, cutAns_rol, cutAns_lst, cutAns_tup, cutAns_str, aLstRg, aRg1, ex_some, tupleA_lst, tupleA_tup, wstA_lst,  List.set_cons_zero, List.set_cons_succ, List.set, ex_bl, ex_int, ex_str, ex_tup, ex_eq, ex_cons, ex_pair, ex_one1, ex_one_int, and_tt, truA_bl, truOk_bl, truA_int, truOk_int, truA_lst, truOk_lst, truA_tup, truOk_tup, truA_refU, truOk_refU, Bool.not_true, Bool.not_false,  addA_ii, addA_ss, addA_tt, addA_ll, intA_ii, int2A_ii, subA_ii, mulA_ii, modA_ii, fdivA_ii, powA_ii, negA_i, ltA_ii, leA_ii, gtA_ii, geA_ii, ltA_ss, leA_ss, gtA_ss, geA_ss, isA, isntA, nonA, isiA_non, isiA_bl, isiA_int, isiA_str, isiA_tup, isiA_lst, isiA_rol, lenA_str, lenA_tup, lenA_lst, lenA_rol, absA_i, toIntA_i, toIntA_b, isIntA, isiB, String.reduceBEq, List.contains_cons, List.contains_nil, Bool.or_true, Bool.true_or, Bool.or_false, Bool.false_or, Bool.and_true, Bool.true_and, Bool.and_false, Bool.false_and, Bool.not_eq_true, if_true, if_false, decide_true, decide_false, Bool.false_eq_true, eq_self, reduceCtorEq, true_and, false_and, and_false, badA, exists_false, aFld, aPut, agFld, aPutAug, aMeth, aMake, mulX_ii, mulX_si, mulX_li, strA_i, strA_s, intXA_i, intXA_b, isBA_bb, isntBA_bb, aPar3, ex_tri, inA_tup, inA_lst, ninA_tup, ninA_lst, shrA_ii, andA_ii, aFor_tup, aFor_lst, aFor_enum, aLcF_lst, aLcF_tup, aLcF_rng, aLcP_lst, aLcP_tup, aLcP_enum, Int.cast_ofNat_Int, Int.reduceEq, Int.reduceLT, Int.reduceLE, Int.reduceNeg, Int.reduceAdd, Int.reduceSub, stA, ix_at]
  refine ⟨rfl, s.made, s.at_ d, rfl, w, hat d, hm, s.made, some n, rfl, w, ho, hm, ?_⟩
  simp only [↓ite_bc, bc_t, bc_f, aFor_rng, lstA_lst, lstA_rol, aLcS_rng, eqA_ii, eqA_ss, neA_ii, neA_ss, updS_same, updS_updS, startA, List.map_cons, List.map_nil, List.cons_append, List.nil_append, List.length_cons, List.length_nil, Nat.zero_add, Nat.add_zero, Nat.reduceAdd, Nat.reduceSub, List.replicate_succ, List.replicate_zero, List.replicate,  aVar_z, aVar_s, aC, aNil, aCons, aTup, aLstV, aLst, aOp, aUn, aTru, aTst, aCmp, aChn, aChnT, aAnd, aOr, aNot, aIf, aAndV, aOrV, aNotV, aCB, aCall, aNext, aSeq, aBrk, aCnt, aRet, aRetN, aIfS, aNev,  agName, agNil, agCons, agTup, aAsg, aPar, aDrop, aCallK, aCallKn, aM, aM0, aAddS, aYes, one1, one2, wipeA, aRevT, aRevL, agSub_def, aSl, aPart, aNoPart, cutAns_rol, cutAns_lst, cutAns_tup, cutAns_str, aLstRg, aRg1, ex_some, tupleA_lst, tupleA_tup, wstA_lst,  List.set_cons_zero, List.set_cons_succ, List.set, ex_bl, ex_int, ex_str, ex_tup, ex_eq, ex_cons, ex_pair, ex_one1, ex_one_int, and_tt, truA_bl, truOk_bl, truA_int, truOk_int, truA_lst, truOk_lst, truA_tup, truOk_tup, truA_refU, truOk_refU, Bool.not_true, Bool.not_false,  addA_ii, addA_ss, addA_tt, addA_ll, intA_ii, int2A_ii, subA_ii, mulA_ii, modA_ii, fdivA_ii, powA_ii, negA_i, ltA_ii, leA_ii, gtA_ii, geA_ii, ltA_ss, leA_ss, gtA_ss, geA_ss, isA, isntA, nonA, isiA_non, isiA_bl, isiA_int, isiA_str, isiA_tup, isiA_lst, isiA_rol, lenA_str, lenA_tup, lenA_lst, lenA_rol, absA_i, toIntA_i, toIntA_b, isIntA, isiB, String.reduceBEq, List.contains_cons, List.contains_nil, Bool.or_true, Bool.true_or, Bool.or_false, Bool.false_or, Bool.and_true, Bool.true_and, Bool.and_false, Bool.false_and, Bool.not_eq_true, if_true, if_false, decide_true, decide_false, Bool.false_eq_true, eq_self, reduceCtorEq, true_and, false_and, and_false, badA, exists_false, aFld, aPut, agFld, aPutAug, aMeth, aMake, mulX_ii, mulX_si, mulX_li, strA_i, strA_s, intXA_i, intXA_b, isBA_bb, isntBA_bb, aPar3, ex_tri, inA_tup, inA_lst, ninA_tup, ninA_lst, shrA_ii, andA_ii, aFor_tup, aFor_lst, aFor_enum, aLcF_lst, aLcF_tup, aLcF_rng, aLcP_lst, aLcP_tup, aLcP_enum, Int.cast_ofNat_Int, Int.reduceEq, Int.reduceLT, Int.reduceLE, Int.reduceNeg, Int.reduceAdd, Int.reduceSub, sub_dk, ix_cnt, ruleA, ixt4_0, ixt4_1, nat_ne, nat_lt]
  rw [bc_or4]
  have es : (r.own && (cnt s.made (some n) d != cnt s.made (s.at_ d) d) || r.oth && decide (cnt s.made (some n) (!d) < cnt s.made (s.at_ d) (!d))) = suspB r s d n := rfl
  rw [es]
  simp only [shownW, shownS] at q
  cases hs : suspB r s d n
  · simp only [hs, Bool.false_eq_true, if_false] at q
    refine ⟨s.made, s.at_ d, rfl, w, hat d, hm, s.made, some n, rfl, w, ho, hm, ?_⟩
    simp only [↓ite_bc, bc_t, bc_f, aFor_rng, lstA_lst, lstA_rol, aLcS_rng, eqA_ii, eqA_ss, neA_ii, neA_ss, updS_same, updS_updS, startA, List.map_cons, List.map_nil, List.cons_append, List.nil_append, List.length_cons, List.length_nil, Nat.zero_add, Nat.add_zero, Nat.reduceAdd, Nat.reduceSub, List.replicate_succ, List.replicate_zero, List.replicate,  aVar_z, aVar_s, aC, aNil, aCons, aTup, aLstV, aLst, aOp, aUn, aTru, aTst, aCmp, aChn, aChnT, aAnd, aOr, aNot, aIf, aAndV, aOrV, aNotV, aCB, aCall, aNext, aSeq, aBrk, aCnt, aRet, aRetN, aIfS, aNev,  agName, agNil, agCons, agTup, aAsg, aPar, aDrop, aCallK, aCallKn, aM, aM0, aAddS, aYes, one1, one2, wipeA, aRevT, aRevL, agSub_def, aSl, aPart, aNoPart, cutAns_rol, cutAns_lst, cutAns_tup, cutAns_str, aLstRg, aRg1, ex_some, tupleA_lst, tupleA_tup, wstA_lst,  List.set_cons_zero, List.set_cons_succ, List.set, ex_bl, ex_int, ex_str, ex_tup, ex_eq, ex_cons, ex_pair, ex_one1, ex_one_int, and_tt, truA_bl, truOk_bl, truA_int, truOk_int, truA_lst, truOk_lst, truA_tup, truOk_tup, truA_refU, truOk_refU, Bool.not_true, Bool.not_false,  addA_ii, addA_ss, addA_tt, addA_ll, intA_ii, int2A_ii, subA_ii, mulA_ii, modA_ii, fdivA_ii, powA_ii, negA_i, ltA_ii, leA_ii, gtA_ii, geA_ii, ltA_ss, leA_ss, gtA_ss, geA_ss, isA, isntA, nonA, isiA_non, isiA_bl, isiA_int, isiA_str, isiA_tup, isiA_lst, isiA_rol, lenA_str, lenA_tup, lenA_lst, lenA_rol, absA_i, toIntA_i, toIntA_b, isIntA, isiB, String.reduceBEq, List.contains_cons, List.contains_nil, Bool.or_true, Bool.true_or, Bool.or_false, Bool.false_or, Bool.and_true, Bool.true_and, Bool.and_false, Bool.false_and, Bool.not_eq_true, if_true, if_false, decide_true, decide_false, Bool.false_eq_true, eq_self, reduceCtorEq, true_and, false_and, and_false, badA, exists_false, aFld, aPut, agFld, aPutAug, aMeth, aMake, mulX_ii, mulX_si, mulX_li, strA_i, strA_s, intXA_i, intXA_b, isBA_bb, isntBA_bb, aPar3, ex_tri, inA_tup, inA_lst, ninA_tup, ninA_lst, shrA_ii, andA_ii, aFor_tup, aFor_lst, aFor_enum, aLcF_lst, aLcF_tup, aLcF_rng, aLcP_lst, aLcP_tup, aLcP_enum, Int.cast_ofNat_Int, Int.reduceEq, Int.reduceLT, Int.reduceLE, Int.reduceNeg, Int.reduceAdd, Int.reduceSub, neA_nO, List.length_map, cutL_to, ← List.map_take, eqA_nats, pre_suf]
    have eg : decide (rowO s.made (s.at_ d) <:+ rowO s.made (some n)) = !goneB s d n := by unfold goneB; rw [Bool.not_not]
    rw [eg]
    by_cases h : some n = s.at_ d
    · rw [showS_same h] at q
      rw [decide_eq_true h]
      cases hg : goneB s d n <;> simp only [hg, Bool.false_eq_true, if_false, if_true] at q <;> exact ⟨le_sl (by decide), rt_same q⟩
    · have e2 : showS s d n = (s.setAt d (some n)).setHand d false := by
        unfold showS; rw [if_neg (fun z => h (beq_iff_eq.mp z))]
      rw [e2] at q
      rw [decide_eq_false h]
      refine ⟨oN s.a0, oN s.a1, d, oN (some n), rfl, .bl s.h0, .bl s.h1, d, .bl false, rfl, le_sl (by decide), ?_⟩
      rw [setAt_with, setHand_with]
      have e3 : stA ((s.setAt d (some n)).setHand d false) = .tup [madeA s.made, atA (s.setAt d (some n)), hndA (s.setHand d false), oN s.kept] := by cases d <;> rfl
      rw [e3] at q
      cases hg : goneB s d n <;> simp only [hg, Bool.false_eq_true, if_false, if_true] at q <;> exact ⟨le_sl (by decide), rt_same q⟩
  · simp only [hs, if_true] at q
    cases hon <;> exact ⟨le_sl (by decide), rt_same q⟩
def sp__law_step : ASp := fun ds S Q => ∃ r hon s e, ds = [ruleA r, .bl hon, stA s, evA e] ∧ PreM s ∧ canB r hon s e = true ∧ Q (.tup [.str (stepW r hon s e), stA (stepS r s e)]) S
set_option maxHeartbeats 4000000 in
theorem fn__law_step (T : Txt K mg) (F__law_shown : Fn4 P w K mg base 3 "_law_shown" ["rule", "is_honest", "state", "desk", "number"] sp__law_shown) (F__law_with : Fn4 P w K mg base 1 "_law_with" ["pair", "desk", "value"] sp__law_with) (F__law_counts_of : Fn4 P w K mg base 2 "_law_counts_of" ["made", "number"] sp__law_counts_of) : FnX P w K mg base 4 "_law_step" st__law_step ["rule", "is_honest", "state", "event"] sp__law_step := by
  refine FnX.of T.d__law_step fun f fd F => F.ok4 sc__law_step (fun ds S Q h => by unfold sp__law_step at h; first | (obtain ⟨_, rfl, _⟩ := h; rfl) | (obtain ⟨_, _, rfl, _⟩ := h; rfl) | (obtain ⟨_, _, _, rfl, _⟩ := h; rfl) | (obtain ⟨_, _, _, _, rfl, _⟩ := h; rfl) | (obtain ⟨_, _, _, _, _, rfl, _⟩ := h; rfl) | (obtain ⟨_, _, _, _, _, _, rfl, _⟩ := h; rfl) | (obtain ⟨_, _, _, _, _, _, _, rfl, _⟩ := h; rfl)) fun cdv A gd out s H E hr => ?_
  refine ⟨_, (s_cons (s_asg (e_var 2) (g_tup rfl (gs_cons (g_name 4 sc__law_step.nd) (gs_cons (g_name 5 sc__law_step.nd) (gs_cons (g_name 6 sc__law_step.nd) (gs_cons (g_name 7 sc__law_step.nd) gs_nil))))))
    (s_cons (s_set 8 sc__law_step.nd (e_bm PySem.F.plainAttrs_list PySem.F.slot_list_index PySem.F.type_list_index m_index (e_lstV (a_cons e_str (a_cons e_str a_nil))) (a_cons (e_ix o_ix (e_var 3) e_int) a_nil)))
    (s_cons (s_if (t_cmp (o_eq hr.units) (e_ix o_ix (e_var 3) e_int) e_str) (s_one (s_ret (f_call F__law_shown gd (hr.mono (by decide)) (a_cons (e_var 0) (a_cons (e_var 1) (a_cons (e_var 2) (a_cons (e_var 8) (a_cons (e_ix o_ix (e_var 3) e_int) a_nil)))))))) s_nil)
    (s_cons (s_if (t_cmp (o_eq hr.units) (e_ix o_ix (e_var 3) e_int) e_str) (s_cons (s_set 9 sc__law_step.nd (e_cmp (o_eq hr.units) (e_ix o_ix (e_ix o_ix (e_var 4) (e_ix o_ix (e_var 5) (e_var 8))) e_int) (e_var 7)))
    (s_cons (s_set 6 sc__law_step.nd (f_call F__law_with gd (hr.mono (by decide)) (a_cons (e_var 6) (a_cons (e_var 8) (a_cons e_bl a_nil)))))
    (s_one (s_ret (e_tup (a_cons (e_if (t_tru (e_var 9)) e_str e_str) (a_cons (e_tup (a_cons (e_var 4) (a_cons (e_var 5) (a_cons (e_var 6) (a_cons (e_if (t_tru (e_var 9)) (e_ix o_ix (e_var 5) (e_var 8)) (e_var 7)) a_nil))))) a_nil))))))) s_nil)
    (s_cons (s_if (t_cmp (o_eq hr.units) (e_ix o_ix (e_var 3) e_int) e_str) (s_cons (s_if (w_or (t_tru (e_ix o_ix (e_var 0) e_int)) (w_or1 (t_not (t_tru (e_ix o_ix (e_var 6) (e_var 8)))))).pt (s_one (s_ret (e_tup (a_cons e_str (a_cons (e_var 2) a_nil))))) s_nil)
    (s_one (s_ret (e_tup (a_cons e_str (a_cons (e_tup (a_cons (e_var 4) (a_cons (f_call F__law_with gd (hr.mono (by decide)) (a_cons (e_var 5) (a_cons (e_var 8) (a_cons (e_ix o_ix (e_ix o_ix (e_var 4) (e_ix o_ix (e_var 5) (e_var 8))) e_int) a_nil)))) (a_cons (f_call F__law_with gd (hr.mono (by decide)) (a_cons (e_var 6) (a_cons (e_var 8) (a_cons e_bl a_nil)))) (a_cons (e_var 7) a_nil))))) a_nil)))))) s_nil)
    (s_cons (s_set 10 sc__law_step.nd (e_op o_add (e_ix o_ix (f_call F__law_counts_of gd (hr.mono (by decide)) (a_cons (e_var 4) (a_cons (e_ix o_ix (e_var 5) (e_var 8)) a_nil))) (e_var 8)) e_int))
    (s_cons (s_set 11 sc__law_step.nd (e_cb (c_any rfl) T.n_any (by decide +kernel) (a_cons (e_lc 12 [("one", 12)] rfl sc__law_step.nd (i_rng1 T.n_range (a_cons (e_cb c_len T.n_len (by decide +kernel) (a_cons (e_var 4) a_nil)) a_nil)) (blkOk_by (N := nm__law_step) (sc := defScope st__law_step) (by decide +kernel)) (fun _ _ _ _ _ => pg_name sc__law_step.nd rfl (Or.inl rfl)) (fun _ _ _ _ _ => ts_nil) (fun _ _ _ _ _ => (e_and (e_cmp (o_eq hr.units) (e_ix o_ix (e_ix o_ix (e_var 4) (e_var 12)) e_int) (e_var 8)) (e_one (e_cmp (o_eq hr.units) (e_ix o_ix (f_call F__law_counts_of gd (hr.mono (by decide)) (a_cons (e_var 4) (a_cons (e_var 12) a_nil))) (e_var 8)) (e_var 10)))))) a_nil)))
    (s_cons (s_set 13 sc__law_step.nd (e_op o_add (e_var 4) (e_tup (a_cons (e_tup (a_cons (e_var 8) (a_cons (e_ix o_ix (e_var 5) (e_var 8)) a_nil))) a_nil))))
    (s_cons (s_set 2 sc__law_step.nd (e_tup (a_cons (e_var 13) (a_cons (f_call F__law_with gd (hr.mono (by decide)) (a_cons (e_var 5) (a_cons (e_var 8) (a_cons (e_cb c_len T.n_len (by decide +kernel) (a_cons (e_var 4) a_nil)) a_nil)))) (a_cons (f_call F__law_with gd (hr.mono (by decide)) (a_cons (e_var 6) (a_cons (e_var 8) (a_cons e_bl a_nil)))) (a_cons (e_var 7) a_nil))))))
    (s_one (s_ret (e_tup (a_cons (e_if (t_tru (e_var 11)) e_str e_str) (a_cons (e_var 2) a_nil)))))))))))))), ?_⟩
  rintro _ S Q ⟨r, hon, s, e, rfl, P, can, q⟩
  obtain ⟨w, hat, hk, hm, hh⟩ := id P
  cases e with
  | make d =>
    simp only [↓ite_bc, bc_t, bc_f, aFor_rng, lstA_lst, lstA_rol, aLcS_rng, eqA_ii, eqA_ss, neA_ii, neA_ss, updS_same, updS_updS, startA, List.map_cons, List.map_nil, List.cons_append, List.nil_append, List.length_cons, List.length_nil, Nat.zero_add, Nat.add_zero, Nat.reduceAdd, Nat.reduceSub, List.replicate_succ, List.replicate_zero, List.replicate,  aVar_z, aVar_s, aC, aNil, aCons, aTup, aLstV, aLst, aOp, aUn, aTru, aTst, aCmp, aChn, aChnT, aAnd, aOr, aNot, aIf, aAndV, aOrV, aNotV, aCB, aCall, aNext, aSeq, aBrk, aCnt, aRet, aRetN, aIfS, aNev,  agName, agNil, agCons, agTup, aAsg, aPar, aDrop, aCallK, aCallKn, aM, aM0, aAddS, aYes, one1, one2, wipeA, aRevT, aRevL, agSub_def, aSl, aPart, aNoPart, cutAns_rol, cutAns_lst, cutAns_tup, cutAns_str, aLstRg, aRg1, ex_some, tupleA_lst, tupleA_tup, wstA_lst,  List.set_cons_zero, List.set_cons_succ, List.set, ex_bl, ex_int, ex_str, ex_tup, ex_eq, ex_cons, ex_pair, ex_one1, ex_one_int, and_tt, truA_bl, truOk_bl, truA_int, truOk_int, truA_lst, truOk_lst, truA_tup, truOk_tup, truA_refU, truOk_refU, Bool.not_true, Bool.not_false,  addA_ii, addA_ss, addA_tt, addA_ll, intA_ii, int2A_ii, subA_ii, mulA_ii, modA_ii, fdivA_ii, powA_ii, negA_i, ltA_ii, leA_ii, gtA_ii, geA_ii, ltA_ss, leA_ss, gtA_ss, geA_ss, isA, isntA, nonA, isiA_non, isiA_bl, isiA_int, isiA_str, isiA_tup, isiA_lst, isiA_rol, lenA_str, lenA_tup, lenA_lst, lenA_rol, absA_i, toIntA_i, toIntA_b, isIntA, isiB, String.reduceBEq, List.contains_cons, List.contains_nil, Bool.or_true, Bool.true_or, Bool.or_false, Bool.false_or, Bool.and_true, Bool.true_and, Bool.and_false, Bool.false_and, Bool.not_eq_true, if_true, if_false, decide_true, decide_false, Bool.false_eq_true, eq_self, reduceCtorEq, true_and, false_and, and_false, badA, exists_false, aFld, aPut, agFld, aPutAug, aMeth, aMake, mulX_ii, mulX_si, mulX_li, strA_i, strA_s, intXA_i, intXA_b, isBA_bb, isntBA_bb, aPar3, ex_tri, inA_tup, inA_lst, ninA_tup, ninA_lst, shrA_ii, andA_ii, aFor_tup, aFor_lst, aFor_enum, aLcF_lst, aLcF_tup, aLcF_rng, aLcP_lst, aLcP_tup, aLcP_enum, Int.cast_ofNat_Int, Int.reduceEq, Int.reduceLT, Int.reduceLE, Int.reduceNeg, Int.reduceAdd, Int.reduceSub, stA, evA, ix2_0, ix2_1]
    refine ⟨rfl, le_sl (by decide), rfl, index_nm ?_⟩
    simp only [↓ite_bc, bc_t, bc_f, aFor_rng, lstA_lst, lstA_rol, aLcS_rng, eqA_ii, eqA_ss, neA_ii, neA_ss, updS_same, updS_updS, startA, List.map_cons, List.map_nil, List.cons_append, List.nil_append, List.length_cons, List.length_nil, Nat.zero_add, Nat.add_zero, Nat.reduceAdd, Nat.reduceSub, List.replicate_succ, List.replicate_zero, List.replicate,  aVar_z, aVar_s, aC, aNil, aCons, aTup, aLstV, aLst, aOp, aUn, aTru, aTst, aCmp, aChn, aChnT, aAnd, aOr, aNot, aIf, aAndV, aOrV, aNotV, aCB, aCall, aNext, aSeq, aBrk, aCnt, aRet, aRetN, aIfS, aNev,  agName, agNil, agCons, agTup, aAsg, aPar, aDrop, aCallK, aCallKn, aM, aM0, aAddS, aYes, one1, one2, wipeA, aRevT, aRevL, agSub_def, aSl, aPart, aNoPart, cutAns_rol, cutAns_lst, cutAns_tup, cutAns_str, aLstRg, aRg1, ex_some, tupleA_lst, tupleA_tup, wstA_lst,  List.set_cons_zero, List.set_cons_succ, List.set, ex_bl, ex_int, ex_str, ex_tup, ex_eq, ex_cons, ex_pair, ex_one1, ex_one_int, and_tt, truA_bl, truOk_bl, truA_int, truOk_int, truA_lst, truOk_lst, truA_tup, truOk_tup, truA_refU, truOk_refU, Bool.not_true, Bool.not_false,  addA_ii, addA_ss, addA_tt, addA_ll, intA_ii, int2A_ii, subA_ii, mulA_ii, modA_ii, fdivA_ii, powA_ii, negA_i, ltA_ii, leA_ii, gtA_ii, geA_ii, ltA_ss, leA_ss, gtA_ss, geA_ss, isA, isntA, nonA, isiA_non, isiA_bl, isiA_int, isiA_str, isiA_tup, isiA_lst, isiA_rol, lenA_str, lenA_tup, lenA_lst, lenA_rol, absA_i, toIntA_i, toIntA_b, isIntA, isiB, String.reduceBEq, List.contains_cons, List.contains_nil, Bool.or_true, Bool.true_or, Bool.or_false, Bool.false_or, Bool.and_true, Bool.true_and, Bool.and_false, Bool.false_and, Bool.not_eq_true, if_true, if_false, decide_true, decide_false, Bool.false_eq_true, eq_self, reduceCtorEq, true_and, false_and, and_false, badA, exists_false, aFld, aPut, agFld, aPutAug, aMeth, aMake, mulX_ii, mulX_si, mulX_li, strA_i, strA_s, intXA_i, intXA_b, isBA_bb, isntBA_bb, aPar3, ex_tri, inA_tup, inA_lst, ninA_tup, ninA_lst, shrA_ii, andA_ii, aFor_tup, aFor_lst, aFor_enum, aLcF_lst, aLcF_tup, aLcF_rng, aLcP_lst, aLcP_tup, aLcP_enum, Int.cast_ofNat_Int, Int.reduceEq, Int.reduceLT, Int.reduceLE, Int.reduceNeg, Int.reduceAdd, Int.reduceSub, sw_7, sw_4, sw_10, ix_at]
    refine ⟨s.made, s.at_ d, rfl, w, hat d, hm, ?_⟩
    simp only [↓ite_bc, bc_t, bc_f, aFor_rng, lstA_lst, lstA_rol, aLcS_rng, eqA_ii, eqA_ss, neA_ii, neA_ss, updS_same, updS_updS, startA, List.map_cons, List.map_nil, List.cons_append, List.nil_append, List.length_cons, List.length_nil, Nat.zero_add, Nat.add_zero, Nat.reduceAdd, Nat.reduceSub, List.replicate_succ, List.replicate_zero, List.replicate,  aVar_z, aVar_s, aC, aNil, aCons, aTup, aLstV, aLst, aOp, aUn, aTru, aTst, aCmp, aChn, aChnT, aAnd, aOr, aNot, aIf, aAndV, aOrV, aNotV, aCB, aCall, aNext, aSeq, aBrk, aCnt, aRet, aRetN, aIfS, aNev,  agName, agNil, agCons, agTup, aAsg, aPar, aDrop, aCallK, aCallKn, aM, aM0, aAddS, aYes, one1, one2, wipeA, aRevT, aRevL, agSub_def, aSl, aPart, aNoPart, cutAns_rol, cutAns_lst, cutAns_tup, cutAns_str, aLstRg, aRg1, ex_some, tupleA_lst, tupleA_tup, wstA_lst,  List.set_cons_zero, List.set_cons_succ, List.set, ex_bl, ex_int, ex_str, ex_tup, ex_eq, ex_cons, ex_pair, ex_one1, ex_one_int, and_tt, truA_bl, truOk_bl, truA_int, truOk_int, truA_lst, truOk_lst, truA_tup, truOk_tup, truA_refU, truOk_refU, Bool.not_true, Bool.not_false,  addA_ii, addA_ss, addA_tt, addA_ll, intA_ii, int2A_ii, subA_ii, mulA_ii, modA_ii, fdivA_ii, powA_ii, negA_i, ltA_ii, leA_ii, gtA_ii, geA_ii, ltA_ss, leA_ss, gtA_ss, geA_ss, isA, isntA, nonA, isiA_non, isiA_bl, isiA_int, isiA_str, isiA_tup, isiA_lst, isiA_rol, lenA_str, lenA_tup, lenA_lst, lenA_rol, absA_i, toIntA_i, toIntA_b, isIntA, isiB, String.reduceBEq, List.contains_cons, List.contains_nil, Bool.or_true, Bool.true_or, Bool.or_false, Bool.false_or, Bool.and_true, Bool.true_and, Bool.and_false, Bool.false_and, Bool.not_eq_true, if_true, if_false, decide_true, decide_false, Bool.false_eq_true, eq_self, reduceCtorEq, true_and, false_and, and_false, badA, exists_false, aFld, aPut, agFld, aPutAug, aMeth, aMake, mulX_ii, mulX_si, mulX_li, strA_i, strA_s, intXA_i, intXA_b, isBA_bb, isntBA_bb, aPar3, ex_tri, inA_tup, inA_lst, ninA_tup, ninA_lst, shrA_ii, andA_ii, aFor_tup, aFor_lst, aFor_enum, aLcF_lst, aLcF_tup, aLcF_rng, aLcP_lst, aLcP_tup, aLcP_enum, Int.cast_ofNat_Int, Int.reduceEq, Int.reduceLT, Int.reduceLE, Int.reduceNeg, Int.reduceAdd, Int.reduceSub, ix_cnt, lenA_made]
    refine ⟨by omega, by omega, ?_⟩
    unfold rngA
    rw [Int.toNat_natCast]
    refine lcF_allM (xs := List.range s.made.length) (fun i => .int (0 + (i : Nat))) (fun i => .bl (dsk s.made i == d && cnt s.made (some i) d == cnt s.made (s.at_ d) d + 1)) (by rw [List.length_range]; exact le_sl (by omega)) (fun _ _ => trivial) (fun i hi Sx Qe h => ?_) ?_
    · have hi := List.mem_range.mp hi
      simp only [↓ite_bc, bc_t, bc_f, aFor_rng, lstA_lst, lstA_rol, aLcS_rng, eqA_ii, eqA_ss, neA_ii, neA_ss, updS_same, updS_updS, startA, List.map_cons, List.map_nil, List.cons_append, List.nil_append, List.length_cons, List.length_nil, Nat.zero_add, Nat.add_zero, Nat.reduceAdd, Nat.reduceSub, List.replicate_succ, List.replicate_zero, List.replicate,  aVar_z, aVar_s, aC, aNil, aCons, aTup, aLstV, aLst, aOp, aUn, aTru, aTst, aCmp, aChn, aChnT, aAnd, aOr, aNot, aIf, aAndV, aOrV, aNotV, aCB, aCall, aNext, aSeq, aBrk, aCnt, aRet, aRetN, aIfS, aNev,  agName, agNil, agCons, agTup, aAsg, aPar, aDrop, aCallK, aCallKn, aM, aM0, aAddS, aYes, one1, one2, wipeA, aRevT, aRevL, agSub_def, aSl, aPart, aNoPart, cutAns_rol, cutAns_lst, cutAns_tup, cutAns_str, aLstRg, aRg1, ex_some, tupleA_lst, tupleA_tup, wstA_lst,  List.set_cons_zero, List.set_cons_succ, List.set, ex_bl, ex_int, ex_str, ex_tup, ex_eq, ex_cons, ex_pair, ex_one1, ex_one_int, and_tt, truA_bl, truOk_bl, truA_int, truOk_int, truA_lst, truOk_lst, truA_tup, truOk_tup, truA_refU, truOk_refU, Bool.not_true, Bool.not_false,  addA_ii, addA_ss, addA_tt, addA_ll, intA_ii, int2A_ii, subA_ii, mulA_ii, modA_ii, fdivA_ii, powA_ii, negA_i, ltA_ii, leA_ii, gtA_ii, geA_ii, ltA_ss, leA_ss, gtA_ss, geA_ss, isA, isntA, nonA, isiA_non, isiA_bl, isiA_int, isiA_str, isiA_tup, isiA_lst, isiA_rol, lenA_str, lenA_tup, lenA_lst, lenA_rol, absA_i, toIntA_i, toIntA_b, isIntA, isiB, String.reduceBEq, List.contains_cons, List.contains_nil, Bool.or_true, Bool.true_or, Bool.or_false, Bool.false_or, Bool.and_true, Bool.true_and, Bool.and_false, Bool.false_and, Bool.not_eq_true, if_true, if_false, decide_true, decide_false, Bool.false_eq_true, eq_self, reduceCtorEq, true_and, false_and, and_false, badA, exists_false, aFld, aPut, agFld, aPutAug, aMeth, aMake, mulX_ii, mulX_si, mulX_li, strA_i, strA_s, intXA_i, intXA_b, isBA_bb, isntBA_bb, aPar3, ex_tri, inA_tup, inA_lst, ninA_tup, ninA_lst, shrA_ii, andA_ii, aFor_tup, aFor_lst, aFor_enum, aLcF_lst, aLcF_tup, aLcF_rng, aLcP_lst, aLcP_tup, aLcP_enum, Int.cast_ofNat_Int, Int.reduceEq, Int.reduceLT, Int.reduceLE, Int.reduceNeg, Int.reduceAdd, Int.reduceSub, Int.zero_add, ix_made hi, ix2_0, eqA_dk]
      cases hd : dsk s.made i == d
      · rw [hd] at h
        exact h
      · refine ⟨s.made, some i, rfl, w, (fun _ z => by cases z; exact hi), hm, ?_⟩
        simp only [↓ite_bc, bc_t, bc_f, aFor_rng, lstA_lst, lstA_rol, aLcS_rng, eqA_ii, eqA_ss, neA_ii, neA_ss, updS_same, updS_updS, startA, List.map_cons, List.map_nil, List.cons_append, List.nil_append, List.length_cons, List.length_nil, Nat.zero_add, Nat.add_zero, Nat.reduceAdd, Nat.reduceSub, List.replicate_succ, List.replicate_zero, List.replicate,  aVar_z, aVar_s, aC, aNil, aCons, aTup, aLstV, aLst, aOp, aUn, aTru, aTst, aCmp, aChn, aChnT, aAnd, aOr, aNot, aIf, aAndV, aOrV, aNotV, aCB, aCall, aNext, aSeq, aBrk, aCnt, aRet, aRetN, aIfS, aNev,  agName, agNil, agCons, agTup, aAsg, aPar, aDrop, aCallK, aCallKn, aM, aM0, aAddS, aYes, one1, one2, wipeA, aRevT, aRevL, agSub_def, aSl, aPart, aNoPart, cutAns_rol, cutAns_lst, cutAns_tup, cutAns_str, aLstRg, aRg1, ex_some, tupleA_lst, tupleA_tup, wstA_lst,  List.set_cons_zero, List.set_cons_succ, List.set, ex_bl, ex_int, ex_str, ex_tup, ex_eq, ex_cons, ex_pair, ex_one1, ex_one_int, and_tt, truA_bl, truOk_bl, truA_int, truOk_int, truA_lst, truOk_lst, truA_tup, truOk_tup, truA_refU, truOk_refU, Bool.not_true, Bool.not_false,  addA_ii, addA_ss, addA_tt, addA_ll, intA_ii, int2A_ii, subA_ii, mulA_ii, modA_ii, fdivA_ii, powA_ii, negA_i, ltA_ii, leA_ii, gtA_ii, geA_ii, ltA_ss, leA_ss, gtA_ss, geA_ss, isA, isntA, nonA, isiA_non, isiA_bl, isiA_int, isiA_str, isiA_tup, isiA_lst, isiA_rol, lenA_str, lenA_tup, lenA_lst, lenA_rol, absA_i, toIntA_i, toIntA_b, isIntA, isiB, String.reduceBEq, List.contains_cons, List.contains_nil, Bool.or_true, Bool.true_or, Bool.or_false, Bool.false_or, Bool.and_true, Bool.true_and, Bool.and_false, Bool.false_and, Bool.not_eq_true, if_true, if_false, decide_true, decide_false, Bool.false_eq_true, eq_self, reduceCtorEq, true_and, false_and, and_false, badA, exists_false, aFld, aPut, agFld, aPutAug, aMeth, aMake, mulX_ii, mulX_si, mulX_li, strA_i, strA_s, intXA_i, intXA_b, isBA_bb, isntBA_bb, aPar3, ex_tri, inA_tup, inA_lst, ninA_tup, ninA_lst, shrA_ii, andA_ii, aFor_tup, aFor_lst, aFor_enum, aLcF_lst, aLcF_tup, aLcF_rng, aLcP_lst, aLcP_tup, aLcP_enum, Int.cast_ofNat_Int, Int.reduceEq, Int.reduceLT, Int.reduceLE, Int.reduceNeg, Int.reduceAdd, Int.reduceSub, ix_cnt]
        rw [hd] at h
        have e : decide ((cnt s.made (some i) d : Int) = (cnt s.made (s.at_ d) d : Int) + 1) = (cnt s.made (some i) d == cnt s.made (s.at_ d) d + 1) := by
          rw [Bool.eq_iff_iff, decide_eq_true_eq, beq_iff_eq]
          omega
        rw [e]
        exact h
    · simp only [↓ite_bc, bc_t, bc_f, aFor_rng, lstA_lst, lstA_rol, aLcS_rng, eqA_ii, eqA_ss, neA_ii, neA_ss, updS_same, updS_updS, startA, List.map_cons, List.map_nil, List.cons_append, List.nil_append, List.length_cons, List.length_nil, Nat.zero_add, Nat.add_zero, Nat.reduceAdd, Nat.reduceSub, List.replicate_succ, List.replicate_zero, List.replicate,  aVar_z, aVar_s, aC, aNil, aCons, aTup, aLstV, aLst, aOp, aUn, aTru, aTst, aCmp, aChn, aChnT, aAnd, aOr, aNot, aIf, aAndV, aOrV, aNotV, aCB, aCall, aNext, aSeq, aBrk, aCnt, aRet, aRetN, aIfS, aNev,  agName, agNil, agCons, agTup, aAsg, aPar, aDrop, aCallK, aCallKn, aM, aM0, aAddS, aYes, one1, one2, wipeA, aRevT, aRevL, agSub_def, aSl, aPart, aNoPart, cutAns_rol, cutAns_lst, cutAns_tup, cutAns_str, aLstRg, aRg1, ex_some, tupleA_lst, tupleA_tup, wstA_lst,  List.set_cons_zero, List.set_cons_succ, List.set, ex_bl, ex_int, ex_str, ex_tup, ex_eq, ex_cons, ex_pair, ex_one1, ex_one_int, and_tt, truA_bl, truOk_bl, truA_int, truOk_int, truA_lst, truOk_lst, truA_tup, truOk_tup, truA_refU, truOk_refU, Bool.not_true, Bool.not_false,  addA_ii, addA_ss, addA_tt, addA_ll, intA_ii, int2A_ii, subA_ii, mulA_ii, modA_ii, fdivA_ii, powA_ii, negA_i, ltA_ii, leA_ii, gtA_ii, geA_ii, ltA_ss, leA_ss, gtA_ss, geA_ss, isA, isntA, nonA, isiA_non, isiA_bl, isiA_int, isiA_str, isiA_tup, isiA_lst, isiA_rol, lenA_str, lenA_tup, lenA_lst, lenA_rol, absA_i, toIntA_i, toIntA_b, isIntA, isiB, String.reduceBEq, List.contains_cons, List.contains_nil, Bool.or_true, Bool.true_or, Bool.or_false, Bool.false_or, Bool.and_true, Bool.true_and, Bool.and_false, Bool.false_and, Bool.not_eq_true, if_true, if_false, decide_true, decide_false, Bool.false_eq_true, eq_self, reduceCtorEq, true_and, false_and, and_false, badA, exists_false, aFld, aPut, agFld, aPutAug, aMeth, aMake, mulX_ii, mulX_si, mulX_li, strA_i, strA_s, intXA_i, intXA_b, isBA_bb, isntBA_bb, aPar3, ex_tri, inA_tup, inA_lst, ninA_tup, ninA_lst, shrA_ii, andA_ii, aFor_tup, aFor_lst, aFor_enum, aLcF_lst, aLcF_tup, aLcF_rng, aLcP_lst, aLcP_tup, aLcP_enum, Int.cast_ofNat_Int, Int.reduceEq, Int.reduceLT, Int.reduceLE, Int.reduceNeg, Int.reduceAdd, Int.reduceSub, anyA_eq]
      have ea : ((List.range s.made.length).any fun i => dsk s.made i == d && cnt s.made (some i) d == cnt s.made (s.at_ d) d + 1) = again s d := rfl
      rw [ea]
      simp only [↓ite_bc, bc_t, bc_f, aFor_rng, lstA_lst, lstA_rol, aLcS_rng, eqA_ii, eqA_ss, neA_ii, neA_ss, updS_same, updS_updS, startA, List.map_cons, List.map_nil, List.cons_append, List.nil_append, List.length_cons, List.length_nil, Nat.zero_add, Nat.add_zero, Nat.reduceAdd, Nat.reduceSub, List.replicate_succ, List.replicate_zero, List.replicate,  aVar_z, aVar_s, aC, aNil, aCons, aTup, aLstV, aLst, aOp, aUn, aTru, aTst, aCmp, aChn, aChnT, aAnd, aOr, aNot, aIf, aAndV, aOrV, aNotV, aCB, aCall, aNext, aSeq, aBrk, aCnt, aRet, aRetN, aIfS, aNev,  agName, agNil, agCons, agTup, aAsg, aPar, aDrop, aCallK, aCallKn, aM, aM0, aAddS, aYes, one1, one2, wipeA, aRevT, aRevL, agSub_def, aSl, aPart, aNoPart, cutAns_rol, cutAns_lst, cutAns_tup, cutAns_str, aLstRg, aRg1, ex_some, tupleA_lst, tupleA_tup, wstA_lst,  List.set_cons_zero, List.set_cons_succ, List.set, ex_bl, ex_int, ex_str, ex_tup, ex_eq, ex_cons, ex_pair, ex_one1, ex_one_int, and_tt, truA_bl, truOk_bl, truA_int, truOk_int, truA_lst, truOk_lst, truA_tup, truOk_tup, truA_refU, truOk_refU, Bool.not_true, Bool.not_false,  addA_ii, addA_ss, addA_tt, addA_ll, intA_ii, int2A_ii, subA_ii, mulA_ii, modA_ii, fdivA_ii, powA_ii, negA_i, ltA_ii, leA_ii, gtA_ii, geA_ii, ltA_ss, leA_ss, gtA_ss, geA_ss, isA, isntA, nonA, isiA_non, isiA_bl, isiA_int, isiA_str, isiA_tup, isiA_lst, isiA_rol, lenA_str, lenA_tup, lenA_lst, lenA_rol, absA_i, toIntA_i, toIntA_b, isIntA, isiB, String.reduceBEq, List.contains_cons, List.contains_nil, Bool.or_true, Bool.true_or, Bool.or_false, Bool.false_or, Bool.and_true, Bool.true_and, Bool.and_false, Bool.false_and, Bool.not_eq_true, if_true, if_false, decide_true, decide_false, Bool.false_eq_true, eq_self, reduceCtorEq, true_and, false_and, and_false, badA, exists_false, aFld, aPut, agFld, aPutAug, aMeth, aMake, mulX_ii, mulX_si, mulX_li, strA_i, strA_s, intXA_i, intXA_b, isBA_bb, isntBA_bb, aPar3, ex_tri, inA_tup, inA_lst, ninA_tup, ninA_lst, shrA_ii, andA_ii, aFor_tup, aFor_lst, aFor_enum, aLcF_lst, aLcF_tup, aLcF_rng, aLcP_lst, aLcP_tup, aLcP_enum, Int.cast_ofNat_Int, Int.reduceEq, Int.reduceLT, Int.reduceLE, Int.reduceNeg, Int.reduceAdd, Int.reduceSub, addA_made]
      refine ⟨le_sl (by decide), le_sl (by decide), le_sl (by omega), ?_⟩
      refine ⟨oN s.a0, oN s.a1, d, oN (some s.made.length), rfl, .bl s.h0, .bl s.h1, d, .bl true, rfl, le_sl (by decide), ?_⟩
      rw [setAt_with, setHand_with]
      have e3 : stA (makeS s d) = .tup [madeA (s.made ++ [(d, s.at_ d)]), atA (s.setAt d (some s.made.length)), hndA (s.setHand d true), oN s.kept] := by cases d <;> rfl
      have q : Q (.tup [.str (if again s d then "twice" else "made"), stA (makeS s d)]) S := q
      rw [e3] at q
      cases hg : again s d <;> simp only [hg, Bool.false_eq_true, if_false, if_true] at q <;> exact ⟨le_sl (by decide), rt_same q⟩
  | hand d =>
    obtain ⟨n, hn⟩ := hh d can
    have hlt := hat d n hn
    simp only [↓ite_bc, bc_t, bc_f, aFor_rng, lstA_lst, lstA_rol, aLcS_rng, eqA_ii, eqA_ss, neA_ii, neA_ss, updS_same, updS_updS, startA, List.map_cons, List.map_nil, List.cons_append, List.nil_append, List.length_cons, List.length_nil, Nat.zero_add, Nat.add_zero, Nat.reduceAdd, Nat.reduceSub, List.replicate_succ, List.replicate_zero, List.replicate,  aVar_z, aVar_s, aC, aNil, aCons, aTup, aLstV, aLst, aOp, aUn, aTru, aTst, aCmp, aChn, aChnT, aAnd, aOr, aNot, aIf, aAndV, aOrV, aNotV, aCB, aCall, aNext, aSeq, aBrk, aCnt, aRet, aRetN, aIfS, aNev,  agName, agNil, agCons, agTup, aAsg, aPar, aDrop, aCallK, aCallKn, aM, aM0, aAddS, aYes, one1, one2, wipeA, aRevT, aRevL, agSub_def, aSl, aPart, aNoPart, cutAns_rol, cutAns_lst, cutAns_tup, cutAns_str, aLstRg, aRg1, ex_some, tupleA_lst, tupleA_tup, wstA_lst,  List.set_cons_zero, List.set_cons_succ, List.set, ex_bl, ex_int, ex_str, ex_tup, ex_eq, ex_cons, ex_pair, ex_one1, ex_one_int, and_tt, truA_bl, truOk_bl, truA_int, truOk_int, truA_lst, truOk_lst, truA_tup, truOk_tup, truA_refU, truOk_refU, Bool.not_true, Bool.not_false,  addA_ii, addA_ss, addA_tt, addA_ll, intA_ii, int2A_ii, subA_ii, mulA_ii, modA_ii, fdivA_ii, powA_ii, negA_i, ltA_ii, leA_ii, gtA_ii, geA_ii, ltA_ss, leA_ss, gtA_ss, geA_ss, isA, isntA, nonA, isiA_non, isiA_bl, isiA_int, isiA_str, isiA_tup, isiA_lst, isiA_rol, lenA_str, lenA_tup, lenA_lst, lenA_rol, absA_i, toIntA_i, toIntA_b, isIntA, isiB, String.reduceBEq, List.contains_cons, List.contains_nil, Bool.or_true, Bool.true_or, Bool.or_false, Bool.false_or, Bool.and_true, Bool.true_and, Bool.and_false, Bool.false_and, Bool.not_eq_true, if_true, if_false, decide_true, decide_false, Bool.false_eq_true, eq_self, reduceCtorEq, true_and, false_and, and_false, badA, exists_false, aFld, aPut, agFld, aPutAug, aMeth, aMake, mulX_ii, mulX_si, mulX_li, strA_i, strA_s, intXA_i, intXA_b, isBA_bb, isntBA_bb, aPar3, ex_tri, inA_tup, inA_lst, ninA_tup, ninA_lst, shrA_ii, andA_ii, aFor_tup, aFor_lst, aFor_enum, aLcF_lst, aLcF_tup, aLcF_rng, aLcP_lst, aLcP_tup, aLcP_enum, Int.cast_ofNat_Int, Int.reduceEq, Int.reduceLT, Int.reduceLE, Int.reduceNeg, Int.reduceAdd, Int.reduceSub, stA, evA, ix2_0, ix2_1]
    refine ⟨rfl, le_sl (by decide), rfl, index_nm ?_⟩
    simp only [↓ite_bc, bc_t, bc_f, aFor_rng, lstA_lst, lstA_rol, aLcS_rng, eqA_ii, eqA_ss, neA_ii, neA_ss, updS_same, updS_updS, startA, List.map_cons, List.map_nil, List.cons_append, List.nil_append, List.length_cons, List.length_nil, Nat.zero_add, Nat.add_zero, Nat.reduceAdd, Nat.reduceSub, List.replicate_succ, List.replicate_zero, List.replicate,  aVar_z, aVar_s, aC, aNil, aCons, aTup, aLstV, aLst, aOp, aUn, aTru, aTst, aCmp, aChn, aChnT, aAnd, aOr, aNot, aIf, aAndV, aOrV, aNotV, aCB, aCall, aNext, aSeq, aBrk, aCnt, aRet, aRetN, aIfS, aNev,  agName, agNil, agCons, agTup, aAsg, aPar, aDrop, aCallK, aCallKn, aM, aM0, aAddS, aYes, one1, one2, wipeA, aRevT, aRevL, agSub_def, aSl, aPart, aNoPart, cutAns_rol, cutAns_lst, cutAns_tup, cutAns_str, aLstRg, aRg1, ex_some, tupleA_lst, tupleA_tup, wstA_lst,  List.set_cons_zero, List.set_cons_succ, List.set, ex_bl, ex_int, ex_str, ex_tup, ex_eq, ex_cons, ex_pair, ex_one1, ex_one_int, and_tt, truA_bl, truOk_bl, truA_int, truOk_int, truA_lst, truOk_lst, truA_tup, truOk_tup, truA_refU, truOk_refU, Bool.not_true, Bool.not_false,  addA_ii, addA_ss, addA_tt, addA_ll, intA_ii, int2A_ii, subA_ii, mulA_ii, modA_ii, fdivA_ii, powA_ii, negA_i, ltA_ii, leA_ii, gtA_ii, geA_ii, ltA_ss, leA_ss, gtA_ss, geA_ss, isA, isntA, nonA, isiA_non, isiA_bl, isiA_int, isiA_str, isiA_tup, isiA_lst, isiA_rol, lenA_str, lenA_tup, lenA_lst, lenA_rol, absA_i, toIntA_i, toIntA_b, isIntA, isiB, String.reduceBEq, List.contains_cons, List.contains_nil, Bool.or_true, Bool.true_or, Bool.or_false, Bool.false_or, Bool.and_true, Bool.true_and, Bool.and_false, Bool.false_and, Bool.not_eq_true, if_true, if_false, decide_true, decide_false, Bool.false_eq_true, eq_self, reduceCtorEq, true_and, false_and, and_false, badA, exists_false, aFld, aPut, agFld, aPutAug, aMeth, aMake, mulX_ii, mulX_si, mulX_li, strA_i, strA_s, intXA_i, intXA_b, isBA_bb, isntBA_bb, aPar3, ex_tri, inA_tup, inA_lst, ninA_tup, ninA_lst, shrA_ii, andA_ii, aFor_tup, aFor_lst, aFor_enum, aLcF_lst, aLcF_tup, aLcF_rng, aLcP_lst, aLcP_tup, aLcP_enum, Int.cast_ofNat_Int, Int.reduceEq, Int.reduceLT, Int.reduceLE, Int.reduceNeg, Int.reduceAdd, Int.reduceSub, sw_8, ix_at, ix_madeO hn hlt, ix2_1, eqA_oN]
    refine ⟨.bl s.h0, .bl s.h1, d, .bl false, rfl, ?_⟩
    rw [setHand_with]
    have eb : ((s.at_ d).bind (par s.made) == s.kept) = decide (par s.made n = s.kept) := by
      rw [hn]
      show (par s.made n == s.kept) = _
      rw [Bool.eq_iff_iff, decide_eq_true_eq, beq_iff_eq]
    have q : Q (.tup [.str (if ((s.at_ d).bind (par s.made) == s.kept) then "kept" else "turned away"), stA (handS s d)]) S := q
    have e3 : stA (handS s d) = .tup [madeA s.made, atA s, hndA (s.setHand d false), oN (if ((s.at_ d).bind (par s.made) == s.kept) = true then s.at_ d else s.kept)] := by cases d <;> rfl
    rw [e3, eb] at q
    cases hg : decide (par s.made n = s.kept) <;> simp only [hg, Bool.false_eq_true, if_false, if_true] at q <;> exact ⟨le_sl (by decide), le_sl (by decide), rt_same q⟩
  | fall d =>
    simp only [↓ite_bc, bc_t, bc_f, aFor_rng, lstA_lst, lstA_rol, aLcS_rng, eqA_ii, eqA_ss, neA_ii, neA_ss, updS_same, updS_updS, startA, List.map_cons, List.map_nil, List.cons_append, List.nil_append, List.length_cons, List.length_nil, Nat.zero_add, Nat.add_zero, Nat.reduceAdd, Nat.reduceSub, List.replicate_succ, List.replicate_zero, List.replicate,  aVar_z, aVar_s, aC, aNil, aCons, aTup, aLstV, aLst, aOp, aUn, aTru, aTst, aCmp, aChn, aChnT, aAnd, aOr, aNot, aIf, aAndV, aOrV, aNotV, aCB, aCall, aNext, aSeq, aBrk, aCnt, aRet, aRetN, aIfS, aNev,  agName, agNil, agCons, agTup, aAsg, aPar, aDrop, aCallK, aCallKn, aM, aM0, aAddS, aYes, one1, one2, wipeA, aRevT, aRevL, agSub_def, aSl, aPart, aNoPart, cutAns_rol, cutAns_lst, cutAns_tup, cutAns_str, aLstRg, aRg1, ex_some, tupleA_lst, tupleA_tup, wstA_lst,  List.set_cons_zero, List.set_cons_succ, List.set, ex_bl, ex_int, ex_str, ex_tup, ex_eq, ex_cons, ex_pair, ex_one1, ex_one_int, and_tt, truA_bl, truOk_bl, truA_int, truOk_int, truA_lst, truOk_lst, truA_tup, truOk_tup, truA_refU, truOk_refU, Bool.not_true, Bool.not_false,  addA_ii, addA_ss, addA_tt, addA_ll, intA_ii, int2A_ii, subA_ii, mulA_ii, modA_ii, fdivA_ii, powA_ii, negA_i, ltA_ii, leA_ii, gtA_ii, geA_ii, ltA_ss, leA_ss, gtA_ss, geA_ss, isA, isntA, nonA, isiA_non, isiA_bl, isiA_int, isiA_str, isiA_tup, isiA_lst, isiA_rol, lenA_str, lenA_tup, lenA_lst, lenA_rol, absA_i, toIntA_i, toIntA_b, isIntA, isiB, String.reduceBEq, List.contains_cons, List.contains_nil, Bool.or_true, Bool.true_or, Bool.or_false, Bool.false_or, Bool.and_true, Bool.true_and, Bool.and_false, Bool.false_and, Bool.not_eq_true, if_true, if_false, decide_true, decide_false, Bool.false_eq_true, eq_self, reduceCtorEq, true_and, false_and, and_false, badA, exists_false, aFld, aPut, agFld, aPutAug, aMeth, aMake, mulX_ii, mulX_si, mulX_li, strA_i, strA_s, intXA_i, intXA_b, isBA_bb, isntBA_bb, aPar3, ex_tri, inA_tup, inA_lst, ninA_tup, ninA_lst, shrA_ii, andA_ii, aFor_tup, aFor_lst, aFor_enum, aLcF_lst, aLcF_tup, aLcF_rng, aLcP_lst, aLcP_tup, aLcP_enum, Int.cast_ofNat_Int, Int.reduceEq, Int.reduceLT, Int.reduceLE, Int.reduceNeg, Int.reduceAdd, Int.reduceSub, stA, evA, ix2_0, ix2_1]
    refine ⟨rfl, le_sl (by decide), rfl, index_nm ?_⟩
    simp only [↓ite_bc, bc_t, bc_f, aFor_rng, lstA_lst, lstA_rol, aLcS_rng, eqA_ii, eqA_ss, neA_ii, neA_ss, updS_same, updS_updS, startA, List.map_cons, List.map_nil, List.cons_append, List.nil_append, List.length_cons, List.length_nil, Nat.zero_add, Nat.add_zero, Nat.reduceAdd, Nat.reduceSub, List.replicate_succ, List.replicate_zero, List.replicate,  aVar_z, aVar_s, aC, aNil, aCons, aTup, aLstV, aLst, aOp, aUn, aTru, aTst, aCmp, aChn, aChnT, aAnd, aOr, aNot, aIf, aAndV, aOrV, aNotV, aCB, aCall, aNext, aSeq, aBrk, aCnt, aRet, aRetN, aIfS, aNev,  agName, agNil, agCons, agTup, aAsg, aPar, aDrop, aCallK, aCallKn, aM, aM0, aAddS, aYes, one1, one2, wipeA, aRevT, aRevL, agSub_def, aSl, aPart, aNoPart, cutAns_rol, cutAns_lst, cutAns_tup, cutAns_str, aLstRg, aRg1, ex_some, tupleA_lst, tupleA_tup, wstA_lst,  List.set_cons_zero, List.set_cons_succ, List.set, ex_bl, ex_int, ex_str, ex_tup, ex_eq, ex_cons, ex_pair, ex_one1, ex_one_int, and_tt, truA_bl, truOk_bl, truA_int, truOk_int, truA_lst, truOk_lst, truA_tup, truOk_tup, truA_refU, truOk_refU, Bool.not_true, Bool.not_false,  addA_ii, addA_ss, addA_tt, addA_ll, intA_ii, int2A_ii, subA_ii, mulA_ii, modA_ii, fdivA_ii, powA_ii, negA_i, ltA_ii, leA_ii, gtA_ii, geA_ii, ltA_ss, leA_ss, gtA_ss, geA_ss, isA, isntA, nonA, isiA_non, isiA_bl, isiA_int, isiA_str, isiA_tup, isiA_lst, isiA_rol, lenA_str, lenA_tup, lenA_lst, lenA_rol, absA_i, toIntA_i, toIntA_b, isIntA, isiB, String.reduceBEq, List.contains_cons, List.contains_nil, Bool.or_true, Bool.true_or, Bool.or_false, Bool.false_or, Bool.and_true, Bool.true_and, Bool.and_false, Bool.false_and, Bool.not_eq_true, if_true, if_false, decide_true, decide_false, Bool.false_eq_true, eq_self, reduceCtorEq, true_and, false_and, and_false, badA, exists_false, aFld, aPut, agFld, aPutAug, aMeth, aMake, mulX_ii, mulX_si, mulX_li, strA_i, strA_s, intXA_i, intXA_b, isBA_bb, isntBA_bb, aPar3, ex_tri, inA_tup, inA_lst, ninA_tup, ninA_lst, shrA_ii, andA_ii, aFor_tup, aFor_lst, aFor_enum, aLcF_lst, aLcF_tup, aLcF_rng, aLcP_lst, aLcP_tup, aLcP_enum, Int.cast_ofNat_Int, Int.reduceEq, Int.reduceLT, Int.reduceLE, Int.reduceNeg, Int.reduceAdd, Int.reduceSub, sw_9, sw_5, ruleA, ixt4_2, ix_hnd, ix_at]
    have q : Q (.tup [.str "fallen", stA (if (r.ahead || !s.hand d) = true then s else fallS s d)]) S := q
    cases ha : r.ahead
    · cases hd : s.hand d
      · rw [ha, hd] at q
        exact ⟨le_sl (by decide), rt_same q⟩
      · obtain ⟨n, hn⟩ := hh d hd
        have hlt := hat d n hn
        rw [ha, hd] at q
        simp only [↓ite_bc, bc_t, bc_f, aFor_rng, lstA_lst, lstA_rol, aLcS_rng, eqA_ii, eqA_ss, neA_ii, neA_ss, updS_same, updS_updS, startA, List.map_cons, List.map_nil, List.cons_append, List.nil_append, List.length_cons, List.length_nil, Nat.zero_add, Nat.add_zero, Nat.reduceAdd, Nat.reduceSub, List.replicate_succ, List.replicate_zero, List.replicate,  aVar_z, aVar_s, aC, aNil, aCons, aTup, aLstV, aLst, aOp, aUn, aTru, aTst, aCmp, aChn, aChnT, aAnd, aOr, aNot, aIf, aAndV, aOrV, aNotV, aCB, aCall, aNext, aSeq, aBrk, aCnt, aRet, aRetN, aIfS, aNev,  agName, agNil, agCons, agTup, aAsg, aPar, aDrop, aCallK, aCallKn, aM, aM0, aAddS, aYes, one1, one2, wipeA, aRevT, aRevL, agSub_def, aSl, aPart, aNoPart, cutAns_rol, cutAns_lst, cutAns_tup, cutAns_str, aLstRg, aRg1, ex_some, tupleA_lst, tupleA_tup, wstA_lst,  List.set_cons_zero, List.set_cons_succ, List.set, ex_bl, ex_int, ex_str, ex_tup, ex_eq, ex_cons, ex_pair, ex_one1, ex_one_int, and_tt, truA_bl, truOk_bl, truA_int, truOk_int, truA_lst, truOk_lst, truA_tup, truOk_tup, truA_refU, truOk_refU, Bool.not_true, Bool.not_false,  addA_ii, addA_ss, addA_tt, addA_ll, intA_ii, int2A_ii, subA_ii, mulA_ii, modA_ii, fdivA_ii, powA_ii, negA_i, ltA_ii, leA_ii, gtA_ii, geA_ii, ltA_ss, leA_ss, gtA_ss, geA_ss, isA, isntA, nonA, isiA_non, isiA_bl, isiA_int, isiA_str, isiA_tup, isiA_lst, isiA_rol, lenA_str, lenA_tup, lenA_lst, lenA_rol, absA_i, toIntA_i, toIntA_b, isIntA, isiB, String.reduceBEq, List.contains_cons, List.contains_nil, Bool.or_true, Bool.true_or, Bool.or_false, Bool.false_or, Bool.and_true, Bool.true_and, Bool.and_false, Bool.false_and, Bool.not_eq_true, if_true, if_false, decide_true, decide_false, Bool.false_eq_true, eq_self, reduceCtorEq, true_and, false_and, and_false, badA, exists_false, aFld, aPut, agFld, aPutAug, aMeth, aMake, mulX_ii, mulX_si, mulX_li, strA_i, strA_s, intXA_i, intXA_b, isBA_bb, isntBA_bb, aPar3, ex_tri, inA_tup, inA_lst, ninA_tup, ninA_lst, shrA_ii, andA_ii, aFor_tup, aFor_lst, aFor_enum, aLcF_lst, aLcF_tup, aLcF_rng, aLcP_lst, aLcP_tup, aLcP_enum, Int.cast_ofNat_Int, Int.reduceEq, Int.reduceLT, Int.reduceLE, Int.reduceNeg, Int.reduceAdd, Int.reduceSub, ix_madeO hn hlt, ix2_1]
        refine ⟨oN s.a0, oN s.a1, d, oN (par s.made n), rfl, .bl s.h0, .bl s.h1, d, .bl false, rfl, le_sl (by decide), le_sl (by decide), ?_⟩
        rw [setAt_with, setHand_with]
        have e3 : stA (fallS s d) = .tup [madeA s.made, atA (s.setAt d ((s.at_ d).bind (par s.made))), hndA (s.setHand d false), oN s.kept] := by cases d <;> rfl
        have q : Q (.tup [.str "fallen", stA (fallS s d)]) S := q
        rw [e3, hn] at q
        exact rt_same q
    · rw [ha] at q
      exact ⟨le_sl (by decide), rt_same q⟩
  | shw d n =>
    have can : (decide (n < s.made.length) && (!hon || (decide (some n = s.kept) && !s.hand d))) = true := can
    rw [Bool.and_eq_true, decide_eq_true_eq] at can
    simp only [↓ite_bc, bc_t, bc_f, aFor_rng, lstA_lst, lstA_rol, aLcS_rng, eqA_ii, eqA_ss, neA_ii, neA_ss, updS_same, updS_updS, startA, List.map_cons, List.map_nil, List.cons_append, List.nil_append, List.length_cons, List.length_nil, Nat.zero_add, Nat.add_zero, Nat.reduceAdd, Nat.reduceSub, List.replicate_succ, List.replicate_zero, List.replicate,  aVar_z, aVar_s, aC, aNil, aCons, aTup, aLstV, aLst, aOp, aUn, aTru, aTst, aCmp, aChn, aChnT, aAnd, aOr, aNot, aIf, aAndV, aOrV, aNotV, aCB, aCall, aNext, aSeq, aBrk, aCnt, aRet, aRetN, aIfS, aNev,  agName, agNil, agCons, agTup, aAsg, aPar, aDrop, aCallK, aCallKn, aM, aM0, aAddS, aYes, one1, one2, wipeA, aRevT, aRevL, agSub_def, aSl, aPart, aNoPart, cutAns_rol, cutAns_lst, cutAns_tup, cutAns_str, aLstRg, aRg1, ex_some, tupleA_lst, tupleA_tup, wstA_lst,  List.set_cons_zero, List.set_cons_succ, List.set, ex_bl, ex_int, ex_str, ex_tup, ex_eq, ex_cons, ex_pair, ex_one1, ex_one_int, and_tt, truA_bl, truOk_bl, truA_int, truOk_int, truA_lst, truOk_lst, truA_tup, truOk_tup, truA_refU, truOk_refU, Bool.not_true, Bool.not_false,  addA_ii, addA_ss, addA_tt, addA_ll, intA_ii, int2A_ii, subA_ii, mulA_ii, modA_ii, fdivA_ii, powA_ii, negA_i, ltA_ii, leA_ii, gtA_ii, geA_ii, ltA_ss, leA_ss, gtA_ss, geA_ss, isA, isntA, nonA, isiA_non, isiA_bl, isiA_int, isiA_str, isiA_tup, isiA_lst, isiA_rol, lenA_str, lenA_tup, lenA_lst, lenA_rol, absA_i, toIntA_i, toIntA_b, isIntA, isiB, String.reduceBEq, List.contains_cons, List.contains_nil, Bool.or_true, Bool.true_or, Bool.or_false, Bool.false_or, Bool.and_true, Bool.true_and, Bool.and_false, Bool.false_and, Bool.not_eq_true, if_true, if_false, decide_true, decide_false, Bool.false_eq_true, eq_self, reduceCtorEq, true_and, false_and, and_false, badA, exists_false, aFld, aPut, agFld, aPutAug, aMeth, aMake, mulX_ii, mulX_si, mulX_li, strA_i, strA_s, intXA_i, intXA_b, isBA_bb, isntBA_bb, aPar3, ex_tri, inA_tup, inA_lst, ninA_tup, ninA_lst, shrA_ii, andA_ii, aFor_tup, aFor_lst, aFor_enum, aLcF_lst, aLcF_tup, aLcF_rng, aLcP_lst, aLcP_tup, aLcP_enum, Int.cast_ofNat_Int, Int.reduceEq, Int.reduceLT, Int.reduceLE, Int.reduceNeg, Int.reduceAdd, Int.reduceSub, stA, evA, ixt3_0, ixt3_1]
    refine ⟨rfl, le_sl (by decide), rfl, index_nm ?_⟩
    simp only [↓ite_bc, bc_t, bc_f, aFor_rng, lstA_lst, lstA_rol, aLcS_rng, eqA_ii, eqA_ss, neA_ii, neA_ss, updS_same, updS_updS, startA, List.map_cons, List.map_nil, List.cons_append, List.nil_append, List.length_cons, List.length_nil, Nat.zero_add, Nat.add_zero, Nat.reduceAdd, Nat.reduceSub, List.replicate_succ, List.replicate_zero, List.replicate,  aVar_z, aVar_s, aC, aNil, aCons, aTup, aLstV, aLst, aOp, aUn, aTru, aTst, aCmp, aChn, aChnT, aAnd, aOr, aNot, aIf, aAndV, aOrV, aNotV, aCB, aCall, aNext, aSeq, aBrk, aCnt, aRet, aRetN, aIfS, aNev,  agName, agNil, agCons, agTup, aAsg, aPar, aDrop, aCallK, aCallKn, aM, aM0, aAddS, aYes, one1, one2, wipeA, aRevT, aRevL, agSub_def, aSl, aPart, aNoPart, cutAns_rol, cutAns_lst, cutAns_tup, cutAns_str, aLstRg, aRg1, ex_some, tupleA_lst, tupleA_tup, wstA_lst,  List.set_cons_zero, List.set_cons_succ, List.set, ex_bl, ex_int, ex_str, ex_tup, ex_eq, ex_cons, ex_pair, ex_one1, ex_one_int, and_tt, truA_bl, truOk_bl, truA_int, truOk_int, truA_lst, truOk_lst, truA_tup, truOk_tup, truA_refU, truOk_refU, Bool.not_true, Bool.not_false,  addA_ii, addA_ss, addA_tt, addA_ll, intA_ii, int2A_ii, subA_ii, mulA_ii, modA_ii, fdivA_ii, powA_ii, negA_i, ltA_ii, leA_ii, gtA_ii, geA_ii, ltA_ss, leA_ss, gtA_ss, geA_ss, isA, isntA, nonA, isiA_non, isiA_bl, isiA_int, isiA_str, isiA_tup, isiA_lst, isiA_rol, lenA_str, lenA_tup, lenA_lst, lenA_rol, absA_i, toIntA_i, toIntA_b, isIntA, isiB, String.reduceBEq, List.contains_cons, List.contains_nil, Bool.or_true, Bool.true_or, Bool.or_false, Bool.false_or, Bool.and_true, Bool.true_and, Bool.and_false, Bool.false_and, Bool.not_eq_true, if_true, if_false, decide_true, decide_false, Bool.false_eq_true, eq_self, reduceCtorEq, true_and, false_and, and_false, badA, exists_false, aFld, aPut, agFld, aPutAug, aMeth, aMake, mulX_ii, mulX_si, mulX_li, strA_i, strA_s, intXA_i, intXA_b, isBA_bb, isntBA_bb, aPar3, ex_tri, inA_tup, inA_lst, ninA_tup, ninA_lst, shrA_ii, andA_ii, aFor_tup, aFor_lst, aFor_enum, aLcF_lst, aLcF_tup, aLcF_rng, aLcP_lst, aLcP_tup, aLcP_enum, Int.cast_ofNat_Int, Int.reduceEq, Int.reduceLT, Int.reduceLE, Int.reduceNeg, Int.reduceAdd, Int.reduceSub, ixt3_2]
    exact ⟨r, hon, s, d, n, rfl, P, can.1, rt_same q⟩
def sp__law_events : ASp := fun ds S Q => ∃ r hon s, ds = [ruleA r, .bl hon, stA s] ∧ s.made.length ≤ 1000 ∧ Q (.lst (((evsAll s.made.length).filter (canB r hon s)).map evA)) S
set_option maxHeartbeats 4000000 in
theorem fn__law_events (T : Txt K mg) (F__law_can : Fn4 P w K mg base 1 "_law_can" ["rule", "is_honest", "state", "event"] sp__law_can) : FnX P w K mg base 2 "_law_events" st__law_events ["rule", "is_honest", "state"] sp__law_events := by
  refine FnX.of T.d__law_events fun f fd F => F.ok4 sc__law_events (fun ds S Q h => by unfold sp__law_events at h; first | (obtain ⟨_, rfl, _⟩ := h; rfl) | (obtain ⟨_, _, rfl, _⟩ := h; rfl) | (obtain ⟨_, _, _, rfl, _⟩ := h; rfl) | (obtain ⟨_, _, _, _, rfl, _⟩ := h; rfl) | (obtain ⟨_, _, _, _, _, rfl, _⟩ := h; rfl) | (obtain ⟨_, _, _, _, _, _, rfl, _⟩ := h; rfl) | (obtain ⟨_, _, _, _, _, _, _, rfl, _⟩ := h; rfl)) fun cdv A gd out s H E hr => ?_
  refine ⟨_, (s_cons (s_set 3 sc__law_events.nd (e_lst a_nil))
    (s_cons (s_for PassesOwn.never rfl (i_tup (e_tup (a_cons e_str (a_cons e_str a_nil)))) (g_name 4 sc__law_events.nd) (s_cons (s_expr (e_bm PySem.F.plainAttrs_list PySem.F.slot_list_extend PySem.F.type_list_extend m_extend (e_var 3) (a_cons (e_lstV (a_cons (e_tup (a_cons e_str (a_cons (e_var 4) a_nil))) (a_cons (e_tup (a_cons e_str (a_cons (e_var 4) a_nil))) (a_cons (e_tup (a_cons e_str (a_cons (e_var 4) a_nil))) a_nil)))) a_nil)))
    (s_one (s_expr (e_bm PySem.F.plainAttrs_list PySem.F.slot_list_extend PySem.F.type_list_extend m_extend (e_var 3) (a_cons (e_lc 5 [("number", 5)] rfl sc__law_events.nd (i_rng1 T.n_range (a_cons (e_cb c_len T.n_len (by decide +kernel) (a_cons (e_ix o_ix (e_var 2) e_int) a_nil)) a_nil)) (blkOk_by (N := nm__law_events) (sc := defScope st__law_events) (by decide +kernel)) (fun _ _ _ _ _ => pg_name sc__law_events.nd rfl (Or.inl rfl)) (fun _ _ _ _ _ => ts_nil) (fun _ _ _ _ _ => (e_tup (a_cons e_str (a_cons (e_var 4) (a_cons (e_ct c_int T.n_int (by decide +kernel) (a_cons (e_var 5) a_nil)) a_nil)))))) a_nil))))))
    (s_one (s_ret (e_lc 6 [("event", 6)] rfl sc__law_events.nd (i_lst (e_var 3)) (blkOk_by (N := nm__law_events) (sc := defScope st__law_events) (by decide +kernel)) (fun _ _ _ _ _ => pg_name sc__law_events.nd rfl (Or.inl rfl)) (fun _ _ _ _ _ => (ts_one (t_tru (f_call F__law_can gd (hr.mono (by decide)) (a_cons (e_var 0) (a_cons (e_var 1) (a_cons (e_var 2) (a_cons (e_var 6) a_nil)))))))) (fun _ _ _ _ _ => (e_var 6))))))), ?_⟩
  rintro _ S Q ⟨r, hon, s, rfl, hm, q⟩
  simp only [↓ite_bc, bc_t, bc_f, aFor_rng, lstA_lst, lstA_rol, aLcS_rng, eqA_ii, eqA_ss, neA_ii, neA_ss, updS_same, updS_updS, startA, List.map_cons, List.map_nil, List.cons_append, List.nil_append, List.length_cons, List.length_nil, Nat.zero_add, Nat.add_zero, Nat.reduceAdd, Nat.reduceSub, List.replicate_succ, List.replicate_zero, List.replicate,  aVar_z, aVar_s, aC, aNil, aCons, aTup, aLstV, aLst, aOp, aUn, aTru, aTst, aCmp, aChn, aChnT, aAnd, aOr, aNot, aIf, aAndV, aOrV, aNotV, aCB, aCall, aNext, aSeq, aBrk, aCnt, aRet, aRetN, aIfS, aNev,  agName, agNil, agCons, agTup, aAsg, aPar, aDrop, aCallK, aCallKn, aM, aM0, aAddS, aYes, one1, one2, wipeA, aRevT, aRevL, agSub_def, aSl, aPart, aNoPart, cutAns_rol, cutAns_lst, cutAns_tup, cutAns_str, aLstRg, aRg1, ex_some, tupleA_lst, tupleA_tup, wstA_lst,  List.set_cons_zero, List.set_cons_succ, List.set, ex_bl, ex_int, ex_str, ex_tup, ex_eq, ex_cons, ex_pair, ex_one1, ex_one_int, and_tt, truA_bl, truOk_bl, truA_int, truOk_int, truA_lst, truOk_lst, truA_tup, truOk_tup, truA_refU, truOk_refU, Bool.not_true, Bool.not_false,  addA_ii, addA_ss, addA_tt, addA_ll, intA_ii, int2A_ii, subA_ii, mulA_ii, modA_ii, fdivA_ii, powA_ii, negA_i, ltA_ii, leA_ii, gtA_ii, geA_ii, ltA_ss, leA_ss, gtA_ss, geA_ss, isA, isntA, nonA, isiA_non, isiA_bl, isiA_int, isiA_str, isiA_tup, isiA_lst, isiA_rol, lenA_str, lenA_tup, lenA_lst, lenA_rol, absA_i, toIntA_i, toIntA_b, isIntA, isiB, String.reduceBEq, List.contains_cons, List.contains_nil, Bool.or_true, Bool.true_or, Bool.or_false, Bool.false_or, Bool.and_true, Bool.true_and, Bool.and_false, Bool.false_and, Bool.not_eq_true, if_true, if_false, decide_true, decide_false, Bool.false_eq_true, eq_self, reduceCtorEq, true_and, false_and, and_false, badA, exists_false, aFld, aPut, agFld, aPutAug, aMeth, aMake, mulX_ii, mulX_si, mulX_li, strA_i, strA_s, intXA_i, intXA_b, isBA_bb, isntBA_bb, aPar3, ex_tri, inA_tup, inA_lst, ninA_tup, ninA_lst, shrA_ii, andA_ii, aFor_tup, aFor_lst, aFor_enum, aLcF_lst, aLcF_tup, aLcF_rng, aLcP_lst, aLcP_tup, aLcP_enum, Int.cast_ofNat_Int, Int.reduceEq, Int.reduceLT, Int.reduceLE, Int.reduceNeg, Int.reduceAdd, Int.reduceSub]
  refine ⟨le_sl (by decide), fun l hl => ⟨le_sl (by decide), ?_⟩⟩
  have lb : ∀ d : Bool, (evsOf s.made.length d).length ≤ 1003 := fun d => by
    show (([Ev.make d, .hand d, .fall d] : List Ev) ++ (List.range s.made.length).map (Ev.shw d)).length ≤ 1003
    rw [List.length_append, List.length_map, List.length_range]
    show 3 + _ ≤ _
    omega
  refine ForGo.of (fun i τ S' => ∃ (o4 o5 o6 : Option AV), τ = [some (ruleA r), some (.bl hon), some (stA s), some (.ref l), o4, o5, o6] ∧ S' = updS S l (.lst ((evAt s.made.length i).map evA)))
    ⟨none, none, none, rfl, rfl⟩ (fun i x τ2 S2 hx hi ⟨o4, o5, o6, eτ, eS⟩ => ?_) (fun τ2 S2 ⟨o4, o5, o6, eτ, eS⟩ => ?_)
  · subst eτ eS
    obtain ⟨d, rfl, acc, ha, hb, hc⟩ : ∃ d, x = nmA d ∧ ∃ acc : List Ev, acc.length ≤ 1003 ∧ evAt s.made.length i = acc ∧
        evAt s.made.length (i + 1) = acc ++ evsOf s.made.length d := by
      have hi : i < 2 := hi
      rcases (show i = 0 ∨ i = 1 by omega) with rfl | rfl
      · cases hx
        exact ⟨false, rfl, [], Nat.zero_le _, rfl, rfl⟩
      · cases hx
        exact ⟨true, rfl, evsOf s.made.length false, lb _, rfl, rfl⟩
    simp only [hb, hc]
    simp only [↓ite_bc, bc_t, bc_f, aFor_rng, lstA_lst, lstA_rol, aLcS_rng, eqA_ii, eqA_ss, neA_ii, neA_ss, updS_same, updS_updS, startA, List.map_cons, List.map_nil, List.cons_append, List.nil_append, List.length_cons, List.length_nil, Nat.zero_add, Nat.add_zero, Nat.reduceAdd, Nat.reduceSub, List.replicate_succ, List.replicate_zero, List.replicate,  aVar_z, aVar_s, aC, aNil, aCons, aTup, aLstV, aLst, aOp, aUn, aTru, aTst, aCmp, aChn, aChnT, aAnd, aOr, aNot, aIf, aAndV, aOrV, aNotV, aCB, aCall, aNext, aSeq, aBrk, aCnt, aRet, aRetN, aIfS, aNev,  agName, agNil, agCons, agTup, aAsg, aPar, aDrop, aCallK, aCallKn, aM, aM0, aAddS, aYes, one1, one2, wipeA, aRevT, aRevL, agSub_def, aSl, aPart, aNoPart, cutAns_rol, cutAns_lst, cutAns_tup, cutAns_str, aLstRg, aRg1, ex_some, tupleA_lst, tupleA_tup, wstA_lst,  List.set_cons_zero, List.set_cons_succ, List.set, ex_bl, ex_int, ex_str, ex_tup, ex_eq, ex_cons, ex_pair, ex_one1, ex_one_int, and_tt, truA_bl, truOk_bl, truA_int, truOk_int, truA_lst, truOk_lst, truA_tup, truOk_tup, truA_refU, truOk_refU, Bool.not_true, Bool.not_false,  addA_ii, addA_ss, addA_tt, addA_ll, intA_ii, int2A_ii, subA_ii, mulA_ii, modA_ii, fdivA_ii, powA_ii, negA_i, ltA_ii, leA_ii, gtA_ii, geA_ii, ltA_ss, leA_ss, gtA_ss, geA_ss, isA, isntA, nonA, isiA_non, isiA_bl, isiA_int, isiA_str, isiA_tup, isiA_lst, isiA_rol, lenA_str, lenA_tup, lenA_lst, lenA_rol, absA_i, toIntA_i, toIntA_b, isIntA, isiB, String.reduceBEq, List.contains_cons, List.contains_nil, Bool.or_true, Bool.true_or, Bool.or_false, Bool.false_or, Bool.and_true, Bool.true_and, Bool.and_false, Bool.false_and, Bool.not_eq_true, if_true, if_false, decide_true, decide_false, Bool.false_eq_true, eq_self, reduceCtorEq, true_and, false_and, and_false, badA, exists_false, aFld, aPut, agFld, aPutAug, aMeth, aMake, mulX_ii, mulX_si, mulX_li, strA_i, strA_s, intXA_i, intXA_b, isBA_bb, isntBA_bb, aPar3, ex_tri, inA_tup, inA_lst, ninA_tup, ninA_lst, shrA_ii, andA_ii, aFor_tup, aFor_lst, aFor_enum, aLcF_lst, aLcF_tup, aLcF_rng, aLcP_lst, aLcP_tup, aLcP_enum, Int.cast_ofNat_Int, Int.reduceEq, Int.reduceLT, Int.reduceLE, Int.reduceNeg, Int.reduceAdd, Int.reduceSub]
    refine ⟨tyL updS_same, le_sl (by decide), le_sl (by decide), le_sl (by decide), le_sl (by decide), ?_⟩
    refine ⟨l, _, _, _, rfl, rfl, updS_same, .inr rfl, le_sl (by rw [List.length_map]; show _ + 3 ≤ _; omega), ?_⟩
    simp only [↓ite_bc, bc_t, bc_f, aFor_rng, lstA_lst, lstA_rol, aLcS_rng, eqA_ii, eqA_ss, neA_ii, neA_ss, updS_same, updS_updS, startA, List.map_cons, List.map_nil, List.cons_append, List.nil_append, List.length_cons, List.length_nil, Nat.zero_add, Nat.add_zero, Nat.reduceAdd, Nat.reduceSub, List.replicate_succ, List.replicate_zero, List.replicate,  aVar_z, aVar_s, aC, aNil, aCons, aTup, aLstV, aLst, aOp, aUn, aTru, aTst, aCmp, aChn, aChnT, aAnd, aOr, aNot, aIf, aAndV, aOrV, aNotV, aCB, aCall, aNext, aSeq, aBrk, aCnt, aRet, aRetN, aIfS, aNev,  agName, agNil, agCons, agTup, aAsg, aPar, aDrop, aCallK, aCallKn, aM, aM0, aAddS, aYes, one1, one2, wipeA, aRevT, aRevL, agSub_def, aSl, aPart, aNoPart, cutAns_rol, cutAns_lst, cutAns_tup, cutAns_str, aLstRg, aRg1, ex_some, tupleA_lst, tupleA_tup, wstA_lst,  List.set_cons_zero, List.set_cons_succ, List.set, ex_bl, ex_int, ex_str, ex_tup, ex_eq, ex_cons, ex_pair, ex_one1, ex_one_int, and_tt, truA_bl, truOk_bl, truA_int, truOk_int, truA_lst, truOk_lst, truA_tup, truOk_tup, truA_refU, truOk_refU, Bool.not_true, Bool.not_false,  addA_ii, addA_ss, addA_tt, addA_ll, intA_ii, int2A_ii, subA_ii, mulA_ii, modA_ii, fdivA_ii, powA_ii, negA_i, ltA_ii, leA_ii, gtA_ii, geA_ii, ltA_ss, leA_ss, gtA_ss, geA_ss, isA, isntA, nonA, isiA_non, isiA_bl, isiA_int, isiA_str, isiA_tup, isiA_lst, isiA_rol, lenA_str, lenA_tup, lenA_lst, lenA_rol, absA_i, toIntA_i, toIntA_b, isIntA, isiB, String.reduceBEq, List.contains_cons, List.contains_nil, Bool.or_true, Bool.true_or, Bool.or_false, Bool.false_or, Bool.and_true, Bool.true_and, Bool.and_false, Bool.false_and, Bool.not_eq_true, if_true, if_false, decide_true, decide_false, Bool.false_eq_true, eq_self, reduceCtorEq, true_and, false_and, and_false, badA, exists_false, aFld, aPut, agFld, aPutAug, aMeth, aMake, mulX_ii, mulX_si, mulX_li, strA_i, strA_s, intXA_i, intXA_b, isBA_bb, isntBA_bb, aPar3, ex_tri, inA_tup, inA_lst, ninA_tup, ninA_lst, shrA_ii, andA_ii, aFor_tup, aFor_lst, aFor_enum, aLcF_lst, aLcF_tup, aLcF_rng, aLcP_lst, aLcP_tup, aLcP_enum, Int.cast_ofNat_Int, Int.reduceEq, Int.reduceLT, Int.reduceLE, Int.reduceNeg, Int.reduceAdd, Int.reduceSub, stA, ixt4_0, lenA_made]
    refine ⟨tyL updS_same, by omega, by omega, ?_⟩
    unfold rngA
    rw [Int.toNat_natCast]
    refine lcF_allM (xs := List.range s.made.length) (fun i => .int (0 + (i : Nat))) (fun i => evA (.shw d i)) (by rw [List.length_range]; exact le_sl (by omega)) (fun _ _ => trivial) (fun i hi Sx Qe h => ?_) ?_
    · simp only [↓ite_bc, bc_t, bc_f, aFor_rng, lstA_lst, lstA_rol, aLcS_rng, eqA_ii, eqA_ss, neA_ii, neA_ss, updS_same, updS_updS, startA, List.map_cons, List.map_nil, List.cons_append, List.nil_append, List.length_cons, List.length_nil, Nat.zero_add, Nat.add_zero, Nat.reduceAdd, Nat.reduceSub, List.replicate_succ, List.replicate_zero, List.replicate,  aVar_z, aVar_s, aC, aNil, aCons, aTup, aLstV, aLst, aOp, aUn, aTru, aTst, aCmp, aChn, aChnT, aAnd, aOr, aNot, aIf, aAndV, aOrV, aNotV, aCB, aCall, aNext, aSeq, aBrk, aCnt, aRet, aRetN, aIfS, aNev,  agName, agNil, agCons, agTup, aAsg, aPar, aDrop, aCallK, aCallKn, aM, aM0, aAddS, aYes, one1, one2, wipeA, aRevT, aRevL, agSub_def, aSl, aPart, aNoPart, cutAns_rol, cutAns_lst, cutAns_tup, cutAns_str, aLstRg, aRg1, ex_some, tupleA_lst, tupleA_tup, wstA_lst,  List.set_cons_zero, List.set_cons_succ, List.set, ex_bl, ex_int, ex_str, ex_tup, ex_eq, ex_cons, ex_pair, ex_one1, ex_one_int, and_tt, truA_bl, truOk_bl, truA_int, truOk_int, truA_lst, truOk_lst, truA_tup, truOk_tup, truA_refU, truOk_refU, Bool.not_true, Bool.not_false,  addA_ii, addA_ss, addA_tt, addA_ll, intA_ii, int2A_ii, subA_ii, mulA_ii, modA_ii, fdivA_ii, powA_ii, negA_i, ltA_ii, leA_ii, gtA_ii, geA_ii, ltA_ss, leA_ss, gtA_ss, geA_ss, isA, isntA, nonA, isiA_non, isiA_bl, isiA_int, isiA_str, isiA_tup, isiA_lst, isiA_rol, lenA_str, lenA_tup, lenA_lst, lenA_rol, absA_i, toIntA_i, toIntA_b, isIntA, isiB, String.reduceBEq, List.contains_cons, List.contains_nil, Bool.or_true, Bool.true_or, Bool.or_false, Bool.false_or, Bool.and_true, Bool.true_and, Bool.and_false, Bool.false_and, Bool.not_eq_true, if_true, if_false, decide_true, decide_false, Bool.false_eq_true, eq_self, reduceCtorEq, true_and, false_and, and_false, badA, exists_false, aFld, aPut, agFld, aPutAug, aMeth, aMake, mulX_ii, mulX_si, mulX_li, strA_i, strA_s, intXA_i, intXA_b, isBA_bb, isntBA_bb, aPar3, ex_tri, inA_tup, inA_lst, ninA_tup, ninA_lst, shrA_ii, andA_ii, aFor_tup, aFor_lst, aFor_enum, aLcF_lst, aLcF_tup, aLcF_rng, aLcP_lst, aLcP_tup, aLcP_enum, Int.cast_ofNat_Int, Int.reduceEq, Int.reduceLT, Int.reduceLE, Int.reduceNeg, Int.reduceAdd, Int.reduceSub, Int.zero_add]
      exact ⟨le_sl (by decide), h⟩
    · refine ⟨l, _, _, _, rfl, rfl, updS_same, .inr rfl, le_sl (by rw [List.length_append, List.length_map, List.length_map, List.length_range]; show _ + 3 + _ ≤ _; omega), ?_⟩
      refine ⟨_, _, _, rfl, ?_⟩
      rw [updS_updS]
      congr 2
      rw [List.map_append]
      unfold evsOf
      rw [List.map_append, List.map_map, List.append_assoc]
      rfl
  · subst eτ eS
    simp only [↓ite_bc, bc_t, bc_f, aFor_rng, lstA_lst, lstA_rol, aLcS_rng, eqA_ii, eqA_ss, neA_ii, neA_ss, updS_same, updS_updS, startA, List.map_cons, List.map_nil, List.cons_append, List.nil_append, List.length_cons, List.length_nil, Nat.zero_add, Nat.add_zero, Nat.reduceAdd, Nat.reduceSub, List.replicate_succ, List.replicate_zero, List.replicate,  aVar_z, aVar_s, aC, aNil, aCons, aTup, aLstV, aLst, aOp, aUn, aTru, aTst, aCmp, aChn, aChnT, aAnd, aOr, aNot, aIf, aAndV, aOrV, aNotV, aCB, aCall, aNext, aSeq, aBrk, aCnt, aRet, aRetN, aIfS, aNev,  agName, agNil, agCons, agTup, aAsg, aPar, aDrop, aCallK, aCallKn, aM, aM0, aAddS, aYes, one1, one2, wipeA, aRevT, aRevL, agSub_def, aSl, aPart, aNoPart, cutAns_rol, cutAns_lst, cutAns_tup, cutAns_str, aLstRg, aRg1, ex_some, tupleA_lst, tupleA_tup, wstA_lst,  List.set_cons_zero, List.set_cons_succ, List.set, ex_bl, ex_int, ex_str, ex_tup, ex_eq, ex_cons, ex_pair, ex_one1, ex_one_int, and_tt, truA_bl, truOk_bl, truA_int, truOk_int, truA_lst, truOk_lst, truA_tup, truOk_tup, truA_refU, truOk_refU, Bool.not_true, Bool.not_false,  addA_ii, addA_ss, addA_tt, addA_ll, intA_ii, int2A_ii, subA_ii, mulA_ii, modA_ii, fdivA_ii, powA_ii, negA_i, ltA_ii, leA_ii, gtA_ii, geA_ii, ltA_ss, leA_ss, gtA_ss, geA_ss, isA, isntA, nonA, isiA_non, isiA_bl, isiA_int, isiA_str, isiA_tup, isiA_lst, isiA_rol, lenA_str, lenA_tup, lenA_lst, lenA_rol, absA_i, toIntA_i, toIntA_b, isIntA, isiB, String.reduceBEq, List.contains_cons, List.contains_nil, Bool.or_true, Bool.true_or, Bool.or_false, Bool.false_or, Bool.and_true, Bool.true_and, Bool.and_false, Bool.false_and, Bool.not_eq_true, if_true, if_false, decide_true, decide_false, Bool.false_eq_true, eq_self, reduceCtorEq, true_and, false_and, and_false, badA, exists_false, aFld, aPut, agFld, aPutAug, aMeth, aMake, mulX_ii, mulX_si, mulX_li, strA_i, strA_s, intXA_i, intXA_b, isBA_bb, isntBA_bb, aPar3, ex_tri, inA_tup, inA_lst, ninA_tup, ninA_lst, shrA_ii, andA_ii, aFor_tup, aFor_lst, aFor_enum, aLcF_lst, aLcF_tup, aLcF_rng, aLcP_lst, aLcP_tup, aLcP_enum, Int.cast_ofNat_Int, Int.reduceEq, Int.reduceLT, Int.reduceLE, Int.reduceNeg, Int.reduceAdd, Int.reduceSub]
    refine ⟨_, lstA_ref updS_same, ?_⟩
    refine lcF_pureM evA (canB r hon s) evA (by have := lb false; have := lb true; show (evsOf s.made.length false ++ evsOf s.made.length true).length ≤ _; rw [List.length_append]; exact le_sl (by omega)) (fun D hD => lstA_upd (lstA_ref updS_same) hD) (fun e he Sx Qb h => ?_) (fun e he _ Sx Qe h => ?_) ?_
    · simp only [↓ite_bc, bc_t, bc_f, aFor_rng, lstA_lst, lstA_rol, aLcS_rng, eqA_ii, eqA_ss, neA_ii, neA_ss, updS_same, updS_updS, startA, List.map_cons, List.map_nil, List.cons_append, List.nil_append, List.length_cons, List.length_nil, Nat.zero_add, Nat.add_zero, Nat.reduceAdd, Nat.reduceSub, List.replicate_succ, List.replicate_zero, List.replicate,  aVar_z, aVar_s, aC, aNil, aCons, aTup, aLstV, aLst, aOp, aUn, aTru, aTst, aCmp, aChn, aChnT, aAnd, aOr, aNot, aIf, aAndV, aOrV, aNotV, aCB, aCall, aNext, aSeq, aBrk, aCnt, aRet, aRetN, aIfS, aNev,  agName, agNil, agCons, agTup, aAsg, aPar, aDrop, aCallK, aCallKn, aM, aM0, aAddS, aYes, one1, one2, wipeA, aRevT, aRevL, agSub_def, aSl, aPart, aNoPart, cutAns_rol, cutAns_lst, cutAns_tup, cutAns_str, aLstRg, aRg1, ex_some, tupleA_lst, tupleA_tup, wstA_lst,  List.set_cons_zero, List.set_cons_succ, List.set, ex_bl, ex_int, ex_str, ex_tup, ex_eq, ex_cons, ex_pair, ex_one1, ex_one_int, and_tt, truA_bl, truOk_bl, truA_int, truOk_int, truA_lst, truOk_lst, truA_tup, truOk_tup, truA_refU, truOk_refU, Bool.not_true, Bool.not_false,  addA_ii, addA_ss, addA_tt, addA_ll, intA_ii, int2A_ii, subA_ii, mulA_ii, modA_ii, fdivA_ii, powA_ii, negA_i, ltA_ii, leA_ii, gtA_ii, geA_ii, ltA_ss, leA_ss, gtA_ss, geA_ss, isA, isntA, nonA, isiA_non, isiA_bl, isiA_int, isiA_str, isiA_tup, isiA_lst, isiA_rol, lenA_str, lenA_tup, lenA_lst, lenA_rol, absA_i, toIntA_i, toIntA_b, isIntA, isiB, String.reduceBEq, List.contains_cons, List.contains_nil, Bool.or_true, Bool.true_or, Bool.or_false, Bool.false_or, Bool.and_true, Bool.true_and, Bool.and_false, Bool.false_and, Bool.not_eq_true, if_true, if_false, decide_true, decide_false, Bool.false_eq_true, eq_self, reduceCtorEq, true_and, false_and, and_false, badA, exists_false, aFld, aPut, agFld, aPutAug, aMeth, aMake, mulX_ii, mulX_si, mulX_li, strA_i, strA_s, intXA_i, intXA_b, isBA_bb, isntBA_bb, aPar3, ex_tri, inA_tup, inA_lst, ninA_tup, ninA_lst, shrA_ii, andA_ii, aFor_tup, aFor_lst, aFor_enum, aLcF_lst, aLcF_tup, aLcF_rng, aLcP_lst, aLcP_tup, aLcP_enum, Int.cast_ofNat_Int, Int.reduceEq, Int.reduceLT, Int.reduceLE, Int.reduceNeg, Int.reduceAdd, Int.reduceSub]
      exact ⟨r, hon, s, e, rfl, trivial, h⟩
    · simp only [↓ite_bc, bc_t, bc_f, aFor_rng, lstA_lst, lstA_rol, aLcS_rng, eqA_ii, eqA_ss, neA_ii, neA_ss, updS_same, updS_updS, startA, List.map_cons, List.map_nil, List.cons_append, List.nil_append, List.length_cons, List.length_nil, Nat.zero_add, Nat.add_zero, Nat.reduceAdd, Nat.reduceSub, List.replicate_succ, List.replicate_zero, List.replicate,  aVar_z, aVar_s, aC, aNil, aCons, aTup, aLstV, aLst, aOp, aUn, aTru, aTst, aCmp, aChn, aChnT, aAnd, aOr, aNot, aIf, aAndV, aOrV, aNotV, aCB, aCall, aNext, aSeq, aBrk, aCnt, aRet, aRetN, aIfS, aNev,  agName, agNil, agCons, agTup, aAsg, aPar, aDrop, aCallK, aCallKn, aM, aM0, aAddS, aYes, one1, one2, wipeA, aRevT, aRevL, agSub_def, aSl, aPart, aNoPart, cutAns_rol, cutAns_lst, cutAns_tup, cutAns_str, aLstRg, aRg1, ex_some, tupleA_lst, tupleA_tup, wstA_lst,  List.set_cons_zero, List.set_cons_succ, List.set, ex_bl, ex_int, ex_str, ex_tup, ex_eq, ex_cons, ex_pair, ex_one1, ex_one_int, and_tt, truA_bl, truOk_bl, truA_int, truOk_int, truA_lst, truOk_lst, truA_tup, truOk_tup, truA_refU, truOk_refU, Bool.not_true, Bool.not_false,  addA_ii, addA_ss, addA_tt, addA_ll, intA_ii, int2A_ii, subA_ii, mulA_ii, modA_ii, fdivA_ii, powA_ii, negA_i, ltA_ii, leA_ii, gtA_ii, geA_ii, ltA_ss, leA_ss, gtA_ss, geA_ss, isA, isntA, nonA, isiA_non, isiA_bl, isiA_int, isiA_str, isiA_tup, isiA_lst, isiA_rol, lenA_str, lenA_tup, lenA_lst, lenA_rol, absA_i, toIntA_i, toIntA_b, isIntA, isiB, String.reduceBEq, List.contains_cons, List.contains_nil, Bool.or_true, Bool.true_or, Bool.or_false, Bool.false_or, Bool.and_true, Bool.true_and, Bool.and_false, Bool.false_and, Bool.not_eq_true, if_true, if_false, decide_true, decide_false, Bool.false_eq_true, eq_self, reduceCtorEq, true_and, false_and, and_false, badA, exists_false, aFld, aPut, agFld, aPutAug, aMeth, aMake, mulX_ii, mulX_si, mulX_li, strA_i, strA_s, intXA_i, intXA_b, isBA_bb, isntBA_bb, aPar3, ex_tri, inA_tup, inA_lst, ninA_tup, ninA_lst, shrA_ii, andA_ii, aFor_tup, aFor_lst, aFor_enum, aLcF_lst, aLcF_tup, aLcF_rng, aLcP_lst, aLcP_tup, aLcP_enum, Int.cast_ofNat_Int, Int.reduceEq, Int.reduceLT, Int.reduceLE, Int.reduceNeg, Int.reduceAdd, Int.reduceSub]
      exact h
    · exact rt_new hl q
def sp__law_is_wrong : ASp := fun ds S Q => ∃ w, ds = [.str w] ∧ Q (.bl (wrongS w)) S
set_option maxHeartbeats 4000000 in
theorem fn__law_is_wrong (T : Txt K mg)  : FnX P w K mg base 1 "_law_is_wrong" st__law_is_wrong ["word"] sp__law_is_wrong := by
  refine FnX.of T.d__law_is_wrong fun f fd F => F.ok4 sc__law_is_wrong (fun ds S Q h => by unfold sp__law_is_wrong at h; first | (obtain ⟨_, rfl, _⟩ := h; rfl) | (obtain ⟨_, _, rfl, _⟩ := h; rfl) | (obtain ⟨_, _, _, rfl, _⟩ := h; rfl) | (obtain ⟨_, _, _, _, rfl, _⟩ := h; rfl) | (obtain ⟨_, _, _, _, _, rfl, _⟩ := h; rfl) | (obtain ⟨_, _, _, _, _, _, rfl, _⟩ := h; rfl) | (obtain ⟨_, _, _, _, _, _, _, rfl, _⟩ := h; rfl)) fun cdv A gd out s H E hr => ?_
  refine ⟨_, (s_one (s_ret (e_cmp o_in (e_var 0) (e_tup (a_cons e_str (a_cons e_str (a_cons e_str a_nil))))))), ?_⟩
  rintro _ S Q ⟨w, rfl, q⟩
  simp only [↓ite_bc, bc_t, bc_f, aFor_rng, lstA_lst, lstA_rol, aLcS_rng, eqA_ii, eqA_ss, neA_ii, neA_ss, updS_same, updS_updS, startA, List.map_cons, List.map_nil, List.cons_append, List.nil_append, List.length_cons, List.length_nil, Nat.zero_add, Nat.add_zero, Nat.reduceAdd, Nat.reduceSub, List.replicate_succ, List.replicate_zero, List.replicate,  aVar_z, aVar_s, aC, aNil, aCons, aTup, aLstV, aLst, aOp, aUn, aTru, aTst, aCmp, aChn, aChnT, aAnd, aOr, aNot, aIf, aAndV, aOrV, aNotV, aCB, aCall, aNext, aSeq, aBrk, aCnt, aRet, aRetN, aIfS, aNev,  agName, agNil, agCons, agTup, aAsg, aPar, aDrop, aCallK, aCallKn, aM, aM0, aAddS, aYes, one1, one2, wipeA, aRevT, aRevL, agSub_def, aSl, aPart, aNoPart, cutAns_rol, cutAns_lst, cutAns_tup, cutAns_str, aLstRg, aRg1, ex_some, tupleA_lst, tupleA_tup, wstA_lst,  List.set_cons_zero, List.set_cons_succ, List.set, ex_bl, ex_int, ex_str, ex_tup, ex_eq, ex_cons, ex_pair, ex_one1, ex_one_int, and_tt, truA_bl, truOk_bl, truA_int, truOk_int, truA_lst, truOk_lst, truA_tup, truOk_tup, truA_refU, truOk_refU, Bool.not_true, Bool.not_false,  addA_ii, addA_ss, addA_tt, addA_ll, intA_ii, int2A_ii, subA_ii, mulA_ii, modA_ii, fdivA_ii, powA_ii, negA_i, ltA_ii, leA_ii, gtA_ii, geA_ii, ltA_ss, leA_ss, gtA_ss, geA_ss, isA, isntA, nonA, isiA_non, isiA_bl, isiA_int, isiA_str, isiA_tup, isiA_lst, isiA_rol, lenA_str, lenA_tup, lenA_lst, lenA_rol, absA_i, toIntA_i, toIntA_b, isIntA, isiB, String.reduceBEq, List.contains_cons, List.contains_nil, Bool.or_true, Bool.true_or, Bool.or_false, Bool.false_or, Bool.and_true, Bool.true_and, Bool.and_false, Bool.false_and, Bool.not_eq_true, if_true, if_false, decide_true, decide_false, Bool.false_eq_true, eq_self, reduceCtorEq, true_and, false_and, and_false, badA, exists_false, aFld, aPut, agFld, aPutAug, aMeth, aMake, mulX_ii, mulX_si, mulX_li, strA_i, strA_s, intXA_i, intXA_b, isBA_bb, isntBA_bb, aPar3, ex_tri, inA_tup, inA_lst, ninA_tup, ninA_lst, shrA_ii, andA_ii, aFor_tup, aFor_lst, aFor_enum, aLcF_lst, aLcF_tup, aLcF_rng, aLcP_lst, aLcP_tup, aLcP_enum, Int.cast_ofNat_Int, Int.reduceEq, Int.reduceLT, Int.reduceLE, Int.reduceNeg, Int.reduceAdd, Int.reduceSub]
  refine ⟨le_sl (by decide), ⟨rfl, rfl⟩, ?_⟩
  have e : ([AV.str "left", .str "twice", .str "suspected"].any fun y => eq1 y (.str w)) = wrongS w := by
    have c : ∀ a b : Str, (a == b) = decide (b = a) := fun a b => by
      rw [Bool.eq_iff_iff, beq_iff_eq, decide_eq_true_eq]
      exact ⟨Eq.symm, Eq.symm⟩
    show ((("left" : Str) == w) || ((("twice" : Str) == w) || ((("suspected" : Str) == w) || false))) = _
    rw [c, c, c, Bool.or_false]
    rfl
  rw [show ([AV.str (Str.ofString "left"), AV.str (Str.ofString "twice"), AV.str (Str.ofString "suspected")].any fun y => eq1 y (AV.str w)) = wrongS w from e]
  exact rt_same q
def sp__law_words : ASp := fun ds S Q => ∃ r, ds = [ruleA r] ∧ Q (wordsA r) S
set_option maxHeartbeats 4000000 in
theorem fn__law_words (T : Txt K mg)  : FnX P w K mg base 1 "_law_words" st__law_words ["rule"] sp__law_words := by
  refine FnX.of T.d__law_words fun f fd F => F.ok4 sc__law_words (fun ds S Q h => by unfold sp__law_words at h; first | (obtain ⟨_, rfl, _⟩ := h; rfl) | (obtain ⟨_, _, rfl, _⟩ := h; rfl) | (obtain ⟨_, _, _, rfl, _⟩ := h; rfl) | (obtain ⟨_, _, _, _, rfl, _⟩ := h; rfl) | (obtain ⟨_, _, _, _, _, rfl, _⟩ := h; rfl) | (obtain ⟨_, _, _, _, _, _, rfl, _⟩ := h; rfl) | (obtain ⟨_, _, _, _, _, _, _, rfl, _⟩ := h; rfl)) fun cdv A gd out s H E hr => ?_
  refine ⟨_, (s_cons (s_asg (e_var 0) (g_tup rfl (gs_cons (g_name 1 sc__law_words.nd) (gs_cons (g_name 2 sc__law_words.nd) (gs_cons (g_name 3 sc__law_words.nd) (gs_cons (g_name 4 sc__law_words.nd) gs_nil))))))
    (s_cons (s_set 5 sc__law_words.nd (e_lstV (a_cons (e_tup (a_cons e_str (a_cons (e_or (e_not (e_var 1)) (e_one (e_not (e_var 2)))) a_nil))) (a_cons (e_tup (a_cons e_str (a_cons (e_and (e_var 1) (e_one (e_not (e_var 4)))) a_nil))) (a_cons (e_tup (a_cons e_str (a_cons (e_not (e_var 3)) a_nil))) a_nil)))))
    (s_one (s_ret (e_ct c_tuple T.n_tuple (by decide +kernel) (a_cons (e_lcP 6 7 [("word", 6), ("can_be", 7)] rfl sc__law_words.nd (i_lst (e_var 5)) (blkOk_by (N := nm__law_words) (sc := defScope st__law_words) (by decide +kernel)) (fun _ _ _ _ _ => pg_tup rfl (pgs_cons (pg_name sc__law_words.nd rfl (Or.inl rfl)) (pgs_cons (pg_name sc__law_words.nd rfl (Or.inl rfl)) pgs_nil))) (fun _ _ _ _ _ => (ts_one (t_tru (e_var 7)))) (fun _ _ _ _ _ => (e_var 6))) a_nil)))))), ?_⟩
  rintro _ S Q ⟨⟨r1, r2, r3, r4⟩, rfl, q⟩
  cases r1 <;> cases r2 <;> cases r3 <;> cases r4
  all_goals simp only [↓ite_bc, bc_t, bc_f, aFor_rng, lstA_lst, lstA_rol, aLcS_rng, eqA_ii, eqA_ss, neA_ii, neA_ss, updS_same, updS_updS, startA, List.map_cons, List.map_nil, List.cons_append, List.nil_append, List.length_cons, List.length_nil, Nat.zero_add, Nat.add_zero, Nat.reduceAdd, Nat.reduceSub, List.replicate_succ, List.replicate_zero, List.replicate,  aVar_z, aVar_s, aC, aNil, aCons, aTup, aLstV, aLst, aOp, aUn, aTru, aTst, aCmp, aChn, aChnT, aAnd, aOr, aNot, aIf, aAndV, aOrV, aNotV, aCB, aCall, aNext, aSeq, aBrk, aCnt, aRet, aRetN, aIfS, aNev,  agName, agNil, agCons, agTup, aAsg, aPar, aDrop, aCallK, aCallKn, aM, aM0, aAddS, aYes, one1, one2, wipeA, aRevT, aRevL, agSub_def, aSl, aPart, aNoPart, cutAns_rol, cutAns_lst, cutAns_tup, cutAns_str, aLstRg, aRg1, ex_some, tupleA_lst, tupleA_tup, wstA_lst,  List.set_cons_zero, List.set_cons_succ, List.set, ex_bl, ex_int, ex_str, ex_tup, ex_eq, ex_cons, ex_pair, ex_one1, ex_one_int, and_tt, truA_bl, truOk_bl, truA_int, truOk_int, truA_lst, truOk_lst, truA_tup, truOk_tup, truA_refU, truOk_refU, Bool.not_true, Bool.not_false,  addA_ii, addA_ss, addA_tt, addA_ll, intA_ii, int2A_ii, subA_ii, mulA_ii, modA_ii, fdivA_ii, powA_ii, negA_i, ltA_ii, leA_ii, gtA_ii, geA_ii, ltA_ss, leA_ss, gtA_ss, geA_ss, isA, isntA, nonA, isiA_non, isiA_bl, isiA_int, isiA_str, isiA_tup, isiA_lst, isiA_rol, lenA_str, lenA_tup, lenA_lst, lenA_rol, absA_i, toIntA_i, toIntA_b, isIntA, isiB, String.reduceBEq, List.contains_cons, List.contains_nil, Bool.or_true, Bool.true_or, Bool.or_false, Bool.false_or, Bool.and_true, Bool.true_and, Bool.and_false, Bool.false_and, Bool.not_eq_true, if_true, if_false, decide_true, decide_false, Bool.false_eq_true, eq_self, reduceCtorEq, true_and, false_and, and_false, badA, exists_false, aFld, aPut, agFld, aPutAug, aMeth, aMake, mulX_ii, mulX_si, mulX_li, strA_i, strA_s, intXA_i, intXA_b, isBA_bb, isntBA_bb, aPar3, ex_tri, inA_tup, inA_lst, ninA_tup, ninA_lst, shrA_ii, andA_ii, aFor_tup, aFor_lst, aFor_enum, aLcF_lst, aLcF_tup, aLcF_rng, aLcP_lst, aLcP_tup, aLcP_enum, Int.cast_ofNat_Int, Int.reduceEq, Int.reduceLT, Int.reduceLE, Int.reduceNeg, Int.reduceAdd, Int.reduceSub, ruleA]
  all_goals refine ⟨rfl, ?_⟩
  all_goals repeat (refine ⟨le_sl (by decide), ?_⟩)
  all_goals refine lc_words ?_
  all_goals simp only [↓ite_bc, bc_t, bc_f, aFor_rng, lstA_lst, lstA_rol, aLcS_rng, eqA_ii, eqA_ss, neA_ii, neA_ss, updS_same, updS_updS, startA, List.map_cons, List.map_nil, List.cons_append, List.nil_append, List.length_cons, List.length_nil, Nat.zero_add, Nat.add_zero, Nat.reduceAdd, Nat.reduceSub, List.replicate_succ, List.replicate_zero, List.replicate,  aVar_z, aVar_s, aC, aNil, aCons, aTup, aLstV, aLst, aOp, aUn, aTru, aTst, aCmp, aChn, aChnT, aAnd, aOr, aNot, aIf, aAndV, aOrV, aNotV, aCB, aCall, aNext, aSeq, aBrk, aCnt, aRet, aRetN, aIfS, aNev,  agName, agNil, agCons, agTup, aAsg, aPar, aDrop, aCallK, aCallKn, aM, aM0, aAddS, aYes, one1, one2, wipeA, aRevT, aRevL, agSub_def, aSl, aPart, aNoPart, cutAns_rol, cutAns_lst, cutAns_tup, cutAns_str, aLstRg, aRg1, ex_some, tupleA_lst, tupleA_tup, wstA_lst,  List.set_cons_zero, List.set_cons_succ, List.set, ex_bl, ex_int, ex_str, ex_tup, ex_eq, ex_cons, ex_pair, ex_one1, ex_one_int, and_tt, truA_bl, truOk_bl, truA_int, truOk_int, truA_lst, truOk_lst, truA_tup, truOk_tup, truA_refU, truOk_refU, Bool.not_true, Bool.not_false,  addA_ii, addA_ss, addA_tt, addA_ll, intA_ii, int2A_ii, subA_ii, mulA_ii, modA_ii, fdivA_ii, powA_ii, negA_i, ltA_ii, leA_ii, gtA_ii, geA_ii, ltA_ss, leA_ss, gtA_ss, geA_ss, isA, isntA, nonA, isiA_non, isiA_bl, isiA_int, isiA_str, isiA_tup, isiA_lst, isiA_rol, lenA_str, lenA_tup, lenA_lst, lenA_rol, absA_i, toIntA_i, toIntA_b, isIntA, isiB, String.reduceBEq, List.contains_cons, List.contains_nil, Bool.or_true, Bool.true_or, Bool.or_false, Bool.false_or, Bool.and_true, Bool.true_and, Bool.and_false, Bool.false_and, Bool.not_eq_true, if_true, if_false, decide_true, decide_false, Bool.false_eq_true, eq_self, reduceCtorEq, true_and, false_and, and_false, badA, exists_false, aFld, aPut, agFld, aPutAug, aMeth, aMake, mulX_ii, mulX_si, mulX_li, strA_i, strA_s, intXA_i, intXA_b, isBA_bb, isntBA_bb, aPar3, ex_tri, inA_tup, inA_lst, ninA_tup, ninA_lst, shrA_ii, andA_ii, aFor_tup, aFor_lst, aFor_enum, aLcF_lst, aLcF_tup, aLcF_rng, aLcP_lst, aLcP_tup, aLcP_enum, Int.cast_ofNat_Int, Int.reduceEq, Int.reduceLT, Int.reduceLE, Int.reduceNeg, Int.reduceAdd, Int.reduceSub]
  all_goals exact rt_same q
def sp__law_first_wrong : ASp := fun ds S Q => ∃ (p : Addr) (t : Pt) (r : LRule) (N : Nat), ds = [.ref p, ruleA r, .int 24] ∧ S p = some (potO t) ∧ okP N t ∧ N < 2 ^ 30 ∧ ∀ t' y, okP (N + 30) t' → (y = .non ∨ ∃ w, y = .str w ∧ w ∈ wordsS r) → Q y (updS S p (potO t'))
set_option maxHeartbeats 4000000 in
theorem fn__law_first_wrong (T : Txt K mg) (F__law_take : Fn4 P w K mg base 1 "_law_take" ["pot", "upto"] sp__law_take) (F__law_begin : Fn4 P w K mg base 1 "_law_begin" [] sp__law_begin) (F__law_events : Fn4 P w K mg base 2 "_law_events" ["rule", "is_honest", "state"] sp__law_events) (F__law_step : Fn4 P w K mg base 4 "_law_step" ["rule", "is_honest", "state", "event"] sp__law_step) (F__law_of : Fn4 P w K mg base 2 "_law_of" ["pot", "some"] sp__law_of) (F__law_is_wrong : Fn4 P w K mg base 1 "_law_is_wrong" ["word"] sp__law_is_wrong) : FnX P w K mg base 5 "_law_first_wrong" st__law_first_wrong ["pot", "rule", "many"] sp__law_first_wrong := by
  refine FnX.of T.d__law_first_wrong fun f fd F => F.ok4 sc__law_first_wrong (fun ds S Q h => by unfold sp__law_first_wrong at h; first | (obtain ⟨_, rfl, _⟩ := h; rfl) | (obtain ⟨_, _, rfl, _⟩ := h; rfl) | (obtain ⟨_, _, _, rfl, _⟩ := h; rfl) | (obtain ⟨_, _, _, _, rfl, _⟩ := h; rfl) | (obtain ⟨_, _, _, _, _, rfl, _⟩ := h; rfl) | (obtain ⟨_, _, _, _, _, _, rfl, _⟩ := h; rfl) | (obtain ⟨_, _, _, _, _, _, _, rfl, _⟩ := h; rfl)) fun cdv A gd out s H E hr => ?_
  refine ⟨_, (s_cons (s_par (i := 3) (j := 4) rfl sc__law_first_wrong.nd (a_cons (f_call0 F__law_begin gd (hr.mono (by decide))) (a_cons (e_cmp (o_eq hr.units) (f_call F__law_take gd (hr.mono (by decide)) (a_cons (e_var 0) (a_cons e_int a_nil))) e_int) a_nil)))
    (s_cons (s_for PassesOwn.never rfl (i_rng1 T.n_range (a_cons (e_var 2) a_nil)) (g_name 5 sc__law_first_wrong.nd) (s_cons (s_set 6 sc__law_first_wrong.nd (f_call F__law_events gd (hr.mono (by decide)) (a_cons (e_var 1) (a_cons (e_var 4) (a_cons (e_var 3) a_nil)))))
    (s_cons (s_asg (f_call F__law_step gd (hr.mono (by decide)) (a_cons (e_var 1) (a_cons (e_var 4) (a_cons (e_var 3) (a_cons (f_call F__law_of gd (hr.mono (by decide)) (a_cons (e_var 0) (a_cons (e_var 6) a_nil))) a_nil))))) (g_tup rfl (gs_cons (g_name 7 sc__law_first_wrong.nd) (gs_cons (g_name 3 sc__law_first_wrong.nd) gs_nil))))
    (s_one (s_if (t_tru (f_call F__law_is_wrong gd (hr.mono (by decide)) (a_cons (e_var 7) a_nil))) (s_one (s_ret (e_var 7))) s_nil)))))
    (s_one (s_ret e_non)))), ?_⟩
  rintro _ S Q ⟨p, t, r, N, rfl, hp, ok, hN, q⟩
  simp only [↓ite_bc, bc_t, bc_f, aFor_rng, lstA_lst, lstA_rol, aLcS_rng, eqA_ii, eqA_ss, neA_ii, neA_ss, updS_same, updS_updS, startA, List.map_cons, List.map_nil, List.cons_append, List.nil_append, List.length_cons, List.length_nil, Nat.zero_add, Nat.add_zero, Nat.reduceAdd, Nat.reduceSub, List.replicate_succ, List.replicate_zero, List.replicate,  aVar_z, aVar_s, aC, aNil, aCons, aTup, aLstV, aLst, aOp, aUn, aTru, aTst, aCmp, aChn, aChnT, aAnd, aOr, aNot, aIf, aAndV, aOrV, aNotV, aCB, aCall, aNext, aSeq, aBrk, aCnt, aRet, aRetN, aIfS, aNev,  agName, agNil, agCons, agTup, aAsg, aPar, aDrop, aCallK, aCallKn, aM, aM0, aAddS, aYes, one1, one2, wipeA, aRevT, aRevL, agSub_def, aSl, aPart, aNoPart, cutAns_rol, cutAns_lst, cutAns_tup, cutAns_str, aLstRg, aRg1, ex_some, tupleA_lst, tupleA_tup, wstA_lst,  List.set_cons_zero, List.set_cons_succ, List.set, ex_bl, ex_int, ex_str, ex_tup, ex_eq, ex_cons, ex_pair, ex_one1, ex_one_int, and_tt, truA_bl, truOk_bl, truA_int, truOk_int, truA_lst, truOk_lst, truA_tup, truOk_tup, truA_refU, truOk_refU, Bool.not_true, Bool.not_false,  addA_ii, addA_ss, addA_tt, addA_ll, intA_ii, int2A_ii, subA_ii, mulA_ii, modA_ii, fdivA_ii, powA_ii, negA_i, ltA_ii, leA_ii, gtA_ii, geA_ii, ltA_ss, leA_ss, gtA_ss, geA_ss, isA, isntA, nonA, isiA_non, isiA_bl, isiA_int, isiA_str, isiA_tup, isiA_lst, isiA_rol, lenA_str, lenA_tup, lenA_lst, lenA_rol, absA_i, toIntA_i, toIntA_b, isIntA, isiB, String.reduceBEq, List.contains_cons, List.contains_nil, Bool.or_true, Bool.true_or, Bool.or_false, Bool.false_or, Bool.and_true, Bool.true_and, Bool.and_false, Bool.false_and, Bool.not_eq_true, if_true, if_false, decide_true, decide_false, Bool.false_eq_true, eq_self, reduceCtorEq, true_and, false_and, and_false, badA, exists_false, aFld, aPut, agFld, aPutAug, aMeth, aMake, mulX_ii, mulX_si, mulX_li, strA_i, strA_s, intXA_i, intXA_b, isBA_bb, isntBA_bb, aPar3, ex_tri, inA_tup, inA_lst, ninA_tup, ninA_lst, shrA_ii, andA_ii, aFor_tup, aFor_lst, aFor_enum, aLcF_lst, aLcF_tup, aLcF_rng, aLcP_lst, aLcP_tup, aLcP_enum, Int.cast_ofNat_Int, Int.reduceEq, Int.reduceLT, Int.reduceLE, Int.reduceNeg, Int.reduceAdd, Int.reduceSub]
  refine ⟨rfl, ?_⟩
  refine take_of (n := 2) (by omega) (by omega) hp ok (by omega) fun t1 r1 ok1 r0 r2 => ?_
  simp only [↓ite_bc, bc_t, bc_f, aFor_rng, lstA_lst, lstA_rol, aLcS_rng, eqA_ii, eqA_ss, neA_ii, neA_ss, updS_same, updS_updS, startA, List.map_cons, List.map_nil, List.cons_append, List.nil_append, List.length_cons, List.length_nil, Nat.zero_add, Nat.add_zero, Nat.reduceAdd, Nat.reduceSub, List.replicate_succ, List.replicate_zero, List.replicate,  aVar_z, aVar_s, aC, aNil, aCons, aTup, aLstV, aLst, aOp, aUn, aTru, aTst, aCmp, aChn, aChnT, aAnd, aOr, aNot, aIf, aAndV, aOrV, aNotV, aCB, aCall, aNext, aSeq, aBrk, aCnt, aRet, aRetN, aIfS, aNev,  agName, agNil, agCons, agTup, aAsg, aPar, aDrop, aCallK, aCallKn, aM, aM0, aAddS, aYes, one1, one2, wipeA, aRevT, aRevL, agSub_def, aSl, aPart, aNoPart, cutAns_rol, cutAns_lst, cutAns_tup, cutAns_str, aLstRg, aRg1, ex_some, tupleA_lst, tupleA_tup, wstA_lst,  List.set_cons_zero, List.set_cons_succ, List.set, ex_bl, ex_int, ex_str, ex_tup, ex_eq, ex_cons, ex_pair, ex_one1, ex_one_int, and_tt, truA_bl, truOk_bl, truA_int, truOk_int, truA_lst, truOk_lst, truA_tup, truOk_tup, truA_refU, truOk_refU, Bool.not_true, Bool.not_false,  addA_ii, addA_ss, addA_tt, addA_ll, intA_ii, int2A_ii, subA_ii, mulA_ii, modA_ii, fdivA_ii, powA_ii, negA_i, ltA_ii, leA_ii, gtA_ii, geA_ii, ltA_ss, leA_ss, gtA_ss, geA_ss, isA, isntA, nonA, isiA_non, isiA_bl, isiA_int, isiA_str, isiA_tup, isiA_lst, isiA_rol, lenA_str, lenA_tup, lenA_lst, lenA_rol, absA_i, toIntA_i, toIntA_b, isIntA, isiB, String.reduceBEq, List.contains_cons, List.contains_nil, Bool.or_true, Bool.true_or, Bool.or_false, Bool.false_or, Bool.and_true, Bool.true_and, Bool.and_false, Bool.false_and, Bool.not_eq_true, if_true, if_false, decide_true, decide_false, Bool.false_eq_true, eq_self, reduceCtorEq, true_and, false_and, and_false, badA, exists_false, aFld, aPut, agFld, aPutAug, aMeth, aMake, mulX_ii, mulX_si, mulX_li, strA_i, strA_s, intXA_i, intXA_b, isBA_bb, isntBA_bb, aPar3, ex_tri, inA_tup, inA_lst, ninA_tup, ninA_lst, shrA_ii, andA_ii, aFor_tup, aFor_lst, aFor_enum, aLcF_lst, aLcF_tup, aLcF_rng, aLcP_lst, aLcP_tup, aLcP_enum, Int.cast_ofNat_Int, Int.reduceEq, Int.reduceLT, Int.reduceLE, Int.reduceNeg, Int.reduceAdd, Int.reduceSub]
  generalize decide (r1 = 0) = hon
  refine ⟨by omega, by omega, ?_⟩
  refine ForGo.of (fun i τ S' => ∃ (s : LRun) (pt : Pt) (o5 o6 o7 : Option AV), τ = [some (.ref p), some (ruleA r), some (.int 24), some (stA s), some (.bl hon), o5, o6, o7] ∧ S' = updS S p (potO pt) ∧ okP (N + 1 + i) pt ∧ Good r hon s ∧ s.made.length ≤ i)
    ⟨_, t1, none, none, none, rfl, rfl, ok1, .start r hon, Nat.le_refl _⟩ (fun i x τ2 S2 hx hi ⟨s, pt, o5, o6, o7, eτ, eS, okt, I, hm⟩ => ?_) (fun τ2 S2 ⟨s, pt, o5, o6, o7, eτ, eS, okt, I, hm⟩ => ?_)
  · subst eτ eS
    rw [rngA_len] at hi
    have hi : i < 24 := hi
    simp only [↓ite_bc, bc_t, bc_f, aFor_rng, lstA_lst, lstA_rol, aLcS_rng, eqA_ii, eqA_ss, neA_ii, neA_ss, updS_same, updS_updS, startA, List.map_cons, List.map_nil, List.cons_append, List.nil_append, List.length_cons, List.length_nil, Nat.zero_add, Nat.add_zero, Nat.reduceAdd, Nat.reduceSub, List.replicate_succ, List.replicate_zero, List.replicate,  aVar_z, aVar_s, aC, aNil, aCons, aTup, aLstV, aLst, aOp, aUn, aTru, aTst, aCmp, aChn, aChnT, aAnd, aOr, aNot, aIf, aAndV, aOrV, aNotV, aCB, aCall, aNext, aSeq, aBrk, aCnt, aRet, aRetN, aIfS, aNev,  agName, agNil, agCons, agTup, aAsg, aPar, aDrop, aCallK, aCallKn, aM, aM0, aAddS, aYes, one1, one2, wipeA, aRevT, aRevL, agSub_def, aSl, aPart, aNoPart, cutAns_rol, cutAns_lst, cutAns_tup, cutAns_str, aLstRg, aRg1, ex_some, tupleA_lst, tupleA_tup, wstA_lst,  List.set_cons_zero, List.set_cons_succ, List.set, ex_bl, ex_int, ex_str, ex_tup, ex_eq, ex_cons, ex_pair, ex_one1, ex_one_int, and_tt, truA_bl, truOk_bl, truA_int, truOk_int, truA_lst, truOk_lst, truA_tup, truOk_tup, truA_refU, truOk_refU, Bool.not_true, Bool.not_false,  addA_ii, addA_ss, addA_tt, addA_ll, intA_ii, int2A_ii, subA_ii, mulA_ii, modA_ii, fdivA_ii, powA_ii, negA_i, ltA_ii, leA_ii, gtA_ii, geA_ii, ltA_ss, leA_ss, gtA_ss, geA_ss, isA, isntA, nonA, isiA_non, isiA_bl, isiA_int, isiA_str, isiA_tup, isiA_lst, isiA_rol, lenA_str, lenA_tup, lenA_lst, lenA_rol, absA_i, toIntA_i, toIntA_b, isIntA, isiB, String.reduceBEq, List.contains_cons, List.contains_nil, Bool.or_true, Bool.true_or, Bool.or_false, Bool.false_or, Bool.and_true, Bool.true_and, Bool.and_false, Bool.false_and, Bool.not_eq_true, if_true, if_false, decide_true, decide_false, Bool.false_eq_true, eq_self, reduceCtorEq, true_and, false_and, and_false, badA, exists_false, aFld, aPut, agFld, aPutAug, aMeth, aMake, mulX_ii, mulX_si, mulX_li, strA_i, strA_s, intXA_i, intXA_b, isBA_bb, isntBA_bb, aPar3, ex_tri, inA_tup, inA_lst, ninA_tup, ninA_lst, shrA_ii, andA_ii, aFor_tup, aFor_lst, aFor_enum, aLcF_lst, aLcF_tup, aLcF_rng, aLcP_lst, aLcP_tup, aLcP_enum, Int.cast_ofNat_Int, Int.reduceEq, Int.reduceLT, Int.reduceLE, Int.reduceNeg, Int.reduceAdd, Int.reduceSub]
    refine ⟨r, hon, s, rfl, by omega, ?_⟩
    have hne : 0 < (((evsAll s.made.length).filter (canB r hon s)).map evA).length := by
      rw [List.length_map]
      refine List.length_pos_of_mem (a := Ev.fall false) (List.mem_filter.mpr ⟨?_, rfl⟩)
      exact List.mem_append_left _ (List.mem_append_left _ (by simp))
    have hle : (((evsAll s.made.length).filter (canB r hon s)).map evA).length ≤ 100 := by
      rw [List.length_map]
      refine Nat.le_trans (List.length_filter_le ..) ?_
      show (([Ev.make false, .hand false, .fall false] ++ (List.range s.made.length).map (.shw false)) ++ ([Ev.make true, .hand true, .fall true] ++ (List.range s.made.length).map (.shw true)) : List Ev).length ≤ 100
      simp only [List.length_append, List.length_map, List.length_range, List.length_cons, List.length_nil]
      omega
    refine one_lst hne (by omega) updS_same okt (by omega) fun t2 y ok2 hy => ?_
    obtain ⟨e, he, rfl⟩ := List.mem_map.mp hy
    have can := (List.mem_filter.mp he).2
    refine ⟨r, hon, s, e, rfl, ⟨I.wf, I.lt, I.kl, by omega, I.hd⟩, can, ?_⟩
    obtain ⟨g1, g2⟩ := step_good I e can
    simp only [↓ite_bc, bc_t, bc_f, aFor_rng, lstA_lst, lstA_rol, aLcS_rng, eqA_ii, eqA_ss, neA_ii, neA_ss, updS_same, updS_updS, startA, List.map_cons, List.map_nil, List.cons_append, List.nil_append, List.length_cons, List.length_nil, Nat.zero_add, Nat.add_zero, Nat.reduceAdd, Nat.reduceSub, List.replicate_succ, List.replicate_zero, List.replicate,  aVar_z, aVar_s, aC, aNil, aCons, aTup, aLstV, aLst, aOp, aUn, aTru, aTst, aCmp, aChn, aChnT, aAnd, aOr, aNot, aIf, aAndV, aOrV, aNotV, aCB, aCall, aNext, aSeq, aBrk, aCnt, aRet, aRetN, aIfS, aNev,  agName, agNil, agCons, agTup, aAsg, aPar, aDrop, aCallK, aCallKn, aM, aM0, aAddS, aYes, one1, one2, wipeA, aRevT, aRevL, agSub_def, aSl, aPart, aNoPart, cutAns_rol, cutAns_lst, cutAns_tup, cutAns_str, aLstRg, aRg1, ex_some, tupleA_lst, tupleA_tup, wstA_lst,  List.set_cons_zero, List.set_cons_succ, List.set, ex_bl, ex_int, ex_str, ex_tup, ex_eq, ex_cons, ex_pair, ex_one1, ex_one_int, and_tt, truA_bl, truOk_bl, truA_int, truOk_int, truA_lst, truOk_lst, truA_tup, truOk_tup, truA_refU, truOk_refU, Bool.not_true, Bool.not_false,  addA_ii, addA_ss, addA_tt, addA_ll, intA_ii, int2A_ii, subA_ii, mulA_ii, modA_ii, fdivA_ii, powA_ii, negA_i, ltA_ii, leA_ii, gtA_ii, geA_ii, ltA_ss, leA_ss, gtA_ss, geA_ss, isA, isntA, nonA, isiA_non, isiA_bl, isiA_int, isiA_str, isiA_tup, isiA_lst, isiA_rol, lenA_str, lenA_tup, lenA_lst, lenA_rol, absA_i, toIntA_i, toIntA_b, isIntA, isiB, String.reduceBEq, List.contains_cons, List.contains_nil, Bool.or_true, Bool.true_or, Bool.or_false, Bool.false_or, Bool.and_true, Bool.true_and, Bool.and_false, Bool.false_and, Bool.not_eq_true, if_true, if_false, decide_true, decide_false, Bool.false_eq_true, eq_self, reduceCtorEq, true_and, false_and, and_false, badA, exists_false, aFld, aPut, agFld, aPutAug, aMeth, aMake, mulX_ii, mulX_si, mulX_li, strA_i, strA_s, intXA_i, intXA_b, isBA_bb, isntBA_bb, aPar3, ex_tri, inA_tup, inA_lst, ninA_tup, ninA_lst, shrA_ii, andA_ii, aFor_tup, aFor_lst, aFor_enum, aLcF_lst, aLcF_tup, aLcF_rng, aLcP_lst, aLcP_tup, aLcP_enum, Int.cast_ofNat_Int, Int.reduceEq, Int.reduceLT, Int.reduceLE, Int.reduceNeg, Int.reduceAdd, Int.reduceSub]
    refine ⟨rfl, _, rfl, ?_⟩
    simp only [↓ite_bc, bc_t, bc_f, aFor_rng, lstA_lst, lstA_rol, aLcS_rng, eqA_ii, eqA_ss, neA_ii, neA_ss, updS_same, updS_updS, startA, List.map_cons, List.map_nil, List.cons_append, List.nil_append, List.length_cons, List.length_nil, Nat.zero_add, Nat.add_zero, Nat.reduceAdd, Nat.reduceSub, List.replicate_succ, List.replicate_zero, List.replicate,  aVar_z, aVar_s, aC, aNil, aCons, aTup, aLstV, aLst, aOp, aUn, aTru, aTst, aCmp, aChn, aChnT, aAnd, aOr, aNot, aIf, aAndV, aOrV, aNotV, aCB, aCall, aNext, aSeq, aBrk, aCnt, aRet, aRetN, aIfS, aNev,  agName, agNil, agCons, agTup, aAsg, aPar, aDrop, aCallK, aCallKn, aM, aM0, aAddS, aYes, one1, one2, wipeA, aRevT, aRevL, agSub_def, aSl, aPart, aNoPart, cutAns_rol, cutAns_lst, cutAns_tup, cutAns_str, aLstRg, aRg1, ex_some, tupleA_lst, tupleA_tup, wstA_lst,  List.set_cons_zero, List.set_cons_succ, List.set, ex_bl, ex_int, ex_str, ex_tup, ex_eq, ex_cons, ex_pair, ex_one1, ex_one_int, and_tt, truA_bl, truOk_bl, truA_int, truOk_int, truA_lst, truOk_lst, truA_tup, truOk_tup, truA_refU, truOk_refU, Bool.not_true, Bool.not_false,  addA_ii, addA_ss, addA_tt, addA_ll, intA_ii, int2A_ii, subA_ii, mulA_ii, modA_ii, fdivA_ii, powA_ii, negA_i, ltA_ii, leA_ii, gtA_ii, geA_ii, ltA_ss, leA_ss, gtA_ss, geA_ss, isA, isntA, nonA, isiA_non, isiA_bl, isiA_int, isiA_str, isiA_tup, isiA_lst, isiA_rol, lenA_str, lenA_tup, lenA_lst, lenA_rol, absA_i, toIntA_i, toIntA_b, isIntA, isiB, String.reduceBEq, List.contains_cons, List.contains_nil, Bool.or_true, Bool.true_or, Bool.or_false, Bool.false_or, Bool.and_true, Bool.true_and, Bool.and_false, Bool.false_and, Bool.not_eq_true, if_true, if_false, decide_true, decide_false, Bool.false_eq_true, eq_self, reduceCtorEq, true_and, false_and, and_false, badA, exists_false, aFld, aPut, agFld, aPutAug, aMeth, aMake, mulX_ii, mulX_si, mulX_li, strA_i, strA_s, intXA_i, intXA_b, isBA_bb, isntBA_bb, aPar3, ex_tri, inA_tup, inA_lst, ninA_tup, ninA_lst, shrA_ii, andA_ii, aFor_tup, aFor_lst, aFor_enum, aLcF_lst, aLcF_tup, aLcF_rng, aLcP_lst, aLcP_tup, aLcP_enum, Int.cast_ofNat_Int, Int.reduceEq, Int.reduceLT, Int.reduceLE, Int.reduceNeg, Int.reduceAdd, Int.reduceSub]
    cases hw : wrongS (stepW r hon s e)
    · refine ⟨stepS r s e, t2, _, _, _, rfl, rfl, ok2, g2 hw, ?_⟩
      refine Nat.le_trans ?_ (Nat.succ_le_succ hm)
      cases e with
      | make d => show (makeS s d).made.length ≤ _; rw [makeS_made, List.length_append]; exact Nat.le_refl _
      | hand d => show (handS s d).made.length ≤ _; rw [handS_made]; exact Nat.le_succ _
      | fall d =>
        show (if (r.ahead || !s.hand d) = true then s else fallS s d).made.length ≤ _
        split
        · exact Nat.le_succ _
        · rw [fallS_made]; exact Nat.le_succ _
      | shw d n =>
        show (if suspB r s d n = true then s else showS s d n).made.length ≤ _
        split
        · exact Nat.le_succ _
        · unfold showS
          split
          · exact Nat.le_succ _
          · rw [made_hand, made_set]; exact Nat.le_succ _
    · exact rt_same (q t2 _ (ok2.up (by omega)) (.inr ⟨_, rfl, g1 hw⟩))
  · subst eτ eS
    rw [rngA_len] at okt
    simp only [↓ite_bc, bc_t, bc_f, aFor_rng, lstA_lst, lstA_rol, aLcS_rng, eqA_ii, eqA_ss, neA_ii, neA_ss, updS_same, updS_updS, startA, List.map_cons, List.map_nil, List.cons_append, List.nil_append, List.length_cons, List.length_nil, Nat.zero_add, Nat.add_zero, Nat.reduceAdd, Nat.reduceSub, List.replicate_succ, List.replicate_zero, List.replicate,  aVar_z, aVar_s, aC, aNil, aCons, aTup, aLstV, aLst, aOp, aUn, aTru, aTst, aCmp, aChn, aChnT, aAnd, aOr, aNot, aIf, aAndV, aOrV, aNotV, aCB, aCall, aNext, aSeq, aBrk, aCnt, aRet, aRetN, aIfS, aNev,  agName, agNil, agCons, agTup, aAsg, aPar, aDrop, aCallK, aCallKn, aM, aM0, aAddS, aYes, one1, one2, wipeA, aRevT, aRevL, agSub_def, aSl, aPart, aNoPart, cutAns_rol, cutAns_lst, cutAns_tup, cutAns_str, aLstRg, aRg1, ex_some, tupleA_lst, tupleA_tup, wstA_lst,  List.set_cons_zero, List.set_cons_succ, List.set, ex_bl, ex_int, ex_str, ex_tup, ex_eq, ex_cons, ex_pair, ex_one1, ex_one_int, and_tt, truA_bl, truOk_bl, truA_int, truOk_int, truA_lst, truOk_lst, truA_tup, truOk_tup, truA_refU, truOk_refU, Bool.not_true, Bool.not_false,  addA_ii, addA_ss, addA_tt, addA_ll, intA_ii, int2A_ii, subA_ii, mulA_ii, modA_ii, fdivA_ii, powA_ii, negA_i, ltA_ii, leA_ii, gtA_ii, geA_ii, ltA_ss, leA_ss, gtA_ss, geA_ss, isA, isntA, nonA, isiA_non, isiA_bl, isiA_int, isiA_str, isiA_tup, isiA_lst, isiA_rol, lenA_str, lenA_tup, lenA_lst, lenA_rol, absA_i, toIntA_i, toIntA_b, isIntA, isiB, String.reduceBEq, List.contains_cons, List.contains_nil, Bool.or_true, Bool.true_or, Bool.or_false, Bool.false_or, Bool.and_true, Bool.true_and, Bool.and_false, Bool.false_and, Bool.not_eq_true, if_true, if_false, decide_true, decide_false, Bool.false_eq_true, eq_self, reduceCtorEq, true_and, false_and, and_false, badA, exists_false, aFld, aPut, agFld, aPutAug, aMeth, aMake, mulX_ii, mulX_si, mulX_li, strA_i, strA_s, intXA_i, intXA_b, isBA_bb, isntBA_bb, aPar3, ex_tri, inA_tup, inA_lst, ninA_tup, ninA_lst, shrA_ii, andA_ii, aFor_tup, aFor_lst, aFor_enum, aLcF_lst, aLcF_tup, aLcF_rng, aLcP_lst, aLcP_tup, aLcP_enum, Int.cast_ofNat_Int, Int.reduceEq, Int.reduceLT, Int.reduceLE, Int.reduceNeg, Int.reduceAdd, Int.reduceSub]
    exact rt_same (q pt _ (okt.up (by show N + 1 + 24 ≤ _; omega)) (.inl rfl))
def sp__law_right : ASp := fun ds S Q => ∃ (p : Addr) (t : Pt), ds = [.ref p] ∧ S p = some (potO t) ∧ okP 0 t ∧ ∀ S', Q (.bl true) S'
set_option maxHeartbeats 4000000 in
theorem fn__law_right (T : Txt K mg) (F_wrong_words : Fn4 P w K mg base 2 "wrong_words" ["rule"] sp_wrong_words) (F__law_words : Fn4 P w K mg base 1 "_law_words" ["rule"] sp__law_words) (F__law_take : Fn4 P w K mg base 1 "_law_take" ["pot", "upto"] sp__law_take) (F__law_first_wrong : Fn4 P w K mg base 5 "_law_first_wrong" ["pot", "rule", "many"] sp__law_first_wrong) (K_wrong_words_rule : FnK P w K mg base 2 "wrong_words" ["rule"] sp_wrong_words 0 ["rule"] (fun us ws => ws)) : FnX P w K mg base 6 "_law_right" st__law_right ["pot"] sp__law_right := by
  refine FnX.of T.d__law_right fun f fd F => F.ok4 sc__law_right (fun ds S Q h => by unfold sp__law_right at h; first | (obtain ⟨_, rfl, _⟩ := h; rfl) | (obtain ⟨_, _, rfl, _⟩ := h; rfl) | (obtain ⟨_, _, _, rfl, _⟩ := h; rfl) | (obtain ⟨_, _, _, _, rfl, _⟩ := h; rfl) | (obtain ⟨_, _, _, _, _, rfl, _⟩ := h; rfl) | (obtain ⟨_, _, _, _, _, _, rfl, _⟩ := h; rfl) | (obtain ⟨_, _, _, _, _, _, _, rfl, _⟩ := h; rfl)) fun cdv A gd out s H E hr => ?_
  refine ⟨_, (s_cons (s_for PassesOwn.never rfl (i_rng1 T.n_range (a_cons e_int a_nil)) (g_name 1 sc__law_right.nd) (s_cons (s_set 2 sc__law_right.nd (e_ct c_tuple T.n_tuple (by decide +kernel) (a_cons (e_lc 3 [("part", 3)] rfl sc__law_right.nd (i_rng1 T.n_range (a_cons e_int a_nil)) (blkOk_by (N := nm__law_right) (sc := defScope st__law_right) (by decide +kernel)) (fun _ _ _ _ _ => pg_name sc__law_right.nd rfl (Or.inl rfl)) (fun _ _ _ _ _ => ts_nil) (fun _ _ _ _ _ => (e_cmp (o_eq hr.units) (e_op o_band (e_op o_shr (e_var 1) (e_var 3)) e_int) e_int))) a_nil)))
    (s_one (s_if (t_cmp (o_ne hr.units) (e_cb (c_repr gd hr.units) T.n_repr (by decide +kernel) (a_cons (f_call F_wrong_words gd (hr.mono (by decide)) (a_cons (e_var 2) a_nil)) a_nil)) (e_cb (c_repr gd hr.units) T.n_repr (by decide +kernel) (a_cons (f_call F__law_words gd (hr.mono (by decide)) (a_cons (e_var 2) a_nil)) a_nil))) (s_one (s_ret e_bl)) s_nil))))
    (s_cons (s_for PassesOwn.never rfl (i_rng1 T.n_range (a_cons e_int a_nil)) (g_name 4 sc__law_right.nd) (s_cons (s_set 2 sc__law_right.nd (e_ct c_tuple T.n_tuple (by decide +kernel) (a_cons (e_lc 3 [("part", 3)] rfl sc__law_right.nd (i_rng1 T.n_range (a_cons e_int a_nil)) (blkOk_by (N := nm__law_right) (sc := defScope st__law_right) (by decide +kernel)) (fun _ _ _ _ _ => pg_name sc__law_right.nd rfl (Or.inl rfl)) (fun _ _ _ _ _ => ts_nil) (fun _ _ _ _ _ => (e_cmp o_gt (f_call F__law_take gd (hr.mono (by decide)) (a_cons (e_var 0) (a_cons e_int a_nil))) e_int))) a_nil)))
    (s_cons (s_set 5 sc__law_right.nd (f_call F__law_first_wrong gd (hr.mono (by decide)) (a_cons (e_var 0) (a_cons (e_var 2) (a_cons e_int a_nil)))))
    (s_one (s_if (w_and (t_cmp o_isnt (e_var 5) e_non) (w_and1 (t_cmp o_nin (e_var 5) (f_callK0 K_wrong_words_rule gd (hr.mono (by decide)) (k_cons (e_var 2) k_nil))))).pt (s_one (s_ret e_bl)) s_nil)))))
    (s_one (s_ret e_bl)))), ?_⟩
  rintro _ S Q ⟨p, t, rfl, hp, ok, q⟩
  simp only [↓ite_bc, bc_t, bc_f, aFor_rng, lstA_lst, lstA_rol, aLcS_rng, eqA_ii, eqA_ss, neA_ii, neA_ss, updS_same, updS_updS, startA, List.map_cons, List.map_nil, List.cons_append, List.nil_append, List.length_cons, List.length_nil, Nat.zero_add, Nat.add_zero, Nat.reduceAdd, Nat.reduceSub, List.replicate_succ, List.replicate_zero, List.replicate,  aVar_z, aVar_s, aC, aNil, aCons, aTup, aLstV, aLst, aOp, aUn, aTru, aTst, aCmp, aChn, aChnT, aAnd, aOr, aNot, aIf, aAndV, aOrV, aNotV, aCB, aCall, aNext, aSeq, aBrk, aCnt, aRet, aRetN, aIfS, aNev,  agName, agNil, agCons, agTup, aAsg, aPar, aDrop, aCallK, aCallKn, aM, aM0, aAddS, aYes, one1, one2, wipeA, aRevT, aRevL, agSub_def, aSl, aPart, aNoPart, cutAns_rol, cutAns_lst, cutAns_tup, cutAns_str, aLstRg, aRg1, ex_some, tupleA_lst, tupleA_tup, wstA_lst,  List.set_cons_zero, List.set_cons_succ, List.set, ex_bl, ex_int, ex_str, ex_tup, ex_eq, ex_cons, ex_pair, ex_one1, ex_one_int, and_tt, truA_bl, truOk_bl, truA_int, truOk_int, truA_lst, truOk_lst, truA_tup, truOk_tup, truA_refU, truOk_refU, Bool.not_true, Bool.not_false,  addA_ii, addA_ss, addA_tt, addA_ll, intA_ii, int2A_ii, subA_ii, mulA_ii, modA_ii, fdivA_ii, powA_ii, negA_i, ltA_ii, leA_ii, gtA_ii, geA_ii, ltA_ss, leA_ss, gtA_ss, geA_ss, isA, isntA, nonA, isiA_non, isiA_bl, isiA_int, isiA_str, isiA_tup, isiA_lst, isiA_rol, lenA_str, lenA_tup, lenA_lst, lenA_rol, absA_i, toIntA_i, toIntA_b, isIntA, isiB, String.reduceBEq, List.contains_cons, List.contains_nil, Bool.or_true, Bool.true_or, Bool.or_false, Bool.false_or, Bool.and_true, Bool.true_and, Bool.and_false, Bool.false_and, Bool.not_eq_true, if_true, if_false, decide_true, decide_false, Bool.false_eq_true, eq_self, reduceCtorEq, true_and, false_and, and_false, badA, exists_false, aFld, aPut, agFld, aPutAug, aMeth, aMake, mulX_ii, mulX_si, mulX_li, strA_i, strA_s, intXA_i, intXA_b, isBA_bb, isntBA_bb, aPar3, ex_tri, inA_tup, inA_lst, ninA_tup, ninA_lst, shrA_ii, andA_ii, aFor_tup, aFor_lst, aFor_enum, aLcF_lst, aLcF_tup, aLcF_rng, aLcP_lst, aLcP_tup, aLcP_enum, Int.cast_ofNat_Int, Int.reduceEq, Int.reduceLT, Int.reduceLE, Int.reduceNeg, Int.reduceAdd, Int.reduceSub]
  refine ⟨by omega, by omega, ?_⟩
  refine ForGo.of (fun i τ S' => ∃ (o1 o2 o3 o4 o5 : Option AV), τ = [some (.ref p), o1, o2, o3, o4, o5] ∧ S' = S) ⟨none, none, none, none, none, rfl, rfl⟩
    (fun i x τ2 S2 hx hi ⟨o1, o2, o3, o4, o5, eτ, eS⟩ => ?_) (fun τ2 S2 ⟨o1, o2, o3, o4, o5, eτ, eS⟩ => ?_)
  · subst eτ eS
    obtain ⟨hi, rfl⟩ := rngA_get hx
    simp only [↓ite_bc, bc_t, bc_f, aFor_rng, lstA_lst, lstA_rol, aLcS_rng, eqA_ii, eqA_ss, neA_ii, neA_ss, updS_same, updS_updS, startA, List.map_cons, List.map_nil, List.cons_append, List.nil_append, List.length_cons, List.length_nil, Nat.zero_add, Nat.add_zero, Nat.reduceAdd, Nat.reduceSub, List.replicate_succ, List.replicate_zero, List.replicate,  aVar_z, aVar_s, aC, aNil, aCons, aTup, aLstV, aLst, aOp, aUn, aTru, aTst, aCmp, aChn, aChnT, aAnd, aOr, aNot, aIf, aAndV, aOrV, aNotV, aCB, aCall, aNext, aSeq, aBrk, aCnt, aRet, aRetN, aIfS, aNev,  agName, agNil, agCons, agTup, aAsg, aPar, aDrop, aCallK, aCallKn, aM, aM0, aAddS, aYes, one1, one2, wipeA, aRevT, aRevL, agSub_def, aSl, aPart, aNoPart, cutAns_rol, cutAns_lst, cutAns_tup, cutAns_str, aLstRg, aRg1, ex_some, tupleA_lst, tupleA_tup, wstA_lst,  List.set_cons_zero, List.set_cons_succ, List.set, ex_bl, ex_int, ex_str, ex_tup, ex_eq, ex_cons, ex_pair, ex_one1, ex_one_int, and_tt, truA_bl, truOk_bl, truA_int, truOk_int, truA_lst, truOk_lst, truA_tup, truOk_tup, truA_refU, truOk_refU, Bool.not_true, Bool.not_false,  addA_ii, addA_ss, addA_tt, addA_ll, intA_ii, int2A_ii, subA_ii, mulA_ii, modA_ii, fdivA_ii, powA_ii, negA_i, ltA_ii, leA_ii, gtA_ii, geA_ii, ltA_ss, leA_ss, gtA_ss, geA_ss, isA, isntA, nonA, isiA_non, isiA_bl, isiA_int, isiA_str, isiA_tup, isiA_lst, isiA_rol, lenA_str, lenA_tup, lenA_lst, lenA_rol, absA_i, toIntA_i, toIntA_b, isIntA, isiB, String.reduceBEq, List.contains_cons, List.contains_nil, Bool.or_true, Bool.true_or, Bool.or_false, Bool.false_or, Bool.and_true, Bool.true_and, Bool.and_false, Bool.false_and, Bool.not_eq_true, if_true, if_false, decide_true, decide_false, Bool.false_eq_true, eq_self, reduceCtorEq, true_and, false_and, and_false, badA, exists_false, aFld, aPut, agFld, aPutAug, aMeth, aMake, mulX_ii, mulX_si, mulX_li, strA_i, strA_s, intXA_i, intXA_b, isBA_bb, isntBA_bb, aPar3, ex_tri, inA_tup, inA_lst, ninA_tup, ninA_lst, shrA_ii, andA_ii, aFor_tup, aFor_lst, aFor_enum, aLcF_lst, aLcF_tup, aLcF_rng, aLcP_lst, aLcP_tup, aLcP_enum, Int.cast_ofNat_Int, Int.reduceEq, Int.reduceLT, Int.reduceLE, Int.reduceNeg, Int.reduceAdd, Int.reduceSub]
    refine ⟨by omega, by omega, ?_⟩
    unfold rngA
    refine lcF_allM (xs := List.range 4) (fun k => .int (0 + (k : Nat))) (fun k => .bl (decide (Builtin.bitAnd ((0 + (i : Int)) / 2 ^ (0 + (k : Int)).toNat) 1 = 1))) (le_sl (n := 4) (by decide)) (fun _ _ => trivial) (fun k hk Sx Qe h => ?_) ?_
    · simp only [↓ite_bc, bc_t, bc_f, aFor_rng, lstA_lst, lstA_rol, aLcS_rng, eqA_ii, eqA_ss, neA_ii, neA_ss, updS_same, updS_updS, startA, List.map_cons, List.map_nil, List.cons_append, List.nil_append, List.length_cons, List.length_nil, Nat.zero_add, Nat.add_zero, Nat.reduceAdd, Nat.reduceSub, List.replicate_succ, List.replicate_zero, List.replicate,  aVar_z, aVar_s, aC, aNil, aCons, aTup, aLstV, aLst, aOp, aUn, aTru, aTst, aCmp, aChn, aChnT, aAnd, aOr, aNot, aIf, aAndV, aOrV, aNotV, aCB, aCall, aNext, aSeq, aBrk, aCnt, aRet, aRetN, aIfS, aNev,  agName, agNil, agCons, agTup, aAsg, aPar, aDrop, aCallK, aCallKn, aM, aM0, aAddS, aYes, one1, one2, wipeA, aRevT, aRevL, agSub_def, aSl, aPart, aNoPart, cutAns_rol, cutAns_lst, cutAns_tup, cutAns_str, aLstRg, aRg1, ex_some, tupleA_lst, tupleA_tup, wstA_lst,  List.set_cons_zero, List.set_cons_succ, List.set, ex_bl, ex_int, ex_str, ex_tup, ex_eq, ex_cons, ex_pair, ex_one1, ex_one_int, and_tt, truA_bl, truOk_bl, truA_int, truOk_int, truA_lst, truOk_lst, truA_tup, truOk_tup, truA_refU, truOk_refU, Bool.not_true, Bool.not_false,  addA_ii, addA_ss, addA_tt, addA_ll, intA_ii, int2A_ii, subA_ii, mulA_ii, modA_ii, fdivA_ii, powA_ii, negA_i, ltA_ii, leA_ii, gtA_ii, geA_ii, ltA_ss, leA_ss, gtA_ss, geA_ss, isA, isntA, nonA, isiA_non, isiA_bl, isiA_int, isiA_str, isiA_tup, isiA_lst, isiA_rol, lenA_str, lenA_tup, lenA_lst, lenA_rol, absA_i, toIntA_i, toIntA_b, isIntA, isiB, String.reduceBEq, List.contains_cons, List.contains_nil, Bool.or_true, Bool.true_or, Bool.or_false, Bool.false_or, Bool.and_true, Bool.true_and, Bool.and_false, Bool.false_and, Bool.not_eq_true, if_true, if_false, decide_true, decide_false, Bool.false_eq_true, eq_self, reduceCtorEq, true_and, false_and, and_false, badA, exists_false, aFld, aPut, agFld, aPutAug, aMeth, aMake, mulX_ii, mulX_si, mulX_li, strA_i, strA_s, intXA_i, intXA_b, isBA_bb, isntBA_bb, aPar3, ex_tri, inA_tup, inA_lst, ninA_tup, ninA_lst, shrA_ii, andA_ii, aFor_tup, aFor_lst, aFor_enum, aLcF_lst, aLcF_tup, aLcF_rng, aLcP_lst, aLcP_tup, aLcP_enum, Int.cast_ofNat_Int, Int.reduceEq, Int.reduceLT, Int.reduceLE, Int.reduceNeg, Int.reduceAdd, Int.reduceSub]
      exact ⟨by omega, h⟩
    simp only [↓ite_bc, bc_t, bc_f, aFor_rng, lstA_lst, lstA_rol, aLcS_rng, eqA_ii, eqA_ss, neA_ii, neA_ss, updS_same, updS_updS, startA, List.map_cons, List.map_nil, List.cons_append, List.nil_append, List.length_cons, List.length_nil, Nat.zero_add, Nat.add_zero, Nat.reduceAdd, Nat.reduceSub, List.replicate_succ, List.replicate_zero, List.replicate,  aVar_z, aVar_s, aC, aNil, aCons, aTup, aLstV, aLst, aOp, aUn, aTru, aTst, aCmp, aChn, aChnT, aAnd, aOr, aNot, aIf, aAndV, aOrV, aNotV, aCB, aCall, aNext, aSeq, aBrk, aCnt, aRet, aRetN, aIfS, aNev,  agName, agNil, agCons, agTup, aAsg, aPar, aDrop, aCallK, aCallKn, aM, aM0, aAddS, aYes, one1, one2, wipeA, aRevT, aRevL, agSub_def, aSl, aPart, aNoPart, cutAns_rol, cutAns_lst, cutAns_tup, cutAns_str, aLstRg, aRg1, ex_some, tupleA_lst, tupleA_tup, wstA_lst,  List.set_cons_zero, List.set_cons_succ, List.set, ex_bl, ex_int, ex_str, ex_tup, ex_eq, ex_cons, ex_pair, ex_one1, ex_one_int, and_tt, truA_bl, truOk_bl, truA_int, truOk_int, truA_lst, truOk_lst, truA_tup, truOk_tup, truA_refU, truOk_refU, Bool.not_true, Bool.not_false,  addA_ii, addA_ss, addA_tt, addA_ll, intA_ii, int2A_ii, subA_ii, mulA_ii, modA_ii, fdivA_ii, powA_ii, negA_i, ltA_ii, leA_ii, gtA_ii, geA_ii, ltA_ss, leA_ss, gtA_ss, geA_ss, isA, isntA, nonA, isiA_non, isiA_bl, isiA_int, isiA_str, isiA_tup, isiA_lst, isiA_rol, lenA_str, lenA_tup, lenA_lst, lenA_rol, absA_i, toIntA_i, toIntA_b, isIntA, isiB, String.reduceBEq, List.contains_cons, List.contains_nil, Bool.or_true, Bool.true_or, Bool.or_false, Bool.false_or, Bool.and_true, Bool.true_and, Bool.and_false, Bool.false_and, Bool.not_eq_true, if_true, if_false, decide_true, decide_false, Bool.false_eq_true, eq_self, reduceCtorEq, true_and, false_and, and_false, badA, exists_false, aFld, aPut, agFld, aPutAug, aMeth, aMake, mulX_ii, mulX_si, mulX_li, strA_i, strA_s, intXA_i, intXA_b, isBA_bb, isntBA_bb, aPar3, ex_tri, inA_tup, inA_lst, ninA_tup, ninA_lst, shrA_ii, andA_ii, aFor_tup, aFor_lst, aFor_enum, aLcF_lst, aLcF_tup, aLcF_rng, aLcP_lst, aLcP_tup, aLcP_enum, ]
    refine ⟨⟨_, _, _, _⟩, rfl, ?_⟩
    simp only [↓ite_bc, bc_t, bc_f, aFor_rng, lstA_lst, lstA_rol, aLcS_rng, eqA_ii, eqA_ss, neA_ii, neA_ss, updS_same, updS_updS, startA, List.map_cons, List.map_nil, List.cons_append, List.nil_append, List.length_cons, List.length_nil, Nat.zero_add, Nat.add_zero, Nat.reduceAdd, Nat.reduceSub, List.replicate_succ, List.replicate_zero, List.replicate,  aVar_z, aVar_s, aC, aNil, aCons, aTup, aLstV, aLst, aOp, aUn, aTru, aTst, aCmp, aChn, aChnT, aAnd, aOr, aNot, aIf, aAndV, aOrV, aNotV, aCB, aCall, aNext, aSeq, aBrk, aCnt, aRet, aRetN, aIfS, aNev,  agName, agNil, agCons, agTup, aAsg, aPar, aDrop, aCallK, aCallKn, aM, aM0, aAddS, aYes, one1, one2, wipeA, aRevT, aRevL, agSub_def, aSl, aPart, aNoPart, cutAns_rol, cutAns_lst, cutAns_tup, cutAns_str, aLstRg, aRg1, ex_some, tupleA_lst, tupleA_tup, wstA_lst,  List.set_cons_zero, List.set_cons_succ, List.set, ex_bl, ex_int, ex_str, ex_tup, ex_eq, ex_cons, ex_pair, ex_one1, ex_one_int, and_tt, truA_bl, truOk_bl, truA_int, truOk_int, truA_lst, truOk_lst, truA_tup, truOk_tup, truA_refU, truOk_refU, Bool.not_true, Bool.not_false,  addA_ii, addA_ss, addA_tt, addA_ll, intA_ii, int2A_ii, subA_ii, mulA_ii, modA_ii, fdivA_ii, powA_ii, negA_i, ltA_ii, leA_ii, gtA_ii, geA_ii, ltA_ss, leA_ss, gtA_ss, geA_ss, isA, isntA, nonA, isiA_non, isiA_bl, isiA_int, isiA_str, isiA_tup, isiA_lst, isiA_rol, lenA_str, lenA_tup, lenA_lst, lenA_rol, absA_i, toIntA_i, toIntA_b, isIntA, isiB, String.reduceBEq, List.contains_cons, List.contains_nil, Bool.or_true, Bool.true_or, Bool.or_false, Bool.false_or, Bool.and_true, Bool.true_and, Bool.and_false, Bool.false_and, Bool.not_eq_true, if_true, if_false, decide_true, decide_false, Bool.false_eq_true, eq_self, reduceCtorEq, true_and, false_and, and_false, badA, exists_false, aFld, aPut, agFld, aPutAug, aMeth, aMake, mulX_ii, mulX_si, mulX_li, strA_i, strA_s, intXA_i, intXA_b, isBA_bb, isntBA_bb, aPar3, ex_tri, inA_tup, inA_lst, ninA_tup, ninA_lst, shrA_ii, andA_ii, aFor_tup, aFor_lst, aFor_enum, aLcF_lst, aLcF_tup, aLcF_rng, aLcP_lst, aLcP_tup, aLcP_enum, repr_v (words_val _).1 (by omega) (words_val _).2]
    refine ⟨⟨_, _, _, _⟩, rfl, ?_⟩
    simp only [↓ite_bc, bc_t, bc_f, aFor_rng, lstA_lst, lstA_rol, aLcS_rng, eqA_ii, eqA_ss, neA_ii, neA_ss, updS_same, updS_updS, startA, List.map_cons, List.map_nil, List.cons_append, List.nil_append, List.length_cons, List.length_nil, Nat.zero_add, Nat.add_zero, Nat.reduceAdd, Nat.reduceSub, List.replicate_succ, List.replicate_zero, List.replicate,  aVar_z, aVar_s, aC, aNil, aCons, aTup, aLstV, aLst, aOp, aUn, aTru, aTst, aCmp, aChn, aChnT, aAnd, aOr, aNot, aIf, aAndV, aOrV, aNotV, aCB, aCall, aNext, aSeq, aBrk, aCnt, aRet, aRetN, aIfS, aNev,  agName, agNil, agCons, agTup, aAsg, aPar, aDrop, aCallK, aCallKn, aM, aM0, aAddS, aYes, one1, one2, wipeA, aRevT, aRevL, agSub_def, aSl, aPart, aNoPart, cutAns_rol, cutAns_lst, cutAns_tup, cutAns_str, aLstRg, aRg1, ex_some, tupleA_lst, tupleA_tup, wstA_lst,  List.set_cons_zero, List.set_cons_succ, List.set, ex_bl, ex_int, ex_str, ex_tup, ex_eq, ex_cons, ex_pair, ex_one1, ex_one_int, and_tt, truA_bl, truOk_bl, truA_int, truOk_int, truA_lst, truOk_lst, truA_tup, truOk_tup, truA_refU, truOk_refU, Bool.not_true, Bool.not_false,  addA_ii, addA_ss, addA_tt, addA_ll, intA_ii, int2A_ii, subA_ii, mulA_ii, modA_ii, fdivA_ii, powA_ii, negA_i, ltA_ii, leA_ii, gtA_ii, geA_ii, ltA_ss, leA_ss, gtA_ss, geA_ss, isA, isntA, nonA, isiA_non, isiA_bl, isiA_int, isiA_str, isiA_tup, isiA_lst, isiA_rol, lenA_str, lenA_tup, lenA_lst, lenA_rol, absA_i, toIntA_i, toIntA_b, isIntA, isiB, String.reduceBEq, List.contains_cons, List.contains_nil, Bool.or_true, Bool.true_or, Bool.or_false, Bool.false_or, Bool.and_true, Bool.true_and, Bool.and_false, Bool.false_and, Bool.not_eq_true, if_true, if_false, decide_true, decide_false, Bool.false_eq_true, eq_self, reduceCtorEq, true_and, false_and, and_false, badA, exists_false, aFld, aPut, agFld, aPutAug, aMeth, aMake, mulX_ii, mulX_si, mulX_li, strA_i, strA_s, intXA_i, intXA_b, isBA_bb, isntBA_bb, aPar3, ex_tri, inA_tup, inA_lst, ninA_tup, ninA_lst, shrA_ii, andA_ii, aFor_tup, aFor_lst, aFor_enum, aLcF_lst, aLcF_tup, aLcF_rng, aLcP_lst, aLcP_tup, aLcP_enum, Int.cast_ofNat_Int, Int.reduceEq, Int.reduceLT, Int.reduceLE, Int.reduceNeg, Int.reduceAdd, Int.reduceSub, repr_v (words_val _).1 (by omega) (words_val _).2]
    exact ⟨_, _, _, _, _, rfl, trivial⟩
  · subst eτ eS
    simp only [↓ite_bc, bc_t, bc_f, aFor_rng, lstA_lst, lstA_rol, aLcS_rng, eqA_ii, eqA_ss, neA_ii, neA_ss, updS_same, updS_updS, startA, List.map_cons, List.map_nil, List.cons_append, List.nil_append, List.length_cons, List.length_nil, Nat.zero_add, Nat.add_zero, Nat.reduceAdd, Nat.reduceSub, List.replicate_succ, List.replicate_zero, List.replicate,  aVar_z, aVar_s, aC, aNil, aCons, aTup, aLstV, aLst, aOp, aUn, aTru, aTst, aCmp, aChn, aChnT, aAnd, aOr, aNot, aIf, aAndV, aOrV, aNotV, aCB, aCall, aNext, aSeq, aBrk, aCnt, aRet, aRetN, aIfS, aNev,  agName, agNil, agCons, agTup, aAsg, aPar, aDrop, aCallK, aCallKn, aM, aM0, aAddS, aYes, one1, one2, wipeA, aRevT, aRevL, agSub_def, aSl, aPart, aNoPart, cutAns_rol, cutAns_lst, cutAns_tup, cutAns_str, aLstRg, aRg1, ex_some, tupleA_lst, tupleA_tup, wstA_lst,  List.set_cons_zero, List.set_cons_succ, List.set, ex_bl, ex_int, ex_str, ex_tup, ex_eq, ex_cons, ex_pair, ex_one1, ex_one_int, and_tt, truA_bl, truOk_bl, truA_int, truOk_int, truA_lst, truOk_lst, truA_tup, truOk_tup, truA_refU, truOk_refU, Bool.not_true, Bool.not_false,  addA_ii, addA_ss, addA_tt, addA_ll, intA_ii, int2A_ii, subA_ii, mulA_ii, modA_ii, fdivA_ii, powA_ii, negA_i, ltA_ii, leA_ii, gtA_ii, geA_ii, ltA_ss, leA_ss, gtA_ss, geA_ss, isA, isntA, nonA, isiA_non, isiA_bl, isiA_int, isiA_str, isiA_tup, isiA_lst, isiA_rol, lenA_str, lenA_tup, lenA_lst, lenA_rol, absA_i, toIntA_i, toIntA_b, isIntA, isiB, String.reduceBEq, List.contains_cons, List.contains_nil, Bool.or_true, Bool.true_or, Bool.or_false, Bool.false_or, Bool.and_true, Bool.true_and, Bool.and_false, Bool.false_and, Bool.not_eq_true, if_true, if_false, decide_true, decide_false, Bool.false_eq_true, eq_self, reduceCtorEq, true_and, false_and, and_false, badA, exists_false, aFld, aPut, agFld, aPutAug, aMeth, aMake, mulX_ii, mulX_si, mulX_li, strA_i, strA_s, intXA_i, intXA_b, isBA_bb, isntBA_bb, aPar3, ex_tri, inA_tup, inA_lst, ninA_tup, ninA_lst, shrA_ii, andA_ii, aFor_tup, aFor_lst, aFor_enum, aLcF_lst, aLcF_tup, aLcF_rng, aLcP_lst, aLcP_tup, aLcP_enum, Int.cast_ofNat_Int, Int.reduceEq, Int.reduceLT, Int.reduceLE, Int.reduceNeg, Int.reduceAdd, Int.reduceSub]
    refine ⟨by omega, by omega, ?_⟩
    refine ForGo.of (fun i τ S' => ∃ (o1 o2 o3 o4 o5 : Option AV) (pt : Pt), τ = [some (.ref p), o1, o2, o3, o4, o5] ∧ S' = updS S2 p (potO pt) ∧ okP (40 * i) pt) ⟨_, _, _, _, _, t, rfl, (updS_self hp).symm, ok⟩
      (fun i x τ2 S3 hx hi ⟨o1, o2, o3, o4, o5, pt, eτ, eS, okt⟩ => ?_) (fun τ2 S3 ⟨o1, o2, o3, o4, o5, pt, eτ, eS, okt⟩ => ?_)
    · subst eτ eS
      rw [rngA_len] at hi
      have hi : i < 4 := hi
      simp only [↓ite_bc, bc_t, bc_f, aFor_rng, lstA_lst, lstA_rol, aLcS_rng, eqA_ii, eqA_ss, neA_ii, neA_ss, updS_same, updS_updS, startA, List.map_cons, List.map_nil, List.cons_append, List.nil_append, List.length_cons, List.length_nil, Nat.zero_add, Nat.add_zero, Nat.reduceAdd, Nat.reduceSub, List.replicate_succ, List.replicate_zero, List.replicate,  aVar_z, aVar_s, aC, aNil, aCons, aTup, aLstV, aLst, aOp, aUn, aTru, aTst, aCmp, aChn, aChnT, aAnd, aOr, aNot, aIf, aAndV, aOrV, aNotV, aCB, aCall, aNext, aSeq, aBrk, aCnt, aRet, aRetN, aIfS, aNev,  agName, agNil, agCons, agTup, aAsg, aPar, aDrop, aCallK, aCallKn, aM, aM0, aAddS, aYes, one1, one2, wipeA, aRevT, aRevL, agSub_def, aSl, aPart, aNoPart, cutAns_rol, cutAns_lst, cutAns_tup, cutAns_str, aLstRg, aRg1, ex_some, tupleA_lst, tupleA_tup, wstA_lst,  List.set_cons_zero, List.set_cons_succ, List.set, ex_bl, ex_int, ex_str, ex_tup, ex_eq, ex_cons, ex_pair, ex_one1, ex_one_int, and_tt, truA_bl, truOk_bl, truA_int, truOk_int, truA_lst, truOk_lst, truA_tup, truOk_tup, truA_refU, truOk_refU, Bool.not_true, Bool.not_false,  addA_ii, addA_ss, addA_tt, addA_ll, intA_ii, int2A_ii, subA_ii, mulA_ii, modA_ii, fdivA_ii, powA_ii, negA_i, ltA_ii, leA_ii, gtA_ii, geA_ii, ltA_ss, leA_ss, gtA_ss, geA_ss, isA, isntA, nonA, isiA_non, isiA_bl, isiA_int, isiA_str, isiA_tup, isiA_lst, isiA_rol, lenA_str, lenA_tup, lenA_lst, lenA_rol, absA_i, toIntA_i, toIntA_b, isIntA, isiB, String.reduceBEq, List.contains_cons, List.contains_nil, Bool.or_true, Bool.true_or, Bool.or_false, Bool.false_or, Bool.and_true, Bool.true_and, Bool.and_false, Bool.false_and, Bool.not_eq_true, if_true, if_false, decide_true, decide_false, Bool.false_eq_true, eq_self, reduceCtorEq, true_and, false_and, and_false, badA, exists_false, aFld, aPut, agFld, aPutAug, aMeth, aMake, mulX_ii, mulX_si, mulX_li, strA_i, strA_s, intXA_i, intXA_b, isBA_bb, isntBA_bb, aPar3, ex_tri, inA_tup, inA_lst, ninA_tup, ninA_lst, shrA_ii, andA_ii, aFor_tup, aFor_lst, aFor_enum, aLcF_lst, aLcF_tup, aLcF_rng, aLcP_lst, aLcP_tup, aLcP_enum, Int.cast_ofNat_Int, Int.reduceEq, Int.reduceLT, Int.reduceLE, Int.reduceNeg, Int.reduceAdd, Int.reduceSub]
      refine ⟨by omega, by omega, ?_⟩
      refine lcF_pot potO (fun k pt => okP (40 * i + k) pt) updS_same okt (fun y => ∃ b, y = .bl b) (le_sl (n := 4) (by decide)) (fun _ => trivial) (fun k x pt' Sx Qe hx hk hI hp' h => ?_) (fun acc pt' hl ha hI => ?_)
      · have hk : k < 4 := hk
        simp only [↓ite_bc, bc_t, bc_f, aFor_rng, lstA_lst, lstA_rol, aLcS_rng, eqA_ii, eqA_ss, neA_ii, neA_ss, updS_same, updS_updS, startA, List.map_cons, List.map_nil, List.cons_append, List.nil_append, List.length_cons, List.length_nil, Nat.zero_add, Nat.add_zero, Nat.reduceAdd, Nat.reduceSub, List.replicate_succ, List.replicate_zero, List.replicate,  aVar_z, aVar_s, aC, aNil, aCons, aTup, aLstV, aLst, aOp, aUn, aTru, aTst, aCmp, aChn, aChnT, aAnd, aOr, aNot, aIf, aAndV, aOrV, aNotV, aCB, aCall, aNext, aSeq, aBrk, aCnt, aRet, aRetN, aIfS, aNev,  agName, agNil, agCons, agTup, aAsg, aPar, aDrop, aCallK, aCallKn, aM, aM0, aAddS, aYes, one1, one2, wipeA, aRevT, aRevL, agSub_def, aSl, aPart, aNoPart, cutAns_rol, cutAns_lst, cutAns_tup, cutAns_str, aLstRg, aRg1, ex_some, tupleA_lst, tupleA_tup, wstA_lst,  List.set_cons_zero, List.set_cons_succ, List.set, ex_bl, ex_int, ex_str, ex_tup, ex_eq, ex_cons, ex_pair, ex_one1, ex_one_int, and_tt, truA_bl, truOk_bl, truA_int, truOk_int, truA_lst, truOk_lst, truA_tup, truOk_tup, truA_refU, truOk_refU, Bool.not_true, Bool.not_false,  addA_ii, addA_ss, addA_tt, addA_ll, intA_ii, int2A_ii, subA_ii, mulA_ii, modA_ii, fdivA_ii, powA_ii, negA_i, ltA_ii, leA_ii, gtA_ii, geA_ii, ltA_ss, leA_ss, gtA_ss, geA_ss, isA, isntA, nonA, isiA_non, isiA_bl, isiA_int, isiA_str, isiA_tup, isiA_lst, isiA_rol, lenA_str, lenA_tup, lenA_lst, lenA_rol, absA_i, toIntA_i, toIntA_b, isIntA, isiB, String.reduceBEq, List.contains_cons, List.contains_nil, Bool.or_true, Bool.true_or, Bool.or_false, Bool.false_or, Bool.and_true, Bool.true_and, Bool.and_false, Bool.false_and, Bool.not_eq_true, if_true, if_false, decide_true, decide_false, Bool.false_eq_true, eq_self, reduceCtorEq, true_and, false_and, and_false, badA, exists_false, aFld, aPut, agFld, aPutAug, aMeth, aMake, mulX_ii, mulX_si, mulX_li, strA_i, strA_s, intXA_i, intXA_b, isBA_bb, isntBA_bb, aPar3, ex_tri, inA_tup, inA_lst, ninA_tup, ninA_lst, shrA_ii, andA_ii, aFor_tup, aFor_lst, aFor_enum, aLcF_lst, aLcF_tup, aLcF_rng, aLcP_lst, aLcP_tup, aLcP_enum, Int.cast_ofNat_Int, Int.reduceEq, Int.reduceLT, Int.reduceLE, Int.reduceNeg, Int.reduceAdd, Int.reduceSub]
        refine take_of (n := 3) (by omega) (by omega) hp' hI (by omega) fun t2 r ok2 r0 r1 => ?_
        simp only [↓ite_bc, bc_t, bc_f, aFor_rng, lstA_lst, lstA_rol, aLcS_rng, eqA_ii, eqA_ss, neA_ii, neA_ss, updS_same, updS_updS, startA, List.map_cons, List.map_nil, List.cons_append, List.nil_append, List.length_cons, List.length_nil, Nat.zero_add, Nat.add_zero, Nat.reduceAdd, Nat.reduceSub, List.replicate_succ, List.replicate_zero, List.replicate,  aVar_z, aVar_s, aC, aNil, aCons, aTup, aLstV, aLst, aOp, aUn, aTru, aTst, aCmp, aChn, aChnT, aAnd, aOr, aNot, aIf, aAndV, aOrV, aNotV, aCB, aCall, aNext, aSeq, aBrk, aCnt, aRet, aRetN, aIfS, aNev,  agName, agNil, agCons, agTup, aAsg, aPar, aDrop, aCallK, aCallKn, aM, aM0, aAddS, aYes, one1, one2, wipeA, aRevT, aRevL, agSub_def, aSl, aPart, aNoPart, cutAns_rol, cutAns_lst, cutAns_tup, cutAns_str, aLstRg, aRg1, ex_some, tupleA_lst, tupleA_tup, wstA_lst,  List.set_cons_zero, List.set_cons_succ, List.set, ex_bl, ex_int, ex_str, ex_tup, ex_eq, ex_cons, ex_pair, ex_one1, ex_one_int, and_tt, truA_bl, truOk_bl, truA_int, truOk_int, truA_lst, truOk_lst, truA_tup, truOk_tup, truA_refU, truOk_refU, Bool.not_true, Bool.not_false,  addA_ii, addA_ss, addA_tt, addA_ll, intA_ii, int2A_ii, subA_ii, mulA_ii, modA_ii, fdivA_ii, powA_ii, negA_i, ltA_ii, leA_ii, gtA_ii, geA_ii, ltA_ss, leA_ss, gtA_ss, geA_ss, isA, isntA, nonA, isiA_non, isiA_bl, isiA_int, isiA_str, isiA_tup, isiA_lst, isiA_rol, lenA_str, lenA_tup, lenA_lst, lenA_rol, absA_i, toIntA_i, toIntA_b, isIntA, isiB, String.reduceBEq, List.contains_cons, List.contains_nil, Bool.or_true, Bool.true_or, Bool.or_false, Bool.false_or, Bool.and_true, Bool.true_and, Bool.and_false, Bool.false_and, Bool.not_eq_true, if_true, if_false, decide_true, decide_false, Bool.false_eq_true, eq_self, reduceCtorEq, true_and, false_and, and_false, badA, exists_false, aFld, aPut, agFld, aPutAug, aMeth, aMake, mulX_ii, mulX_si, mulX_li, strA_i, strA_s, intXA_i, intXA_b, isBA_bb, isntBA_bb, aPar3, ex_tri, inA_tup, inA_lst, ninA_tup, ninA_lst, shrA_ii, andA_ii, aFor_tup, aFor_lst, aFor_enum, aLcF_lst, aLcF_tup, aLcF_rng, aLcP_lst, aLcP_tup, aLcP_enum, Int.cast_ofNat_Int, Int.reduceEq, Int.reduceLT, Int.reduceLE, Int.reduceNeg, Int.reduceAdd, Int.reduceSub]
        exact h _ t2 ⟨_, rfl⟩ ok2
      · obtain ⟨b1, b2, b3, b4, rfl⟩ : ∃ b1 b2 b3 b4, acc = [.bl b1, .bl b2, .bl b3, .bl b4] := by
          rcases acc with _ | ⟨x1, _ | ⟨x2, _ | ⟨x3, _ | ⟨x4, _ | ⟨x5, r⟩⟩⟩⟩⟩
          · cases hl
          · cases hl
          · cases hl
          · cases hl
          · obtain ⟨b1, rfl⟩ := ha x1 (by simp)
            obtain ⟨b2, rfl⟩ := ha x2 (by simp)
            obtain ⟨b3, rfl⟩ := ha x3 (by simp)
            obtain ⟨b4, rfl⟩ := ha x4 (by simp)
            exact ⟨b1, b2, b3, b4, rfl⟩
          · simp [rngA_len] at hl
        have hI : okP (40 * i + 4) pt' := hI
        simp only [↓ite_bc, bc_t, bc_f, aFor_rng, lstA_lst, lstA_rol, aLcS_rng, eqA_ii, eqA_ss, neA_ii, neA_ss, updS_same, updS_updS, startA, List.map_cons, List.map_nil, List.cons_append, List.nil_append, List.length_cons, List.length_nil, Nat.zero_add, Nat.add_zero, Nat.reduceAdd, Nat.reduceSub, List.replicate_succ, List.replicate_zero, List.replicate,  aVar_z, aVar_s, aC, aNil, aCons, aTup, aLstV, aLst, aOp, aUn, aTru, aTst, aCmp, aChn, aChnT, aAnd, aOr, aNot, aIf, aAndV, aOrV, aNotV, aCB, aCall, aNext, aSeq, aBrk, aCnt, aRet, aRetN, aIfS, aNev,  agName, agNil, agCons, agTup, aAsg, aPar, aDrop, aCallK, aCallKn, aM, aM0, aAddS, aYes, one1, one2, wipeA, aRevT, aRevL, agSub_def, aSl, aPart, aNoPart, cutAns_rol, cutAns_lst, cutAns_tup, cutAns_str, aLstRg, aRg1, ex_some, tupleA_lst, tupleA_tup, wstA_lst,  List.set_cons_zero, List.set_cons_succ, List.set, ex_bl, ex_int, ex_str, ex_tup, ex_eq, ex_cons, ex_pair, ex_one1, ex_one_int, and_tt, truA_bl, truOk_bl, truA_int, truOk_int, truA_lst, truOk_lst, truA_tup, truOk_tup, truA_refU, truOk_refU, Bool.not_true, Bool.not_false,  addA_ii, addA_ss, addA_tt, addA_ll, intA_ii, int2A_ii, subA_ii, mulA_ii, modA_ii, fdivA_ii, powA_ii, negA_i, ltA_ii, leA_ii, gtA_ii, geA_ii, ltA_ss, leA_ss, gtA_ss, geA_ss, isA, isntA, nonA, isiA_non, isiA_bl, isiA_int, isiA_str, isiA_tup, isiA_lst, isiA_rol, lenA_str, lenA_tup, lenA_lst, lenA_rol, absA_i, toIntA_i, toIntA_b, isIntA, isiB, String.reduceBEq, List.contains_cons, List.contains_nil, Bool.or_true, Bool.true_or, Bool.or_false, Bool.false_or, Bool.and_true, Bool.true_and, Bool.and_false, Bool.false_and, Bool.not_eq_true, if_true, if_false, decide_true, decide_false, Bool.false_eq_true, eq_self, reduceCtorEq, true_and, false_and, and_false, badA, exists_false, aFld, aPut, agFld, aPutAug, aMeth, aMake, mulX_ii, mulX_si, mulX_li, strA_i, strA_s, intXA_i, intXA_b, isBA_bb, isntBA_bb, aPar3, ex_tri, inA_tup, inA_lst, ninA_tup, ninA_lst, shrA_ii, andA_ii, aFor_tup, aFor_lst, aFor_enum, aLcF_lst, aLcF_tup, aLcF_rng, aLcP_lst, aLcP_tup, aLcP_enum, ]
        refine ⟨p, pt', ⟨b1, b2, b3, b4⟩, _, rfl, updS_same, hI, by omega, fun t3 y ok3 hy => ?_⟩
        rcases hy with rfl | ⟨w, rfl, hw⟩
        · simp only [↓ite_bc, bc_t, bc_f, aFor_rng, lstA_lst, lstA_rol, aLcS_rng, eqA_ii, eqA_ss, neA_ii, neA_ss, updS_same, updS_updS, startA, List.map_cons, List.map_nil, List.cons_append, List.nil_append, List.length_cons, List.length_nil, Nat.zero_add, Nat.add_zero, Nat.reduceAdd, Nat.reduceSub, List.replicate_succ, List.replicate_zero, List.replicate,  aVar_z, aVar_s, aC, aNil, aCons, aTup, aLstV, aLst, aOp, aUn, aTru, aTst, aCmp, aChn, aChnT, aAnd, aOr, aNot, aIf, aAndV, aOrV, aNotV, aCB, aCall, aNext, aSeq, aBrk, aCnt, aRet, aRetN, aIfS, aNev,  agName, agNil, agCons, agTup, aAsg, aPar, aDrop, aCallK, aCallKn, aM, aM0, aAddS, aYes, one1, one2, wipeA, aRevT, aRevL, agSub_def, aSl, aPart, aNoPart, cutAns_rol, cutAns_lst, cutAns_tup, cutAns_str, aLstRg, aRg1, ex_some, tupleA_lst, tupleA_tup, wstA_lst,  List.set_cons_zero, List.set_cons_succ, List.set, ex_bl, ex_int, ex_str, ex_tup, ex_eq, ex_cons, ex_pair, ex_one1, ex_one_int, and_tt, truA_bl, truOk_bl, truA_int, truOk_int, truA_lst, truOk_lst, truA_tup, truOk_tup, truA_refU, truOk_refU, Bool.not_true, Bool.not_false,  addA_ii, addA_ss, addA_tt, addA_ll, intA_ii, int2A_ii, subA_ii, mulA_ii, modA_ii, fdivA_ii, powA_ii, negA_i, ltA_ii, leA_ii, gtA_ii, geA_ii, ltA_ss, leA_ss, gtA_ss, geA_ss, isA, isntA, nonA, isiA_non, isiA_bl, isiA_int, isiA_str, isiA_tup, isiA_lst, isiA_rol, lenA_str, lenA_tup, lenA_lst, lenA_rol, absA_i, toIntA_i, toIntA_b, isIntA, isiB, String.reduceBEq, List.contains_cons, List.contains_nil, Bool.or_true, Bool.true_or, Bool.or_false, Bool.false_or, Bool.and_true, Bool.true_and, Bool.and_false, Bool.false_and, Bool.not_eq_true, if_true, if_false, decide_true, decide_false, Bool.false_eq_true, eq_self, reduceCtorEq, true_and, false_and, and_false, badA, exists_false, aFld, aPut, agFld, aPutAug, aMeth, aMake, mulX_ii, mulX_si, mulX_li, strA_i, strA_s, intXA_i, intXA_b, isBA_bb, isntBA_bb, aPar3, ex_tri, inA_tup, inA_lst, ninA_tup, ninA_lst, shrA_ii, andA_ii, aFor_tup, aFor_lst, aFor_enum, aLcF_lst, aLcF_tup, aLcF_rng, aLcP_lst, aLcP_tup, aLcP_enum, ]
          exact ⟨_, _, _, _, _, t3, rfl, rfl, ok3.up (by omega)⟩
        · simp only [↓ite_bc, bc_t, bc_f, aFor_rng, lstA_lst, lstA_rol, aLcS_rng, eqA_ii, eqA_ss, neA_ii, neA_ss, updS_same, updS_updS, startA, List.map_cons, List.map_nil, List.cons_append, List.nil_append, List.length_cons, List.length_nil, Nat.zero_add, Nat.add_zero, Nat.reduceAdd, Nat.reduceSub, List.replicate_succ, List.replicate_zero, List.replicate,  aVar_z, aVar_s, aC, aNil, aCons, aTup, aLstV, aLst, aOp, aUn, aTru, aTst, aCmp, aChn, aChnT, aAnd, aOr, aNot, aIf, aAndV, aOrV, aNotV, aCB, aCall, aNext, aSeq, aBrk, aCnt, aRet, aRetN, aIfS, aNev,  agName, agNil, agCons, agTup, aAsg, aPar, aDrop, aCallK, aCallKn, aM, aM0, aAddS, aYes, one1, one2, wipeA, aRevT, aRevL, agSub_def, aSl, aPart, aNoPart, cutAns_rol, cutAns_lst, cutAns_tup, cutAns_str, aLstRg, aRg1, ex_some, tupleA_lst, tupleA_tup, wstA_lst,  List.set_cons_zero, List.set_cons_succ, List.set, ex_bl, ex_int, ex_str, ex_tup, ex_eq, ex_cons, ex_pair, ex_one1, ex_one_int, and_tt, truA_bl, truOk_bl, truA_int, truOk_int, truA_lst, truOk_lst, truA_tup, truOk_tup, truA_refU, truOk_refU, Bool.not_true, Bool.not_false,  addA_ii, addA_ss, addA_tt, addA_ll, intA_ii, int2A_ii, subA_ii, mulA_ii, modA_ii, fdivA_ii, powA_ii, negA_i, ltA_ii, leA_ii, gtA_ii, geA_ii, ltA_ss, leA_ss, gtA_ss, geA_ss, isA, isntA, nonA, isiA_non, isiA_bl, isiA_int, isiA_str, isiA_tup, isiA_lst, isiA_rol, lenA_str, lenA_tup, lenA_lst, lenA_rol, absA_i, toIntA_i, toIntA_b, isIntA, isiB, String.reduceBEq, List.contains_cons, List.contains_nil, Bool.or_true, Bool.true_or, Bool.or_false, Bool.false_or, Bool.and_true, Bool.true_and, Bool.and_false, Bool.false_and, Bool.not_eq_true, if_true, if_false, decide_true, decide_false, Bool.false_eq_true, eq_self, reduceCtorEq, true_and, false_and, and_false, badA, exists_false, aFld, aPut, agFld, aPutAug, aMeth, aMake, mulX_ii, mulX_si, mulX_li, strA_i, strA_s, intXA_i, intXA_b, isBA_bb, isntBA_bb, aPar3, ex_tri, inA_tup, inA_lst, ninA_tup, ninA_lst, shrA_ii, andA_ii, aFor_tup, aFor_lst, aFor_enum, aLcF_lst, aLcF_tup, aLcF_rng, aLcP_lst, aLcP_tup, aLcP_enum, ]
          refine ⟨⟨b1, b2, b3, b4⟩, rfl, ?_⟩
          have f2 : ((wordsS ⟨b1, b2, b3, b4⟩).map AV.str).all fl1 = true := by rw [List.all_map]; exact List.all_eq_true.mpr fun _ _ => rfl
          have e2 : (((wordsS ⟨b1, b2, b3, b4⟩).map AV.str).any fun y => eq1 y (.str w)) = true := List.any_eq_true.mpr ⟨.str w, List.mem_map.mpr ⟨w, hw, rfl⟩, beq_self_eq_true w⟩
          simp only [↓ite_bc, bc_t, bc_f, aFor_rng, lstA_lst, lstA_rol, aLcS_rng, eqA_ii, eqA_ss, neA_ii, neA_ss, updS_same, updS_updS, startA, List.map_cons, List.map_nil, List.cons_append, List.nil_append, List.length_cons, List.length_nil, Nat.zero_add, Nat.add_zero, Nat.reduceAdd, Nat.reduceSub, List.replicate_succ, List.replicate_zero, List.replicate,  aVar_z, aVar_s, aC, aNil, aCons, aTup, aLstV, aLst, aOp, aUn, aTru, aTst, aCmp, aChn, aChnT, aAnd, aOr, aNot, aIf, aAndV, aOrV, aNotV, aCB, aCall, aNext, aSeq, aBrk, aCnt, aRet, aRetN, aIfS, aNev,  agName, agNil, agCons, agTup, aAsg, aPar, aDrop, aCallK, aCallKn, aM, aM0, aAddS, aYes, one1, one2, wipeA, aRevT, aRevL, agSub_def, aSl, aPart, aNoPart, cutAns_rol, cutAns_lst, cutAns_tup, cutAns_str, aLstRg, aRg1, ex_some, tupleA_lst, tupleA_tup, wstA_lst,  List.set_cons_zero, List.set_cons_succ, List.set, ex_bl, ex_int, ex_str, ex_tup, ex_eq, ex_cons, ex_pair, ex_one1, ex_one_int, and_tt, truA_bl, truOk_bl, truA_int, truOk_int, truA_lst, truOk_lst, truA_tup, truOk_tup, truA_refU, truOk_refU, Bool.not_true, Bool.not_false,  addA_ii, addA_ss, addA_tt, addA_ll, intA_ii, int2A_ii, subA_ii, mulA_ii, modA_ii, fdivA_ii, powA_ii, negA_i, ltA_ii, leA_ii, gtA_ii, geA_ii, ltA_ss, leA_ss, gtA_ss, geA_ss, isA, isntA, nonA, isiA_non, isiA_bl, isiA_int, isiA_str, isiA_tup, isiA_lst, isiA_rol, lenA_str, lenA_tup, lenA_lst, lenA_rol, absA_i, toIntA_i, toIntA_b, isIntA, isiB, String.reduceBEq, List.contains_cons, List.contains_nil, Bool.or_true, Bool.true_or, Bool.or_false, Bool.false_or, Bool.and_true, Bool.true_and, Bool.and_false, Bool.false_and, Bool.not_eq_true, if_true, if_false, decide_true, decide_false, Bool.false_eq_true, eq_self, reduceCtorEq, true_and, false_and, and_false, badA, exists_false, aFld, aPut, agFld, aPutAug, aMeth, aMake, mulX_ii, mulX_si, mulX_li, strA_i, strA_s, intXA_i, intXA_b, isBA_bb, isntBA_bb, aPar3, ex_tri, inA_tup, inA_lst, ninA_tup, ninA_lst, shrA_ii, andA_ii, aFor_tup, aFor_lst, aFor_enum, aLcF_lst, aLcF_tup, aLcF_rng, aLcP_lst, aLcP_tup, aLcP_enum, Int.cast_ofNat_Int, Int.reduceEq, Int.reduceLT, Int.reduceLE, Int.reduceNeg, Int.reduceAdd, Int.reduceSub, wordsA, e2]
          exact ⟨⟨rfl, f2⟩, _, _, _, _, _, t3, rfl, rfl, ok3.up (by omega)⟩
    · subst eτ eS
      simp only [↓ite_bc, bc_t, bc_f, aFor_rng, lstA_lst, lstA_rol, aLcS_rng, eqA_ii, eqA_ss, neA_ii, neA_ss, updS_same, updS_updS, startA, List.map_cons, List.map_nil, List.cons_append, List.nil_append, List.length_cons, List.length_nil, Nat.zero_add, Nat.add_zero, Nat.reduceAdd, Nat.reduceSub, List.replicate_succ, List.replicate_zero, List.replicate,  aVar_z, aVar_s, aC, aNil, aCons, aTup, aLstV, aLst, aOp, aUn, aTru, aTst, aCmp, aChn, aChnT, aAnd, aOr, aNot, aIf, aAndV, aOrV, aNotV, aCB, aCall, aNext, aSeq, aBrk, aCnt, aRet, aRetN, aIfS, aNev,  agName, agNil, agCons, agTup, aAsg, aPar, aDrop, aCallK, aCallKn, aM, aM0, aAddS, aYes, one1, one2, wipeA, aRevT, aRevL, agSub_def, aSl, aPart, aNoPart, cutAns_rol, cutAns_lst, cutAns_tup, cutAns_str, aLstRg, aRg1, ex_some, tupleA_lst, tupleA_tup, wstA_lst,  List.set_cons_zero, List.set_cons_succ, List.set, ex_bl, ex_int, ex_str, ex_tup, ex_eq, ex_cons, ex_pair, ex_one1, ex_one_int, and_tt, truA_bl, truOk_bl, truA_int, truOk_int, truA_lst, truOk_lst, truA_tup, truOk_tup, truA_refU, truOk_refU, Bool.not_true, Bool.not_false,  addA_ii, addA_ss, addA_tt, addA_ll, intA_ii, int2A_ii, subA_ii, mulA_ii, modA_ii, fdivA_ii, powA_ii, negA_i, ltA_ii, leA_ii, gtA_ii, geA_ii, ltA_ss, leA_ss, gtA_ss, geA_ss, isA, isntA, nonA, isiA_non, isiA_bl, isiA_int, isiA_str, isiA_tup, isiA_lst, isiA_rol, lenA_str, lenA_tup, lenA_lst, lenA_rol, absA_i, toIntA_i, toIntA_b, isIntA, isiB, String.reduceBEq, List.contains_cons, List.contains_nil, Bool.or_true, Bool.true_or, Bool.or_false, Bool.false_or, Bool.and_true, Bool.true_and, Bool.and_false, Bool.false_and, Bool.not_eq_true, if_true, if_false, decide_true, decide_false, Bool.false_eq_true, eq_self, reduceCtorEq, true_and, false_and, and_false, badA, exists_false, aFld, aPut, agFld, aPutAug, aMeth, aMake, mulX_ii, mulX_si, mulX_li, strA_i, strA_s, intXA_i, intXA_b, isBA_bb, isntBA_bb, aPar3, ex_tri, inA_tup, inA_lst, ninA_tup, ninA_lst, shrA_ii, andA_ii, aFor_tup, aFor_lst, aFor_enum, aLcF_lst, aLcF_tup, aLcF_rng, aLcP_lst, aLcP_tup, aLcP_enum, ]
      exact rt_same (q _)
def sp_law : ASp := fun ds S Q => ∃ ns : List Int, ds = [.rol (ns.map .int)] ∧ ns.length ≤ 63 ∧ ∀ S', Q (.bl true) S'
set_option maxHeartbeats 4000000 in
theorem fn_law (T : Txt K mg) (F__law_cells : Fn4 P w K mg base 1 "_law_cells" ["script", "most"] sp__law_cells) (F__law_right : Fn4 P w K mg base 6 "_law_right" ["pot"] sp__law_right) (F__law_pot : Fn4 P w K mg base 1 "_law_pot" ["script", "place"] sp__law_pot) : FnX P w K mg base 7 "law" st_law ["script"] sp_law := by
  refine FnX.of T.d_law fun f fd F => F.ok4 sc_law (fun ds S Q h => by unfold sp_law at h; first | (obtain ⟨_, rfl, _⟩ := h; rfl) | (obtain ⟨_, _, rfl, _⟩ := h; rfl) | (obtain ⟨_, _, _, rfl, _⟩ := h; rfl) | (obtain ⟨_, _, _, _, rfl, _⟩ := h; rfl) | (obtain ⟨_, _, _, _, _, rfl, _⟩ := h; rfl) | (obtain ⟨_, _, _, _, _, _, rfl, _⟩ := h; rfl) | (obtain ⟨_, _, _, _, _, _, _, rfl, _⟩ := h; rfl)) fun cdv A gd out s H E hr => ?_
  refine ⟨_, (s_one (s_ret (e_cb (c_all rfl) T.n_all (by decide +kernel) (a_cons (e_lc 1 [("place", 1)] rfl sc_law.nd (i_lst (f_call F__law_cells gd (hr.mono (by decide)) (a_cons (e_var 0) (a_cons e_int a_nil)))) (blkOk_by (N := nm_law) (sc := defScope st_law) (by decide +kernel)) (fun _ _ _ _ _ => pg_name sc_law.nd rfl (Or.inl rfl)) (fun _ _ _ _ _ => ts_nil) (fun _ _ _ _ _ => (f_call F__law_right gd (hr.mono (by decide)) (a_cons (f_call F__law_pot gd (hr.mono (by decide)) (a_cons (e_var 0) (a_cons (e_var 1) a_nil))) a_nil)))) a_nil)))), ?_⟩
  rintro _ S Q ⟨ns, rfl, hl, q⟩
  walk_at "rd"
  refine ⟨ns, 3, rfl, by omega, by omega, hl, fun n n0 n1 => ?_⟩
  simp only [↓ite_bc, bc_t, bc_f, aFor_rng, lstA_lst, lstA_rol, aLcS_rng, eqA_ii, eqA_ss, neA_ii, neA_ss, updS_same, updS_updS, startA, List.map_cons, List.map_nil, List.cons_append, List.nil_append, List.length_cons, List.length_nil, Nat.zero_add, Nat.add_zero, Nat.reduceAdd, Nat.reduceSub, List.replicate_succ, List.replicate_zero, List.replicate,  aVar_z, aVar_s, aC, aNil, aCons, aTup, aLstV, aLst, aOp, aUn, aTru, aTst, aCmp, aChn, aChnT, aAnd, aOr, aNot, aIf, aAndV, aOrV, aNotV, aCB, aCall, aNext, aSeq, aBrk, aCnt, aRet, aRetN, aIfS, aNev,  agName, agNil, agCons, agTup, aAsg, aPar, aDrop, aCallK, aCallKn, aM, aM0, aAddS, aYes, one1, one2, wipeA, aRevT, aRevL, agSub_def, aSl, aPart, aNoPart, cutAns_rol, cutAns_lst, cutAns_tup, cutAns_str, aLstRg, aRg1, ex_some, tupleA_lst, tupleA_tup, wstA_lst,  List.set_cons_zero, List.set_cons_succ, List.set, ex_bl, ex_int, ex_str, ex_tup, ex_eq, ex_cons, ex_pair, ex_one1, ex_one_int, and_tt, truA_bl, truOk_bl, truA_int, truOk_int, truA_lst, truOk_lst, truA_tup, truOk_tup, truA_refU, truOk_refU, Bool.not_true, Bool.not_false,  addA_ii, addA_ss, addA_tt, addA_ll, intA_ii, int2A_ii, subA_ii, mulA_ii, modA_ii, fdivA_ii, powA_ii, negA_i, ltA_ii, leA_ii, gtA_ii, geA_ii, ltA_ss, leA_ss, gtA_ss, geA_ss, isA, isntA, nonA, isiA_non, isiA_bl, isiA_int, isiA_str, isiA_tup, isiA_lst, isiA_rol, lenA_str, lenA_tup, lenA_lst, lenA_rol, absA_i, toIntA_i, toIntA_b, isIntA, isiB, String.reduceBEq, List.contains_cons, List.contains_nil, Bool.or_true, Bool.true_or, Bool.or_false, Bool.false_or, Bool.and_true, Bool.true_and, Bool.and_false, Bool.false_and, Bool.not_eq_true, if_true, if_false, decide_true, decide_false, Bool.false_eq_true, eq_self, reduceCtorEq, true_and, false_and, and_false, badA, exists_false, aFld, aPut, agFld, aPutAug, aMeth, aMake, mulX_ii, mulX_si, mulX_li, strA_i, strA_s, intXA_i, intXA_b, isBA_bb, isntBA_bb, aPar3, ex_tri, inA_tup, inA_lst, ninA_tup, ninA_lst, shrA_ii, andA_ii, aFor_tup, aFor_lst, aFor_enum, aLcF_lst, aLcF_tup, aLcF_rng, aLcP_lst, aLcP_tup, aLcP_enum, ]
  refine lcF_free (fun y => y = .bl true) (by rw [rngA_len]; exact le_sl (by omega)) (fun _ => by trivial) (fun x hx Sx Qe h => ?_) (fun acc S' ha hn => ?_)
  · obtain ⟨k, hk, rfl⟩ := List.mem_map.mp hx
    rw [List.mem_range] at hk
    simp only [↓ite_bc, bc_t, bc_f, aFor_rng, lstA_lst, lstA_rol, aLcS_rng, eqA_ii, eqA_ss, neA_ii, neA_ss, updS_same, updS_updS, startA, List.map_cons, List.map_nil, List.cons_append, List.nil_append, List.length_cons, List.length_nil, Nat.zero_add, Nat.add_zero, Nat.reduceAdd, Nat.reduceSub, List.replicate_succ, List.replicate_zero, List.replicate,  aVar_z, aVar_s, aC, aNil, aCons, aTup, aLstV, aLst, aOp, aUn, aTru, aTst, aCmp, aChn, aChnT, aAnd, aOr, aNot, aIf, aAndV, aOrV, aNotV, aCB, aCall, aNext, aSeq, aBrk, aCnt, aRet, aRetN, aIfS, aNev,  agName, agNil, agCons, agTup, aAsg, aPar, aDrop, aCallK, aCallKn, aM, aM0, aAddS, aYes, one1, one2, wipeA, aRevT, aRevL, agSub_def, aSl, aPart, aNoPart, cutAns_rol, cutAns_lst, cutAns_tup, cutAns_str, aLstRg, aRg1, ex_some, tupleA_lst, tupleA_tup, wstA_lst,  List.set_cons_zero, List.set_cons_succ, List.set, ex_bl, ex_int, ex_str, ex_tup, ex_eq, ex_cons, ex_pair, ex_one1, ex_one_int, and_tt, truA_bl, truOk_bl, truA_int, truOk_int, truA_lst, truOk_lst, truA_tup, truOk_tup, truA_refU, truOk_refU, Bool.not_true, Bool.not_false,  addA_ii, addA_ss, addA_tt, addA_ll, intA_ii, int2A_ii, subA_ii, mulA_ii, modA_ii, fdivA_ii, powA_ii, negA_i, ltA_ii, leA_ii, gtA_ii, geA_ii, ltA_ss, leA_ss, gtA_ss, geA_ss, isA, isntA, nonA, isiA_non, isiA_bl, isiA_int, isiA_str, isiA_tup, isiA_lst, isiA_rol, lenA_str, lenA_tup, lenA_lst, lenA_rol, absA_i, toIntA_i, toIntA_b, isIntA, isiB, String.reduceBEq, List.contains_cons, List.contains_nil, Bool.or_true, Bool.true_or, Bool.or_false, Bool.false_or, Bool.and_true, Bool.true_and, Bool.and_false, Bool.false_and, Bool.not_eq_true, if_true, if_false, decide_true, decide_false, Bool.false_eq_true, eq_self, reduceCtorEq, true_and, false_and, and_false, badA, exists_false, aFld, aPut, agFld, aPutAug, aMeth, aMake, mulX_ii, mulX_si, mulX_li, strA_i, strA_s, intXA_i, intXA_b, isBA_bb, isntBA_bb, aPar3, ex_tri, inA_tup, inA_lst, ninA_tup, ninA_lst, shrA_ii, andA_ii, aFor_tup, aFor_lst, aFor_enum, aLcF_lst, aLcF_tup, aLcF_rng, aLcP_lst, aLcP_tup, aLcP_enum, ]
    refine ⟨ns, k, by rw [Int.zero_add], by omega, fun l t hl2 okt => ?_⟩
    exact ⟨l, t, rfl, updS_same, okt, fun S' => h _ _ rfl⟩
  · have e : acc = acc.map fun _ => AV.bl true := by
      rw [List.map_const']
      exact List.eq_replicate_iff.mpr ⟨rfl, ha⟩
    obtain ⟨a, b⟩ := allA_map acc (fun _ => true) S'
    rw [← e] at a b
    rw [b]
    refine ⟨a, ?_⟩
    have e2 : (acc.all fun _ => true) = true := List.all_eq_true.mpr fun _ _ => rfl
    rw [e2]
    exact rt_same (q S')
end
theorem law_end (ns : List Int) (hl : ns.length ≤ 63) (S : Store) (Q : AK) (q : ∀ S', Q (.bl true) S') : sp_law [.rol (ns.map .int)] S Q := ⟨ns, rfl, hl, q⟩
theorem all_of {l : PySem.W.OpenLaw} {w : World} {K : PySem.W.Frag} {mg : Str → Option Value} {fa : Addr} (T : Txt K mg) (hmg : mg "law" = some (.ref fa)) :
    ∃ fd : FuncData, (∀ (s : Shared) (u : Value), BindsTo s fd ⟨[u], []⟩ [("script", u)]) ∧ ∀ base : Heap, K.In base → base.Ns mainGlobals mg → FnG l.prog w K mg base 7 fa fd ["script"] (spOf K sp_law) := by
  refine FnX.law T.d_law (fun base => ?_) hmg (fun _ _ _ _ _ _ us hl => match us, hl with | [_], _ => rfl)
  have F_check_rule := fn_check_rule (P := l.prog) (w := w) (base := base) T 
  have F_wrong_words := fn_wrong_words (P := l.prog) (w := w) (base := base) T F_check_rule.f4
  have F__law_pot := fn__law_pot (P := l.prog) (w := w) (base := base) T 
  have F__law_take := fn__law_take (P := l.prog) (w := w) (base := base) T 
  have F__law_of := fn__law_of (P := l.prog) (w := w) (base := base) T F__law_take.f4
  have F__law_cells := fn__law_cells (P := l.prog) (w := w) (base := base) T 
  have F__law_row_of := fn__law_row_of (P := l.prog) (w := w) (base := base) T 
  have F__law_counts_of := fn__law_counts_of (P := l.prog) (w := w) (base := base) T F__law_row_of.f4
  have F__law_begin := fn__law_begin (P := l.prog) (w := w) (base := base) T 
  have F__law_with := fn__law_with (P := l.prog) (w := w) (base := base) T 
  have F__law_can := fn__law_can (P := l.prog) (w := w) (base := base) T 
  have F__law_shown := fn__law_shown (P := l.prog) (w := w) (base := base) T F__law_counts_of.f4 F__law_row_of.f4 F__law_with.f4
  have F__law_step := fn__law_step (P := l.prog) (w := w) (base := base) T F__law_shown.f4 F__law_with.f4 F__law_counts_of.f4
  have F__law_events := fn__law_events (P := l.prog) (w := w) (base := base) T F__law_can.f4
  have F__law_is_wrong := fn__law_is_wrong (P := l.prog) (w := w) (base := base) T 
  have F__law_words := fn__law_words (P := l.prog) (w := w) (base := base) T 
  have F__law_first_wrong := fn__law_first_wrong (P := l.prog) (w := w) (base := base) T F__law_take.f4 F__law_begin.f4 F__law_events.f4 F__law_step.f4 F__law_of.f4 F__law_is_wrong.f4
  have F__law_right := fn__law_right (P := l.prog) (w := w) (base := base) T F_wrong_words.f4 F__law_words.f4 F__law_take.f4 F__law_first_wrong.f4 (F_wrong_words.kwAll (fun _ _ _ _ _ _ us ws h0 hl => match us, ws, h0, hl with | [], [_], _, _ => rfl))
  have F_law := fn_law (P := l.prog) (w := w) (base := base) T F__law_cells.f4 F__law_right.f4 F__law_pot.f4
  exact F_law
end G
open PySem PySem.W PyProof.Rows in
set_option maxRecDepth 100000 in
set_option maxHeartbeats 0 in
theorem PySem.Challenge.cw_lyinghouse_k78_words_of_wrong_events_holds : PySem.Challenge.rw_lyinghouse_k78_words_of_wrong_events.Holds := by
  w_on; o_law; k_head; (case hw => w_witness2)
  k_fill
  refine L3.walk_ofG (l := PySem.Challenge.rw_lyinghouse_k78_words_of_wrong_events) (n := 63) (k := 7) (x := "script") (sp := fun K => L3.spOf K G.sp_law) rfl (by decide) rfl ⟨rfl, by decide, by decide⟩ (fun w h Y => PySem.W.kIn_of Y) ?F ?S
  case S => exact fun K H a ns hl only hS => L3.sp_end only hS (G.law_end ns hl)
  case F =>
    intro w mg fa h KX Gm hX hmg
    refine' G.all_of (l := PySem.Challenge.rw_lyinghouse_k78_words_of_wrong_events) ⟨?n_abs, ?n_all, ?n_any, ?n_bool, ?n_int, ?n_isinstance, ?n_len, ?n_list, ?n_max, ?n_min, ?n_range, ?n_repr, ?n_sum, ?n_tuple, ?c_LEFT, ?c_TWICE, ?c_SUSPECTED, ?c_CHECKS, ?d_check_rule, ?d_wrong_words, ?d__law_pot, ?d__law_take, ?d__law_of, ?d__law_cells, ?d__law_row_of, ?d__law_counts_of, ?d__law_begin, ?d__law_with, ?d__law_can, ?d__law_shown, ?d__law_step, ?d__law_events, ?d__law_is_wrong, ?d__law_words, ?d__law_first_wrong, ?d__law_right, ?d_law⟩ hmg
    (case c_LEFT =>
      refine' L3.gS_of KX Gm ?a
      (case a => k_is))
    (case c_TWICE =>
      refine' L3.gS_of KX Gm ?a
      (case a => k_is))
    (case c_SUSPECTED =>
      refine' L3.gS_of KX Gm ?a
      (case a => k_is))
    (case c_CHECKS =>
      refine' L3.gI_of KX Gm ?a
      (case a => k_is))
    (case n_abs =>
      refine' PySem.W.mg_none_of KX Gm ?a
      (case a => k_is))
    (case n_all =>
      refine' PySem.W.mg_none_of KX Gm ?a
      (case a => k_is))
    (case n_any =>
      refine' PySem.W.mg_none_of KX Gm ?a
      (case a => k_is))
    (case n_bool =>
      refine' PySem.W.mg_none_of KX Gm ?a
      (case a => k_is))
    (case n_int =>
      refine' PySem.W.mg_none_of KX Gm ?a
      (case a => k_is))
    (case n_isinstance =>
      refine' PySem.W.mg_none_of KX Gm ?a
      (case a => k_is))
    (case n_len =>
      refine' PySem.W.mg_none_of KX Gm ?a
      (case a => k_is))
    (case n_list =>
      refine' PySem.W.mg_none_of KX Gm ?a
      (case a => k_is))
    (case n_max =>
      refine' PySem.W.mg_none_of KX Gm ?a
      (case a => k_is))
    (case n_min =>
      refine' PySem.W.mg_none_of KX Gm ?a
      (case a => k_is))
    (case n_range =>
      refine' PySem.W.mg_none_of KX Gm ?a
      (case a => k_is))
    (case n_repr =>
      refine' PySem.W.mg_none_of KX Gm ?a
      (case a => k_is))
    (case n_sum =>
      refine' PySem.W.mg_none_of KX Gm ?a
      (case a => k_is))
    (case n_tuple =>
      refine' PySem.W.mg_none_of KX Gm ?a
      (case a => k_is))
    (case d_check_rule =>
      refine' L3.Def.of KX Gm ?a ?l ?c ?k (fun _ _ _ _ _ _ us hl => match us, hl with | [_], _ => rfl)
      (case a => k_is)
      (case l => k_is)
      (case c => k_is)
      (case k => k_is))
    (case d_wrong_words =>
      refine' L3.Def.of KX Gm ?a ?l ?c ?k (fun _ _ _ _ _ _ us hl => match us, hl with | [_], _ => rfl)
      (case a => k_is)
      (case l => k_is)
      (case c => k_is)
      (case k => k_is))
    (case d__law_pot =>
      refine' L3.Def.of KX Gm ?a ?l ?c ?k (fun _ _ _ _ _ _ us hl => match us, hl with | [_, _], _ => rfl)
      (case a => k_is)
      (case l => k_is)
      (case c => k_is)
      (case k => k_is))
    (case d__law_take =>
      refine' L3.Def.of KX Gm ?a ?l ?c ?k (fun _ _ _ _ _ _ us hl => match us, hl with | [_, _], _ => rfl)
      (case a => k_is)
      (case l => k_is)
      (case c => k_is)
      (case k => k_is))
    (case d__law_of =>
      refine' L3.Def.of KX Gm ?a ?l ?c ?k (fun _ _ _ _ _ _ us hl => match us, hl with | [_, _], _ => rfl)
      (case a => k_is)
      (case l => k_is)
      (case c => k_is)
      (case k => k_is))
    (case d__law_cells =>
      refine' L3.Def.of KX Gm ?a ?l ?c ?k (fun _ _ _ _ _ _ us hl => match us, hl with | [_, _], _ => rfl)
      (case a => k_is)
      (case l => k_is)
      (case c => k_is)
      (case k => k_is))
    (case d__law_row_of =>
      refine' L3.Def.of KX Gm ?a ?l ?c ?k (fun _ _ _ _ _ _ us hl => match us, hl with | [_, _], _ => rfl)
      (case a => k_is)
      (case l => k_is)
      (case c => k_is)
      (case k => k_is))
    (case d__law_counts_of =>
      refine' L3.Def.of KX Gm ?a ?l ?c ?k (fun _ _ _ _ _ _ us hl => match us, hl with | [_, _], _ => rfl)
      (case a => k_is)
      (case l => k_is)
      (case c => k_is)
      (case k => k_is))
    (case d__law_begin =>
      refine' L3.Def.of KX Gm ?a ?l ?c ?k (fun _ _ _ _ _ _ us hl => match us, hl with | [], _ => rfl)
      (case a => k_is)
      (case l => k_is)
      (case c => k_is)
      (case k => k_is))
    (case d__law_with =>
      refine' L3.Def.of KX Gm ?a ?l ?c ?k (fun _ _ _ _ _ _ us hl => match us, hl with | [_, _, _], _ => rfl)
      (case a => k_is)
      (case l => k_is)
      (case c => k_is)
      (case k => k_is))
    (case d__law_can =>
      refine' L3.Def.of KX Gm ?a ?l ?c ?k (fun _ _ _ _ _ _ us hl => match us, hl with | [_, _, _, _], _ => rfl)
      (case a => k_is)
      (case l => k_is)
      (case c => k_is)
      (case k => k_is))
    (case d__law_shown =>
      refine' L3.Def.of KX Gm ?a ?l ?c ?k (fun _ _ _ _ _ _ us hl => match us, hl with | [_, _, _, _, _], _ => rfl)
      (case a => k_is)
      (case l => k_is)
      (case c => k_is)
      (case k => k_is))
    (case d__law_step =>
      refine' L3.Def.of KX Gm ?a ?l ?c ?k (fun _ _ _ _ _ _ us hl => match us, hl with | [_, _, _, _], _ => rfl)
      (case a => k_is)
      (case l => k_is)
      (case c => k_is)
      (case k => k_is))
    (case d__law_events =>
      refine' L3.Def.of KX Gm ?a ?l ?c ?k (fun _ _ _ _ _ _ us hl => match us, hl with | [_, _, _], _ => rfl)
      (case a => k_is)
      (case l => k_is)
      (case c => k_is)
      (case k => k_is))
    (case d__law_is_wrong =>
      refine' L3.Def.of KX Gm ?a ?l ?c ?k (fun _ _ _ _ _ _ us hl => match us, hl with | [_], _ => rfl)
      (case a => k_is)
      (case l => k_is)
      (case c => k_is)
      (case k => k_is))
    (case d__law_words =>
      refine' L3.Def.of KX Gm ?a ?l ?c ?k (fun _ _ _ _ _ _ us hl => match us, hl with | [_], _ => rfl)
      (case a => k_is)
      (case l => k_is)
      (case c => k_is)
      (case k => k_is))
    (case d__law_first_wrong =>
      refine' L3.Def.of KX Gm ?a ?l ?c ?k (fun _ _ _ _ _ _ us hl => match us, hl with | [_, _, _], _ => rfl)
      (case a => k_is)
      (case l => k_is)
      (case c => k_is)
      (case k => k_is))
    (case d__law_right =>
      refine' L3.Def.of KX Gm ?a ?l ?c ?k (fun _ _ _ _ _ _ us hl => match us, hl with | [_], _ => rfl)
      (case a => k_is)
      (case l => k_is)
      (case c => k_is)
      (case k => k_is))
    (case d_law =>
      refine' L3.Def.of KX Gm ?a ?l ?c ?k (fun _ _ _ _ _ _ us hl => match us, hl with | [_], _ => rfl)
      (case a => k_is)
      (case l => k_is)
      (case c => k_is)
      (case k => k_is))


