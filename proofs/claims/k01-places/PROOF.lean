import PyProof.Rows.All
import HandS.ForMost
import HandS.Wide
import HandS.Flow
import HandS.IsInst
import HandS.TupAny
import HandS.Style
import HandS.Deep
import HandS.Conv
import HandS.Walk
import HandS.Defaults
import HandS.RaiseMore
import HandS.Star
import HandS.SetFor
import HandS.ExcInit
import HandS.ExcSuper
import KE.KSuper
import HandS.ExcOwn
import HandS.ExcValue
import HandS.ExcField
import HandS.TryOnly
import HandS.WordsExc
import KE.GoesEnum
import HandS.ExcIs
import KE.IntTextLaws
import KE.KIntText
import PySem.Challenge.RW_lyinghouse_k01_texts_that_are_no_values
set_option Elab.async false
set_option linter.all false
set_option maxRecDepth 100000
set_option maxHeartbeats 2000000
set_option autoImplicit false
/-! L3: values with tuples and lists as data, a store of what changes; readings over these, put upon the hand layer's. -/
namespace L3
open PySem L2

/-- a value as data: lst: a list that does not change any more; rol: one that may only be read; ref: a thing of the store, or any other object -/
inductive AV where
  | non | bl (b : Bool) | int (i : Int) | str (x : Str) | tup (xs : List AV) | lst (xs : List AV) | rol (xs : List AV) | ref (a : Addr) | ty (n : String)
  deriving Inhabited
/-- what changes -/
inductive AO where
  | lst (xs : List AV) | dK (kvs : List (Key × AV)) | ins (C : Addr) (fs : List (Str × AV)) | hid
abbrev Store := Addr → Option AO
abbrev ASt := List (Option AV)
def updS (S : Store) (a : Addr) (o : AO) : Store := fun b => if b = a then some o else S b
def dropS (S : Store) (a : Addr) : Store := fun b => if b = a then none else S b
theorem updS_same {S : Store} {a : Addr} {o : AO} : updS S a o a = some o := by unfold updS; rw [if_pos rfl]
theorem updS_ne {S : Store} {a b : Addr} {o : AO} (h : b ≠ a) : updS S a o b = S b := by unfold updS; rw [if_neg h]
theorem updS_updS {S : Store} {a : Addr} {o u : AO} : updS (updS S a o) a u = updS S a u := by
  funext b; unfold updS; split <;> rfl
theorem updS_comm {S : Store} {a b : Addr} {o u : AO} (h : a ≠ b) : updS (updS S a o) b u = updS (updS S b u) a o := by
  funext c; unfold updS; split <;> split <;> simp_all
theorem updS_self {S : Store} {a : Addr} {o : AO} (h : S a = some o) : updS S a o = S := by
  funext b; unfold updS; split
  · next e => rw [e, h]
  · rfl
theorem dropS_same {S : Store} {a : Addr} : dropS S a a = none := by unfold dropS; rw [if_pos rfl]
theorem dropS_ne {S : Store} {a b : Addr} (h : b ≠ a) : dropS S a b = S b := by unfold dropS; rw [if_neg h]
theorem dropS_upd {S : Store} {a : Addr} {o : AO} (h : S a = none) : dropS (updS S a o) a = S := by
  funext b; unfold dropS updS; split
  · next e => rw [e, h]
  · rfl
theorem dropS_updS {S : Store} {a : Addr} {o : AO} : dropS (updS S a o) a = dropS S a := by
  funext b; unfold dropS updS; split <;> rfl
theorem dropS_comm {S : Store} {a b : Addr} {o : AO} (h : a ≠ b) : dropS (updS S b o) a = updS (dropS S a) b o := by
  funext c; unfold dropS updS; split <;> split <;> simp_all
theorem dropS_none {S : Store} {a : Addr} (h : S a = none) : dropS S a = S := by
  funext b; unfold dropS; split
  · next e => rw [e, h]
  · rfl
theorem neS {S : Store} {a b : Addr} {o : AO} (h : S a = some o) (h' : S b = none) : a ≠ b := by
  rintro rfl; rw [h] at h'; cases h'

/-- a tuple, a list of the written part -/
def KTup (K : PySem.W.Frag) (a : Addr) (xs : List V) : Prop := ∃ (o : Obj) (its : Array Value) (n : Nat), K.lookup a = some o ∧ o.cls = .type "tuple" ∧ o.data = .seq its n ∧ its.size ≤ sizeLine ∧ Vals xs its.toList
def KLst (K : PySem.W.Frag) (a : Addr) (xs : List V) : Prop := ∃ (o : Obj) (its : Array Value) (n : Nat), K.lookup a = some o ∧ o.cls = .type "list" ∧ o.dict = none ∧ o.data = .seq its n ∧ its.size ≤ sizeLine ∧ Vals xs its.toList
mutual
inductive RelA (K : PySem.W.Frag) (H : Hp) (S : Store) : V → AV → Prop
  | non : RelA K H S .non .non
  | bl (b : Bool) : RelA K H S (.bl b) (.bl b)
  | int (i : Int) : RelA K H S (.int i) (.int i)
  | str (x : Str) : RelA K H S (.str x) (.str x)
  | ty (n : String) : RelA K H S (.ty n) (.ty n)
  | ref (a : Addr) : RelA K H S (.ref a) (.ref a)
  | tup {a : Addr} {vs : List V} {ds : List AV} : Rd H a (.tup vs) → S a = none → RelAs K H S vs ds → RelA K H S (.ref a) (.tup ds)
  | tupK {a : Addr} {vs : List V} {ds : List AV} : KTup K a vs → RelAs K H S vs ds → RelA K H S (.ref a) (.tup ds)
  | lst {a : Addr} {vs : List V} {ds : List AV} : H a = some (.lst vs) → S a = none → RelAs K H S vs ds → RelA K H S (.ref a) (.lst ds)
  | rol {a : Addr} {vs : List V} {ds : List AV} : Rd H a (.lst vs) → S a = none → RelAs K H S vs ds → RelA K H S (.ref a) (.rol ds)
  | rolK {a : Addr} {vs : List V} {ds : List AV} : KLst K a vs → RelAs K H S vs ds → RelA K H S (.ref a) (.rol ds)
inductive RelAs (K : PySem.W.Frag) (H : Hp) (S : Store) : List V → List AV → Prop
  | nil : RelAs K H S [] []
  | cons {v : V} {vs : List V} {d : AV} {ds : List AV} : RelA K H S v d → RelAs K H S vs ds → RelAs K H S (v :: vs) (d :: ds)
end

/-- what a stored thing is in the heap -/
def AoOk (K : PySem.W.Frag) (H : Hp) (S : Store) (a : Addr) : AO → Prop
  | .lst ds => ∃ vs, H a = some (.lst vs) ∧ RelAs K H S vs ds
  | .dK kvs => ∃ ws : List (Key × V), H a = some (.dK ws) ∧ ws.map (·.1) = kvs.map (·.1) ∧ RelAs K H S (ws.map (·.2)) (kvs.map (·.2))
  | .ins C fs => ∃ dx fv, H a = some (.ins C dx fv) ∧ fv.map (·.1) = fs.map (·.1) ∧ RelAs K H S (fv.map (·.2)) (fs.map (·.2))
  | .hid => ∃ o, H a = some o
def StOk (K : PySem.W.Frag) (H : Hp) (S : Store) : Prop := ∀ a o, S a = some o → AoOk K H S a o
/-- what may come between: only stored things change, and no hidden one -/
structure Step (H : Hp) (S : Store) (H' : Hp) (S' : Store) : Prop where
  old : ∀ a o, S a = none → H a = some o → H' a = some o ∧ S' a = none
  hid : ∀ a, S a = some .hid → H' a = H a ∧ S' a = some .hid
theorem Step.refl {H : Hp} {S : Store} : Step H S H S := ⟨fun _ _ n h => ⟨h, n⟩, fun _ h => ⟨rfl, h⟩⟩
theorem Step.trans {H H1 H2 : Hp} {S S1 S2 : Store} (a : Step H S H1 S1) (b : Step H1 S1 H2 S2) : Step H S H2 S2 :=
  ⟨fun x o n h => let ⟨h1, n1⟩ := a.old x o n h; b.old x o n1 h1, fun x h => let ⟨e1, h1⟩ := a.hid x h; let ⟨e2, h2⟩ := b.hid x h1; ⟨e2.trans e1, h2⟩⟩
theorem Rd.some {H : Hp} {a : Addr} {u : HO} (r : Rd H a u) : ∃ o, H a = some o := by
  rcases r with h | ⟨o, h⟩
  · exact ⟨_, h⟩
  · exact ⟨_, h⟩
/-- the heap's part of it -/
abbrev Old (H : Hp) (S : Store) (H' : Hp) (S' : Store) : Prop := ∀ a o, S a = none → H a = some o → H' a = some o ∧ S' a = none
theorem Rd.stp {H H' : Hp} {S S' : Store} {a : Addr} {u : HO} (st : Old H S H' S') (n : S a = none) (r : Rd H a u) : Rd H' a u := by
  rcases r with h | ⟨o, h⟩
  · exact .inl (st a _ n h).1
  · exact .inr ⟨o, (st a _ n h).1⟩
mutual
theorem RelA.stepO {K : PySem.W.Frag} {H H' : Hp} {S S' : Store} (st : Old H S H' S') : ∀ {v : V} {d : AV}, RelA K H S v d → RelA K H' S' v d
  | _, _, .non => .non
  | _, _, .bl b => .bl b
  | _, _, .int i => .int i
  | _, _, .str x => .str x
  | _, _, .ty n => .ty n
  | _, _, .ref a => .ref a
  | _, _, .tup (a := a) h n r => .tup (Rd.stp st n h) (let ⟨o, e⟩ := Rd.some h; (st a o n e).2) (RelAs.stepO st r)
  | _, _, .tupK h r => .tupK h (RelAs.stepO st r)
  | _, _, .lst (a := a) h n r => .lst (st a _ n h).1 (st a _ n h).2 (RelAs.stepO st r)
  | _, _, .rol (a := a) h n r => .rol (Rd.stp st n h) (let ⟨o, e⟩ := Rd.some h; (st a o n e).2) (RelAs.stepO st r)
  | _, _, .rolK h r => .rolK h (RelAs.stepO st r)
theorem RelAs.stepO {K : PySem.W.Frag} {H H' : Hp} {S S' : Store} (st : Old H S H' S') : ∀ {vs : List V} {ds : List AV}, RelAs K H S vs ds → RelAs K H' S' vs ds
  | _, _, .nil => .nil
  | _, _, .cons r t => .cons (RelA.stepO st r) (RelAs.stepO st t)
end
theorem RelA.step {K : PySem.W.Frag} {H H' : Hp} {S S' : Store} (st : Step H S H' S') {v : V} {d : AV} (r : RelA K H S v d) : RelA K H' S' v d := r.stepO st.old
theorem RelAs.step {K : PySem.W.Frag} {H H' : Hp} {S S' : Store} (st : Step H S H' S') {vs : List V} {ds : List AV} (r : RelAs K H S vs ds) : RelAs K H' S' vs ds := r.stepO st.old
/-- a smaller store -/
structure Sub (S' S : Store) : Prop where
  le : ∀ a o, S' a = some o → S a = some o
  hid : ∀ a, S a = some .hid → S' a = some .hid
theorem Sub.refl {S : Store} : Sub S S := ⟨fun _ _ h => h, fun _ h => h⟩
theorem Sub.non {S' S : Store} (s : Sub S' S) {a : Addr} (h : S a = none) : S' a = none := by
  cases e : S' a with
  | none => rfl
  | some o => rw [s.le a o e] at h; cases h
theorem Sub.trans {S S1 S2 : Store} (a : Sub S S1) (b : Sub S1 S2) : Sub S S2 := ⟨fun x o h => b.le x o (a.le x o h), fun x h => a.hid x (b.hid x h)⟩
/-- a thing that came anew is forgotten -/
theorem Sub.new {S S' : Store} {l : Addr} {o : AO} (s : Sub S S') (h : S l = none) (ho : S' l ≠ some .hid) (hh : o ≠ .hid) : Sub S (updS S' l o) := by
  refine ⟨fun a u e => ?_, fun a e => ?_⟩
  · have ne : a ≠ l := by rintro rfl; rw [h] at e; cases e
    rw [updS_ne ne]; exact s.le a u e
  · by_cases q : a = l
    · subst q; rw [updS_same] at e; exact absurd (Option.some.inj e) hh
    · rw [updS_ne q] at e; exact s.hid a e
theorem RelA.sub {K : PySem.W.Frag} {H : Hp} {S S' : Store} (s : Sub S' S) {v : V} {d : AV} (r : RelA K H S v d) : RelA K H S' v d := r.stepO fun _ _ n h => ⟨h, s.non n⟩
theorem RelAs.sub {K : PySem.W.Frag} {H : Hp} {S S' : Store} (s : Sub S' S) {vs : List V} {ds : List AV} (r : RelAs K H S vs ds) : RelAs K H S' vs ds := r.stepO fun _ _ n h => ⟨h, s.non n⟩
section
variable {K : PySem.W.Frag} {H H' : Hp} {S S' S2 : Store} {a l p : Addr} {v : V} {d : AV} {vs ws : List V} {ds es : List AV}
theorem AoOk.stepO {o : AO} (st : Old H S H' S') (x : AoOk K H S a o) (e : H' a = H a) : AoOk K H' S' a o := by
  cases o with
  | lst ds => obtain ⟨vs, h, r⟩ := x; exact ⟨vs, e.trans h, r.stepO st⟩
  | dK kvs => obtain ⟨ws, h, q, r⟩ := x; exact ⟨ws, e.trans h, q, r.stepO st⟩
  | ins C fs => obtain ⟨dx, fv, h, q, r⟩ := x; exact ⟨dx, fv, e.trans h, q, r.stepO st⟩
  | hid => obtain ⟨o, h⟩ := x; exact ⟨o, e.trans h⟩
theorem AoOk.step {o : AO} (st : Step H S H' S') (x : AoOk K H S a o) (e : H' a = H a) : AoOk K H' S' a o := x.stepO st.old e
theorem AoOk.sub {o : AO} (s : Sub S' S) (x : AoOk K H S a o) : AoOk K H S' a o := x.stepO (fun _ _ n h => ⟨h, s.non n⟩) rfl
theorem StOk.sub (s : Sub S' S) (x : StOk K H S) : StOk K H S' := fun a o e => (x a o (s.le a o e)).sub s
theorem Step.subR (st : Step H S H' S') (s : Sub S2 S') : Step H S H' S2 := ⟨fun a o n h => let ⟨h1, n1⟩ := st.old a o n h; ⟨h1, s.non n1⟩, fun a h => let ⟨e, h1⟩ := st.hid a h; ⟨e, s.hid a h1⟩⟩
theorem StOk.some (x : StOk K H S) {o : AO} (h : S a = some o) : ∃ u, H a = some u := by
  have z := x a o h
  cases o with
  | lst ds => obtain ⟨vs, h, _⟩ := z; exact ⟨_, h⟩
  | dK kvs => obtain ⟨ws, h, _⟩ := z; exact ⟨_, h⟩
  | ins C fs => obtain ⟨dx, fv, h, _⟩ := z; exact ⟨_, h⟩
  | hid => exact z
/-- fresh in the heap is fresh in the store -/
theorem StOk.fresh (x : StOk K H S) (h : H a = none) : S a = none := by
  cases e : S a with
  | none => rfl
  | some o => obtain ⟨u, q⟩ := x.some e; rw [h] at q; cases q
/-- a new heap object beside the store -/
theorem step_new {o : HO} (x : StOk K H S) (h : H p = none) : Step H S (upd H p o) S :=
  ⟨fun a u n e => ⟨by rw [upd_ne (ne_of_none e h)]; exact e, n⟩, fun a e => ⟨by
    obtain ⟨u, q⟩ := x.some e
    rw [upd_ne (ne_of_none q h)], e⟩⟩
theorem stok_new {o : HO} (x : StOk K H S) (h : H p = none) : StOk K (upd H p o) S := fun a u e => (x a u e).step (step_new x h) (by
  obtain ⟨w, q⟩ := x.some e
  rw [upd_ne (ne_of_none q h)])
theorem rel_tup (x : StOk K H S) (h : H p = none) (r : RelAs K H S vs ds) : RelA K (upd H p (.tup vs)) S (.ref p) (.tup ds) := .tup (.inl upd_same) (x.fresh h) (r.step (step_new x h))
theorem rel_lst (x : StOk K H S) (h : H p = none) (r : RelAs K H S vs ds) : RelA K (upd H p (.lst vs)) S (.ref p) (.lst ds) := .lst upd_same (x.fresh h) (r.step (step_new x h))
/-- a new stored list -/
theorem step_put {o : HO} {u : AO} (x : StOk K H S) (h : H p = none) : Step H S (upd H p o) (updS S p u) :=
  ⟨fun a w n e => ⟨by rw [upd_ne (ne_of_none e h)]; exact e, by rw [updS_ne (ne_of_none e h)]; exact n⟩, fun a e => by
    obtain ⟨w, q⟩ := x.some e
    exact ⟨by rw [upd_ne (ne_of_none q h)], by rw [updS_ne (ne_of_none q h)]; exact e⟩⟩
theorem stok_put (x : StOk K H S) (h : H p = none) {o : HO} {u : AO} (n : AoOk K (upd H p o) (updS S p u) p u) : StOk K (upd H p o) (updS S p u) := fun a w e => by
  by_cases q : a = p
  · subst q; rw [updS_same] at e; cases e; exact n
  · rw [updS_ne q] at e
    exact (x a w e).step (step_put x h) (by rw [upd_ne q])
/-- a stored thing changes -/
theorem step_mut {o : HO} {u z : AO} (hs : S p = some z) (hz : z ≠ .hid) : Step H S (upd H p o) (updS S p u) :=
  ⟨fun a w n e => by
    have ne : a ≠ p := by rintro rfl; rw [hs] at n; cases n
    exact ⟨by rw [upd_ne ne]; exact e, by rw [updS_ne ne]; exact n⟩, fun a e => by
    have ne : a ≠ p := by rintro rfl; rw [hs] at e; exact hz (Option.some.inj e)
    exact ⟨by rw [upd_ne ne], by rw [updS_ne ne]; exact e⟩⟩
theorem stok_mut {o : HO} {u z : AO} (x : StOk K H S) (hs : S p = some z) (hz : z ≠ .hid) (n : AoOk K (upd H p o) (updS S p u) p u) : StOk K (upd H p o) (updS S p u) := fun a w e => by
  by_cases q : a = p
  · subst q; rw [updS_same] at e; cases e; exact n
  · rw [updS_ne q] at e
    exact (x a w e).step (step_mut hs hz) (by rw [upd_ne q])
theorem RelAs.length : ∀ {vs : List V} {ds : List AV}, RelAs K H S vs ds → vs.length = ds.length
  | _, _, .nil => rfl
  | _, _, .cons _ t => congrArg (· + 1) (RelAs.length t)
theorem RelAs.get : ∀ {vs : List V} {ds : List AV} {i : Nat} {d : AV}, RelAs K H S vs ds → ds[i]? = some d → ∃ v, vs[i]? = some v ∧ RelA K H S v d
  | _, _, _, _, .nil, e => by simp at e
  | _, _, 0, _, .cons r _, e => by simp at e; subst e; exact ⟨_, rfl, r⟩
  | _, _, i + 1, d, .cons _ t, e => by
    obtain ⟨u, h1, h2⟩ := RelAs.get (i := i) (d := d) t (by simpa using e)
    exact ⟨u, by simpa using h1, h2⟩
theorem RelAs.app : ∀ {vs ws : List V} {ds es : List AV}, RelAs K H S vs ds → RelAs K H S ws es → RelAs K H S (vs ++ ws) (ds ++ es)
  | _, _, _, _, .nil, s => s
  | _, _, _, _, .cons r t, s => .cons r (RelAs.app t s)
theorem RelAs.take : ∀ {vs : List V} {ds : List AV} (n : Nat), RelAs K H S vs ds → RelAs K H S (vs.take n) (ds.take n)
  | _, _, 0, _ => .nil
  | _, _, _ + 1, .nil => .nil
  | _, _, n + 1, .cons r t => .cons r (RelAs.take n t)
theorem RelAs.drop : ∀ {vs : List V} {ds : List AV} (n : Nat), RelAs K H S vs ds → RelAs K H S (vs.drop n) (ds.drop n)
  | _, _, 0, r => r
  | _, _, _ + 1, .nil => .nil
  | _, _, n + 1, .cons _ t => RelAs.drop n t
theorem RelAs.set (r : RelA K H S v d) : ∀ {vs : List V} {ds : List AV} (i : Nat), RelAs K H S vs ds → RelAs K H S (vs.set i v) (ds.set i d)
  | _, _, _, .nil => .nil
  | _, _, 0, .cons _ t => .cons r t
  | _, _, i + 1, .cons q t => .cons q (RelAs.set r i t)
theorem RelAs.reverse : ∀ {vs : List V} {ds : List AV}, RelAs K H S vs ds → RelAs K H S vs.reverse ds.reverse
  | _, _, .nil => .nil
  | _, _, .cons r t => by
    rw [List.reverse_cons, List.reverse_cons]
    exact RelAs.app (RelAs.reverse t) (.cons r .nil)
end

/-! ### slots -/
/-- what is known of a state since some moment -/
structure Birth where
  p : Hp → Store → Prop
  step : ∀ {H H' : Hp} {S S' : Store}, p H S → Step H S H' S' → p H' S'
  sub : ∀ {H : Hp} {S S' : Store}, p H S → Sub S' S → p H S'
/-- the written part, and that -/
structure KB where
  K : PySem.W.Frag
  b : Birth
abbrev kx (X : Cx) (b : Birth) : KB := ⟨X.K, b⟩
/-- nothing -/
def b0 : Birth := ⟨fun _ _ => True, fun _ _ => trivial, fun _ _ => trivial⟩
/-- all since H, S -/
def bornAt (H0 : Hp) (S0 : Store) : Birth := ⟨fun H S => Step H0 S0 H S, fun h st => h.trans st, fun h s => h.subR s⟩
structure Rp (k : KB) (H : Hp) (S : Store) (σ : L2.St) (τ : ASt) : Prop where
  len : τ.length = σ.length
  at_ : ∀ (i : Nat) (d : AV), τ[i]? = some (some d) → ∃ v, σ[i]? = some (some v) ∧ RelA k.K H S v d
  bt : k.b.p H S
section
variable {k : KB} {K : PySem.W.Frag} {H H' : Hp} {S S' : Store} {σ : L2.St} {τ : ASt}
theorem Rp.step (r : Rp k H S σ τ) (st : Step H S H' S') : Rp k H' S' σ τ := ⟨r.len, fun i d e => let ⟨v, h, q⟩ := r.at_ i d e; ⟨v, h, q.step st⟩, k.b.step r.bt st⟩
theorem Rp.sub (r : Rp k H S σ τ) (s : Sub S' S) : Rp k H S' σ τ := ⟨r.len, fun i d e => let ⟨v, h, q⟩ := r.at_ i d e; ⟨v, h, q.sub s⟩, k.b.sub r.bt s⟩
theorem Rp.set (r : Rp k H S σ τ) {v : V} {d : AV} (q : RelA k.K H S v d) (i : Nat) : Rp k H S (σ.set i (some v)) (τ.set i (some d)) := by
  refine ⟨by rw [List.length_set, List.length_set, r.len], fun j e h => ?_, r.bt⟩
  by_cases z : j = i
  · subst z
    have hl : j < τ.length := by
      have := (List.getElem?_eq_some_iff.mp h).1
      rwa [List.length_set] at this
    rw [List.getElem?_set_self hl] at h
    cases h
    exact ⟨v, by rw [List.getElem?_set_self (by rw [← r.len]; exact hl)], q⟩
  · rw [List.getElem?_set_ne (Ne.symm z)] at h
    obtain ⟨w, hw, rw'⟩ := r.at_ j e h
    exact ⟨w, by rw [List.getElem?_set_ne (Ne.symm z)]; exact hw, rw'⟩
theorem RelAs.startR (hb : k.b.p H S) : ∀ {vs : List V} {ds : List AV} (n : Nat), RelAs k.K H S vs ds → Rp k H S (vs.map some ++ List.replicate n none) (ds.map some ++ List.replicate n none)
  | _, _, n, .nil => ⟨by simp, fun i d e => by
      have e' : (List.replicate n (none : Option AV))[i]? = some (some d) := by simpa using e
      rw [List.getElem?_replicate] at e'
      split at e' <;> simp at e', hb⟩
  | _, _, n, .cons (v := v) (vs := vs) (d := d) (ds := ds) r t => by
    have ih := RelAs.startR hb n t
    refine ⟨by simpa using ih.len, fun i e h => ?_, hb⟩
    cases i with
    | zero => simp at h; subst h; exact ⟨v, by simp, r⟩
    | succ i => exact ih.at_ i e (by simpa using h)
end
def startA (N : List Str) (ds : List AV) : ASt := ds.map some ++ List.replicate (N.length - ds.length) none
theorem rp_start {k : KB} {H : Hp} {S : Store} {vs : List V} {ds : List AV} {N : List Str} (hb : k.b.p H S) (r : RelAs k.K H S vs ds) : Rp k H S (L2.start N vs) (startA N ds) := by
  unfold L2.start startA
  rw [r.length]
  exact r.startR hb _

/-! ### readings -/
abbrev AK := AV → Store → Prop
abbrev AE := ASt → Store → AK → Prop
abbrev AT := ASt → Store → (Bool → Store → Prop) → Prop
abbrev AA := ASt → Store → (List AV → Store → Prop) → Prop
structure AEnds where
  nx : ASt → Store → Prop
  rt : AK
  bk : ASt → Store → Prop := fun _ _ => False
  ct : ASt → Store → Prop := fun _ _ => False
abbrev AS := AEnds → ASt → Store → Prop
/-- an operation's condition and value -/
structure Ans where
  ok : Prop
  v : AV
section
variable (k : KB) (K : PySem.W.Frag)
def low (ae : AE) : TE := fun σ H QH => ∃ τ S Q, Rp k H S σ τ ∧ StOk k.K H S ∧ ae τ S Q ∧ ∀ v H' d S', StOk k.K H' S' → Step H S H' S' → RelA k.K H' S' v d → Q d S' → QH v H'
def lowT (at_ : AT) : TT := fun σ H QH => ∃ τ S Q, Rp k H S σ τ ∧ StOk k.K H S ∧ at_ τ S Q ∧ ∀ b H' S', StOk k.K H' S' → Step H S H' S' → Q b S' → QH b H'
def lowA (aa : AA) : TA := fun σ H QH => ∃ τ S Q, Rp k H S σ τ ∧ StOk k.K H S ∧ aa τ S Q ∧ ∀ vs H' ds S', StOk k.K H' S' → Step H S H' S' → RelAs k.K H' S' vs ds → Q ds S' → QH vs H'
structure EndsOk (H : Hp) (S : Store) (D : AEnds) (DH : Ends) : Prop where
  nx : ∀ σ' H' τ' S', StOk k.K H' S' → Step H S H' S' → Rp k H' S' σ' τ' → D.nx τ' S' → DH.nx σ' H'
  rt : ∀ v H' d S', StOk k.K H' S' → Step H S H' S' → RelA k.K H' S' v d → D.rt d S' → DH.rt v H'
  bk : ∀ σ' H' τ' S', StOk k.K H' S' → Step H S H' S' → Rp k H' S' σ' τ' → D.bk τ' S' → DH.bk σ' H'
  ct : ∀ σ' H' τ' S', StOk k.K H' S' → Step H S H' S' → Rp k H' S' σ' τ' → D.ct τ' S' → DH.ct σ' H'
def lowS (as : AS) : TS := fun DH σ H => ∃ τ S D, Rp k H S σ τ ∧ StOk k.K H S ∧ as D τ S ∧ EndsOk k H S D DH
def lowO (ar : AV → AV → Store → Ans) : R2 := fun x y H QH => ∃ dx dy S, RelA K H S x dx ∧ RelA K H S y dy ∧ StOk K H S ∧ (ar dx dy S).ok ∧ ∀ v H', StOk K H' S → Step H S H' S → RelA K H' S v (ar dx dy S).v → QH v H'
def lowU (ar : AV → Store → Ans) : V → Hp → VK → Prop := fun x H QH => ∃ dx S, RelA K H S x dx ∧ StOk K H S ∧ (ar dx S).ok ∧ ∀ v H', StOk K H' S → Step H S H' S → RelA K H' S v (ar dx S).v → QH v H'
def lowC (ar : List AV → Store → Ans) : List V → Hp → VK → Prop := fun vs H QH => ∃ ds S, RelAs K H S vs ds ∧ StOk K H S ∧ (ar ds S).ok ∧ ∀ v H', StOk K H' S → Step H S H' S → RelA K H' S v (ar ds S).v → QH v H'
/-- .. with an effect on the store -/
def lowM (am : AV → List AV → Store → AK → Prop) : V → List V → Hp → VK → Prop := fun x vs H QH => ∃ dx ds S Q, RelA K H S x dx ∧ RelAs K H S vs ds ∧ StOk K H S ∧ am dx ds S Q ∧ ∀ v H' d S', StOk K H' S' → Step H S H' S' → RelA K H' S' v d → Q d S' → QH v H'
def lowG (ag : AV → ASt → Store → (ASt → Store → Prop) → Prop) : TG := fun v σ H QH => ∃ d τ S Q, RelA k.K H S v d ∧ Rp k H S σ τ ∧ StOk k.K H S ∧ ag d τ S Q ∧ ∀ σ' H' τ' S', StOk k.K H' S' → Step H S H' S' → Rp k H' S' σ' τ' → Q τ' S' → QH σ' H'
def lowGs (ag : List AV → ASt → Store → (ASt → Store → Prop) → Prop) : TGs := fun vs σ H QH => ∃ ds τ S Q, RelAs k.K H S vs ds ∧ Rp k H S σ τ ∧ StOk k.K H S ∧ ag ds τ S Q ∧ ∀ σ' H' τ' S', StOk k.K H' S' → Step H S H' S' → Rp k H' S' σ' τ' → Q τ' S' → QH σ' H'
/-- an iterator goes through xs as long as G holds of the store -/
def ItOk (J : It) (H : Hp) (S : Store) (G : Store → Prop) (xs : List AV) : Prop := ∀ H' S', StOk K H' S' → Step H S H' S' → G S' →
  (∀ (i : Nat) x, xs[i]? = some x → J.go i H' ∧ ∀ v H'', J.yld i H' v H'' → StOk K H'' S' ∧ Step H' S' H'' S' ∧ RelA K H'' S' v x) ∧ J.stop xs.length H'
abbrev AI := ASt → Store → (List AV → (Store → Prop) → Store → Prop) → Prop
def lowI (ai : AI) : TI := fun σ H R => ∃ τ S Q, Rp k H S σ τ ∧ StOk k.K H S ∧ ai τ S Q ∧ ∀ J H' xs G S', StOk k.K H' S' → Step H S H' S' → ItOk k.K J H' S' G xs → Q xs G S' → R J H'
end
abbrev AG := AV → ASt → Store → (ASt → Store → Prop) → Prop
abbrev AGs := List AV → ASt → Store → (ASt → Store → Prop) → Prop

section
variable {X : Cx} {e : Expr} {t t' : TE}
theorem _root_.L2.PE.weak (h : PE X e t) (w : ∀ σ H Q, t' σ H Q → t σ H Q) : PE X e t' := ⟨fun pins s σ H Q I q => h.run pins s σ H Q I (w σ H Q q)⟩
theorem _root_.L2.PT.weak {t t' : TT} (h : PT X e t) (w : ∀ σ H Q, t' σ H Q → t σ H Q) : PT X e t' := ⟨fun pins s σ H Q I q => h.run pins s σ H Q I (w σ H Q q)⟩
theorem _root_.L2.PW.weak {t t' : TT} (h : PW X e t) (w : ∀ σ H Q, t' σ H Q → t σ H Q) : PW X e t' := ⟨fun wh pins s σ H Q I q => h.run wh pins s σ H Q I (w σ H Q q)⟩
theorem _root_.L2.PA.weak {es : List Expr} {t t' : TA} (h : PA X es t) (w : ∀ σ H Q, t' σ H Q → t σ H Q) : PA X es t' := ⟨fun pos pins s σ H Q I q => h.run pos pins s σ H Q I (w σ H Q q)⟩
theorem _root_.L2.PS.weak {st : Stmt} {t t' : TS} (h : PS X st t) (w : ∀ D σ H, t' D σ H → t D σ H) : PS X st t' := ⟨fun pins s σ H D I q => h.run pins s σ H D I (w D σ H q)⟩
theorem _root_.L2.PSs.weak {st : List Stmt} {t t' : TS} (h : PSs X st t) (w : ∀ D σ H, t' D σ H → t D σ H) : PSs X st t' := ⟨fun pins s σ H D I q => h.run pins s σ H D I (w D σ H q)⟩
theorem _root_.L2.PG.weak {tg : Expr} {t t' : TG} (h : PG X tg t) (w : ∀ v σ H Q, t' v σ H Q → t v σ H Q) : PG X tg t' := ⟨fun pins s σ H v u Q I r q => h.run pins s σ H v u Q I r (w v σ H Q q)⟩
theorem _root_.L2.PGs.weak {tg : List Expr} {t t' : TGs} (h : PGs X tg t) (w : ∀ v σ H Q, t' v σ H Q → t v σ H Q) : PGs X tg t' := ⟨fun pins s σ H v u Q I r q => h.run pins s σ H v u Q I r (w v σ H Q q)⟩
theorem _root_.L2.PI.weak {tg iter : Expr} {t t' : TI} (h : PI X tg iter t) (w : ∀ σ H Q, t' σ H Q → t σ H Q) : PI X tg iter t' := ⟨fun pins s σ H Q I q => h.run pins s σ H Q I (w σ H Q q)⟩
theorem _root_.L2.PTs.weak {ifs : List Expr} {t t' : TT} (h : PTs X ifs t) (w : ∀ σ H Q, t' σ H Q → t σ H Q) : PTs X ifs t' := ⟨fun pins s σ H Q I q => h.run pins s σ H Q I (w σ H Q q)⟩
theorem opr_weak {f : Value → Value → Sem Value} {r r' : R2} (h : OpR X f r) (w : ∀ x y H Q, r' x y H Q → r x y H Q) : OpR X f r' := fun pins s σ H x y v u Q I rx ry q => h pins s σ H x y v u Q I rx ry (w x y H Q q)
theorem unr_weak {f : Value → Sem Value} {r r' : V → Hp → VK → Prop} (h : UnR X f r) (w : ∀ x H Q, r' x H Q → r x H Q) : UnR X f r' := fun pins s σ H x v Q I rx q => h pins s σ H x v Q I rx (w x H Q q)
theorem callr_weak {f : Value} {r r' : List V → Hp → VK → Prop} (h : CallR X f r) (w : ∀ x H Q, r' x H Q → r x H Q) : CallR X f r' := fun pins s σ H x v Q I rx q => h pins s σ H x v Q I rx (w x H Q q)
theorem ixr_weak {r r' : R2} (h : IxR X r) (w : ∀ x y H Q, r' x y H Q → r x y H Q) : IxR X r' := fun va sl pins s σ H x y v u Q I rx ry q => h va sl pins s σ H x y v u Q I rx ry (w x y H Q q)
theorem mtr_weak {id : String} {r r' : V → List V → Hp → VK → Prop} (h : MtR X id r) (w : ∀ x y H Q, r' x y H Q → r x y H Q) : MtR X id r' := by
  intro pins s σ H
  intros
  apply h pins s σ H <;> first | assumption | (apply w; assumption)
end
end L3

set_option Elab.async false
set_option linter.all false
set_option maxRecDepth 100000
set_option maxHeartbeats 2000000
set_option autoImplicit false
/-! L3, rules: names, constants, operators, tests, calls, statements. -/
namespace L3
open PySem L2
variable {bb : Birth}

/-- the items of a list that stands -/
def lstA (S : Store) : AV → Option (List AV)
  | .lst xs => some xs
  | .rol xs => some xs
  | .ref l => match S l with
    | some (.lst xs) => some xs
    | _ => none
  | _ => none
theorem lstA_lst {S : Store} {xs : List AV} : lstA S (.lst xs) = some xs := rfl
theorem lstA_rol {S : Store} {xs : List AV} : lstA S (.rol xs) = some xs := rfl
theorem lstA_ref {S : Store} {l : Addr} {xs : List AV} (h : S l = some (.lst xs)) : lstA S (.ref l) = some xs := by
  show (match S l with | some (.lst xs) => some xs | _ => none) = some xs
  rw [h]
section
variable {K : PySem.W.Frag} {H : Hp} {S : Store} {v : V} {d : AV} {ds : List AV}
theorem rel_tupE (r : RelA K H S v (.tup ds)) : ∃ a vs, v = .ref a ∧ SqT K H a vs ∧ RelAs K H S vs ds := by
  cases r with
  | tup h n q => exact ⟨_, _, rfl, .inl h, q⟩
  | tupK h q => exact ⟨_, _, rfl, .inr h, q⟩
theorem rel_lstE (so : StOk K H S) (r : RelA K H S v d) (e : lstA S d = some ds) : ∃ a vs, v = .ref a ∧ SqL K H a vs ∧ RelAs K H S vs ds := by
  cases r with
  | lst h n q => cases e; exact ⟨_, _, rfl, .inl (.inl h), q⟩
  | rol h n q => cases e; exact ⟨_, _, rfl, .inl h, q⟩
  | rolK h q => cases e; exact ⟨_, _, rfl, .inr h, q⟩
  | ref a =>
    have e' : (match S a with | some (.lst xs) => some xs | _ => none) = some ds := e
    cases z : S a with
    | none => rw [z] at e'; cases e'
    | some o =>
      rw [z] at e'
      cases o with
      | lst xs =>
        cases e'
        obtain ⟨vs, h, q⟩ := so a _ z
        exact ⟨_, _, rfl, .inl (.inl h), q⟩
      | dK _ => cases e'
      | ins _ _ => cases e'
      | hid => cases e'
  | non => cases e
  | bl _ => cases e
  | int _ => cases e
  | str _ => cases e
  | ty _ => cases e
  | tup _ _ _ => cases e
  | tupK _ _ => cases e
end

section
variable {X : Cx} {e a b c : Expr} {es : List Expr} {ta tb tc : AE} {pos p : Pos}

/-! ### names, constants -/
def aVar (i : Nat) : AE := fun τ S Q => ∃ d, τ[i]? = some (some d) ∧ Q d S
theorem e_var (i : Nat) {x : Str} (hN : X.N[i]? = some x := by rfl) (hv : Vis X.env.scope x := by first | exact Or.inl rfl | exact Or.inr (Or.inl rfl) | exact Or.inr (Or.inr rfl)) (hd : (x == ("__debug__" : Str)) = false := by decide)
    (hcd : (x == ("__classdict__" : Str)) = false := by decide) : PE X (.Name x pos) (low (kx X bb) (aVar i)) := (pe_var hN hv hd hcd).weak fun σ H QH ⟨τ, S, Q, R, so, ⟨d, hd, q⟩, k⟩ => by
  obtain ⟨v, hv, r⟩ := R.at_ i d hd
  exact ⟨v, hv, k v H d S so .refl r q⟩
def aC (d : AV) : AE := fun _ S Q => Q d S
def RelC (v : V) (d : AV) : Prop := ∀ K H S, RelA K H S v d
theorem low_c {v : V} {d : AV} (h : PE X e (tC v)) (r : RelC v d) : PE X e (low (kx X bb) (aC d)) := h.weak fun σ H QH ⟨τ, S, Q, R, so, q, k⟩ => k v H d S so .refl (r _ _ _) q
theorem e_int {i : Int} {j} : PE X (.Constant (.int i) j pos) (low (kx X bb) (aC (.int i))) := low_c pe_int fun _ _ _ => .int _
theorem e_bl {i : Bool} {j} : PE X (.Constant (.bool i) j pos) (low (kx X bb) (aC (.bl i))) := low_c pe_bl fun _ _ _ => .bl _
theorem e_str {i : Str} {j} : PE X (.Constant (.str i) j pos) (low (kx X bb) (aC (.str i))) := low_c pe_str fun _ _ _ => .str _
theorem e_non {j} : PE X (.Constant .none j pos) (low (kx X bb) (aC .non)) := low_c pe_non fun _ _ _ => .non
theorem e_glob {x : Str} {v : V} {d : AV} {u : Value} (hm : X.mg x = some u) (r : RelV v u) (rc : RelC v d) (hg : Gl X x := by rfl) (hd : (x == ("__debug__" : Str)) = false := by decide) : PE X (.Name x pos) (low (kx X bb) (aC d)) := low_c (pe_glob hg hm r hd) rc
theorem e_gint {x : Str} {i : Int} {t : Tok} (hm : X.mg x = some (.int i t)) (hg : Gl X x := by rfl) (hd : (x == ("__debug__" : Str)) = false := by decide) : PE X (.Name x pos) (low (kx X bb) (aC (.int i))) := e_glob (v := .int i) hm ⟨_, rfl⟩ (fun _ _ _ => .int _) hg hd
theorem e_gstr {x : Str} {i : Str} {t : Tok} (hm : X.mg x = some (.str i t)) (hg : Gl X x := by rfl) (hd : (x == ("__debug__" : Str)) = false := by decide) : PE X (.Name x pos) (low (kx X bb) (aC (.str i))) := e_glob (v := .str i) hm ⟨_, rfl⟩ (fun _ _ _ => .str _) hg hd
theorem e_gref {x : Str} {i : Addr} (hm : X.mg x = some (.ref i)) (hg : Gl X x := by rfl) (hd : (x == ("__debug__" : Str)) = false := by decide) : PE X (.Name x pos) (low (kx X bb) (aC (.ref i))) := e_glob (v := .ref i) hm rfl (fun _ _ _ => .ref _) hg hd
theorem e_bty {x : Str} {n : String} (hm : X.mg x = none) (hb : bootBuiltins x = some (.type n)) (hg : Gl X x := by rfl) (hn : x ≠ ("__name__" : Str) := by decide) (hd : (x == ("__debug__" : Str)) = false := by decide) : PE X (.Name x pos) (low (kx X bb) (aC (.ty n))) := low_c (pe_bltn (v := .ty n) hg hm hb rfl hn hd) fun _ _ _ => .ty _

/-! ### arguments, displays -/
def aNil : AA := fun _ S Q => Q [] S
def aCons (ta : AE) (tr : AA) : AA := fun τ S Q => ta τ S fun x S1 => tr τ S1 fun xs S2 => Q (x :: xs) S2
theorem a_nil : PA X [] (lowA (kx X bb) aNil) := pa_nil.weak fun σ H QH ⟨τ, S, Q, R, so, q, k⟩ => k [] H [] S so .refl .nil q
theorem a_cons {tr : AA} (ha : PE X e (low (kx X bb) ta)) (hr : PA X es (lowA (kx X bb) tr)) (hs : starEach (e :: es) X.env = (false, eval e X.env) :: starEach es X.env := by rfl) : PA X (e :: es) (lowA (kx X bb) (aCons ta tr)) :=
  (pa_cons ha hr hs).weak fun σ H QH ⟨τ, S, Q, R, so, q, k⟩ => ⟨τ, S, _, R, so, q, fun v H1 d S1 so1 st1 r1 q1 => ⟨τ, S1, _, R.step st1, so1, q1, fun vs H2 ds S2 so2 st2 r2 q2 =>
    k (v :: vs) H2 (d :: ds) S2 so2 (st1.trans st2) (.cons (r1.step st2) r2) q2⟩⟩
def aTup (t : AA) : AE := fun τ S Q => t τ S fun ds S1 => ds.length ≤ sizeLine ∧ Q (.tup ds) S1
def aLst (t : AA) : AE := fun τ S Q => t τ S fun ds S1 => ds.length ≤ sizeLine ∧ ∀ l, S1 l = none → Q (.ref l) (updS S1 l (.lst ds))
def aLstV (t : AA) : AE := fun τ S Q => t τ S fun ds S1 => ds.length ≤ sizeLine ∧ Q (.lst ds) S1
theorem e_tup {t : AA} {x1} (h : PA X es (lowA (kx X bb) t)) : PE X (.Tuple es x1 pos) (low (kx X bb) (aTup t)) := (pe_tup h).weak fun σ H QH ⟨τ, S, Q, R, so, q, k⟩ =>
  ⟨τ, S, _, R, so, q, fun vs H1 ds S1 so1 st1 r1 ⟨z, q1⟩ => ⟨by rw [r1.length]; exact z, fun p hp => k _ _ _ S1 (stok_new so1 hp) (st1.trans (step_new so1 hp)) (rel_tup so1 hp r1) q1⟩⟩
theorem e_lstV {t : AA} (h : PA X es (lowA (kx X bb) t)) : PE X (.List es pos) (low (kx X bb) (aLstV t)) := (pe_lst h).weak fun σ H QH ⟨τ, S, Q, R, so, q, k⟩ =>
  ⟨τ, S, _, R, so, q, fun vs H1 ds S1 so1 st1 r1 ⟨z, q1⟩ => ⟨by rw [r1.length]; exact z, fun p hp => k _ _ _ S1 (stok_new so1 hp) (st1.trans (step_new so1 hp)) (rel_lst so1 hp r1) q1⟩⟩
theorem e_lst {t : AA} (h : PA X es (lowA (kx X bb) t)) : PE X (.List es pos) (low (kx X bb) (aLst t)) := (pe_lst h).weak fun σ H QH ⟨τ, S, Q, R, so, q, k⟩ =>
  ⟨τ, S, _, R, so, q, fun vs H1 ds S1 so1 st1 r1 ⟨z, q1⟩ => ⟨by rw [r1.length]; exact z, fun p hp =>
    have n : S1 p = none := so1.fresh hp
    have st2 := step_put (o := .lst vs) (u := .lst ds) so1 hp
    k _ _ _ _ (stok_put (u := .lst ds) so1 hp ⟨vs, upd_same, r1.step st2⟩) (st1.trans st2) (.ref p) (q1 p n)⟩⟩

/-! ### operators -/
def aOp (ar : AV → AV → Store → Ans) (ta tb : AE) : AE := fun τ S Q => ta τ S fun x S1 => tb τ S1 fun y S2 => (ar x y S2).ok ∧ Q (ar x y S2).v S2
def aUn (ar : AV → Store → Ans) (ta : AE) : AE := fun τ S Q => ta τ S fun x S1 => (ar x S1).ok ∧ Q (ar x S1).v S1
theorem low_op {ar : AV → AV → Store → Ans} : ∀ σ H QH, low (kx X bb) (aOp ar ta tb) σ H QH → tOp (lowO X.K ar) (low (kx X bb) ta) (low (kx X bb) tb) σ H QH := fun σ H QH ⟨τ, S, Q, R, so, q, k⟩ =>
  ⟨τ, S, _, R, so, q, fun v H1 d S1 so1 st1 r1 q1 => ⟨τ, S1, _, R.step st1, so1, q1, fun w H2 e S2 so2 st2 r2 ⟨ok, q2⟩ =>
    ⟨d, e, S2, r1.step st2, r2, so2, ok, fun z H3 so3 st3 r3 => k z H3 _ S2 so3 ((st1.trans st2).trans st3) r3 q2⟩⟩⟩
theorem e_op {op : Operator} {ar : AV → AV → Store → Ans} (ho : OpR X (binaryOp op) (lowO X.K ar)) (ha : PE X a (low (kx X bb) ta)) (hb : PE X b (low (kx X bb) tb)) : PE X (.BinOp a op b pos) (low (kx X bb) (aOp ar ta tb)) := (pe_op ho ha hb).weak low_op
theorem e_un {op : UnaryOp} {ar : AV → Store → Ans} (ho : UnR X (unaryOp op) (lowU X.K ar)) (ha : PE X a (low (kx X bb) ta)) : PE X (.UnaryOp op a pos) (low (kx X bb) (aUn ar ta)) := (pe_un ho ha).weak fun σ H QH ⟨τ, S, Q, R, so, q, k⟩ =>
  ⟨τ, S, _, R, so, q, fun v H1 d S1 so1 st1 r1 ⟨ok, q1⟩ => ⟨d, S1, r1, so1, ok, fun z H3 so3 st3 r3 => k z H3 _ S1 so3 (st1.trans st3) r3 q1⟩⟩
theorem e_cmp {op : CmpOp} {ar : AV → AV → Store → Ans} (ho : OpR X (compareOp op) (lowO X.K ar)) (ha : PE X a (low (kx X bb) ta)) (hb : PE X b (low (kx X bb) tb)) (hm : behindInMarks op b = false := by first | exact nobehind _ (by decide) (by decide) | rfl) : PE X (.Compare a [op] [b] pos) (low (kx X bb) (aOp ar ta tb)) := (pe_cmpR ho ha hb hm).weak low_op
/-- a subscript -/
theorem e_ix {ar : AV → AV → Store → Ans} (ho : IxR X (lowO X.K ar)) (ha : PE X a (low (kx X bb) ta)) (hb : PE X b (low (kx X bb) tb)) (hp : PlainIx b := by exact fun _ _ => rfl) : PE X (.Subscript a b pos) (low (kx X bb) (aOp ar ta tb)) := (pe_ix ho ha hb hp).weak low_op

/-! ### tests -/
def truA (S : Store) : AV → Bool
  | .bl b => b
  | .int i => i != 0
  | .str y => (y.length : Int) != 0
  | .tup xs => !xs.isEmpty
  | .lst xs => !xs.isEmpty
  | .rol xs => !xs.isEmpty
  | .ref l => match S l with
    | some (.lst xs) => !xs.isEmpty
    | some (.dK xs) => !xs.isEmpty
    | _ => false
  | _ => false
def truOk (S : Store) : AV → Prop
  | .str y => y.length ≤ sizeLine
  | .ref l => match S l with
    | some (.lst _) => True
    | some (.dK _) => True
    | _ => False
  | .ty _ => False
  | _ => True
theorem isEmpty_len {α β : Type} {xs : List α} {ys : List β} (h : xs.length = ys.length) : xs.isEmpty = ys.isEmpty := by
  cases xs <;> cases ys <;> simp at h ⊢
theorem truV_of {K : PySem.W.Frag} {H : Hp} {S : Store} {v : V} {d : AV} (so : StOk K H S) (r : RelA K H S v d) (ok : truOk S d) : TruV K v H (truA S d) := by
  cases r with
  | non => rfl
  | bl b => rfl
  | int i => rfl
  | str x => exact ⟨ok, rfl⟩
  | ty n => exact ok.elim
  | tup h n q => exact .inr (.inl ⟨_, .inl h, congrArg (!·) (isEmpty_len q.length.symm)⟩)
  | tupK h q => exact .inr (.inl ⟨_, .inr h, congrArg (!·) (isEmpty_len q.length.symm)⟩)
  | lst h n q => exact .inl ⟨_, .inl (.inl h), congrArg (!·) (isEmpty_len q.length.symm)⟩
  | rol h n q => exact .inl ⟨_, .inl h, congrArg (!·) (isEmpty_len q.length.symm)⟩
  | rolK h q => exact .inl ⟨_, .inr h, congrArg (!·) (isEmpty_len q.length.symm)⟩
  | ref a =>
    cases z : S a with
    | none => simp only [truOk, z] at ok
    | some o =>
      cases o with
      | lst xs =>
        obtain ⟨vs, h, q⟩ := so a _ z
        refine .inl ⟨_, .inl (.inl h), ?_⟩
        simp only [truA, z]
        exact congrArg (!·) (isEmpty_len q.length.symm)
      | dK xs =>
        obtain ⟨ws, h, e, q⟩ := so a _ z
        refine .inr (.inr ⟨_, h, ?_⟩)
        simp only [truA, z]
        refine congrArg (!·) (isEmpty_len ?_)
        have := congrArg List.length e
        rw [List.length_map, List.length_map] at this
        exact this.symm
      | ins _ _ => simp only [truOk, z] at ok
      | hid => simp only [truOk, z] at ok
/-- a value's truth -/
def aTru (ta : AE) : AT := fun τ S Q => ta τ S fun x S1 => truOk S1 x ∧ Q (truA S1 x) S1
theorem t_tru (ha : PE X a (low (kx X bb) ta)) (he : ∀ whole, isTrue a X.env whole = (do let v ← whole; standAt a.pos; holding [v] (truthy v)) := by intro _; rfl) : PT X a (lowT (kx X bb) (aTru ta)) :=
  (pt_truth ha he).weak fun σ H QH ⟨τ, S, Q, R, so, q, k⟩ => ⟨τ, S, _, R, so, q, fun v H1 d S1 so1 st1 r1 ⟨ok, q1⟩ => ⟨_, truV_of so1 r1 ok, k _ H1 S1 so1 st1 q1⟩⟩
/-- a comparison as a test: what it gives is a truth -/
def aTst (t : AE) : AT := fun τ S Q => t τ S fun x S1 => ∃ b, x = .bl b ∧ Q b S1
theorem rel_blE {K : PySem.W.Frag} {H : Hp} {S : Store} {v : V} {b : Bool} (r : RelA K H S v (.bl b)) : v = .bl b := by cases r; rfl
theorem rel_intE {K : PySem.W.Frag} {H : Hp} {S : Store} {v : V} {b : Int} (r : RelA K H S v (.int b)) : v = .int b := by cases r; rfl
theorem rel_strE {K : PySem.W.Frag} {H : Hp} {S : Store} {v : V} {b : Str} (r : RelA K H S v (.str b)) : v = .str b := by cases r; rfl
theorem rel_nonE {K : PySem.W.Frag} {H : Hp} {S : Store} {v : V} (r : RelA K H S v .non) : v = .non := by cases r; rfl
theorem rel_tyE {K : PySem.W.Frag} {H : Hp} {S : Store} {v : V} {n : String} (r : RelA K H S v (.ty n)) : v = .ty n := by cases r; rfl
theorem rel_refE {K : PySem.W.Frag} {H : Hp} {S : Store} {v : V} {a : Addr} (r : RelA K H S v (.ref a)) : v = .ref a := by cases r; rfl
def aCmp (ar : AV → AV → Store → Ans) (ta tb : AE) : AT := fun τ S Q => ta τ S fun x S1 => tb τ S1 fun y S2 => (ar x y S2).ok ∧ ∃ k, (ar x y S2).v = .bl k ∧ Q k S2
theorem t_cmp {op : CmpOp} {ar : AV → AV → Store → Ans} (ho : OpR X (compareOp op) (lowO X.K ar)) (ha : PE X a (low (kx X bb) ta)) (hb : PE X b (low (kx X bb) tb)) (hm : behindInMarks op b = false := by first | exact nobehind _ (by decide) (by decide) | rfl) : PT X (.Compare a [op] [b] pos) (lowT (kx X bb) (aCmp ar ta tb)) :=
  (pt_cmpR ho ha hb hm).weak fun σ H QH ⟨τ, S, Q, R, so, q, k⟩ =>
  ⟨τ, S, _, R, so, q, fun v H1 d S1 so1 st1 r1 q1 => ⟨τ, S1, _, R.step st1, so1, q1, fun w H2 e S2 so2 st2 r2 ⟨ok, b, eb, q2⟩ =>
    ⟨d, e, S2, r1.step st2, r2, so2, ok, fun z H3 so3 st3 r3 => ⟨b, rel_blE (eb ▸ r3), k b H3 S2 so3 ((st1.trans st2).trans st3) q2⟩⟩⟩⟩
/-- a < b < c -/
def aChn (ar ar' : AV → AV → Store → Ans) (ta tb tc : AE) : AE := fun τ S Q => ta τ S fun x S1 => tb τ S1 fun y S2 => (ar x y S2).ok ∧ ∃ k, (ar x y S2).v = .bl k ∧
  (if k = true then tc τ S2 fun w S3 => (ar' y w S3).ok ∧ Q (ar' y w S3).v S3 else Q (.bl false) S2)
theorem low_chn {r r' : AV → AV → Store → Ans} : ∀ σ H QH, low (kx X bb) (aChn r r' ta tb tc) σ H QH → tChain (lowO X.K r) (lowO X.K r') (low (kx X bb) ta) (low (kx X bb) tb) (low (kx X bb) tc) σ H QH := fun σ H QH ⟨τ, S, Q, R, so, q, k⟩ =>
  ⟨τ, S, _, R, so, q, fun v H1 d S1 so1 st1 r1 q1 => ⟨τ, S1, _, R.step st1, so1, q1, fun w H2 e S2 so2 st2 r2 ⟨ok, b, eb, q2⟩ =>
    ⟨d, e, S2, r1.step st2, r2, so2, ok, fun z H3 so3 st3 r3 => ⟨b, rel_blE (eb ▸ r3), by
      cases b with
      | false =>
        rw [if_neg Bool.false_ne_true] at q2 ⊢
        exact k _ H3 _ S2 so3 ((st1.trans st2).trans st3) (.bl false) q2
      | true =>
        rw [if_pos rfl] at q2 ⊢
        exact ⟨τ, S2, _, ((R.step st1).step st2).step st3, so3, q2, fun w' H4 f S4 so4 st4 r4 ⟨ok4, q4⟩ => ⟨e, f, S4, (r2.step st3).step st4, r4, so4, ok4, fun z5 H5 so5 st5 r5 =>
          k z5 H5 _ S4 so5 ((((st1.trans st2).trans st3).trans st4).trans st5) r5 q4⟩⟩⟩⟩⟩⟩
theorem e_chn {op op' : CmpOp} {r r' : AV → AV → Store → Ans} (ho : OpR X (compareOp op) (lowO X.K r)) (ho' : OpR X (compareOp op') (lowO X.K r')) (ha : PE X a (low (kx X bb) ta)) (hb : PE X b (low (kx X bb) tb)) (hc : PE X c (low (kx X bb) tc))
    (hm : lastMarks [op, op'] [b, c] = false := by rfl) : PE X (.Compare a [op, op'] [b, c] pos) (low (kx X bb) (aChn r r' ta tb tc)) := (pe_chain ho ho' ha hb hc hm).weak low_chn
def aChnT (ar ar' : AV → AV → Store → Ans) (ta tb tc : AE) : AT := aTst (aChn ar ar' ta tb tc)
theorem t_chn {op op' : CmpOp} {r r' : AV → AV → Store → Ans} (ho : OpR X (compareOp op) (lowO X.K r)) (ho' : OpR X (compareOp op') (lowO X.K r')) (ha : PE X a (low (kx X bb) ta)) (hb : PE X b (low (kx X bb) tb)) (hc : PE X c (low (kx X bb) tc))
    (hm : lastMarks [op, op'] [b, c] = false := by rfl) : PT X (.Compare a [op, op'] [b, c] pos) (lowT (kx X bb) (aChnT r r' ta tb tc)) := (pt_chain ho ho' ha hb hc hm).weak fun σ H QH ⟨τ, S, Q, R, so, q, k⟩ =>
  low_chn σ H _ ⟨τ, S, fun x S1 => ∃ b, x = .bl b ∧ Q b S1, R, so, q, fun v H' d S' so' st' r' ⟨b, eb, q'⟩ => ⟨b, rel_blE (eb ▸ r'), k b H' S' so' st' q'⟩⟩
def aAnd (t u : AT) : AT := fun τ S Q => t τ S fun c S1 => if c = true then u τ S1 Q else Q false S1
def aOr (t u : AT) : AT := fun τ S Q => t τ S fun c S1 => if c = true then Q true S1 else u τ S1 Q
def aNot (t : AT) : AT := fun τ S Q => t τ S fun c S1 => Q (!c) S1
variable {t u : AT} {rest : List Expr}
theorem w_and1 (ha : PT X a (lowT (kx X bb) t)) : PW X (.BoolOp .And [a] pos) (lowT (kx X bb) t) := pw_and1 ha
theorem w_or1 (ha : PT X a (lowT (kx X bb) t)) : PW X (.BoolOp .Or [a] pos) (lowT (kx X bb) t) := pw_or1 ha
theorem w_and (ha : PT X a (lowT (kx X bb) t)) (hb : PW X (.BoolOp .And (b :: rest) pos) (lowT (kx X bb) u)) : PW X (.BoolOp .And (a :: b :: rest) pos) (lowT (kx X bb) (aAnd t u)) := (pw_and ha hb).weak fun σ H QH ⟨τ, S, Q, R, so, q, k⟩ =>
  ⟨τ, S, _, R, so, q, fun b H1 S1 so1 st1 q1 => by
    cases b with
    | false => rw [if_neg Bool.false_ne_true] at q1 ⊢; exact k _ H1 S1 so1 st1 q1
    | true => rw [if_pos rfl] at q1 ⊢; exact ⟨τ, S1, Q, R.step st1, so1, q1, fun b H2 S2 so2 st2 q2 => k b H2 S2 so2 (st1.trans st2) q2⟩⟩
theorem w_or (ha : PT X a (lowT (kx X bb) t)) (hb : PW X (.BoolOp .Or (b :: rest) pos) (lowT (kx X bb) u)) : PW X (.BoolOp .Or (a :: b :: rest) pos) (lowT (kx X bb) (aOr t u)) := (pw_or ha hb).weak fun σ H QH ⟨τ, S, Q, R, so, q, k⟩ =>
  ⟨τ, S, _, R, so, q, fun b H1 S1 so1 st1 q1 => by
    cases b with
    | true => rw [if_pos rfl] at q1 ⊢; exact k _ H1 S1 so1 st1 q1
    | false => rw [if_neg Bool.false_ne_true] at q1 ⊢; exact ⟨τ, S1, Q, R.step st1, so1, q1, fun b H2 S2 so2 st2 q2 => k b H2 S2 so2 (st1.trans st2) q2⟩⟩
theorem t_not (ha : PT X a (lowT (kx X bb) t)) : PT X (.UnaryOp .Not a pos) (lowT (kx X bb) (aNot t)) := (pt_not ha).weak fun σ H QH ⟨τ, S, Q, R, so, q, k⟩ =>
  ⟨τ, S, _, R, so, q, fun b H1 S1 so1 st1 q1 => k _ H1 S1 so1 st1 q1⟩
/-- a if t else b -/
def aIf (t : AT) (ta tb : AE) : AE := fun τ S Q => t τ S fun c S1 => if c = true then ta τ S1 Q else tb τ S1 Q
theorem e_if (hc : PT X c (lowT (kx X bb) t)) (ha : PE X a (low (kx X bb) ta)) (hb : PE X b (low (kx X bb) tb)) : PE X (.IfExp c a b pos) (low (kx X bb) (aIf t ta tb)) := (pe_ifExp hc ha hb).weak fun σ H QH ⟨τ, S, Q, R, so, q, k⟩ =>
  ⟨τ, S, _, R, so, q, fun b H1 S1 so1 st1 q1 => by
    cases b with
    | true => rw [if_pos rfl] at q1 ⊢; exact ⟨τ, S1, Q, R.step st1, so1, q1, fun v H2 d S2 so2 st2 r2 q2 => k v H2 d S2 so2 (st1.trans st2) r2 q2⟩
    | false => rw [if_neg Bool.false_ne_true] at q1 ⊢; exact ⟨τ, S1, Q, R.step st1, so1, q1, fun v H2 d S2 so2 st2 r2 q2 => k v H2 d S2 so2 (st1.trans st2) r2 q2⟩⟩
/-- and, or, not as values -/
def aAndV (ta tb : AE) : AE := fun τ S Q => ta τ S fun x S1 => truOk S1 x ∧ if truA S1 x = true then tb τ S1 Q else Q x S1
def aOrV (ta tb : AE) : AE := fun τ S Q => ta τ S fun x S1 => truOk S1 x ∧ if truA S1 x = true then Q x S1 else tb τ S1 Q
def aNotV (ta : AE) : AE := fun τ S Q => ta τ S fun x S1 => truOk S1 x ∧ Q (.bl (!truA S1 x)) S1
theorem e_one {op} (h : PE X a (low (kx X bb) ta)) : PE X (.BoolOp op [a] pos) (low (kx X bb) ta) := pe_one h
theorem e_and (ha : PE X a (low (kx X bb) ta)) (hb : PE X (.BoolOp .And (b :: rest) pos) (low (kx X bb) tb)) : PE X (.BoolOp .And (a :: b :: rest) pos) (low (kx X bb) (aAndV ta tb)) := (pe_andT ha hb).weak fun σ H QH ⟨τ, S, Q, R, so, q, k⟩ =>
  ⟨τ, S, _, R, so, q, fun v H1 d S1 so1 st1 r1 ⟨ok, q1⟩ => ⟨_, truV_of so1 r1 ok, by
    split at q1
    · next z => rw [if_pos z]; exact ⟨τ, S1, Q, R.step st1, so1, q1, fun v H2 d S2 so2 st2 r2 q2 => k v H2 d S2 so2 (st1.trans st2) r2 q2⟩
    · next z => rw [if_neg z]; exact k v H1 d S1 so1 st1 r1 q1⟩⟩
theorem e_or (ha : PE X a (low (kx X bb) ta)) (hb : PE X (.BoolOp .Or (b :: rest) pos) (low (kx X bb) tb)) : PE X (.BoolOp .Or (a :: b :: rest) pos) (low (kx X bb) (aOrV ta tb)) := (pe_orT ha hb).weak fun σ H QH ⟨τ, S, Q, R, so, q, k⟩ =>
  ⟨τ, S, _, R, so, q, fun v H1 d S1 so1 st1 r1 ⟨ok, q1⟩ => ⟨_, truV_of so1 r1 ok, by
    split at q1
    · next z => rw [if_pos z]; exact k v H1 d S1 so1 st1 r1 q1
    · next z => rw [if_neg z]; exact ⟨τ, S1, Q, R.step st1, so1, q1, fun v H2 d S2 so2 st2 r2 q2 => k v H2 d S2 so2 (st1.trans st2) r2 q2⟩⟩⟩
theorem e_not (ha : PE X a (low (kx X bb) ta)) : PE X (.UnaryOp .Not a pos) (low (kx X bb) (aNotV ta)) := (pe_notT ha).weak fun σ H QH ⟨τ, S, Q, R, so, q, k⟩ =>
  ⟨τ, S, _, R, so, q, fun v H1 d S1 so1 st1 r1 ⟨ok, q1⟩ => ⟨_, truV_of so1 r1 ok, k _ H1 _ S1 so1 st1 (.bl _) q1⟩⟩

/-! ### builtins by name -/
def aCB (ar : List AV → Store → Ans) (t : AA) : AE := fun τ S Q => t τ S fun ds S1 => (ar ds S1).ok ∧ Q (ar ds S1).v S1
theorem low_cb {ar : List AV → Store → Ans} {t : AA} : ∀ σ H QH, low (kx X bb) (aCB ar t) σ H QH → tCB (lowC X.K ar) (lowA (kx X bb) t) σ H QH := fun σ H QH ⟨τ, S, Q, R, so, q, k⟩ =>
  ⟨τ, S, _, R, so, q, fun vs H1 ds S1 so1 st1 r1 ⟨ok, q1⟩ => ⟨ds, S1, r1, so1, ok, fun v H2 so2 st2 r2 => k v H2 _ S1 so2 (st1.trans st2) r2 q1⟩⟩
end
end L3

set_option Elab.async false
set_option linter.all false
set_option maxRecDepth 100000
set_option maxHeartbeats 2000000
set_option autoImplicit false
/-! L3, rules: calls of defs, statements, loops, comprehensions. -/
namespace L3
open PySem L2
variable {bb : Birth}

/-! ### promises of defs -/
abbrev ASp := List AV → Store → AK → Prop
def spOf (K : PySem.W.Frag) (asp : ASp) : Sp := fun vs H QH _ => ∃ ds S Q, RelAs K H S vs ds ∧ StOk K H S ∧ asp ds S Q ∧ ∀ d S' v H', StOk K H' S' → Step H S H' S' → RelA K H' S' v d → Q d S' → QH v H'
structure Fn3 (P : Program) (w : World) (K : PySem.W.Frag) (mg : Str → Option Value) (base : Heap) (k : Nat) (x : Str) (ps : List Str) (asp : ASp) : Prop where
  ex : ∃ (f : Addr) (fd : FuncData), FnOk P w K mg base CX0 k f fd ps (spOf K asp) ∧ mg x = some (.ref f) ∧ PySem.W.keepIn K (.ref f) = true ∧ Binds K fd ps []
/-- what a def hands back may be told of a smaller store, a list as one that does not change any more -/
def RtW (Q : AK) : AK := fun d S => ∃ d2 S2, Sub S2 S ∧ (d2 = d ∨ ∃ l ds, d = .ref l ∧ S l = some (.lst ds) ∧ S2 l = none ∧ d2 = .lst ds) ∧ Q d2 S2
theorem rt_same {Q : AK} {d : AV} {S : Store} (q : Q d S) : RtW Q d S := ⟨d, S, .refl, .inl rfl, q⟩
theorem rt_sub {Q : AK} {d : AV} {S S2 : Store} (s : Sub S2 S) (q : Q d S2) : RtW Q d S := ⟨d, S2, s, .inl rfl, q⟩
theorem rt_frz {Q : AK} {l : Addr} {ds : List AV} {S S2 : Store} (h : S l = some (.lst ds)) (s : Sub S2 S) (n : S2 l = none) (q : Q (.lst ds) S2) : RtW Q (.ref l) S := ⟨.lst ds, S2, s, .inr ⟨l, ds, rfl, h, n, rfl⟩, q⟩
section
variable {kb : KB} {H H' : Hp} {S S' : Store} {D : AEnds} {DH : Ends}
theorem EndsOk.step (x : EndsOk kb H S D DH) (st : Step H S H' S') : EndsOk kb H' S' D DH :=
  ⟨fun σ' H2 τ' S2 so s2 => x.nx σ' H2 τ' S2 so (st.trans s2), fun v H2 d S2 so s2 => x.rt v H2 d S2 so (st.trans s2), fun σ' H2 τ' S2 so s2 => x.bk σ' H2 τ' S2 so (st.trans s2), fun σ' H2 τ' S2 so s2 => x.ct σ' H2 τ' S2 so (st.trans s2)⟩
end
/-- THE RULE for a def -/
theorem _root_.L2.Fun.ok3 {P : Program} {w : World} {K : PySem.W.Frag} {mg : Str → Option Value} {base : Heap} {x qual : Str} {st : Stmt} {f : Addr} {fd : FuncData} {N ps : List Str} {k : Nat} {asp : ASp} (F : L2.Fun K x qual st f fd) (S : FnScope N ps (defScope st))
    (len : ∀ ds S Q, asp ds S Q → ds.length = ps.length)
    (hbody : ∀ (cdv : Value) (A : Around) (outer : List Env) (s : Shared) (H : Hp) (E : XK), Room k (A.deeper (PyProof.Rows.envOfC qual (defScope st) s.heap.objs.size f cdv)) →
      ∃ as, PSs (cxOf CX0 P w K mg base N qual (defScope st) f cdv A outer s H E).nox (defBody st) (lowS ⟨K, b0⟩ as) ∧ ∀ ds S Q, asp ds S Q → as { nx := fun _ S' => RtW Q .non S', rt := RtW Q } (startA N ds) S) : FnOk P w K mg base CX0 (k + 1) f fd ps (spOf K asp) :=
  F.ok S (fun vs H Q E h => by obtain ⟨ds, S, Q', r, so, q, _⟩ := h; rw [r.length]; exact len ds S Q' q) fun cdv A outer s H vs QH E hr h => by
    obtain ⟨ds, S, Q, r, so, q, k⟩ := h
    obtain ⟨as, hp, ha⟩ := hbody cdv A outer s H E hr
    have rt : ∀ v H' d S', StOk K H' S' → Step H S H' S' → RelA K H' S' v d → RtW Q d S' → QH v H' := fun v H' d S' so' st' r' ⟨d2, S2, sb, hd, q2⟩ => by
      rcases hd with rfl | ⟨l, ds, rfl, hl, hn, rfl⟩
      · exact k d2 S2 v H' (so'.sub sb) (st'.subR sb) (r'.sub sb) q2
      · obtain rfl := rel_refE r'
        obtain ⟨vs, hv, rv⟩ := so' l _ hl
        exact k _ S2 _ H' (so'.sub sb) (st'.subR sb) (.lst hv hn (rv.sub sb)) q2
    exact ⟨_, hp, startA N ds, S, _, rp_start (k := ⟨K, b0⟩) trivial r, so, ha ds S Q q, fun σ' H' τ' S' so' st' _ q' => rt .non H' .non S' so' st' .non q', rt, fun _ _ _ _ _ _ _ z => z.elim, fun _ _ _ _ _ _ _ z => z.elim⟩

section
variable {X : Cx} {e a b c : Expr} {es : List Expr} {ta tb tc : AE} {tt : AT} {pos p : Pos}
def aCall (asp : ASp) (t : AA) : AE := fun τ S Q => t τ S fun ds S1 => asp ds S1 Q
theorem e_call {k : Nat} {x : Str} {ps : List Str} {asp : ASp} {t : AA} (F : Fn3 X.prog X.w X.K X.mg X.base k x ps asp) (hr : Room k X.A) (ha : PA X (e :: es) (lowA (kx X bb) t)) (hg : Gl X x := by rfl)
    (hdb : (x == ("__debug__" : Str)) = false := by decide) (he : starEach (e :: es) X.env = (false, eval e X.env) :: starEach es X.env := by rfl) (hpl : (backTo pos (starEach es X.env)).any (·.1) = false := by rfl) :
    PE X (.Call (.Name x p) (e :: es) [] pos) (low (kx X bb) (aCall asp t)) := by
  obtain ⟨f, fd, G, hm, hk, hb⟩ := F.ex
  exact (pe_call G hr hg hm hk hb .nil pass0 ha hdb he hpl).weak fun σ H QH ⟨τ, S, Q, R, so, q, k⟩ => ⟨τ, S, _, R, so, q, fun vs H1 ds S1 so1 st1 r1 q1 => by
    show spOf X.K asp (vs ++ []) H1 QH E0
    rw [List.append_nil]
    exact ⟨ds, S1, Q, r1, so1, q1, fun d S' v H' so' st' r' q' => k v H' d S' so' (st1.trans st') r' q'⟩⟩
theorem e_call0 {k : Nat} {x : Str} {ps : List Str} {asp : ASp} (F : Fn3 X.prog X.w X.K X.mg X.base k x ps asp) (hr : Room k X.A) (hg : Gl X x := by rfl) (hdb : (x == ("__debug__" : Str)) = false := by decide) :
    PE X (.Call (.Name x p) [] [] pos) (low (kx X bb) (aCall asp aNil)) := by
  obtain ⟨f, fd, G, hm, hk, hb⟩ := F.ex
  exact (pe_call0 G hr hg hm hk hb .nil pass0 hdb).weak fun σ H QH ⟨τ, S, Q, R, so, q, k⟩ => ⟨[], S, Q, .nil, so, q, fun d S' v H' so' st' r' q' => k v H' d S' so' st' r' q'⟩

/-! ### statements -/
variable {st : Stmt} {rest sts : List Stmt} {t u : AS}
def aNext : AS := fun D τ S => D.nx τ S
def aSeq (t u : AS) : AS := fun D τ S => t { D with nx := u D } τ S
theorem s_nil : PSs X [] (lowS (kx X bb) aNext) := pss_nil.weak fun D σ H ⟨τ, S, DA, R, so, q, k⟩ => k.nx σ H τ S so .refl R q
theorem s_cons (h1 : PS X st (lowS (kx X bb) t)) (h2 : PSs X rest (lowS (kx X bb) u)) : PSs X (st :: rest) (lowS (kx X bb) (aSeq t u)) := (pss_cons h1 h2).weak fun D σ H ⟨τ, S, DA, R, so, q, k⟩ =>
  ⟨τ, S, { DA with nx := u DA }, R, so, q, ⟨fun σ' H' τ' S' so' st' R' q' => ⟨τ', S', DA, R', so', q', k.step st'⟩, k.rt, k.bk, k.ct⟩⟩
theorem s_one (h1 : PS X st (lowS (kx X bb) t)) : PSs X [st] (lowS (kx X bb) t) := pss_one h1
theorem s_pass : PS X (.Pass pos) (lowS (kx X bb) aNext) := ps_pass.weak fun D σ H ⟨τ, S, DA, R, so, q, k⟩ => k.nx σ H τ S so .refl R q
def aBrk : AS := fun D τ S => D.bk τ S
def aCnt : AS := fun D τ S => D.ct τ S
theorem s_brk : PS X (.Break pos) (lowS (kx X bb) aBrk) := ps_break.weak fun D σ H ⟨τ, S, DA, R, so, q, k⟩ => k.bk σ H τ S so .refl R q
theorem s_cnt : PS X (.Continue pos) (lowS (kx X bb) aCnt) := ps_continue.weak fun D σ H ⟨τ, S, DA, R, so, q, k⟩ => k.ct σ H τ S so .refl R q
def aDrop (ta : AE) : AS := fun D τ S => ta τ S fun _ S1 => D.nx τ S1
theorem s_expr (h : PE X e (low (kx X bb) ta)) (hs : swapsWith e none pos.line X.env = pure false := by rfl) : PS X (.Expr e pos) (lowS (kx X bb) (aDrop ta)) := (ps_expr h hs).weak fun D σ H ⟨τ, S, DA, R, so, q, k⟩ =>
  ⟨τ, S, _, R, so, q, fun v H1 d S1 so1 st1 r1 q1 => k.nx σ H1 τ S1 so1 st1 (R.step st1) q1⟩
def aRet (ta : AE) : AS := fun D τ S => ta τ S D.rt
theorem s_ret (h : PE X e (low (kx X bb) ta)) : PS X (.Return (some e) pos) (lowS (kx X bb) (aRet ta)) := (ps_ret h).weak fun D σ H ⟨τ, S, DA, R, so, q, k⟩ =>
  ⟨τ, S, _, R, so, q, fun v H1 d S1 so1 st1 r1 q1 => k.rt v H1 d S1 so1 st1 r1 q1⟩
def aRetN : AS := fun D _ S => D.rt .non S
theorem s_retN : PS X (.Return none pos) (lowS (kx X bb) aRetN) := ps_retN.weak fun D σ H ⟨τ, S, DA, R, so, q, k⟩ => k.rt .non H .non S so .refl .non q
def aIfS (tc : AT) (t u : AS) : AS := fun D τ S => tc τ S fun b S1 => if b = true then t D τ S1 else u D τ S1
theorem s_if {x y : List Stmt} (hc : PT X c (lowT (kx X bb) tt)) (ha : PSs X x (lowS (kx X bb) t)) (hb : PSs X y (lowS (kx X bb) u)) : PS X (.If c x y pos) (lowS (kx X bb) (aIfS tt t u)) := (ps_if hc ha hb).weak fun D σ H ⟨τ, S, DA, R, so, q, k⟩ =>
  ⟨τ, S, _, R, so, q, fun b H1 S1 so1 st1 q1 => by
    cases b with
    | true => rw [if_pos rfl] at q1 ⊢; exact ⟨τ, S1, DA, R.step st1, so1, q1, k.step st1⟩
    | false => rw [if_neg Bool.false_ne_true] at q1 ⊢; exact ⟨τ, S1, DA, R.step st1, so1, q1, k.step st1⟩⟩
def aNev : AS := fun _ _ _ => False
theorem s_nev : PS X st (lowS (kx X bb) aNev) := ps_never.weak fun D σ H ⟨τ, S, DA, R, so, q, k⟩ => q
theorem ss_nev : PSs X sts (lowS (kx X bb) aNev) := pss_never.weak fun D σ H ⟨τ, S, DA, R, so, q, k⟩ => q

/-! ### targets -/
def agName (i : Nat) : AG := fun d τ S Q => Q (τ.set i (some d)) S
theorem g_name {x : Str} (i : Nat) (hN : X.N.Nodup) (hi : X.N[i]? = some x := by rfl) (hx : L2.Loc X.env.scope x := by first | exact .inl rfl | exact .inr rfl) (hf : X.fn x = true ∨ X.env.scope.names.lookup x = some .local := by first | exact .inl rfl | exact .inr rfl | assumption) :
    PG X (.Name x pos) (lowG (kx X bb) (agName i)) := (pg_name hN hi hx hf).weak fun v σ H QH ⟨d, τ, S, Q, r, R, so, q, k⟩ => k _ H _ S so .refl (R.set r i) q
def agNil : AGs := fun ds τ S Q => ds = [] ∧ Q τ S
def agCons (g : AG) (gs : AGs) : AGs := fun ds τ S Q => ∃ d es, ds = d :: es ∧ g d τ S fun τ1 S1 => gs es τ1 S1 Q
def agTup (n : Nat) (g : AGs) : AG := fun d τ S Q => ∃ ds, d = .tup ds ∧ ds.length = n ∧ g ds τ S Q
theorem gs_nil : PGs X [] (lowGs (kx X bb) agNil) := pgs_nil.weak fun vs σ H QH ⟨ds, τ, S, Q, r, R, so, ⟨e, q⟩, k⟩ => by
  subst e
  cases r
  exact ⟨rfl, k σ H τ S so .refl R q⟩
theorem gs_cons {g : AG} {gs : AGs} (h : PG X e (lowG (kx X bb) g)) (hs : PGs X es (lowGs (kx X bb) gs))
    (ha : (assignEach (e :: es) X.env).map (·.2) = assign e X.env :: (assignEach es X.env).map (·.2) := by rfl) : PGs X (e :: es) (lowGs (kx X bb) (agCons g gs)) := (pgs_cons h hs ha).weak fun vs σ H QH ⟨ds, τ, S, Q, r, R, so, ⟨d, es, e, q⟩, k⟩ => by
  subst e
  cases r with
  | cons r rs =>
    exact ⟨_, _, rfl, d, τ, S, _, r, R, so, q, fun σ1 H1 τ1 S1 so1 st1 R1 q1 => ⟨es, τ1, S1, Q, rs.step st1, R1, so1, q1, fun σ2 H2 τ2 S2 so2 st2 R2 q2 => k σ2 H2 τ2 S2 so2 (st1.trans st2) R2 q2⟩⟩
theorem g_tup {g : AGs} {k n : Nat} (hc : X.calm = true) (h : PGs X es (lowGs (kx X bb) g)) (hn : (assignEach es X.env).length = n := by rfl) (hst : (assignEach es X.env).findIdx? (·.1) = none := by rfl) :
    PG X (.Tuple es k pos) (lowG (kx X bb) (agTup n g)) := (pg_tup hc h hn hst).weak fun v σ H QH ⟨d, τ, S, Q, r, R, so, ⟨ds, e, el, q⟩, k⟩ => by
  subst e
  obtain ⟨a, vs, rfl, h, rs⟩ := rel_tupE r
  exact ⟨a, vs, rfl, h, rs.length.trans el, ds, τ, S, Q, rs, R, so, q, k⟩
def aAsg (ta : AE) (g : AG) : AS := fun D τ S => ta τ S fun d S1 => g d τ S1 D.nx
theorem s_asg {tg : Expr} {g : AG} (h : PE X e (low (kx X bb) ta)) (hg : PG X tg (lowG (kx X bb) g)) (h1 : swapsWithSole [tg] e pos.line X.env = pure false := by rfl) (h2 : swappedStores [tg] e X.env = pure none := by rfl)
    (h3 : (assignEach [tg] X.env).map (·.2) = [assign tg X.env] := by rfl) : PS X (.Assign [tg] e pos) (lowS (kx X bb) (aAsg ta g)) := (ps_asg h hg h1 h2 h3).weak fun D σ H ⟨τ, S, DA, R, so, q, k⟩ =>
  ⟨τ, S, _, R, so, q, fun v H1 d S1 so1 st1 r1 q1 => ⟨d, τ, S1, DA.nx, r1, R.step st1, so1, q1, fun σ2 H2 τ2 S2 so2 st2 R2 q2 => k.nx σ2 H2 τ2 S2 so2 (st1.trans st2) R2 q2⟩⟩
/-- x = e -/
theorem s_set {x : Str} {px : Pos} (i : Nat) (hN : X.N.Nodup) (h : PE X e (low (kx X bb) ta)) (hi : X.N[i]? = some x := by rfl) (hx : L2.Loc X.env.scope x := by first | exact .inl rfl | exact .inr rfl) (hf : X.fn x = true ∨ X.env.scope.names.lookup x = some .local := by first | exact .inl rfl | exact .inr rfl | assumption)
    (h1 : swapsWithSole [.Name x px] e pos.line X.env = pure false := by rfl) (h2 : swappedStores [.Name x px] e X.env = pure none := by rfl)
    (h3 : (assignEach [.Name x px] X.env).map (·.2) = [assign (.Name x px) X.env] := by rfl) : PS X (.Assign [.Name x px] e pos) (lowS (kx X bb) (aAsg ta (agName i))) := s_asg h (g_name i hN hi hx hf) h1 h2 h3
/-- a, b = x, y -/
def aPar (i j : Nat) (t : AA) : AS := fun D τ S => t τ S fun ds S1 => ∃ x y, ds = [x, y] ∧ D.nx ((τ.set i (some x)).set j (some y)) S1
theorem s_par {i j : Nat} {x y : Str} {t : AA} {px py pt : Pos} {kt k2 : Nat} {pt2 : Pos} (hc : X.calm = true) (hN : X.N.Nodup) (ha : PA X [a, b] (lowA (kx X bb) t)) (hi : X.N[i]? = some x := by rfl) (hj : X.N[j]? = some y := by rfl) (hij : i ≠ j := by decide)
    (hx : X.env.scope.names.lookup x = some .local := by rfl) (hy : X.env.scope.names.lookup y = some .local := by rfl)
    (h1 : swappedStores [.Tuple [.Name x px, .Name y py] kt pt] (.Tuple [a, b] k2 pt2) X.env = pure (some [x, y]) := by rfl) (h2 : swapsWithSole [.Tuple [.Name x px, .Name y py] kt pt] (.Tuple [a, b] k2 pt2) pos.line X.env = pure false := by rfl) :
    PS X (.Assign [.Tuple [.Name x px, .Name y py] kt pt] (.Tuple [a, b] k2 pt2) pos) (lowS (kx X bb) (aPar i j t)) := (ps_par hc hN hi hj hij hx hy ha h1 h2).weak fun D σ H ⟨τ, S, DA, R, so, q, k⟩ =>
  ⟨τ, S, _, R, so, q, fun vs H1 ds S1 so1 st1 r1 ⟨x, y, e, q1⟩ => by
    subst e
    cases r1 with
    | cons rx rr =>
      cases rr with
      | cons ry rr =>
        cases rr
        exact ⟨_, _, rfl, k.nx _ H1 _ S1 so1 st1 (((R.step st1).set rx i).set ry j) q1⟩⟩
/-- x op= e -/
def aAug (ar : AV → AV → Store → Ans) (i : Nat) (ta : AE) : AS := fun D τ S => ∃ x, τ[i]? = some (some x) ∧ ta τ S fun y S1 => (ar x y S1).ok ∧ D.nx (τ.set i (some (ar x y S1).v)) S1
theorem s_aug {x : Str} {px : Pos} {op : Operator} {ar : AV → AV → Store → Ans} (i : Nat) (hN : X.N.Nodup) (h : PE X e (low (kx X bb) ta)) (ho : PIp X op (lowO X.K ar)) (hi : X.N[i]? = some x := by rfl) (hx : L2.Loc X.env.scope x := by first | exact .inl rfl | exact .inr rfl)
    (hf : X.fn x = true ∨ X.env.scope.names.lookup x = some .local := by first | exact .inl rfl | exact .inr rfl | assumption) : PS X (.AugAssign (.Name x px) op e pos) (lowS (kx X bb) (aAug ar i ta)) := (ps_aug hN hi hx h ho hf).weak fun D σ H ⟨τ, S, DA, R, so, ⟨d, hd, q⟩, k⟩ => by
  obtain ⟨v, hv, r⟩ := R.at_ i d hd
  exact ⟨v, hv, τ, S, _, R, so, q, fun w H1 e S1 so1 st1 r1 ⟨ok, q1⟩ => ⟨d, e, S1, r.step st1, r1, so1, ok, fun z H2 so2 st2 r2 => k.nx _ H2 _ S1 so2 (st1.trans st2) (((R.step st1).step st2).set r2 i) q1⟩⟩

/-! ### while, for -/
def aWhile (tc : AT) (tb : AS) : AS := fun D τ S => ∃ W : Nat → ASt → Store → Prop, (∃ m, W m τ S) ∧ ∀ m τ S, W m τ S → tc τ S fun b S1 =>
  if b = true then tb { D with nx := fun τ' S' => ∃ m', m' < m ∧ W m' τ' S', ct := fun τ' S' => ∃ m', m' < m ∧ W m' τ' S', bk := D.nx } τ S1 else D.nx τ S1
theorem s_while {body : List Stmt} (hp : PassesOwn (model X.prog X.w) X.A X.env X.xe) (hc : PT X c (lowT (kx X bb) tt)) (hb : PSs X body (lowS (kx X bb) t)) : PS X (.While c body [] pos) (lowS (kx X bb) (aWhile tt t)) := (ps_while hp hc hb).weak fun D σ H ⟨τ, S, DA, R, so, ⟨W, ⟨m, w0⟩, hw⟩, k⟩ => by
  refine ⟨fun m σ' H' => ∃ τ' S', W m τ' S' ∧ Rp (kx X bb) H' S' σ' τ' ∧ StOk X.K H' S' ∧ Step H S H' S', ⟨m, τ, S, w0, R, so, .refl⟩, fun m σ1 H1 ⟨τ1, S1, w1, R1, so1, st1⟩ => ?_⟩
  refine ⟨τ1, S1, _, R1, so1, hw m τ1 S1 w1, fun b H2 S2 so2 st2 q2 => ?_⟩
  cases b with
  | false => rw [if_neg Bool.false_ne_true] at q2 ⊢; exact k.nx σ1 H2 τ1 S2 so2 (st1.trans st2) (R1.step st2) q2
  | true =>
    rw [if_pos rfl] at q2 ⊢
    have nx : ∀ σ' H' τ' S', StOk X.K H' S' → Step H2 S2 H' S' → Rp (kx X bb) H' S' σ' τ' → (∃ m', m' < m ∧ W m' τ' S') → ∃ m', m' < m ∧ ∃ τ' S', W m' τ' S' ∧ Rp (kx X bb) H' S' σ' τ' ∧ StOk X.K H' S' ∧ Step H S H' S' :=
      fun σ' H' τ' S' so' st' R' ⟨m', lt, w'⟩ => ⟨m', lt, τ', S', w', R', so', (st1.trans st2).trans st'⟩
    exact ⟨_, fun σ' H' h => h, τ1, S2, _, R1.step st2, so2, q2, nx, fun v H' d S' so' st' => k.rt v H' d S' so' ((st1.trans st2).trans st'), fun σ' H' τ' S' so' st' => k.nx σ' H' τ' S' so' ((st1.trans st2).trans st'), nx⟩
def aFor (ai : AI) (ag : AG) (tb : AS) : AS := fun D τ S => ai τ S fun xs G S1 => ∃ I : Nat → ASt → Store → Prop, I 0 τ S1 ∧
  (∀ (i : Nat) x τ2 S2, xs[i]? = some x → I i τ2 S2 → G S2 ∧ ag x τ2 S2 fun τ3 S3 => tb { D with nx := I (i + 1), ct := I (i + 1), bk := D.nx } τ3 S3) ∧ (∀ τ2 S2, I xs.length τ2 S2 → G S2 ∧ D.nx τ2 S2)
theorem s_for {tg iter : Expr} {body : List Stmt} {ai : AI} {g : AG} (hp : PassesOwn (model X.prog X.w) X.A X.env X.xe) (hc : X.calm = true) (hi : PI X tg iter (lowI (kx X bb) ai)) (hg : PG X tg (lowG (kx X bb) g)) (hb : PSs X body (lowS (kx X bb) t))
    (hs : ∀ x, foldedSetIterable iter X.env x = pure x := by intro _; rfl) : PS X (.For tg iter body [] pos) (lowS (kx X bb) (aFor ai g t)) := (ps_for hp hc hi hg hb hs).weak fun D σ H ⟨τ, S, DA, R, so, q, k⟩ =>
  ⟨τ, S, _, R, so, q, fun J H1 xs G S1 so1 st1 it ⟨I, i0, hstep, hend⟩ => by
    refine ⟨fun i m σ' H' => ∃ τ' S', I i τ' S' ∧ i + m = xs.length ∧ Rp (kx X bb) H' S' σ' τ' ∧ StOk X.K H' S' ∧ Step H1 S1 H' S', ⟨xs.length, τ, S1, i0, by omega, R.step st1, so1, .refl⟩, fun i m σ2 H2 ⟨τ2, S2, w2, hm, R2, so2, st2⟩ => ?_⟩
    by_cases hi : i < xs.length
    · right
      have hx : xs[i]? = some xs[i] := List.getElem?_eq_getElem hi
      obtain ⟨hG, hq⟩ := hstep i _ τ2 S2 hx w2
      obtain ⟨hgo, hy⟩ := (it H2 S2 so2 st2 hG).1 i _ hx
      have nx : ∀ σ' H' τ' S', StOk X.K H' S' → Step H2 S2 H' S' → Rp (kx X bb) H' S' σ' τ' → I (i + 1) τ' S' → ∃ m', m' < m ∧ ∃ τ' S', I (i + 1) τ' S' ∧ i + 1 + m' = xs.length ∧ Rp (kx X bb) H' S' σ' τ' ∧ StOk X.K H' S' ∧ Step H1 S1 H' S' :=
        fun σ' H' τ' S' so' st' R' w' => ⟨m - 1, by omega, τ', S', w', by omega, R', so', st2.trans st'⟩
      refine ⟨hgo, _, fun σ' H' h => h, fun v H3 hv => ?_⟩
      obtain ⟨so3, st3, r3⟩ := hy v H3 hv
      exact ⟨_, τ2, S2, _, r3, R2.step st3, so3, hq, fun σ4 H4 τ4 S4 so4 st4 R4 q4 => ⟨τ4, S4, _, R4, so4, q4, fun σ' H' τ' S' so' st' R' w' => nx σ' H' τ' S' so' ((st3.trans st4).trans st') R' w',
        fun v H' d S' so' st' => k.rt v H' d S' so' (((st1.trans st2).trans (st3.trans st4)).trans st'), fun σ' H' τ' S' so' st' => k.nx σ' H' τ' S' so' (((st1.trans st2).trans (st3.trans st4)).trans st'), fun σ' H' τ' S' so' st' R' w' => nx σ' H' τ' S' so' ((st3.trans st4).trans st') R' w'⟩⟩
    · left
      have e : i = xs.length := by omega
      subst e
      obtain ⟨hG, hq⟩ := hend τ2 S2 w2
      exact ⟨(it H2 S2 so2 st2 hG).2, k.nx σ2 H2 τ2 S2 so2 (st1.trans st2) R2 hq⟩⟩

/-! ### what a for walks -/
variable {tg : Expr}
/-- a list -/
def aiLst (ta : AE) : AI := fun τ S Q => ta τ S fun d S1 => ∃ xs, lstA S1 d = some xs ∧ Q xs (fun S2 => lstA S2 d = some xs) S1
theorem i_lst (h : PE X e (low (kx X bb) ta)) : PI X tg e (lowI (kx X bb) (aiLst ta)) := (pi_list h).weak fun σ H R ⟨τ, S, Q, Rr, so, q, k⟩ => ⟨τ, S, _, Rr, so, q, fun v H1 d S1 so1 st1 r1 ⟨xs, e, q1⟩ => by
  obtain ⟨a, vs, rfl, hl, rs⟩ := rel_lstE so1 r1 e
  refine ⟨a, rfl, ⟨vs, hl⟩, k _ H1 xs _ S1 so1 st1 (fun H' S' so' st' g => ?_) q1⟩
  obtain ⟨a', ws, ea, hl', rs'⟩ := rel_lstE so' (r1.step st') g
  cases ea
  refine ⟨fun i x hx => ?_, ws, hl', by rw [rs'.length]; exact Nat.le_refl _⟩
  obtain ⟨w, hw, rw'⟩ := rs'.get hx
  refine ⟨⟨ws, w, hl', hw⟩, fun v H'' ⟨e1, e2⟩ => ?_⟩
  subst e1
  have := e2 ws hl'
  rw [hw] at this
  cases this
  exact ⟨so', .refl, rw'⟩⟩
def aiTup (ta : AE) : AI := fun τ S Q => ta τ S fun d S1 => ∃ xs, d = .tup xs ∧ Q xs (fun _ => True) S1
theorem i_tup (h : PE X e (low (kx X bb) ta)) : PI X tg e (lowI (kx X bb) (aiTup ta)) := (pi_tup h).weak fun σ H R ⟨τ, S, Q, Rr, so, q, k⟩ => ⟨τ, S, _, Rr, so, q, fun v H1 d S1 so1 st1 r1 ⟨xs, e, q1⟩ => by
  subst e
  obtain ⟨a, vs, rfl, hl, rs⟩ := rel_tupE r1
  refine ⟨a, rfl, ⟨vs, hl⟩, k _ H1 xs _ S1 so1 st1 (fun H' S' so' st' g => ?_) q1⟩
  obtain ⟨a', ws, ea, hl', rs'⟩ := rel_tupE (r1.step st')
  cases ea
  refine ⟨fun i x hx => ?_, ws, hl', by rw [rs'.length]; exact Nat.le_refl _⟩
  obtain ⟨w, hw, rw'⟩ := rs'.get hx
  refine ⟨⟨ws, w, hl', hw⟩, fun v H'' ⟨e1, e2⟩ => ?_⟩
  subst e1
  have := e2 ws hl'
  rw [hw] at this
  cases this
  exact ⟨so', .refl, rw'⟩⟩
/-- a text, sign by sign -/
def signsA (z : Str) : List AV := z.cps.toList.map fun c => .str ⟨#[c]⟩
def aiStr (ta : AE) : AI := fun τ S Q => ta τ S fun d S1 => ∃ z, d = .str z ∧ Q (signsA z) (fun _ => True) S1
theorem i_str (h : PE X e (low (kx X bb) ta)) : PI X tg e (lowI (kx X bb) (aiStr ta)) := (pi_str h).weak fun σ H R ⟨τ, S, Q, Rr, so, q, k⟩ => ⟨τ, S, _, Rr, so, q, fun v H1 d S1 so1 st1 r1 ⟨z, e, q1⟩ => by
  subst e
  obtain rfl := rel_strE r1
  refine ⟨z, rfl, k _ H1 _ _ S1 so1 st1 (fun H' S' so' st' g => ?_) q1⟩
  have hl : (signsA z).length = z.cps.size := by unfold signsA; rw [List.length_map, Array.length_toList]
  refine ⟨fun i x hx => ?_, by show z.cps.size ≤ (signsA z).length; omega⟩
  have hi : i < z.cps.size := by have := (List.getElem?_eq_some_iff.mp hx).1; omega
  refine ⟨hi, fun v H'' ⟨e1, c, hc, ev⟩ => ?_⟩
  subst e1 ev
  have hx' : x = .str ⟨#[c]⟩ := by
    unfold signsA at hx
    rw [List.getElem?_map, Array.getElem?_toList, hc] at hx
    cases hx
    rfl
  subst hx'
  exact ⟨so', .refl, .str _⟩⟩
/-- range(n), range(a, b) -/
def rngA (a : Int) (n : Nat) : List AV := (List.range n).map fun i => .int (a + (i : Nat))
theorem rngA_len (a : Int) (n : Nat) : (rngA a n).length = n := by unfold rngA; rw [List.length_map, List.length_range]
theorem rngA_get {a : Int} {n i : Nat} {x : AV} (h : (rngA a n)[i]? = some x) : i < n ∧ x = .int (a + (i : Nat)) := by
  have hi : i < n := by have := (List.getElem?_eq_some_iff.mp h).1; rwa [rngA_len] at this
  unfold rngA at h
  rw [List.getElem?_map, List.getElem?_range hi] at h
  cases h
  exact ⟨hi, rfl⟩
theorem rel_ints1 {K : PySem.W.Frag} {H : Hp} {S : Store} {vs : List V} {i : Int} (r : RelAs K H S vs [.int i]) : vs = [.int i] := by
  cases r with
  | cons r rr => cases rr; rw [rel_intE r]
theorem rel_ints2 {K : PySem.W.Frag} {H : Hp} {S : Store} {vs : List V} {i j : Int} (r : RelAs K H S vs [.int i, .int j]) : vs = [.int i, .int j] := by
  cases r with
  | cons r rr => rw [rel_intE r, rel_ints1 rr]
def aiRng1 (t : AA) : AI := fun τ S Q => t τ S fun ds S1 => ∃ j : Int, ds = [.int j] ∧ -(2 ^ 62) ≤ j ∧ j < 2 ^ 62 ∧ Q (rngA 0 j.toNat) (fun _ => True) S1
def aiRng2 (t : AA) : AI := fun τ S Q => t τ S fun ds S1 => ∃ i j : Int, ds = [.int i, .int j] ∧ (-(2 ^ 62) ≤ i ∧ i < 2 ^ 62 ∧ -(2 ^ 62) ≤ j ∧ j < 2 ^ 62) ∧ Q (rngA i (j - i).toNat) (fun _ => True) S1
theorem itr_ok {K : PySem.W.Frag} {H : Hp} {S : Store} {a : Int} {n : Nat} : ItOk K (Itr a n) H S (fun _ => True) (rngA a n) := fun H' S' so' st' g =>
  ⟨fun i x hx => ⟨(rngA_get hx).1, fun v H'' ⟨e1, e2⟩ => by subst e1 e2; rw [(rngA_get hx).2]; exact ⟨so', .refl, .int _⟩⟩, by show n ≤ (rngA a n).length; rw [rngA_len]; exact Nat.le_refl _⟩
theorem i_rng1 {t : AA} (hm : X.mg "range" = none) (ha : PA X [a] (lowA (kx X bb) t)) (hg : Gl X "range" := by rfl) (hs : starEach [a] X.env = [(false, eval a X.env)] := by rfl) : PI X tg (.Call (.Name "range" p) [a] [] pos) (lowI (kx X bb) (aiRng1 t)) :=
  (pi_range1 hg hm ha hs).weak fun σ H R ⟨τ, S, Q, Rr, so, q, k⟩ => ⟨τ, S, _, Rr, so, q, fun vs H1 ds S1 so1 st1 r1 ⟨j, e, h1, h2, q1⟩ => by
    subst e
    exact ⟨j, rel_ints1 r1, h1, h2, k _ H1 _ _ S1 so1 st1 itr_ok q1⟩⟩
theorem i_rng2 {t : AA} (hm : X.mg "range" = none) (ha : PA X [a, b] (lowA (kx X bb) t)) (hg : Gl X "range" := by rfl) (hs : starEach [a, b] X.env = [(false, eval a X.env), (false, eval b X.env)] := by rfl) (hs2 : starEach [b] X.env = [(false, eval b X.env)] := by rfl) :
    PI X tg (.Call (.Name "range" p) [a, b] [] pos) (lowI (kx X bb) (aiRng2 t)) :=
  (pi_range2 hg hm ha hs hs2).weak fun σ H R ⟨τ, S, Q, Rr, so, q, k⟩ => ⟨τ, S, _, Rr, so, q, fun vs H1 ds S1 so1 st1 r1 ⟨i, j, e, h1, q1⟩ => by
    subst e
    exact ⟨i, j, rel_ints2 r1, h1, k _ H1 _ _ S1 so1 st1 itr_ok q1⟩⟩
/-- enumerate(list) -/
def enumA (xs : List AV) : List AV := xs.mapIdx fun i x => .tup [.int (i : Nat), x]
theorem enumA_get {xs : List AV} {i : Nat} {y : AV} (h : (enumA xs)[i]? = some y) : ∃ x, xs[i]? = some x ∧ y = .tup [.int (i : Nat), x] := by
  unfold enumA at h
  rw [List.getElem?_mapIdx] at h
  cases z : xs[i]? with
  | none => rw [z] at h; cases h
  | some x => rw [z] at h; cases h; exact ⟨x, rfl, rfl⟩
theorem enumA_len (xs : List AV) : (enumA xs).length = xs.length := by unfold enumA; rw [List.length_mapIdx]
def aiEnum (t : AA) : AI := fun τ S Q => t τ S fun ds S1 => ∃ d xs, ds = [d] ∧ lstA S1 d = some xs ∧ Q (enumA xs) (fun S2 => lstA S2 d = some xs) S1
theorem i_enum {t : AA} {elts : List Expr} {kk : Nat} {tpos : Pos} (hm : X.mg "enumerate" = none) (ha : PA X [e] (lowA (kx X bb) t)) (hg : Gl X "enumerate" := by rfl) (hs : starEach [e] X.env = [(false, eval e X.env)] := by rfl) :
    PI X (.Tuple elts kk tpos) (.Call (.Name "enumerate" p) [e] [] pos) (lowI (kx X bb) (aiEnum t)) := (pi_enum hg hm ha hs).weak fun σ H R ⟨τ, S, Q, Rr, so, q, k⟩ => ⟨τ, S, _, Rr, so, q, fun vs H1 ds S1 so1 st1 r1 ⟨d, xs, e, el, q1⟩ => by
    subst e
    cases r1 with
    | cons r rr =>
      cases rr
      obtain ⟨a, ws, rfl, hl, rs⟩ := rel_lstE so1 r el
      refine ⟨a, ws, rfl, hl, k _ H1 _ _ S1 so1 st1 (fun H' S' so' st' g => ?_) q1⟩
      obtain ⟨a', us, ea, hl', rs'⟩ := rel_lstE so' (r.step st') g
      cases ea
      have W := walk_enum (K := X.K) (a := a) (xs := us)
      refine ⟨fun i x hx => ?_, ?_⟩
      · obtain ⟨y, hy, rfl⟩ := enumA_get hx
        obtain ⟨u, hu, ru⟩ := rs'.get hy
        refine ⟨W.goes i H' (List.getElem?_eq_some_iff.mp hu).1 hl', fun v H'' hv => ?_⟩
        obtain ⟨T, x1, y1, rfl, hT, rfl, e1, e2⟩ := W.yields i H' v H'' (List.getElem?_eq_some_iff.mp hu).1 hl' hv
        cases e1
        have e3 : us[i]? = some y1 := e2
        rw [hu] at e3
        cases e3
        exact ⟨stok_new so' hT, step_new so' hT, rel_tup so' hT (.cons (.int _) (.cons ru .nil))⟩
      · rw [enumA_len, ← rs'.length]
        exact W.stops H' hl'⟩
/-- zip of two lists, of two tuples -/
def zipA (xs ys : List AV) : List AV := List.zipWith (fun x y => .tup [x, y]) xs ys
theorem zipA_get {xs ys : List AV} {i : Nat} {z : AV} (h : (zipA xs ys)[i]? = some z) : ∃ x y, xs[i]? = some x ∧ ys[i]? = some y ∧ z = .tup [x, y] := by
  unfold zipA at h
  rw [List.getElem?_zipWith] at h
  cases hx : xs[i]? with
  | none => rw [hx] at h; cases h
  | some x =>
    cases hy : ys[i]? with
    | none => rw [hx, hy] at h; cases h
    | some y => rw [hx, hy] at h; cases h; exact ⟨x, y, rfl, rfl, rfl⟩
end
end L3

set_option Elab.async false
set_option linter.all false
set_option maxRecDepth 100000
set_option maxHeartbeats 2000000
set_option autoImplicit false
/-! L3G: promises of defs that are called where no guard stands (nothing is being shown): what repr wants. The same rule for a def, a call, the law's own call. -/
namespace L3
open PySem L2 PyProof.Rows
variable {bb : Birth}

/-- a def's promise where no guard stands -/
structure FnG (P : Program) (w : World) (K : PySem.W.Frag) (mg : Str → Option Value) (base : Heap) (k : Nat) (f : Addr) (fd : FuncData) (ps : List Str) (sp : Sp) : Prop where
  len : ∀ vs H Q E, sp vs H Q E → vs.length = ps.length
  go : ∀ (A : Around), A.guards = some [] → Room k A → ∀ (out : List Env) (s : Shared) (H : Hp) (ar : Args) (us : List Value) (vs : List V) (Q : VK) (E : XK), Env0 P w K mg base A out s H → BindsTo s fd ar (ps.zip us) → Vals vs us → sp vs H Q E →
    codeAny (model P w) A (.call (.ref f) ar) (fun r s' => CR CX0 out P w H s Q E r s') s
section
variable {P : Program} {w : World} {K : PySem.W.Frag} {mg : Str → Option Value} {base : Heap}
theorem FnG.up {j k : Nat} {f : Addr} {fd : FuncData} {ps : List Str} {sp : Sp} (F : FnG P w K mg base j f fd ps sp) (h : j ≤ k) : FnG P w K mg base k f fd ps sp := ⟨F.len, fun A g hr => F.go A g (hr.mono h)⟩
/-- a def by its body -/
theorem fng_of {x qual : Str} {st : Stmt} {f : Addr} {fd : FuncData} {N ps : List Str} {k : Nat} {sp : Sp} (F : L2.Fun K x qual st f fd) (S : FnScope N ps (defScope st)) (len : ∀ vs H Q E, sp vs H Q E → vs.length = ps.length)
    (body : ∀ (cdv : Value) (A : Around), A.guards = some [] → ∀ (out : List Env) (s : Shared) (H : Hp) (vs : List V) (Q : VK) (E : XK), Room k (A.deeper (envOfC qual (defScope st) s.heap.objs.size f cdv)) → sp vs H Q E →
      ∃ t, PSs (cxOf CX0 P w K mg base N qual (defScope st) f cdv A out s H E).nox (defBody st) t ∧ t { nx := fun _ H' => Q .non H', rt := Q } (L2.start N vs) H) : FnG P w K mg base (k + 1) f fd ps sp := by
  obtain ⟨oc, od, kV, doc, pm, an, cdv, ct, osl, rfl, lk, hcd⟩ := F.ex
  refine ⟨len, fun A hgd hr out s H ar us vs Q E e0 hb rv h => ?_⟩
  have kin : K.In s.heap := e0.mod.kin.keeps fun b o z => (e0.bs b o z).1
  have nol : s.heap.NoLimit := e0.mod.nolimit.keeps fun b o z => (e0.bs b o z).1
  have kinds : ∀ y ∈ ps.zip us, (defScope st).names.lookup y.1 = some .local ∨ ((defScope st).names.lookup y.1 = some .cell ∧ ((cellsFrom (s.heap.objs.size + 1) (defScope st).names []).lookup y.1).isSome = true) := by
    intro z hz
    cases S.par z.1 (List.of_mem_zip (a := z.1) (b := z.2) hz).1 with
    | inl q => exact Or.inl q
    | inr q => exact Or.inr ⟨q, PySem.W.cellsFrom_some _ _ _ (Or.inl q)⟩
  refine codeAny_call_function hr.depth (kin _ _ lk) rfl S.co S.gen rfl (PySem.W.codeRec_of kin hcd) (hb _ _ _ _ ?_)
  refine wpAny_newFunctionEnv_cells S.kind kinds fun env he s1 ic => ?_
  subst he
  refine ⟨nol.keeps ic.toInCall.keep, codeAny_func ?_⟩
  obtain ⟨t, ht, q⟩ := body cdv A hgd out s H vs Q E (hr.deeper _) h
  have J0 := inv_start (CX := CX0) (E := E) S hr.hd e0 (len vs H Q E h) rv ic
  refine wpAny_mono (ht.nox.run [] s1 (L2.start N vs) H _ J0 q) (fun fl s2 z => ?_) fun e s2 z => z
  cases fl with
  | brk => obtain ⟨_, _, _, z⟩ := z; cases z
  | cont => obtain ⟨_, _, _, z⟩ := z; cases z
  | next => obtain ⟨σ2, H2, J, z⟩ := z; exact ⟨V.non, H2, J.os, J.bare, J.base, J.hok, rfl, z⟩
  | ret u => obtain ⟨v, σ2, H2, J, r2, z⟩ := z; exact ⟨v, H2, J.os, J.bare, J.base, J.hok, r2, z⟩
/-- the callee runs -/
theorem run_g {X : Cx} {k : Nat} {f : Addr} {fd : FuncData} {ps : List Str} {sp : Sp} {pins : List (Addr × Obj)} {σ : L2.St} {H : Hp} {s : Shared} {Q : VK} {us : List Value} {vs : List V} (F : FnG X.prog X.w X.K X.mg X.base k f fd ps sp) (hg : X.A.guards = some [])
    (hr : Room k X.A) (hb : Binds X.K fd ps []) (I : Inv X pins σ H s) (r : Vals vs us) (h : sp vs H Q E0) : wpAny (model X.prog X.w) X.A (call (.ref f) us) (fun u s' => EP X pins σ Q u s') X.xe s := by
  have hl : (us ++ []).length = ps.length := by rw [List.append_nil, ← r.length]; exact F.len _ _ _ _ h
  have b := hb s us I.kIn hl
  rw [List.append_nil] at b
  refine wpAny_call (codeAny_mono (F.go X.A hg hr X.stack s H ⟨us, []⟩ us vs Q E0 I.env0 b r h) fun r' s' z => ?_)
  cases r' with
  | error e => exact False.elim z
  | ok fl =>
    cases fl with
    | brk => exact z.elim
    | cont => exact z.elim
    | next => exact z.elim
    | ret u => exact I.after z
section
variable {X : Cx} {k : Nat} {f : Addr} {fd : FuncData} {ps : List Str} {sp : Sp} {x : Str} {p pos : Pos} {e : Expr} {es : List Expr} {t : TA}
theorem pe_callG (F : FnG X.prog X.w X.K X.mg X.base k f fd ps sp) (gd : X.A.guards = some []) (hr : Room k X.A) (hg : Gl X x) (hm : X.mg x = some (.ref f)) (hk : PySem.W.keepIn X.K (.ref f) = true) (hb : Binds X.K fd ps [])
    (ha : PA X (e :: es) t) (hdb : (x == ("__debug__" : Str)) = false := by decide) (he : starEach (e :: es) X.env = (false, eval e X.env) :: starEach es X.env := by rfl) (hpl : (backTo pos (starEach es X.env)).any (·.1) = false := by rfl) :
    PE X (.Call (.Name x p) (e :: es) [] pos) (fun σ H Q => t σ H fun vs H1 => sp vs H1 Q E0) := ⟨fun pins s σ H Q I h =>
  wpAny_Call_Name_kw (ld_glob I hg hm (PySem.W.callWith_K (h₀ := X.base) I.ok.mod.kin hk (thn (ha.run pos pins s σ H _ I h) fun us s1 z => by
    obtain ⟨vs, H1, I1, r1, q1⟩ := z
    exact ⟨I1.kIn, run_g F gd hr hb I1 r1 q1⟩) he hpl) hdb)⟩
theorem pe_callG0 (F : FnG X.prog X.w X.K X.mg X.base k f fd ps sp) (gd : X.A.guards = some []) (hr : Room k X.A) (hg : Gl X x) (hm : X.mg x = some (.ref f)) (hk : PySem.W.keepIn X.K (.ref f) = true) (hb : Binds X.K fd ps [])
    (hdb : (x == ("__debug__" : Str)) = false := by decide) : PE X (.Call (.Name x p) [] [] pos) (fun _ H Q => sp [] H Q E0) := ⟨fun pins s σ H Q I h =>
  wpAny_Call_Name_kw (ld_glob I hg hm (PySem.W.callWith_K0 I.kIn hk (run_g (us := []) F gd hr hb I .nil h)) hdb)⟩
end
/-- the law's own call -/
theorem law_callG {mb : Str → Option Value} {k : Nat} {fa a : Addr} {fd : FuncData} {x : Str} {sp : Sp} {s₁ : Shared} {vs : List Value} {ns : List Int}
    (KX : K.In s₁.heap) (hns : s₁.heap.Ns mainGlobals mg) (hb : s₁.heap.Ns builtinsNs mb) (hbb : ∀ y : Str, y ≠ "__name__" → mb y = bootBuiltins y) (nol : s₁.heap.NoLimit) (hge : s₁.gens = #[])
    (ha : s₁.heap.get? a = some { cls := .type "list", data := .seq vs.toArray }) (hi : IntsAre vs ns) (hl : ns.length ≤ sizeLine) (hr : Room k callerA)
    (F : ∀ base : Heap, K.In base → base.Ns mainGlobals mg → FnG P w K mg base k fa fd [x] sp) (bind : ∀ (s : Shared) (u : Value), BindsTo s fd ⟨[u], []⟩ [(x, u)])
    (hsp : ∀ H : Hp, Only H → SqL K H a (ns.map V.int) → sp [.ref a] H (fun v _ => v = .bl true) fun _ _ _ => False) :
    codeAny (model P w) callerA (.call (.ref fa) ⟨[.ref a], []⟩) (fun r s' => r = .ok (.ret (.bool true)) ∧ OldK s₁.heap s'.heap ∧ s'.os = s₁.os ∧ AllBare s'.gens) s₁ := by
  have rv := vals_ints hi
  have nlen := hi.length
  suffices core : ∃ H : Hp, Only H ∧ SqL K H a (ns.map V.int) ∧ HOk P w H s₁.heap ∧ (∀ b, H b ≠ none → b = a) ∧ (H a ≠ none → K.lookup a = none) by
    obtain ⟨H, only, hS, hok, own, noK⟩ := core
    have untr : ∀ {b : Addr} {o : Obj} {es : Array DictEntry} {ep : Nat}, s₁.heap.get? b = some o → o.data = .dict es ep → H b = none := by
      intro b o es ep e d
      cases q : H b with
      | none => rfl
      | some u =>
        obtain rfl := own b (by rw [q]; exact Option.some_ne_none _)
        rw [ha] at e
        cases e
        exact (nomatch d)
    have ns' : ∀ {b : Addr} {m : Str → Option Value}, s₁.heap.Ns b m → (hidT s₁.heap H).Ns b m := by
      intro b m hm
      obtain ⟨o, es, ep, e, d, r⟩ := hm
      exact ⟨o, es, ep, hidT_get e (untr e d), d, r⟩
    have kb : K.In (hidT s₁.heap H) := by
      intro b o e
      refine hidT_get (KX b o e) ?_
      cases q : H b with
      | none => rfl
      | some u =>
        obtain rfl := own b (by rw [q]; exact Option.some_ne_none _)
        rw [noK (by rw [q]; exact Option.some_ne_none _)] at e
        cases e
    have m0 : Mod K mg (hidT s₁.heap H) := ⟨kb, ns' hns, ⟨mb, ns' hb, hbb⟩, by obtain ⟨mc, z1, z2⟩ := nol; exact ⟨mc, ns' z1, z2⟩⟩
    have e0 : Env0 P w K mg (hidT s₁.heap H) callerA [] s₁ H := ⟨rfl, m0, fun b o e => of_hidT e, Nat.le_of_eq (hidT_size _ _), trivial, (fun b z => absurd (show b ∈ ([] : List Addr) from z) List.not_mem_nil), hok, AllBare.of_eq hge⟩
    refine codeAny_mono ((F _ kb (ns' hns)).go callerA rfl hr [] s₁ H ⟨[.ref a], []⟩ [.ref a] [.ref a] _ _ e0 (bind s₁ (.ref a)) (.cons rfl .nil) (hsp H only hS)) fun r s2 z => ?_
    cases r with
    | error e => exact False.elim z
    | ok fl =>
      cases fl with
      | brk => exact z.elim
      | cont => exact z.elim
      | next => exact z.elim
      | ret u =>
        obtain ⟨v, H2, os, bare, un, hok2, rr, q⟩ := z
        cases q
        cases rr
        refine ⟨rfl, OldK.of_keep fun b o e => ?_, os, bare⟩
        cases q : H b with
        | none => exact un.keep b o e q (by rintro ⟨⟩) (by rintro ⟨⟩)
        | some u =>
          rcases only b with z | ⟨ob, xs, z⟩
          · rw [q] at z
            cases z
          · obtain ⟨e1, _⟩ := hok b _ z
            obtain ⟨e2, _⟩ := hok2 b _ (un.frzs b ob _ z)
            rw [e] at e1
            cases e1
            exact e2
  cases hk : K.lookup a with
  | some o =>
    have e := KX a o hk
    rw [ha] at e
    cases e
    exact ⟨fun _ => none, fun _ => Or.inl rfl, Or.inr ⟨_, vs.toArray, _, hk, rfl, rfl, rfl, by rw [List.size_toArray, nlen]; exact hl, by simpa using rv⟩, fun b u z => (nomatch z), fun b z => absurd rfl z, fun z => absurd rfl z⟩
  | none =>
    have here : ∀ b, b ≠ a → (fun b => if b = a then some (HO.frz { cls := .type "list", data := .seq vs.toArray } (.lst (ns.map V.int))) else none : Hp) b = none := fun b z => if_neg z
    have there : (fun b => if b = a then some (HO.frz { cls := .type "list", data := .seq vs.toArray } (.lst (ns.map V.int))) else none : Hp) a = some (HO.frz { cls := .type "list", data := .seq vs.toArray } (.lst (ns.map V.int))) := if_pos rfl
    refine ⟨(fun b => if b = a then some (HO.frz { cls := .type "list", data := .seq vs.toArray } (.lst (ns.map V.int))) else none : Hp), fun b => ?_, Or.inl (Or.inr ⟨_, there⟩), fun b u z => ?_, fun b z => ?_, fun _ => rfl⟩
    · by_cases hb : b = a
      · subst hb; exact Or.inr ⟨_, _, there⟩
      · exact Or.inl (here b hb)
    · by_cases hb : b = a
      · subst hb
        have z2 := there.symm.trans z
        cases z2
        exact ⟨ha, by rw [List.length_map]; exact hl, vs, _, rv, ha⟩
      · have z2 := (here b hb).symm.trans z
        cases z2
    · by_cases hb : b = a
      · exact hb
      · exact absurd (here b hb) z
end
/-- the row's end -/
theorem walk_ofG {l : PySem.W.OpenLaw} {n k : Nat} {q : Program} {loose : List Str} {XP : (Str → Option Value) → Heap → Prop} {YP : World → Heap → Prop} {d : DefRec} {K : Params → PySem.W.Frag} {sp : PySem.W.Frag → Sp} {x : Str}
    (hn : l.most = some n) (hn2 : n ≤ sizeLine) (hdf : d.params.defaults = []) (hr : Room k callerA) (hY : ∀ (w : World) (h : Heap), YP w h → (K w.params).In h)
    (F : ∀ (w : World) (mg : Str → Option Value) (fa : Addr) (h : Heap), (K w.params).In h → h.Ns mainGlobals mg → XP mg h → mg d.name = some (.ref fa) →
      ∃ fd : FuncData, (∀ (s : Shared) (u : Value), BindsTo s fd ⟨[u], []⟩ [(x, u)]) ∧ ∀ base : Heap, (K w.params).In base → base.Ns mainGlobals mg → FnG l.prog w (K w.params) mg base k fa fd [x] (sp (K w.params)))
    (hsp : ∀ (K : PySem.W.Frag) (H : Hp) (a : Addr) (ns : List Int), ns.length ≤ n → Only H → SqL K H a (ns.map V.int) → sp K [.ref a] H (fun v _ => v = .bl true) fun _ _ _ => False) :
    PySem.W.WalkO q loose XP YP l.row.toRowW d [] (fun f vs => PySem.call f vs) := by
  refine Att.attach_call hn hdf fun w s0 s1 mg mb fa o pm cd doc a vs ns G Y ho hd hcd hmg hobj hints hlen hgen => ?_
  obtain ⟨fd, bind, hF⟩ := F w mg fa _ (hY w _ Y) G.T.g G.X hmg
  exact law_callG (hY w _ Y) G.T.g G.T.b G.T.builtins G.T.nolimit hgen hobj hints (Nat.le_trans hlen hn2) hr hF bind fun H only hS => hsp (K w.params) H a ns hlen only hS

/-! ### over L3 -/
structure Fn4 (P : Program) (w : World) (K : PySem.W.Frag) (mg : Str → Option Value) (base : Heap) (k : Nat) (x : Str) (ps : List Str) (asp : ASp) : Prop where
  ex : ∃ (f : Addr) (fd : FuncData), FnG P w K mg base k f fd ps (spOf K asp) ∧ mg x = some (.ref f) ∧ PySem.W.keepIn K (.ref f) = true ∧ Binds K fd ps []
theorem Fn4.up {P : Program} {w : World} {K : PySem.W.Frag} {mg : Str → Option Value} {base : Heap} {j k : Nat} {x : Str} {ps : List Str} {asp : ASp} (F : Fn4 P w K mg base j x ps asp) (h : j ≤ k) : Fn4 P w K mg base k x ps asp :=
  let ⟨f, fd, G, r⟩ := F.ex
  ⟨f, fd, G.up h, r⟩
/-- THE RULE for a def over L3 -/
theorem _root_.L2.Fun.ok4 {P : Program} {w : World} {K : PySem.W.Frag} {mg : Str → Option Value} {base : Heap} {x qual : Str} {st : Stmt} {f : Addr} {fd : FuncData} {N ps : List Str} {k : Nat} {asp : ASp} (F : L2.Fun K x qual st f fd) (S : FnScope N ps (defScope st))
    (len : ∀ ds S Q, asp ds S Q → ds.length = ps.length)
    (hbody : ∀ (cdv : Value) (A : Around), A.guards = some [] → ∀ (outer : List Env) (s : Shared) (H : Hp) (E : XK), Room k (A.deeper (envOfC qual (defScope st) s.heap.objs.size f cdv)) →
      ∃ as, PSs (cxOf CX0 P w K mg base N qual (defScope st) f cdv A outer s H E).nox (defBody st) (lowS ⟨K, b0⟩ as) ∧ ∀ ds S Q, asp ds S Q → as { nx := fun _ S' => RtW Q .non S', rt := RtW Q } (startA N ds) S) : FnG P w K mg base (k + 1) f fd ps (spOf K asp) :=
  fng_of F S (fun vs H Q E h => by obtain ⟨ds, S, Q', r, so, q, _⟩ := h; rw [r.length]; exact len ds S Q' q) fun cdv A gd outer s H vs QH E hr h => by
    obtain ⟨ds, S, Q, r, so, q, k⟩ := h
    obtain ⟨as, hp, ha⟩ := hbody cdv A gd outer s H E hr
    have rt : ∀ v H' d S', StOk K H' S' → Step H S H' S' → RelA K H' S' v d → RtW Q d S' → QH v H' := fun v H' d S' so' st' r' ⟨d2, S2, sb, hd, q2⟩ => by
      rcases hd with rfl | ⟨l, ds, rfl, hl, hn, rfl⟩
      · exact k d2 S2 v H' (so'.sub sb) (st'.subR sb) (r'.sub sb) q2
      · obtain rfl := rel_refE r'
        obtain ⟨vs, hv, rv⟩ := so' l _ hl
        exact k _ S2 _ H' (so'.sub sb) (st'.subR sb) (.lst hv hn (rv.sub sb)) q2
    exact ⟨_, hp, startA N ds, S, _, rp_start (k := ⟨K, b0⟩) trivial r, so, ha ds S Q q, fun σ' H' τ' S' so' st' _ q' => rt .non H' .non S' so' st' .non q', rt, fun _ _ _ _ _ _ _ z => z.elim, fun _ _ _ _ _ _ _ z => z.elim⟩
section
variable {X : Cx} {e : Expr} {es : List Expr} {pos p : Pos}
theorem f_call {k : Nat} {x : Str} {ps : List Str} {asp : ASp} {t : AA} (F : Fn4 X.prog X.w X.K X.mg X.base k x ps asp) (gd : X.A.guards = some []) (hr : Room k X.A) (ha : PA X (e :: es) (lowA (kx X bb) t)) (hg : Gl X x := by rfl)
    (hdb : (x == ("__debug__" : Str)) = false := by decide) (he : starEach (e :: es) X.env = (false, eval e X.env) :: starEach es X.env := by rfl) (hpl : (backTo pos (starEach es X.env)).any (·.1) = false := by rfl) :
    PE X (.Call (.Name x p) (e :: es) [] pos) (low (kx X bb) (aCall asp t)) := by
  obtain ⟨f, fd, G, hm, hk, hb⟩ := F.ex
  exact (pe_callG G gd hr hg hm hk hb ha hdb he hpl).weak fun σ H QH ⟨τ, S, Q, R, so, q, k⟩ => ⟨τ, S, _, R, so, q, fun vs H1 ds S1 so1 st1 r1 q1 =>
    ⟨ds, S1, Q, r1, so1, q1, fun d S' v H' so' st' r' q' => k v H' d S' so' (st1.trans st') r' q'⟩⟩
theorem f_call0 {k : Nat} {x : Str} {ps : List Str} {asp : ASp} (F : Fn4 X.prog X.w X.K X.mg X.base k x ps asp) (gd : X.A.guards = some []) (hr : Room k X.A) (hg : Gl X x := by rfl) (hdb : (x == ("__debug__" : Str)) = false := by decide) :
    PE X (.Call (.Name x p) [] [] pos) (low (kx X bb) (aCall asp aNil)) := by
  obtain ⟨f, fd, G, hm, hk, hb⟩ := F.ex
  exact (pe_callG0 G gd hr hg hm hk hb hdb).weak fun σ H QH ⟨τ, S, Q, R, so, q, k⟩ => ⟨[], S, Q, .nil, so, q, fun d S' v H' so' st' r' q' => k v H' d S' so' st' r' q'⟩
end
/-- the end, with an L3 promise of the law: the script is a list that may be read -/
theorem sp_end {K : PySem.W.Frag} {asp : ASp} {H : Hp} {a : Addr} {ns : List Int} (only : Only H) (hS : SqL K H a (ns.map V.int)) (h : ∀ S Q, (∀ S', Q (.bl true) S') → asp [.rol (ns.map .int)] S Q) :
    spOf K asp [.ref a] H (fun v _ => v = .bl true) fun _ _ _ => False := by
  have allInts : ∀ ns : List Int, RelAs K H (fun _ => none) (ns.map V.int) (ns.map AV.int) := fun ns => by
    induction ns with
    | nil => exact .nil
    | cons n r ih => exact .cons (.int n) ih
  have r : RelA K H (fun _ => none) (.ref a) (.rol (ns.map .int)) := by
    rcases hS with h | h
    · exact .rol h rfl (allInts ns)
    · exact .rolK h (allInts ns)
  exact ⟨_, fun _ => none, fun d _ => d = .bl true, .cons r .nil, fun b o z => (nomatch z), h _ _ fun S' => rfl, fun d S' v H' so' st' r' e => by subst e; exact rel_blE r'⟩
end L3

set_option Elab.async false
set_option linter.all false
set_option maxRecDepth 100000
set_option maxHeartbeats 2000000
set_option autoImplicit false
/-! L3D: operators, calls of builtins, methods, slices, comprehensions over L3. -/
namespace L3
open PySem L2
variable {bb : Birth}

/-! ### data -/
mutual
def toD : AV → PyData
  | .non => .none
  | .bl b => .bool b
  | .int i => .int i
  | .str x => .str x
  | .tup xs => .tuple (toDs xs)
  | .lst xs => .list (toDs xs)
  | .rol xs => .list (toDs xs)
  | .ref _ => .none
  | .ty _ => .none
def toDs : List AV → List PyData
  | [] => []
  | x :: xs => toD x :: toDs xs
end
mutual
/-- data alone: no address within -/
def flatA : AV → Bool
  | .tup xs => flatAs xs
  | .lst xs => flatAs xs
  | .rol xs => flatAs xs
  | .ref _ => false
  | .ty _ => false
  | _ => true
def flatAs : List AV → Bool
  | [] => true
  | x :: xs => flatA x && flatAs xs
end
def derefA (S : Store) : AV → AV
  | .ref l => match S l with
    | some (.lst xs) => .lst xs
    | _ => .ref l
  | x => x
theorem derefA_ref {S : Store} {l : Addr} {xs : List AV} (h : S l = some (.lst xs)) : derefA S (.ref l) = .lst xs := by
  show (match S l with | some (.lst xs) => AV.lst xs | _ => .ref l) = .lst xs
  rw [h]
mutual
theorem RelA.dp {K : PySem.W.Frag} {H : Hp} {S : Store} : ∀ {v : V} {d : AV}, RelA K H S v d → flatA d = true → Dp K H v (toD d)
  | _, _, .non, _ => .non
  | _, _, .bl b, _ => .bl b
  | _, _, .int i, _ => .int i
  | _, _, .str x, _ => .str x
  | _, _, .ty n, e => by cases e
  | _, _, .ref a, e => by cases e
  | _, _, .tup h n r, e => .tup (.inl h) (RelAs.dp r e)
  | _, _, .tupK h r, e => .tup (.inr h) (RelAs.dp r e)
  | _, _, .lst h n r, e => .lst (.inl (.inl h)) (RelAs.dp r e)
  | _, _, .rol h n r, e => .lst (.inl h) (RelAs.dp r e)
  | _, _, .rolK h r, e => .lst (.inr h) (RelAs.dp r e)
theorem RelAs.dp {K : PySem.W.Frag} {H : Hp} {S : Store} : ∀ {vs : List V} {ds : List AV}, RelAs K H S vs ds → flatAs ds = true → DpAll K H vs (toDs ds)
  | _, _, .nil, _ => .nil
  | _, _, .cons r t, e => .cons (RelA.dp r (Bool.and_eq_true_iff.mp e).1) (RelAs.dp t (Bool.and_eq_true_iff.mp e).2)
end
def datA (S : Store) (x : AV) : PyData := toD (derefA S x)
theorem RelA.dpS {K : PySem.W.Frag} {H : Hp} {S : Store} {v : V} {d : AV} (so : StOk K H S) (r : RelA K H S v d) (e : flatA (derefA S d) = true) : Dp K H v (datA S d) := by
  cases d with
  | ref l =>
    unfold datA
    cases z : S l with
    | none => simp only [derefA, z] at e; cases e
    | some o =>
      cases o with
      | lst xs =>
        rw [derefA_ref z] at e ⊢
        obtain rfl := rel_refE r
        obtain ⟨vs, h, q⟩ := so l _ z
        exact .lst (.inl (.inl h)) (q.dp e)
      | dK _ => simp only [derefA, z] at e; cases e
      | ins _ _ => simp only [derefA, z] at e; cases e
      | hid => simp only [derefA, z] at e; cases e
  | non => exact r.dp e
  | bl _ => exact r.dp e
  | int _ => exact r.dp e
  | str _ => exact r.dp e
  | tup _ => exact r.dp e
  | lst _ => exact r.dp e
  | rol _ => exact r.dp e
  | ty _ => exact r.dp e

/-! ### operators -/
/-- a list that stands as a list of the heap -/
def wstA (S : Store) : AV → Option (List AV)
  | .lst xs => some xs
  | .ref l => match S l with
    | some (.lst xs) => some xs
    | _ => none
  | _ => none
theorem wstA_ref {S : Store} {l : Addr} {xs : List AV} (h : S l = some (.lst xs)) : wstA S (.ref l) = some xs := by
  show (match S l with | some (.lst xs) => some xs | _ => none) = some xs
  rw [h]
theorem rel_wstE {K : PySem.W.Frag} {H : Hp} {S : Store} {v : V} {d : AV} {ds : List AV} (so : StOk K H S) (r : RelA K H S v d) (e : wstA S d = some ds) : ∃ a vs, v = .ref a ∧ H a = some (.lst vs) ∧ RelAs K H S vs ds := by
  cases r with
  | lst h n q => cases e; exact ⟨_, _, rfl, h, q⟩
  | ref a =>
    have e' : (match S a with | some (.lst xs) => some xs | _ => none) = some ds := e
    cases z : S a with
    | none => rw [z] at e'; cases e'
    | some o =>
      rw [z] at e'
      cases o with
      | lst xs =>
        cases e'
        obtain ⟨vs, h, q⟩ := so a _ z
        exact ⟨_, _, rfl, h, q⟩
      | dK _ => cases e'
      | ins _ _ => cases e'
      | hid => cases e'
  | rol h n q => cases e
  | rolK h q => cases e
  | non => cases e
  | bl _ => cases e
  | int _ => cases e
  | str _ => cases e
  | ty _ => cases e
  | tup _ _ _ => cases e
  | tupK _ _ => cases e
def badA : Ans := ⟨False, .non⟩
def catA : Option (List AV) → Option (List AV) → Ans
  | some xs, some ys => ⟨xs.length + ys.length ≤ sizeLine, .lst (xs ++ ys)⟩
  | _, _ => badA
def addA (x y : AV) (S : Store) : Ans := match x with
  | .int i => match y with
    | .int j => ⟨True, .int (i + j)⟩
    | _ => badA
  | .str i => match y with
    | .str j => ⟨i.length + j.length ≤ sizeLine, .str (i ++ j)⟩
    | _ => badA
  | .tup xs => match y with
    | .tup ys => ⟨xs.length + ys.length ≤ sizeLine, .tup (xs ++ ys)⟩
    | _ => badA
  | .lst xs => catA (some xs) (wstA S y)
  | .ref l => catA (wstA S (.ref l)) (wstA S y)
  | _ => badA
section
variable {X : Cx}
theorem oa_cat {x y : V} {dx dy : AV} {S : Store} {H : Hp} {QH : VK} (so : StOk X.K H S) (rx : RelA X.K H S x dx) (ry : RelA X.K H S y dy) (ok : (catA (wstA S dx) (wstA S dy)).ok)
    (k : ∀ v H', StOk X.K H' S → Step H S H' S → RelA X.K H' S v (catA (wstA S dx) (wstA S dy)).v → QH v H') : rCat x y H QH := by
  cases ex : wstA S dx with
  | none => rw [ex] at ok; exact ok.elim
  | some xs =>
    cases ey : wstA S dy with
    | none => rw [ex, ey] at ok; exact ok.elim
    | some ys =>
      rw [ex, ey] at ok k
      obtain ⟨a, vs, rfl, ha, ra⟩ := rel_wstE so rx ex
      obtain ⟨b, ws, rfl, hb, rb⟩ := rel_wstE so ry ey
      refine ⟨a, b, vs, ws, rfl, rfl, ha, hb, by rw [ra.length, rb.length]; exact ok, fun p hp => ?_⟩
      exact k _ _ (stok_new so hp) (step_new so hp) (rel_lst so hp (ra.app rb))
theorem o_add : OpR X (binaryOp .Add) (lowO X.K addA) := opr_weak (OpR.or op_add (OpR.or op_add_str (OpR.or op_catA op_cat))) fun x y H QH ⟨dx, dy, S, rx, ry, so, ok, k⟩ => by
  cases dx with
  | int i =>
    cases dy with
    | int j => obtain rfl := rel_intE rx; obtain rfl := rel_intE ry; exact .inl ⟨i, j, rfl, rfl, k _ H so .refl (.int _)⟩
    | _ => exact ok.elim
  | str i =>
    cases dy with
    | str j => obtain rfl := rel_strE rx; obtain rfl := rel_strE ry; exact .inr (.inl ⟨i, j, rfl, rfl, ok, k _ H so .refl (.str _)⟩)
    | _ => exact ok.elim
  | tup xs =>
    cases dy with
    | tup ys =>
      obtain ⟨a, vs, rfl, ha, ra⟩ := rel_tupE rx
      obtain ⟨b, ws, rfl, hb, rb⟩ := rel_tupE ry
      refine .inr (.inr (.inl ⟨a, b, vs, ws, rfl, rfl, ha, hb, by rw [ra.length, rb.length]; exact ok, fun e => ?_, fun _ e => ?_, fun _ _ p hp => ?_⟩))
      · subst e; cases ra; exact k _ H so .refl ry
      · subst e
        cases rb
        refine k _ H so .refl ?_
        show RelA X.K H S (.ref a) (.tup (xs ++ []))
        rw [List.append_nil]
        exact rx
      · exact k _ _ (stok_new so hp) (step_new so hp) (rel_tup so hp (ra.app rb))
    | _ => exact ok.elim
  | lst xs => exact .inr (.inr (.inr (oa_cat (dx := .lst xs) so rx ry ok k)))
  | ref l => exact .inr (.inr (.inr (oa_cat (dx := .ref l) so rx ry ok k)))
  | _ => exact ok.elim
/-- an operation on two ints -/
def intA (C : Int → Int → Prop) (g : Int → Int → Int) (x y : AV) (_ : Store) : Ans := match x with
  | .int i => match y with
    | .int j => ⟨C i j, .int (g i j)⟩
    | _ => badA
  | _ => badA
theorem o_int {f : Value → Value → Sem Value} {C : Int → Int → Prop} {g : Int → Int → Int} (h : OpR X f (rI C fun i j => .int (g i j))) : OpR X f (lowO X.K (intA C g)) := opr_weak h fun x y H QH ⟨dx, dy, S, rx, ry, so, ok, k⟩ => by
  cases dx with
  | int i =>
    cases dy with
    | int j => obtain rfl := rel_intE rx; obtain rfl := rel_intE ry; exact ⟨i, j, rfl, rfl, ok, k _ H so .refl (.int _)⟩
    | _ => exact ok.elim
  | _ => exact ok.elim
theorem rI_tt {f : Value → Value → Sem Value} {g : Int → Int → V} (h : OpR X f (rI0 g)) : OpR X f (rI (fun _ _ => True) g) := opr_weak h fun x y H Q ⟨i, j, e1, e2, _, q⟩ => ⟨i, j, e1, e2, q⟩
def subA := intA (fun _ _ => True) fun i j => i - j
theorem o_sub : OpR X (binaryOp .Sub) (lowO X.K subA) := o_int (rI_tt op_sub)
def CMulB (i j : Int) : Prop := CMul i j ∨ CMulW i j
def mulA := intA CMulB fun i j => i * j
theorem o_mul : OpR X (binaryOp .Mult) (lowO X.K mulA) := o_int (opr_weak (OpR.or op_mul op_mulW) fun x y H Q ⟨i, j, e1, e2, c, q⟩ => by
  rcases c with c | c
  · exact .inl ⟨i, j, e1, e2, c, q⟩
  · exact .inr ⟨i, j, e1, e2, c, q⟩)
def modA := intA (fun _ j => 0 < j) fun i j => i % j
theorem o_mod : OpR X (binaryOp .Mod) (lowO X.K modA) := o_int op_mod
def fdivA := intA CDivW fun i j => i / j
theorem o_fdiv : OpR X (binaryOp .FloorDiv) (lowO X.K fdivA) := o_int op_fdivW
def CPowB (i j : Int) : Prop := 0 ≤ j ∧ (Builtin.Int.intBits i : Int) * j ≤ 2 ^ 27
def powA := intA CPowB fun i j => i ^ j.toNat
theorem op_powB : OpR X (binaryOp .Pow) (rI CPowB fun i j => .int (i ^ j.toNat)) := opI fun _ _ _ _ _ _ _ hc q => PyProof.Rows.pow_int hc.1 hc.2 q
theorem o_pow : OpR X (binaryOp .Pow) (lowO X.K powA) := o_int op_powB
def negA (x : AV) (_ : Store) : Ans := match x with
  | .int i => ⟨True, .int (-i)⟩
  | _ => badA
theorem o_neg : UnR X (unaryOp .USub) (lowU X.K negA) := unr_weak un_neg fun x H QH ⟨dx, S, rx, so, ok, k⟩ => by
  cases dx with
  | int i => obtain rfl := rel_intE rx; exact ⟨i, rfl, k _ H so .refl (.int _)⟩
  | _ => exact ok.elim
theorem iop_pip {op : Operator} {r : R2} (h : OpR X (inplaceOp op) r) : PIp X op r := fun pins s σ H x y v u Q I rx ry q => h pins s σ H x y v u Q I rx ry q
theorem p_add : PIp X .Add (lowO X.K (intA (fun _ _ => True) fun i j => i + j)) := iop_pip (o_int (rI_tt iop_add))

/-! ### comparisons -/
def okD (S : Store) (x : AV) : Prop := flatA (derefA S x) = true ∧ SeqAt.shaped (datA S x) = true
def eqG (S : Store) (x y : AV) : Ans := ⟨okD S x ∧ okD S y, .bl (PyData.eqv (datA S x) (datA S y))⟩
def eqA (x y : AV) (S : Store) : Ans := match x with
  | .int i => match y with
    | .int j => ⟨True, .bl (decide (i = j))⟩
    | y => eqG S (.int i) y
  | .str i => match y with
    | .str j => ⟨True, .bl (decide (i = j))⟩
    | y => eqG S (.str i) y
  | x => eqG S x y
def neA (x y : AV) (S : Store) : Ans := match x with
  | .int i => match y with
    | .int j => ⟨True, .bl (!decide (i = j))⟩
    | y => ⟨(eqG S (.int i) y).ok, .bl (!PyData.eqv (datA S (.int i)) (datA S y))⟩
  | .str i => match y with
    | .str j => ⟨True, .bl (!decide (i = j))⟩
    | y => ⟨(eqG S (.str i) y).ok, .bl (!PyData.eqv (datA S (.str i)) (datA S y))⟩
  | x => ⟨(eqG S x y).ok, .bl (!PyData.eqv (datA S x) (datA S y))⟩
theorem dec_intV {i j : Int} : decide (V.int i = V.int j) = decide (i = j) := by simp
theorem dec_strV {i j : Str} : decide (V.str i = V.str j) = decide (i = j) := by simp
theorem o_eqG {x y : V} {dx dy : AV} {S : Store} {H : Hp} {QH : VK} (so : StOk X.K H S) (rx : RelA X.K H S x dx) (ry : RelA X.K H S y dy) (ok : okD S dx ∧ okD S dy)
    (k : QH (.bl (PyData.eqv (datA S dx) (datA S dy))) H) : rEqD X.K x y H QH := ⟨_, _, rx.dpS so ok.1.1, ry.dpS so ok.2.1, ok.1.2, ok.2.2, k⟩
theorem o_neG {x y : V} {dx dy : AV} {S : Store} {H : Hp} {QH : VK} (so : StOk X.K H S) (rx : RelA X.K H S x dx) (ry : RelA X.K H S y dy) (ok : okD S dx ∧ okD S dy)
    (k : QH (.bl (!PyData.eqv (datA S dx) (datA S dy))) H) : rNeD X.K x y H QH := ⟨_, _, rx.dpS so ok.1.1, ry.dpS so ok.2.1, ok.1.2, ok.2.2, k⟩
theorem o_eq (hu : X.A.units + 64 < cLine) : OpR X (compareOp .Eq) (lowO X.K eqA) := opr_weak (OpR.or op_eq (op_eqD hu)) fun x y H QH ⟨dx, dy, S, rx, ry, so, ok, k⟩ => by
  cases dx with
  | int i =>
    cases dy with
    | int j => obtain rfl := rel_intE rx; obtain rfl := rel_intE ry; exact .inl ⟨rfl, by rw [dec_intV]; exact k _ H so .refl (.bl _)⟩
    | _ => exact .inr (o_eqG so rx ry ok (k _ H so .refl (.bl _)))
  | str i =>
    cases dy with
    | str j => obtain rfl := rel_strE rx; obtain rfl := rel_strE ry; exact .inl ⟨rfl, by rw [dec_strV]; exact k _ H so .refl (.bl _)⟩
    | _ => exact .inr (o_eqG so rx ry ok (k _ H so .refl (.bl _)))
  | _ => exact .inr (o_eqG so rx ry ok (k _ H so .refl (.bl _)))
theorem o_ne (hu : X.A.units + 64 < cLine) : OpR X (compareOp .NotEq) (lowO X.K neA) := opr_weak (OpR.or op_ne (op_neD hu)) fun x y H QH ⟨dx, dy, S, rx, ry, so, ok, k⟩ => by
  cases dx with
  | int i =>
    cases dy with
    | int j => obtain rfl := rel_intE rx; obtain rfl := rel_intE ry; exact .inl ⟨rfl, by rw [dec_intV]; exact k _ H so .refl (.bl _)⟩
    | _ => exact .inr (o_neG so rx ry ok (k _ H so .refl (.bl _)))
  | str i =>
    cases dy with
    | str j => obtain rfl := rel_strE rx; obtain rfl := rel_strE ry; exact .inl ⟨rfl, by rw [dec_strV]; exact k _ H so .refl (.bl _)⟩
    | _ => exact .inr (o_neG so rx ry ok (k _ H so .refl (.bl _)))
  | _ => exact .inr (o_neG so rx ry ok (k _ H so .refl (.bl _)))
/-- an order of ints and of texts -/
def ordA (p : Int → Int → Bool) (q : List Nat → List Nat → Bool) (x y : AV) (_ : Store) : Ans := match x with
  | .int i => match y with
    | .int j => ⟨True, .bl (p i j)⟩
    | _ => badA
  | .str i => match y with
    | .str j => ⟨True, .bl (q i.cps.toList j.cps.toList)⟩
    | _ => badA
  | _ => badA
theorem o_ord {f : Value → Value → Sem Value} {p : Int → Int → Bool} {q : List Nat → List Nat → Bool} (h : OpR X f (rI0 fun i j => .bl (p i j))) (h' : OpR X f fun x y H Q => ∃ i j, x = .str i ∧ y = .str j ∧ Q (.bl (q i.cps.toList j.cps.toList)) H) :
    OpR X f (lowO X.K (ordA p q)) := opr_weak (OpR.or h h') fun x y H QH ⟨dx, dy, S, rx, ry, so, ok, k⟩ => by
  cases dx with
  | int i =>
    cases dy with
    | int j => obtain rfl := rel_intE rx; obtain rfl := rel_intE ry; exact .inl ⟨i, j, rfl, rfl, k _ H so .refl (.bl _)⟩
    | _ => exact ok.elim
  | str i =>
    cases dy with
    | str j => obtain rfl := rel_strE rx; obtain rfl := rel_strE ry; exact .inr ⟨i, j, rfl, rfl, k _ H so .refl (.bl _)⟩
    | _ => exact ok.elim
  | _ => exact ok.elim
def ltA := ordA (fun i j => decide (i < j)) fun i j => decide (i < j)
def leA := ordA (fun i j => decide (i ≤ j)) fun i j => !decide (j < i)
def gtA := ordA (fun i j => decide (j < i)) fun i j => decide (j < i)
def geA := ordA (fun i j => decide (j ≤ i)) fun i j => !decide (i < j)
theorem o_lt : OpR X (compareOp .Lt) (lowO X.K ltA) := o_ord op_lt op_lt_str
theorem o_le : OpR X (compareOp .LtE) (lowO X.K leA) := o_ord op_le op_le_str
theorem o_gt : OpR X (compareOp .Gt) (lowO X.K gtA) := o_ord op_gt op_gt_str
theorem o_ge : OpR X (compareOp .GtE) (lowO X.K geA) := o_ord op_ge op_ge_str
/-- is None -/
def nonA : AV → Bool
  | .non => true
  | _ => false
def isA (x y : AV) (_ : Store) : Ans := ⟨y = .non, .bl (nonA x)⟩
def isntA (x y : AV) (_ : Store) : Ans := ⟨y = .non, .bl (!nonA x)⟩
theorem rel_non {K : PySem.W.Frag} {H : Hp} {S : Store} {v : V} {d : AV} (r : RelA K H S v d) : decide (v = .non) = nonA d := by
  cases r <;> rfl
theorem o_is : OpR X (compareOp .Is) (lowO X.K isA) := opr_weak op_isN fun x y H QH ⟨dx, dy, S, rx, ry, so, ok, k⟩ => by
  have ok' : dy = .non := ok
  subst ok'
  exact ⟨rel_nonE ry, by rw [rel_non rx]; exact k _ H so .refl (.bl _)⟩
theorem o_isnt : OpR X (compareOp .IsNot) (lowO X.K isntA) := opr_weak op_notN fun x y H QH ⟨dx, dy, S, rx, ry, so, ok, k⟩ => by
  have ok' : dy = .non := ok
  subst ok'
  exact ⟨rel_nonE ry, by rw [rel_non rx]; exact k _ H so .refl (.bl _)⟩
/-- one sign in a text -/
def inSA (x y : AV) (_ : Store) : Ans := match x with
  | .str i => match y with
    | .str j => ⟨∃ c, i = ⟨#[c]⟩, .bl (decide (i.cps.toList.headD 0 ∈ j.cps.toList))⟩
    | _ => badA
  | _ => badA
theorem o_inS : OpR X (compareOp .In) (lowO X.K inSA) := opr_weak op_in_sign fun x y H QH ⟨dx, dy, S, rx, ry, so, ok, k⟩ => by
  cases dx with
  | str i =>
    cases dy with
    | str j =>
      obtain ⟨c, rfl⟩ := ok
      obtain rfl := rel_strE rx
      obtain rfl := rel_strE ry
      exact ⟨c, j, rfl, rfl, k _ H so .refl (.bl _)⟩
    | _ => exact ok.elim
  | _ => exact ok.elim

/-! ### subscripts -/
def ixL (o : Option (List AV)) (y : AV) : Ans := match o with
  | some xs => match y with
    | .int i => ⟨(atI xs i).isSome = true, (atI xs i).getD .non⟩
    | _ => badA
  | none => badA
def ixA (x y : AV) (S : Store) : Ans := match x with
  | .tup xs => ixL (some xs) y
  | .str z => match y with
    | .int i => ⟨z.length ≤ sizeLine ∧ (atI z.cps.toList i).isSome = true, .str ⟨#[(atI z.cps.toList i).getD 0]⟩⟩
    | _ => badA
  | x => ixL (lstA S x) y
theorem atI_rel {K : PySem.W.Frag} {H : Hp} {S : Store} {vs : List V} {ds : List AV} {i : Int} {d : AV} (r : RelAs K H S vs ds) (h : atI ds i = some d) : ∃ v, atI vs i = some v ∧ RelA K H S v d := by
  unfold atI at h ⊢
  rw [r.length]
  cases z : ixN ds.length i with
  | none => rw [z] at h; cases h
  | some j => rw [z] at h; exact r.get h
theorem ix_lst {x y : V} {dx dy : AV} {S : Store} {H : Hp} {QH : VK} (so : StOk X.K H S) (rx : RelA X.K H S x dx) (ry : RelA X.K H S y dy) (ok : (ixL (lstA S dx) dy).ok)
    (k : ∀ v H', StOk X.K H' S → Step H S H' S → RelA X.K H' S v (ixL (lstA S dx) dy).v → QH v H') : rIxL X.K x y H QH := by
  cases ex : lstA S dx with
  | none => rw [ex] at ok; exact ok.elim
  | some xs =>
    rw [ex] at ok k
    cases dy with
    | int i =>
      obtain rfl := rel_intE ry
      obtain ⟨a, vs, rfl, ha, ra⟩ := rel_lstE so rx ex
      have ok' : (atI xs i).isSome = true := ok
      obtain ⟨d, hd⟩ := Option.isSome_iff_exists.mp ok'
      obtain ⟨v, hv, rv⟩ := atI_rel ra hd
      refine ⟨a, vs, i, v, rfl, rfl, ha, hv, k v H so .refl ?_⟩
      show RelA X.K H S v ((atI xs i).getD .non)
      rw [hd]
      exact rv
    | _ => exact ok.elim
theorem o_ix : IxR X (lowO X.K ixA) := ixr_weak ix_seq fun x y H QH ⟨dx, dy, S, rx, ry, so, ok, k⟩ => by
  cases dx with
  | tup xs =>
    cases dy with
    | int i =>
      obtain rfl := rel_intE ry
      obtain ⟨a, vs, rfl, ha, ra⟩ := rel_tupE rx
      have ok' : (atI xs i).isSome = true := ok
      obtain ⟨d, hd⟩ := Option.isSome_iff_exists.mp ok'
      obtain ⟨v, hv, rv⟩ := atI_rel ra hd
      refine .inr (.inl ⟨a, vs, i, v, rfl, rfl, ha, hv, k v H so .refl ?_⟩)
      show RelA X.K H S v ((atI xs i).getD .non)
      rw [hd]
      exact rv
    | _ => exact ok.elim
  | str z =>
    cases dy with
    | int i =>
      obtain rfl := rel_intE ry
      obtain rfl := rel_strE rx
      obtain ⟨hz, hs⟩ := ok
      obtain ⟨c, hc⟩ := Option.isSome_iff_exists.mp hs
      refine .inr (.inr ⟨z, i, c, rfl, rfl, hz, hc, k _ H so .refl ?_⟩)
      show RelA X.K H S (.str ⟨#[c]⟩) (.str ⟨#[(atI z.cps.toList i).getD 0]⟩)
      rw [hc]
      exact .str _
    | _ => exact ok.elim
  | _ => exact .inl (ix_lst so rx ry ok k)
end
end L3

set_option Elab.async false
set_option linter.all false
set_option maxRecDepth 100000
set_option maxHeartbeats 2000000
set_option autoImplicit false
/-! L3E: calls of builtins, slices, methods, comprehensions over L3. -/
namespace L3
open PySem L2
variable {bb : Birth}

section
variable {X : Cx} {e a b c : Expr} {es : List Expr} {ta tb tc : AE} {t : AA} {pos p : Pos}
theorem e_cb {x : Str} {id : String} {ar : List AV → Store → Ans} (h : CallR X (.builtin id) (lowC X.K ar)) (hm : X.mg x = none) (hb : bootBuiltins x = some (.builtin id)) (ha : PA X (e :: es) (lowA (kx X bb) t)) (hg : Gl X x := by rfl) (hn : x ≠ ("__name__" : Str) := by decide)
    (hd : (x == ("__debug__" : Str)) = false := by decide) (he : starEach (e :: es) X.env = (false, eval e X.env) :: starEach es X.env := by rfl) (hpl : (backTo pos (starEach es X.env)).any (·.1) = false := by rfl) :
    PE X (.Call (.Name x p) (e :: es) [] pos) (low (kx X bb) (aCB ar t)) := (pe_callB h hg hm hb ha hn hd he hpl).weak low_cb
theorem e_ct {x : Str} {T : String} {ar : List AV → Store → Ans} (h : CallR X (.type T) (lowC X.K ar)) (hm : X.mg x = none) (hb : bootBuiltins x = some (.type T)) (ha : PA X (e :: es) (lowA (kx X bb) t)) (hg : Gl X x := by rfl) (hn : x ≠ ("__name__" : Str) := by decide)
    (hd : (x == ("__debug__" : Str)) = false := by decide) (he : starEach (e :: es) X.env = (false, eval e X.env) :: starEach es X.env := by rfl) (hpl : (backTo pos (starEach es X.env)).any (·.1) = false := by rfl) :
    PE X (.Call (.Name x p) (e :: es) [] pos) (low (kx X bb) (aCB ar t)) := (pe_callTy h hg hm hb ha hn hd he hpl).weak low_cb

/-! ### one argument -/
def one1 (f : AV → Store → Ans) (ds : List AV) (S : Store) : Ans := match ds with
  | [x] => f x S
  | _ => badA
def one2 (f : AV → AV → Store → Ans) (ds : List AV) (S : Store) : Ans := match ds with
  | [x, y] => f x y S
  | _ => badA
theorem rel_one {K : PySem.W.Frag} {H : Hp} {S : Store} {vs : List V} {x : AV} (r : RelAs K H S vs [x]) : ∃ v, vs = [v] ∧ RelA K H S v x := by
  cases r with
  | cons r rr => cases rr; exact ⟨_, rfl, r⟩
theorem rel_two {K : PySem.W.Frag} {H : Hp} {S : Store} {vs : List V} {x y : AV} (r : RelAs K H S vs [x, y]) : ∃ v w, vs = [v, w] ∧ RelA K H S v x ∧ RelA K H S w y := by
  cases r with
  | cons r rr => cases rr with
    | cons r' rr => cases rr; exact ⟨_, _, rfl, r, r'⟩
theorem c_one {f : AV → Store → Ans} {g : Value} {r : List V → Hp → VK → Prop} (h : CallR X g r) (w : ∀ x d S H QH, RelA X.K H S x d → StOk X.K H S → (f d S).ok → (∀ v H', StOk X.K H' S → Step H S H' S → RelA X.K H' S v (f d S).v → QH v H') → r [x] H QH) : CallR X g (lowC X.K (one1 f)) :=
  callr_weak h fun vs H QH ⟨ds, S, rs, so, ok, k⟩ => by
    match ds, rs, ok, k with
    | [], _, ok, _ => exact ok.elim
    | [d], rs, ok, k => obtain ⟨x, rfl, r⟩ := rel_one rs; exact w x d S H QH r so ok k
    | _ :: _ :: _, _, ok, _ => exact ok.elim
theorem c_two {f : AV → AV → Store → Ans} {g : Value} {r : List V → Hp → VK → Prop} (h : CallR X g r) (w : ∀ x y d e S H QH, RelA X.K H S x d → RelA X.K H S y e → StOk X.K H S → (f d e S).ok → (∀ v H', StOk X.K H' S → Step H S H' S → RelA X.K H' S v (f d e S).v → QH v H') → r [x, y] H QH) : CallR X g (lowC X.K (one2 f)) :=
  callr_weak h fun vs H QH ⟨ds, S, rs, so, ok, k⟩ => by
    match ds, rs, ok, k with
    | [], _, ok, _ => exact ok.elim
    | [_], _, ok, _ => exact ok.elim
    | [d, e], rs, ok, k => obtain ⟨x, y, rfl, r, r'⟩ := rel_two rs; exact w x y d e S H QH r r' so ok k
    | _ :: _ :: _ :: _, _, ok, _ => exact ok.elim
/-- len -/
def lenA (x : AV) (S : Store) : Ans := match x with
  | .str z => ⟨z.length ≤ sizeLine, .int z.length⟩
  | .tup xs => ⟨True, .int xs.length⟩
  | x => match lstA S x with
    | some xs => ⟨True, .int xs.length⟩
    | none => badA
theorem len_lst {K : PySem.W.Frag} {x : V} {d : AV} {S : Store} {H : Hp} (so : StOk K H S) (r : RelA K H S x d) {xs : List AV} (e : lstA S d = some xs) : LenV K x H xs.length := by
  obtain ⟨a, vs, rfl, ha, ra⟩ := rel_lstE so r e
  exact .inl ⟨vs, ha, ra.length.symm⟩
theorem c_len : CallR X (.builtin "len") (lowC X.K (one1 lenA)) := c_one call_len fun x d S H QH r so ok k => by
  have gen : (∀ xs, lstA S d = some xs → (match lstA S d with | some xs => (⟨True, .int xs.length⟩ : Ans) | none => badA) = lenA d S) → (match lstA S d with | some xs => (⟨True, .int xs.length⟩ : Ans) | none => badA).ok → ∃ x1 n, [x] = [x1] ∧ LenV X.K x1 H n ∧ QH (.int n) H := fun h1 h2 => by
    cases e : lstA S d with
    | none => rw [e] at h2; exact h2.elim
    | some xs =>
      have q := h1 xs e
      rw [e] at q
      refine ⟨x, xs.length, rfl, len_lst so r e, k _ H so .refl ?_⟩
      rw [← q]
      exact .int _
  cases d with
  | str z => obtain rfl := rel_strE r; exact ⟨_, _, rfl, ⟨ok, rfl⟩, k _ H so .refl (.int _)⟩
  | tup xs =>
    obtain ⟨a, vs, rfl, ha, ra⟩ := rel_tupE r
    exact ⟨_, _, rfl, .inr ⟨vs, ha, ra.length.symm⟩, k _ H so .refl (.int _)⟩
  | lst xs => exact gen (fun _ _ => rfl) ok
  | rol xs => exact gen (fun _ _ => rfl) ok
  | ref l => exact gen (fun _ _ => rfl) ok
  | _ => exact ok.elim
/-- abs, int, max, min -/
def absA (x : AV) (_ : Store) : Ans := match x with
  | .int i => ⟨True, .int (if i < 0 then -i else i)⟩
  | _ => badA
theorem c_abs : CallR X (.builtin "abs") (lowC X.K (one1 absA)) := c_one call_abs fun x d S H QH r so ok k => by
  cases d with
  | int i => obtain rfl := rel_intE r; exact ⟨i, rfl, k _ H so .refl (.int _)⟩
  | _ => exact ok.elim
def toIntA (x : AV) (_ : Store) : Ans := match x with
  | .int i => ⟨True, .int i⟩
  | .bl b => ⟨True, .int (if b then 1 else 0)⟩
  | _ => badA
theorem c_int : CallR X (.type "int") (lowC X.K (one1 toIntA)) := c_one call_int1 fun x d S H QH r so ok k => by
  cases d with
  | int i => obtain rfl := rel_intE r; exact .inl ⟨i, rfl, k _ H so .refl (.int _)⟩
  | bl b => obtain rfl := rel_blE r; exact .inr ⟨b, rfl, k _ H so .refl (.int _)⟩
  | _ => exact ok.elim
def int2A (g : Int → Int → Int) (x y : AV) (_ : Store) : Ans := match x with
  | .int i => match y with
    | .int j => ⟨True, .int (g i j)⟩
    | _ => badA
  | _ => badA
theorem c_int2 {g : Int → Int → Int} {f : Value} (h : CallR X f fun xs H Q => ∃ i j, xs = [.int i, .int j] ∧ Q (.int (g i j)) H) : CallR X f (lowC X.K (one2 (int2A g))) := c_two h fun x y d e S H QH r r' so ok k => by
  cases d with
  | int i =>
    cases e with
    | int j => obtain rfl := rel_intE r; obtain rfl := rel_intE r'; exact ⟨i, j, rfl, k _ H so .refl (.int _)⟩
    | _ => exact ok.elim
  | _ => exact ok.elim
theorem c_max2 (hc : X.calm = true) : CallR X (.builtin "max") (lowC X.K (one2 (int2A fun i j => if j > i then j else i))) := c_int2 (call_max2 hc)
theorem c_min2 (hc : X.calm = true) : CallR X (.builtin "min") (lowC X.K (one2 (int2A fun i j => if j < i then j else i))) := c_int2 (call_min2 hc)
/-- tuple(x), list(x) of a list, a tuple -/
def tupleA (x : AV) (S : Store) : Ans := match x with
  | .tup xs => ⟨True, .tup xs⟩
  | x => match lstA S x with
    | some xs => ⟨True, .tup xs⟩
    | none => badA
theorem c_tuple : CallR X (.type "tuple") (lowC X.K (one1 tupleA)) := c_one call_tuple_of fun x d S H QH r so ok k => by
  have gen : (∀ xs, lstA S d = some xs → (match lstA S d with | some xs => (⟨True, .tup xs⟩ : Ans) | none => badA) = tupleA d S) → (match lstA S d with | some xs => (⟨True, .tup xs⟩ : Ans) | none => badA).ok →
      ∃ p ys, [x] = [V.ref p] ∧ ((SqL X.K H p ys ∧ ∀ l, H l = none → QH (.ref l) (upd H l (.tup ys))) ∨ (SqT X.K H p ys ∧ QH (.ref p) H)) := fun h1 h2 => by
    cases e : lstA S d with
    | none => rw [e] at h2; exact h2.elim
    | some xs =>
      have q := h1 xs e
      rw [e] at q
      obtain ⟨a, vs, rfl, ha, ra⟩ := rel_lstE so r e
      refine ⟨a, vs, rfl, .inl ⟨ha, fun l hl => k _ _ (stok_new so hl) (step_new so hl) ?_⟩⟩
      rw [← q]
      exact rel_tup so hl ra
  cases d with
  | tup xs =>
    obtain ⟨a, vs, rfl, ha, ra⟩ := rel_tupE r
    exact ⟨a, vs, rfl, .inr ⟨ha, k _ H so .refl r⟩⟩
  | lst xs => exact gen (fun _ _ => rfl) ok
  | rol xs => exact gen (fun _ _ => rfl) ok
  | ref l => exact gen (fun _ _ => rfl) ok
  | _ => exact ok.elim
def seqA (S : Store) : AV → Option (List AV)
  | .tup xs => some xs
  | .lst xs => some xs
  | .rol xs => some xs
  | .ref l => lstA S (.ref l)
  | _ => none
theorem rel_seqE {K : PySem.W.Frag} {H : Hp} {S : Store} {v : V} {d : AV} {ds : List AV} (so : StOk K H S) (r : RelA K H S v d) (e : seqA S d = some ds) : ∃ a vs, v = .ref a ∧ (SqL K H a vs ∨ SqT K H a vs) ∧ RelAs K H S vs ds := by
  cases d with
  | tup xs =>
    cases e
    obtain ⟨a, vs, rfl, ha, ra⟩ := rel_tupE r
    exact ⟨a, vs, rfl, .inr ha, ra⟩
  | lst xs => obtain ⟨a, vs, rfl, ha, ra⟩ := rel_lstE so r (show lstA S (.lst xs) = some ds from e); exact ⟨a, vs, rfl, .inl ha, ra⟩
  | rol xs => obtain ⟨a, vs, rfl, ha, ra⟩ := rel_lstE so r (show lstA S (.rol xs) = some ds from e); exact ⟨a, vs, rfl, .inl ha, ra⟩
  | ref l => obtain ⟨a, vs, rfl, ha, ra⟩ := rel_lstE so r (show lstA S (.ref l) = some ds from e); exact ⟨a, vs, rfl, .inl ha, ra⟩
  | non => cases e
  | bl _ => cases e
  | int _ => cases e
  | str _ => cases e
  | ty _ => cases e
def listA (x : AV) (S : Store) : Ans := match seqA S x with
  | some xs => ⟨True, .lst xs⟩
  | none => badA
theorem c_list : CallR X (.type "list") (lowC X.K (one1 listA)) := c_one call_list_of fun x d S H QH r so ok k => by
  unfold listA at ok k
  cases e : seqA S d with
  | none => rw [e] at ok; exact ok.elim
  | some xs =>
    rw [e] at k
    obtain ⟨a, vs, rfl, ha, ra⟩ := rel_seqE so r e
    exact ⟨a, vs, rfl, ha, fun l hl => k _ _ (stok_new so hl) (step_new so hl) (rel_lst so hl ra)⟩
/-- all, any of a list of truths; sum of a list of ints -/
def isBlA : AV → Bool
  | .bl _ => true
  | _ => false
def blOf : AV → Bool
  | .bl b => b
  | _ => false
def isIntA : AV → Bool
  | .int _ => true
  | _ => false
def intOf : AV → Int
  | .int i => i
  | _ => 0
theorem rel_bls {K : PySem.W.Frag} {H : Hp} {S : Store} : ∀ {vs : List V} {ds : List AV}, RelAs K H S vs ds → ds.all isBlA = true → vs = (ds.map blOf).map V.bl
  | _, _, .nil, _ => rfl
  | _, _, .cons (d := d) r t, e => by
    rw [List.all_cons, Bool.and_eq_true_iff] at e
    cases d with
    | bl b => rw [rel_blE r, rel_bls t e.2]; rfl
    | _ => cases e.1
theorem rel_intsE {K : PySem.W.Frag} {H : Hp} {S : Store} : ∀ {vs : List V} {ds : List AV}, RelAs K H S vs ds → ds.all isIntA = true → vs = (ds.map intOf).map V.int
  | _, _, .nil, _ => rfl
  | _, _, .cons (d := d) r t, e => by
    rw [List.all_cons, Bool.and_eq_true_iff] at e
    cases d with
    | int b => rw [rel_intE r, rel_intsE t e.2]; rfl
    | _ => cases e.1
def allA (x : AV) (S : Store) : Ans := match lstA S x with
  | some xs => ⟨xs.all isBlA = true, .bl (xs.all blOf)⟩
  | none => badA
def anyA (x : AV) (S : Store) : Ans := match lstA S x with
  | some xs => ⟨xs.all isBlA = true, .bl (xs.any blOf)⟩
  | none => badA
def sumA (x : AV) (S : Store) : Ans := match lstA S x with
  | some xs => ⟨xs.all isIntA = true, .int (xs.map intOf).sum⟩
  | none => badA
theorem c_all (hc : X.calm = true) : CallR X (.builtin "all") (lowC X.K (one1 allA)) := c_one (cr_all hc) fun x d S H QH r so ok k => by
  unfold allA at ok k
  cases e : lstA S d with
  | none => rw [e] at ok; exact ok.elim
  | some xs =>
    rw [e] at ok k
    obtain ⟨a, vs, rfl, ha, ra⟩ := rel_lstE so r e
    have z := rel_bls ra ok
    subst z
    refine ⟨a, xs.map blOf, rfl, ha, ?_⟩
    rw [List.all_map]
    exact k _ H so .refl (.bl _)
theorem c_any (hc : X.calm = true) : CallR X (.builtin "any") (lowC X.K (one1 anyA)) := c_one (cr_any hc) fun x d S H QH r so ok k => by
  unfold anyA at ok k
  cases e : lstA S d with
  | none => rw [e] at ok; exact ok.elim
  | some xs =>
    rw [e] at ok k
    obtain ⟨a, vs, rfl, ha, ra⟩ := rel_lstE so r e
    have z := rel_bls ra ok
    subst z
    refine ⟨a, xs.map blOf, rfl, ha, ?_⟩
    rw [List.any_map]
    exact k _ H so .refl (.bl _)
theorem c_sum (hc : X.calm = true) : CallR X (.builtin "sum") (lowC X.K (one1 sumA)) := c_one (cr_sum hc) fun x d S H QH r so ok k => by
  unfold sumA at ok k
  cases e : lstA S d with
  | none => rw [e] at ok; exact ok.elim
  | some xs =>
    rw [e] at ok k
    obtain ⟨a, vs, rfl, ha, ra⟩ := rel_lstE so r e
    have z := rel_intsE ra ok
    subst z
    exact ⟨a, xs.map intOf, rfl, ha, k _ H so .refl (.int _)⟩
/-- isinstance against a built-in class -/
def tyNm (S : Store) : AV → String
  | .non => "NoneType"
  | .bl _ => "bool"
  | .int _ => "int"
  | .str _ => "str"
  | .tup _ => "tuple"
  | .lst _ => "list"
  | .rol _ => "list"
  | .ref l => match S l with
    | some (.lst _) => "list"
    | some (.dK _) => "dict"
    | _ => ""
  | .ty _ => ""
def isiB (a b : String) : Bool := a == b || (a == "bool" && b == "int")
def isiA (x y : AV) (S : Store) : Ans := match y with
  | .ty n => ⟨(["NoneType", "bool", "int", "str", "tuple", "list", "dict"].contains (tyNm S x) && ["bool", "int", "str", "tuple", "list", "dict"].contains n) = true, .bl (isiB (tyNm S x) n)⟩
  | _ => badA
theorem kit_isi : ∀ a ∈ ["NoneType", "bool", "int", "str", "tuple", "list", "dict"], ∀ b ∈ ["bool", "int", "str", "tuple", "list", "dict"], kitB a b = some (isiB a b) := by decide +kernel
theorem tyX_of {K : PySem.W.Frag} {H : Hp} {S : Store} {v : V} {d : AV} (so : StOk K H S) (r : RelA K H S v d) (e : ["NoneType", "bool", "int", "str", "tuple", "list", "dict"].contains (tyNm S d) = true) : TyX K H v (.type (tyNm S d)) := by
  cases r with
  | non => exact .base .non
  | bl b => exact .base (.bl b)
  | int i => exact .base (.int i)
  | str x => exact .base (.str x)
  | ty n => exact absurd (show ["NoneType", "bool", "int", "str", "tuple", "list", "dict"].contains "" = true from e) (by decide)
  | tup h n q =>
    rcases h with h | ⟨o, h⟩
    · exact .base (.tup h)
    · exact .fTuple h
  | tupK h q => obtain ⟨o, its, n, hk, hc, _⟩ := h; exact .kTuple hk hc
  | lst h n q => exact .base (.lst h)
  | rol h n q =>
    rcases h with h | ⟨o, h⟩
    · exact .base (.lst h)
    · exact .base (.frz h)
  | rolK h q => obtain ⟨o, its, n, hk, hc, _⟩ := h; exact .kList hk hc
  | ref l =>
    cases z : S l with
    | none => simp only [tyNm, z] at e; exact absurd e (by decide)
    | some o =>
      cases o with
      | lst xs => obtain ⟨vs, h, _⟩ := so l _ z; simp only [tyNm, z]; exact .base (.lst h)
      | dK xs => obtain ⟨vs, h, _⟩ := so l _ z; simp only [tyNm, z]; exact .base (.dK h)
      | ins _ _ => simp only [tyNm, z] at e; exact absurd e (by decide)
      | hid => simp only [tyNm, z] at e; exact absurd e (by decide)
theorem c_isi : CallR X (.builtin "isinstance") (lowC X.K (one2 isiA)) := c_two call_isi fun x y d f S H QH r r' so ok k => by
  cases f with
  | ty n =>
    obtain rfl := rel_tyE r'
    have ok' : (["NoneType", "bool", "int", "str", "tuple", "list", "dict"].contains (tyNm S d) && ["bool", "int", "str", "tuple", "list", "dict"].contains n) = true := ok
    rw [Bool.and_eq_true_iff] at ok'
    have h1 : tyNm S d ∈ ["NoneType", "bool", "int", "str", "tuple", "list", "dict"] := by simpa using ok'.1
    have h2 : n ∈ ["bool", "int", "str", "tuple", "list", "dict"] := by simpa using ok'.2
    exact ⟨x, .ty n, _, _, _, rfl, .ty n, tyX_of so r ok'.1, kit_ty (kit_isi _ h1 _ h2), k _ H so .refl (.bl _)⟩
  | _ => exact ok.elim
/-- repr -/
def reprA (x : AV) (S : Store) : Ans := ⟨flatA (derefA S x) = true ∧ (datA S x).showable = true ∧ (datA S x).hasDict = false ∧ (datA S x).depth ≤ 60 ∧ (datA S x).shown.length ≤ sizeLine, .str (datA S x).shown⟩
theorem c_repr (gd : X.A.guards = some []) (hu : X.A.units + 64 < cLine) : CallR X (.builtin "repr") (lowC X.K (one1 reprA)) := by
  intro pins s σ H vs us QH I rv h
  obtain ⟨ds, S, rs, so, ok, k⟩ := h
  match ds, rs, ok, k with
  | [], _, ok, _ => exact ok.elim
  | _ :: _ :: _, _, ok, _ => exact ok.elim
  | [d], rs, ok, k =>
    obtain ⟨x, rfl, r⟩ := rel_one rs
    obtain ⟨u, rfl, ru⟩ := rv.one
    obtain ⟨fl, sh, nd, dp, sz⟩ := ok
    have D := r.dpS so fl
    obtain ⟨as, rd⟩ := Dp.reads I _ x u D ru
    have fin : ∀ h' tk tk', (∀ b o, s.heap.get? b = some o → h'.get? b = some o) → EP X pins σ QH (.str (datA S d).shown tk) { s with heap := h', toks := tk' } := fun h' tk tk' hk =>
      ⟨.str _, H, I.kept hk, ⟨tk, rfl⟩, k _ H so .refl (.str _)⟩
    have keep0 : ∀ b o, s.heap.get? b = some o → s.heap.get? b = some o := fun _ _ q => q
    have sd : (datA S d).showable = true := sh
    cases x with
    | ref a =>
      obtain rfl : u = .ref a := ru
      exact repr_of_reads' rd sh (fun z => by rw [nd] at z; cases z) gd (by omega) keep0 (fun h' tk tk' hk => fin h' tk tk' hk) sz
    | non =>
      obtain rfl : u = .none := ru
      generalize datA S d = dd at D rd sz sh fin
      cases D
      exact PySem.P.repr_of_none (fin s.heap _ _ keep0)
    | bl b =>
      obtain rfl : u = .bool b := ru
      generalize datA S d = dd at D rd sz sh fin
      cases D
      exact PySem.P.repr_of_bool (fin s.heap _ _ keep0)
    | int i =>
      obtain ⟨t, rfl⟩ : ∃ t, u = .int i t := ru
      generalize datA S d = dd at D rd sz sh fin
      cases D
      exact PySem.P.repr_of_int (of_decide_eq_true sh) (fin s.heap _ _ keep0)
    | str z =>
      obtain ⟨t, rfl⟩ : ∃ t, u = .str z t := ru
      generalize datA S d = dd at D rd sz sh fin
      cases D
      exact PySem.P.repr_of_str (fin s.heap _ _ keep0) sz
    | byt _ => generalize datA S d = dd at D; cases D
    | flt _ => generalize datA S d = dd at D; cases D
    | ty _ => generalize datA S d = dd at D; cases D
/-- list(range(..)) -/
def aRg1 (ta : AE) : ASt → Store → (Int → Int → Store → Prop) → Prop := fun τ S Q => ta τ S fun d S1 => ∃ n, d = .int n ∧ Q 0 n S1
def aLstRg (t : ASt → Store → (Int → Int → Store → Prop) → Prop) : AE := fun τ S Q => t τ S fun a b S1 => RgOk a b ∧ Q (.lst (rngA a (b - a).toNat)) S1
theorem rel_rng {K : PySem.W.Frag} {H : Hp} {S : Store} (a : Int) : ∀ (l : List Nat), RelAs K H S (l.map fun i => V.int (a + (i : Nat))) (l.map fun i => AV.int (a + (i : Nat)))
  | [] => .nil
  | i :: l => .cons (.int _) (rel_rng a l)
theorem e_lstRg1 (hc : X.calm = true) (hm : X.mg "list" = none) (hm2 : X.mg "range" = none) (ha : PE X a (low (kx X bb) ta)) {p1 p2 pos2 : Pos} (hg : Gl X "list" := by rfl) (hg2 : Gl X "range" := by rfl)
    (na : starEach [a] X.env = [(false, eval a X.env)] := by rfl) (nb : starEach [.Call (.Name "range" p2) [a] [] pos2] X.env = (false, eval (.Call (.Name "range" p2) [a] [] pos2) X.env) :: starEach [] X.env := by rfl) :
    PE X (.Call (.Name "list" p1) [.Call (.Name "range" p2) [a] [] pos2] [] pos) (low (kx X bb) (aLstRg (aRg1 ta))) :=
  (pe_listRg hc hg hm (prg_1 hg2 hm2 ha na) nb).weak fun σ H QH ⟨τ, S, Q, R, so, q, k⟩ => ⟨τ, S, _, R, so, q, fun v H1 d S1 so1 st1 r1 ⟨n, e, ok, q1⟩ => by
    subst e
    exact ⟨n, rel_intE r1, ok, fun l hl => k _ _ _ S1 (stok_new so1 hl) (st1.trans (step_new so1 hl)) (rel_lst so1 hl (rel_rng 0 (List.range (n - 0).toNat))) q1⟩⟩

/-! ### slices -/
abbrev AO1 := ASt → Store → (Option Int → Store → Prop) → Prop
def aPart (ta : AE) : AO1 := fun τ S Q => ta τ S fun d S1 => ∃ i, d = .int i ∧ Q (some i) S1
def aNoPart : AO1 := fun _ S Q => Q none S
def lowP (kb : KB) (ao : AO1) : TO := fun σ H QH => ∃ τ S Q, Rp kb H S σ τ ∧ StOk kb.K H S ∧ ao τ S Q ∧ ∀ o H' S', StOk kb.K H' S' → Step H S H' S' → Q o S' → QH o H'
theorem po_weak {oe : Option Expr} {t t' : TO} (h : PO X oe t) (w : ∀ σ H Q, t' σ H Q → t σ H Q) : PO X oe t' := ⟨fun pins s σ H Q I q => h.run pins s σ H Q I (w σ H Q q)⟩
theorem o_some (h : PE X e (low (kx X bb) ta)) : PO X (some e) (lowP (kx X bb) (aPart ta)) := po_weak (po_some h) fun σ H QH ⟨τ, S, Q, R, so, q, k⟩ => ⟨τ, S, _, R, so, q, fun v H1 d S1 so1 st1 r1 ⟨i, e, q1⟩ => by
  subst e
  exact ⟨i, rel_intE r1, k (some i) H1 S1 so1 st1 q1⟩⟩
theorem o_none : PO X none (lowP (kx X bb) aNoPart) := po_weak po_none fun σ H QH ⟨τ, S, Q, R, so, q, k⟩ => k none H S so .refl q
def cutL (xs : List AV) (lo hi : Option Int) : List AV := (xs.drop (HT.sIx xs.length 0 lo)).take (HT.sIx xs.length xs.length hi - HT.sIx xs.length 0 lo)
def cutAns (x : AV) (lo hi : Option Int) (S : Store) : Ans := match x with
  | .tup xs => ⟨True, .tup (cutL xs lo hi)⟩
  | .str z => ⟨z.length ≤ sizeLine, .str (cutS z lo hi)⟩
  | x => match lstA S x with
    | some xs => ⟨True, .lst (cutL xs lo hi)⟩
    | none => badA
def aSl (ta : AE) (tl th : AO1) : AE := fun τ S Q => ta τ S fun x S1 => tl τ S1 fun l S2 => th τ S2 fun u S3 => (cutAns x l u S3).ok ∧ Q (cutAns x l u S3).v S3
theorem cut_rel {K : PySem.W.Frag} {H : Hp} {S : Store} {vs : List V} {ds : List AV} (r : RelAs K H S vs ds) (lo hi : Option Int) : RelAs K H S (cutV vs lo hi) (cutL ds lo hi) := by
  unfold cutV cutL
  rw [r.length]
  exact (r.drop _).take _
theorem e_sl {lo hi : Option Expr} {tl th : AO1} {p2 : Pos} (he : PE X e (low (kx X bb) ta)) (hl : PO X lo (lowP (kx X bb) tl)) (hu : PO X hi (lowP (kx X bb) th)) : PE X (.Subscript e (.Slice lo hi none p2) pos) (low (kx X bb) (aSl ta tl th)) :=
  (pe_slice (SlR.or sl_list (SlR.or sl_tupA sl_str)) he hl hu).weak fun σ H QH ⟨τ, S, Q, R, so, q, k⟩ => ⟨τ, S, _, R, so, q, fun v H1 d S1 so1 st1 r1 q1 => ⟨τ, S1, _, R.step st1, so1, q1, fun l H2 S2 so2 st2 q2 =>
    ⟨τ, S2, _, (R.step st1).step st2, so2, q2, fun u H3 S3 so3 st3 ⟨ok, q3⟩ => by
      have r3 := (r1.step st2).step st3
      have st := (st1.trans st2).trans st3
      have gen : (∀ xs, lstA S3 d = some xs → cutAns d l u S3 = (match lstA S3 d with | some xs => (⟨True, .lst (cutL xs l u)⟩ : Ans) | none => badA)) → (match lstA S3 d with | some xs => (⟨True, .lst (cutL xs l u)⟩ : Ans) | none => badA).ok → rSlL X.K v l u H3 QH := fun h1 h2 => by
        cases e : lstA S3 d with
        | none => rw [e] at h2; exact h2.elim
        | some xs =>
          have z := h1 xs e
          rw [e] at z
          rw [z] at q3
          obtain ⟨a, vs, rfl, ha, ra⟩ := rel_lstE so3 r3 e
          exact ⟨a, vs, rfl, ha, fun p hp => k _ _ _ S3 (stok_new so3 hp) (st.trans (step_new so3 hp)) (rel_lst so3 hp (cut_rel ra l u)) q3⟩
      cases d with
      | tup xs =>
        obtain ⟨a, vs, rfl, ha, ra⟩ := rel_tupE r3
        refine .inr (.inl ⟨a, vs, rfl, ha, fun hw => ?_, fun _ p hp => k _ _ _ S3 (stok_new so3 hp) (st.trans (step_new so3 hp)) (rel_tup so3 hp (cut_rel ra l u)) q3⟩)
        refine k _ H3 _ S3 so3 st ?_ q3
        have ew : cutL xs l u = xs := by
          unfold cutL
          rw [ra.length] at hw
          rw [hw.1, hw.2]
          simp
        show RelA X.K H3 S3 (.ref a) (.tup (cutL xs l u))
        rw [ew]
        exact r3
      | str z =>
        obtain rfl := rel_strE r3
        exact .inr (.inr ⟨z, rfl, ok, k _ H3 _ S3 so3 st (.str _) q3⟩)
      | lst xs => exact .inl (gen (fun _ _ => rfl) ok)
      | rol xs => exact .inl (gen (fun _ _ => rfl) ok)
      | ref l' => exact .inl (gen (fun _ _ => rfl) ok)
      | _ => exact ok.elim⟩⟩⟩
/-- xs[::-1] of a list -/
def aRevL (ta : AE) : AE := fun τ S Q => ta τ S fun d S1 => ∃ xs, lstA S1 d = some xs ∧ Q (.lst xs.reverse) S1
theorem e_revL {k : Nat} {p1 p2 p3 : Pos} (he : PE X e (low (kx X bb) ta)) : PE X (.Subscript e (.Slice none none (some (.UnaryOp .USub (.Constant (.int 1) k p1) p2)) p3) pos) (low (kx X bb) (aRevL ta)) :=
  (pe_revL he).weak fun σ H QH ⟨τ, S, Q, R, so, q, k⟩ => ⟨τ, S, _, R, so, q, fun v H1 d S1 so1 st1 r1 ⟨xs, e, q1⟩ => by
    obtain ⟨a, vs, rfl, ha, ra⟩ := rel_lstE so1 r1 e
    exact ⟨a, vs, rfl, ha, fun p hp => k _ _ _ S1 (stok_new so1 hp) (st1.trans (step_new so1 hp)) (rel_lst so1 hp ra.reverse) q1⟩⟩

/-! ### methods of lists and texts -/
def aM (am : AV → List AV → Store → AK → Prop) (to : AE) (t : AA) : AE := fun τ S Q => to τ S fun x S1 => t τ S1 fun ds S2 => am x ds S2 Q
def aM0 (am : AV → List AV → Store → AK → Prop) (to : AE) : AE := fun τ S Q => to τ S fun x S1 => am x [] S1 Q
/-- the receiver's type is known by the value alone -/
def tyA (T : String) (S : Store) : AV → Prop
  | .str _ => T = "str"
  | .int _ => T = "int"
  | .lst _ => T = "list"
  | .rol _ => T = "list"
  | .ref l => match S l with
    | some (.lst _) => T = "list"
    | some (.dK _) => T = "dict"
    | _ => False
  | _ => False
theorem tyV_of {K : PySem.W.Frag} {H : Hp} {S : Store} {T : String} {v : V} {d : AV} (so : StOk K H S) (r : RelA K H S v d) (h : tyA T S d) : tyV K T v H := by
  cases r with
  | str x => exact h
  | int x => exact h
  | lst h' n q => exact .inl ⟨h, _, .inl (.inl h')⟩
  | rol h' n q => exact .inl ⟨h, _, .inl h'⟩
  | rolK h' q => exact .inl ⟨h, _, .inr h'⟩
  | ref l =>
    cases z : S l with
    | none => simp only [tyA, z] at h
    | some o =>
      cases o with
      | lst xs => simp only [tyA, z] at h; obtain ⟨vs, hh, _⟩ := so l _ z; exact .inl ⟨h, _, .inl (.inl hh)⟩
      | dK xs => simp only [tyA, z] at h; obtain ⟨vs, hh, _⟩ := so l _ z; exact .inr (.inr (.inl ⟨h, .inl ⟨_, hh⟩⟩))
      | ins _ _ => simp only [tyA, z] at h
      | hid => simp only [tyA, z] at h
  | non => exact h.elim
  | bl _ => exact h.elim
  | ty _ => exact h.elim
  | tup _ _ _ => exact h.elim
  | tupK _ _ => exact h.elim
theorem e_bm {name : Str} {apos : Pos} {T id : String} {am : AV → List AV → Store → AK → Prop} {to : AE} {o : Expr} (pa : PlainAttrs T) (slot : Slot T name id) (hty : typeOf (.builtin id) = pure (.type "method_descriptor")) (hm : MtR X id (lowM X.K am)) (ho : PE X o (low (kx X bb) to)) (ha : PA X (e :: es) (lowA (kx X bb) t))
    (hbase : attributeBase o name X.env (eval o X.env) = eval o X.env := by rfl)
    (h2 : ((((backTo pos (starEach (e :: es) X.env)).all fun x => !x.1) && (backToKw pos (keywordEach [] X.env)).all fun x => x.1.isSome) && decide ((e :: es).length + ([] : List Keyword).length + (if ([] : List Keyword).isEmpty = true then 0 else 1) < 30)) = true := by rfl)
    (h3 : (apos.endLine == pos.line) = true := by decide +kernel) (h4 : starEach (e :: es) X.env = (false, eval e X.env) :: starEach es X.env := by rfl) (h5 : (backTo pos (starEach es X.env)).any (·.1) = false := by rfl) :
    PE X (.Call (.Attribute o name apos) (e :: es) [] pos) (low (kx X bb) (fun τ S Q => to τ S fun x S1 => tyA T S1 x ∧ t τ S1 fun ds S2 => am x ds S2 Q)) :=
  (pe_bm pa slot hty hm ho ha hbase h2 h3 h4 h5).weak fun σ H QH ⟨τ, S, Q, R, so, q, k⟩ => ⟨τ, S, _, R, so, q, fun v H1 d S1 so1 st1 r1 ⟨ty, q1⟩ => ⟨tyV_of so1 r1 ty, τ, S1, _, R.step st1, so1, q1, fun vs H2 ds S2 so2 st2 r2 q2 =>
    ⟨d, ds, S2, Q, r1.step st2, r2, so2, q2, fun v H' d S' so' st' r' q' => k v H' d S' so' ((st1.trans st2).trans st') r' q'⟩⟩⟩
theorem e_bm0 {name : Str} {apos : Pos} {T id : String} {am : AV → List AV → Store → AK → Prop} {to : AE} {o : Expr} (pa : PlainAttrs T) (slot : Slot T name id) (hty : typeOf (.builtin id) = pure (.type "method_descriptor")) (hm : MtR X id (lowM X.K am)) (ho : PE X o (low (kx X bb) to))
    (hbase : attributeBase o name X.env (eval o X.env) = eval o X.env := by rfl) (h3 : (apos.endLine == pos.line) = true := by decide +kernel) :
    PE X (.Call (.Attribute o name apos) [] [] pos) (low (kx X bb) (fun τ S Q => to τ S fun x S1 => tyA T S1 x ∧ am x [] S1 Q)) :=
  (pe_bm0 pa slot hty hm ho hbase h3).weak fun σ H QH ⟨τ, S, Q, R, so, q, k⟩ => ⟨τ, S, _, R, so, q, fun v H1 d S1 so1 st1 r1 ⟨ty, q1⟩ => ⟨tyV_of so1 r1 ty,
    ⟨d, [], S1, Q, r1, .nil, so1, q1, fun v H' d S' so' st' r' q' => k v H' d S' so' (st1.trans st') r' q'⟩⟩⟩
/-- the stored list at l becomes another one -/
theorem mutL {K : PySem.W.Frag} {H : Hp} {S : Store} {l : Addr} {ds ds' : List AV} {vs : List V} (so : StOk K H S) (hs : S l = some (.lst ds)) (r : RelAs K H S vs ds') : StOk K (upd H l (.lst vs)) (updS S l (.lst ds')) ∧ Step H S (upd H l (.lst vs)) (updS S l (.lst ds')) := by
  have st : Step H S (upd H l (.lst vs)) (updS S l (.lst ds')) := step_mut hs (by intro z; cases z)
  exact ⟨stok_mut so hs (by intro z; cases z) ⟨vs, upd_same, r.step st⟩, st⟩
def mAppend (x : AV) (as : List AV) (S : Store) (Q : AK) : Prop := ∃ l ds y, x = .ref l ∧ as = [y] ∧ S l = some (.lst ds) ∧ ds.length < sizeLine ∧ Q .non (updS S l (.lst (ds ++ [y])))
theorem m_append : MtR X "list.append" (lowM X.K mAppend) := mtr_weak (r := rAppend) (mt_append (X := X)) fun x vs H QH ⟨dx, as, S, Q, rx, rs, so, ⟨l, ds, y, ex, ea, hs, hz, q⟩, k⟩ => by
  subst ex ea
  obtain rfl := rel_refE rx
  obtain ⟨w, rfl, rw'⟩ := rel_one rs
  obtain ⟨ws, hl, rl⟩ := so l _ hs
  obtain ⟨so2, st2⟩ := mutL so hs (rl.app (.cons rw' .nil))
  exact ⟨l, ws, w, rfl, rfl, hl, by rw [rl.length]; exact hz, k _ _ _ _ so2 st2 .non q⟩
def mPop (x : AV) (as : List AV) (S : Store) (Q : AK) : Prop := ∃ l ds y, x = .ref l ∧ as = [] ∧ S l = some (.lst (ds ++ [y])) ∧ Q y (updS S l (.lst ds))
theorem m_pop : MtR X "list.pop" (lowM X.K mPop) := mtr_weak (r := rPop) (mt_pop (X := X)) fun x vs H QH ⟨dx, as, S, Q, rx, rs, so, ⟨l, ds, y, ex, ea, hs, q⟩, k⟩ => by
  subst ex ea
  obtain rfl := rel_refE rx
  cases rs
  obtain ⟨ws, hl, rl⟩ := so l _ hs
  have hlen := rl.length
  rw [List.length_append, List.length_singleton] at hlen
  obtain ⟨w, hw, rw'⟩ := rl.get (i := ds.length) (d := y) (by rw [List.getElem?_append_right (Nat.le_refl _)]; simp)
  have rd : RelAs X.K H S ws.dropLast ds := by
    have := rl.take ds.length
    rw [List.take_left] at this
    rw [List.dropLast_eq_take, hlen]
    exact this
  obtain ⟨so2, st2⟩ := mutL so hs rd
  refine ⟨l, ws, w, rfl, rfl, hl, by rw [hlen]; exact hw, k _ _ _ _ so2 st2 (rw'.step st2) q⟩
end
end L3

set_option Elab.async false
set_option linter.all false
set_option maxRecDepth 100000
set_option maxHeartbeats 2000000
set_option autoImplicit false
/-! L3F: extend, join, items set, reversed tuples, comprehensions over L3. -/
namespace L3
open PySem L2 PyProof.Rows
variable {bb : Birth}

/-! ### list.extend of a tuple -/
section
variable {prog : Program} {w : World} {A : Around} {E : Value → Shared → Prop} {s : Shared}
theorem ext_tup (l : Addr) (items : Array Value) (n : Nat) (b : Addr) (dd : Option Addr) (sl : Array (Option Value)) (more : Array Value) (n2 : Nat) (h0 : ¬(!items.isEmpty && Builtin.List.listTooLong (items.size + more.size)) = true) (h1 : items.size ≤ sizeLine) (h2 : items.size + more.size ≤ sizeLine + 1) :
    Meets (Builtin.«list.extend» ⟨[.ref l, .ref b], []⟩) (fun _ R s => s.heap.get? l = some { cls := .type "list", dict := none, data := .seq items n, slots := #[] } ∧ s.heap.get? b = some { cls := .type "tuple", dict := dd, data := .seq more n2, slots := sl } ∧
      R (.ok (.ret Value.none)) { s with heap := s.heap.update l (Obj.mapSeq fun x => x ++ more), toks := s.toks }) :=
  .of_wp fun prog w A R s h => by
    obtain ⟨hp, g, d, tk, os⟩ := s
    obtain ⟨hl, hb, h⟩ := h
    have f1 := AutoSeq1.idx_int; have f2 := AutoSeq1.sub_tuple_tuple; have f3 := AutoSeq1.sub_list_list; have f4 := AutoSeq1.sub_tuple_list; have f5 := AutoSeq1.sub_list_tuple
    have hz' : (items ++ more).size ≤ sizeLine + 1 := by rw [Array.size_append]; exact h2
    wp_walk using (wpAny_updateSeq hl rfl (hz := h1) (_hz' := hz')), wpAny_loadPart' hl, wpAny_loadPart' hb
    exact ⟨_, rfl, h⟩
end
/-! ### t[::-1] -/
theorem pick_rev (xs : Array Value) : ((List.range xs.size).filterMap fun (k : Nat) => xs[(((xs.size : Int) - 1) + (k : Int) * (-1)).toNat]?).toArray = xs.toList.reverse.toArray := by
  have fm : ∀ {α β : Type} {f g : α → Option β} (l : List α), (∀ x ∈ l, f x = g x) → l.filterMap f = l.filterMap g := fun {α β f g} l h => by
    induction l with
    | nil => rfl
    | cons x r ih => rw [List.filterMap_cons, List.filterMap_cons, h x List.mem_cons_self, ih fun y hy => h y (List.mem_cons_of_mem _ hy)]
  congr 1
  have e : ∀ k ∈ List.range xs.size, xs[(((xs.size : Int) - 1) + (k : Int) * (-1)).toNat]? = some (xs.toList.reverse.getD k .none) := by
    intro k hk
    have hk := List.mem_range.mp hk
    have e1 : (((xs.size : Int) - 1) + (k : Int) * (-1)).toNat = xs.size - 1 - k := by omega
    rw [e1, List.getD_eq_getElem?_getD, List.getElem?_reverse (by simpa using hk), Array.length_toList, Array.getElem?_toList, Array.getElem?_eq_getElem (by omega)]
    rfl
  rw [fm _ e]
  have : (fun x => some (xs.toList.reverse.getD x Value.none)) = (some ∘ fun x => xs.toList.reverse.getD x Value.none) := rfl
  rw [this, List.filterMap_eq_map]
  apply List.ext_getElem
  · simp
  · intro i h1 h2
    rw [List.getElem_map, List.getElem_range, List.getD_eq_getElem?_getD, List.getElem?_eq_getElem h2]
    rfl
section
variable {prog : Program} {w : World} {A : Around} {E : Value → Shared → Prop} {s : Shared}
theorem applied_rev {sl : Addr} {vl vu vs : Value} {n : Nat} {Q : Int × Int × Nat → Shared → Prop} (hs : s.heap.IsSliceOf sl vl vu vs) (pl : IsPart vl none) (pu : IsPart vu none) (ps : IsPart vs (some (-1)))
    (h : Q ((n : Int) - 1, -1, n) s) : wpAny (model prog w) A (Builtin.Slice.sliceApplied (.ref sl) (pure (n : Int))) Q E s := by
  obtain ⟨os, hos, hcs, hds⟩ := id hs
  unfold Builtin.Slice.sliceApplied Builtin.Slice.sliceFields
  refine wpAny_bind (wpAny_bind (wpAny_field hos hds (x := vl) rfl ?_))
  refine wpAny_bind (wpAny_field hos hds (x := vu) rfl (wpAny_bind (wpAny_field hos hds (x := vs) rfl (wpAny_pure ?_))))
  refine wpAny_bind (HT.slicePart_ ps ?_)
  show wpAny _ _ (if ((-1 : Int) == 0) = true then _ else _) _ _ s
  rw [if_neg (by decide)]
  refine wpAny_bind (HT.slicePart_ pl ?_)
  refine wpAny_bind (HT.slicePart_ pu ?_)
  refine wpAny_bind (wpAny_pure ?_)
  have e1 : Builtin.Slice.sliceAdjust none none (-1) (n : Int) = ((n : Int) - 1, -1) := rfl
  have e2 : Builtin.Slice.slicePlaces ((n : Int) - 1) (-1) (-1) = n := by
    unfold Builtin.Slice.slicePlaces
    rw [if_neg (by decide)]
    by_cases hn : (n : Int) - 1 > -1
    · rw [if_pos hn, show (- -1 : Int) = 1 by decide, Int.ediv_one]
      omega
    · rw [if_neg hn]
      omega
  show wpAny _ _ (match Builtin.Slice.sliceAdjust none none (-1) (n : Int) with | (lo, hi) => pure (lo, (-1 : Int), Builtin.Slice.slicePlaces lo hi (-1))) _ _ s
  rw [e1]
  show wpAny _ _ (pure ((n : Int) - 1, (-1 : Int), Builtin.Slice.slicePlaces ((n : Int) - 1) (-1) (-1))) _ _ s
  rw [e2]
  exact wpAny_pure h
theorem getItem_tup_rev {t sl : Addr} {items : Array Value} {vl vu vs : Value} {Q : Value → Shared → Prop} (ht : IsTup s.heap t items) (hs : s.heap.IsSliceOf sl vl vu vs) (pl : IsPart vl none) (pu : IsPart vu none) (ps : IsPart vs (some (-1)))
    (h : Q (.ref s.heap.objs.size) { s with heap := s.heap.push { cls := .type "tuple", data := .seq items.toList.reverse.toArray } }) (hsz : items.size ≤ sizeLine) : wpAny (model prog w) A (getItem (.ref t) (.ref sl)) Q E s := by
  obtain ⟨os, hos, hcs, hds⟩ := id hs
  have hTs : s.TypeIs (.ref sl) "slice" := ⟨os, hos, hcs⟩
  have fits : sizeOk (.seq items.toList.reverse.toArray) := by
    show items.toList.reverse.toArray.size ≤ sizeLine
    rw [List.size_toArray, List.length_reverse, Array.length_toList]
    exact hsz
  unfold getItem
  try with_reducible refine wpAny_holding ?_
  first | refine wpAny_bind (wpAny_pure ?_) | skip
  refine wpAny_bind (wpAny_sequenceKey ht.typeIs (by decide) ?_)
  refine wpAny_bind (wpAny_callSpecial?_slot (name := Str.ofString "__getitem__") ht.typeIs PyProof.Rows.slot_tuple_getitem (wpAny_call_entry PyProof.Rows.slot_tuple_getitem ht.typeIs entry_tuple_getitem ?_ (args_tuple_getitem _ _)))
  show wpAny _ _ (Builtin.Tuple.tupleItemsOf (.ref t) >>= _) _ _ s
  refine wpAny_bind (tupleItemsOf_ ht (wpAny_bind (wpAny_typeOf hTs ?_)))
  rw [if_pos (by decide)]
  refine wpAny_bind (applied_rev hs pl pu ps ?_)
  have hno : ¬ (((items.size : Int) - 1 == 0 && (-1 : Int) == 1 && items.size == items.size) = true) := by simp
  show wpAny _ _ (if ((items.size : Int) - 1 == 0 && (-1 : Int) == 1 && items.size == items.size) = true then _ else _) _ _ s
  rw [if_neg hno, pick_rev]
  first
    | exact wpAny_bind (m := Builtin.Tuple.tupleExact _) (wpAny_newObj_type (wpAny_pure ⟨_, rfl, wpAny_pure h⟩) fits)
    | exact wpAny_bind (m := Builtin.Tuple.tupleExact _) (wpAny_newObj_type (wpAny_bind (wpAny_pure (wpAny_pure ⟨_, rfl, wpAny_pure h⟩))) fits)
    | exact wpAny_bind (wpAny_bind (m := Builtin.Tuple.tupleExact _) (wpAny_newObj_type (wpAny_pure (wpAny_pure ⟨_, rfl, wpAny_pure h⟩)) fits))
    | exact wpAny_bind (wpAny_bind (m := Builtin.Tuple.tupleExact _) (wpAny_newObj_type (wpAny_pure ⟨_, rfl, wpAny_pure h⟩) fits))
end
section
variable {X : Cx} {e a b c : Expr} {es : List Expr} {ta tb tc : AE} {t : AA} {pos p : Pos}
def tRevT (K : PySem.W.Frag) (te : TE) : TE := fun σ H Q => te σ H fun x H1 => ∃ a xs, x = .ref a ∧ SqT K H1 a xs ∧ ∀ p, H1 p = none → Q (.ref p) (upd H1 p (.tup xs.reverse))
theorem pe_revT {te : TE} {k : Nat} {p1 p2 p3 : Pos} (he : PE X e te) : PE X (.Subscript e (.Slice none none (some (.UnaryOp .USub (.Constant (.int 1) k p1) p2)) p3) pos) (tRevT X.K te) := by
  refine ⟨fun pins s σ H Q I h => Subscript_ (thn (he.run pins s σ H _ I h) fun v s1 hv => ?_)⟩
  obtain ⟨x, H1, I1, r1, a, xs, rfl, hx, q⟩ := hv
  cases r1
  have pStep : PO X (some (.UnaryOp .USub (.Constant (.int 1) k p1) p2)) (tPart (tUn (rU fun i => .int (-i)) (tC (.int 1)))) := po_some (pe_un un_neg pe_int)
  refine wpAny_Slice (thn (po_none.run pins s1 σ H1 (fun o G => o = none ∧ G = H1) I1 ⟨rfl, rfl⟩) fun vl s2 hl => ?_)
  obtain ⟨l, H2, I2, pl, rfl, rfl⟩ := hl
  refine thn (po_none.run pins s2 σ H2 (fun o G => o = none ∧ G = H2) I2 ⟨rfl, rfl⟩) fun vu s3 hu => ?_
  obtain ⟨u, H3, I3, pu, rfl, rfl⟩ := hu
  refine thn (pStep.run pins s3 σ H3 (fun o G => o = some (-1) ∧ G = H3) I3 ⟨1, rfl, -1, rfl, rfl, rfl⟩) fun vs s4 hs => ?_
  obtain ⟨o, H4, I4, ps, rfl, rfl⟩ := hs
  have I5 : Inv X pins σ H4 { s4 with heap := s4.heap.push { cls := .type "slice", data := .fields #[vl, vu, vs] } } := I4.kept (t' := s4.toks) fun b ob q => Heap.get?_push_of_some _ q
  obtain ⟨its, r, ht, hz⟩ := I5.tuple hx
  have hlen := r.length
  show wpAny (model X.prog X.w) X.A (subscriptTail e (.Slice none none (some (.UnaryOp .USub (.Constant (.int 1) k p1) p2)) p3) (.ref a) (.ref s4.heap.objs.size)) (EP X pins σ Q) X.xe { s4 with heap := s4.heap.push { cls := .type "slice", data := .fields #[vl, vu, vs] } }
  refine tail_any (ops := [.ref a, .ref s4.heap.objs.size]) ht.typeIs PyProof.Rows.slot_tuple_getitem.lookup ?_ (by with_unfolding_all rfl)
  refine getItem_tup_rev ht (Heap.IsSliceOf.new _ vl vu vs) pl pu ps ?_ (by rw [List.size_toArray]; omega)
  exact ⟨.ref _, _, I5.laid (t' := s4.toks) (o := .tup xs.reverse) (fun b ob q => Heap.get?_push_of_some _ q) (Nat.le_refl _) ⟨by rw [List.length_reverse]; exact hz, its.reverse, r.reverse, ⟨_, Heap.get?_push_size _ rfl, rfl, _, rfl⟩⟩, rfl, q _ (I5.hok.fresh (Nat.le_refl _))⟩
def aRevT (ta : AE) : AE := fun τ S Q => ta τ S fun d S1 => ∃ xs, d = .tup xs ∧ Q (.tup xs.reverse) S1
theorem e_revT {k : Nat} {p1 p2 p3 : Pos} (he : PE X e (low (kx X bb) ta)) : PE X (.Subscript e (.Slice none none (some (.UnaryOp .USub (.Constant (.int 1) k p1) p2)) p3) pos) (low (kx X bb) (aRevT ta)) :=
  (pe_revT he).weak fun σ H QH ⟨τ, S, Q, R, so, q, k⟩ => ⟨τ, S, _, R, so, q, fun v H1 d S1 so1 st1 r1 ⟨xs, e, q1⟩ => by
    subst e
    obtain ⟨a, vs, rfl, ha, ra⟩ := rel_tupE r1
    exact ⟨a, vs, rfl, ha, fun p hp => k _ _ _ S1 (stok_new so1 hp) (st1.trans (step_new so1 hp)) (rel_tup so1 hp ra.reverse) q1⟩⟩

/-! ### extend -/
def rExtT (K : PySem.W.Frag) : V → List V → Hp → VK → Prop := fun x vs H Q => ∃ l b xs zs, x = .ref l ∧ vs = [.ref b] ∧ H l = some (.lst xs) ∧ SqT K H b zs ∧ xs.length + zs.length ≤ sizeLine ∧ Q .non (upd H l (.lst (xs ++ zs)))
theorem mt_extT : MtR X "list.extend" (rExtT X.K) := by
  intro pins s σ H x vs v us Q I rx rv h
  obtain ⟨l, b, xs, zs, rfl, rfl, hH, hB, hz, q⟩ := h
  cases rx
  obtain ⟨u, rfl, ru⟩ := rv.one
  cases ru
  obtain ⟨z, its, n, r, hl, e⟩ := I.lstM hH
  obtain ⟨its2, r2, ⟨⟨oc, od, odt, osl⟩, e2, hc, n2, hd⟩, z2⟩ := I.tuple hB
  simp only at hc hd
  subst hc hd
  have hl2 := r2.length
  have fits : its.toArray.size + its2.toArray.size ≤ sizeLine := by rw [List.size_toArray, List.size_toArray]; omega
  have short : ¬ (!its.toArray.isEmpty && Builtin.List.listTooLong (its.toArray.size + its2.toArray.size)) = true := by
    rw [notLongL fits, Bool.and_false]
    exact Bool.false_ne_true
  refine call_meets F.slot_list_extend ⟨_, e, rfl⟩ F.entry_list_extend (F.args_list_extend_2 _ _) (ext_tup l its.toArray n b od osl its2.toArray n2 short (by rw [List.size_toArray]; omega) (by omega)) ⟨e, e2, ?_⟩
  exact ⟨.non, _, I.lset (its' := its ++ its2) hH e (by simp) (r.append r2) (by rw [List.length_append]; omega), rfl, q⟩
def mExtend (x : AV) (as : List AV) (S : Store) (Q : AK) : Prop := ∃ l ds y es, x = .ref l ∧ as = [y] ∧ S l = some (.lst ds) ∧ ((∃ l2, y = .tup l2 ∧ es = l2) ∨ wstA S y = some es) ∧ ds.length + es.length ≤ sizeLine ∧ Q .non (updS S l (.lst (ds ++ es)))
theorem mtr_or {id : String} {r r' : V → List V → Hp → VK → Prop} (h : MtR X id r) (h' : MtR X id r') : MtR X id (fun x xs H Q => r x xs H Q ∨ r' x xs H Q) := fun pins s σ H x xs v us Q I rx rs q => q.elim (fun q => h pins s σ H x xs v us Q I rx rs q) fun q => h' pins s σ H x xs v us Q I rx rs q
theorem m_extend : MtR X "list.extend" (lowM X.K mExtend) := mtr_weak (mtr_or (r := rExtend) (mt_extend (X := X)) mt_extT) fun x vs H QH ⟨dx, as, S, Q, rx, rs, so, ⟨l, ds, y, es, ex, ea, hs, hy, hz, q⟩, k⟩ => by
  subst ex ea
  obtain rfl := rel_refE rx
  obtain ⟨w, rfl, rw'⟩ := rel_one rs
  obtain ⟨ws, hl, rl⟩ := so l _ hs
  rcases hy with ⟨l2, rfl, rfl⟩ | hy
  · obtain ⟨b, zs, rfl, hb, rb⟩ := rel_tupE rw'
    obtain ⟨so2, st2⟩ := mutL so hs (rl.app rb)
    exact .inr ⟨l, b, ws, zs, rfl, rfl, hl, hb, by rw [rl.length, rb.length]; exact hz, k _ _ _ _ so2 st2 .non q⟩
  · obtain ⟨b, zs, rfl, hb, rb⟩ := rel_wstE so rw' hy
    obtain ⟨so2, st2⟩ := mutL so hs (rl.app rb)
    exact .inl ⟨l, b, ws, zs, rfl, rfl, hl, hb, by rw [rl.length, rb.length]; exact hz, k _ _ _ _ so2 st2 .non q⟩
/-- sep.join(texts) -/
def isStrA : AV → Bool
  | .str _ => true
  | _ => false
def strOf : AV → Str
  | .str z => z
  | _ => Str.empty
theorem rel_strs {K : PySem.W.Frag} {H : Hp} {S : Store} : ∀ {vs : List V} {ds : List AV}, RelAs K H S vs ds → ds.all isStrA = true → vs = (ds.map strOf).map V.str
  | _, _, .nil, _ => rfl
  | _, _, .cons (d := d) r t, e => by
    rw [List.all_cons, Bool.and_eq_true_iff] at e
    cases d with
    | str b => rw [rel_strE r, rel_strs t e.2]; rfl
    | _ => cases e.1
def mJoin (x : AV) (as : List AV) (S : Store) (Q : AK) : Prop := ∃ z y xs, x = .str z ∧ as = [y] ∧ seqA S y = some xs ∧ xs.all isStrA = true ∧ ((xs.map strOf).map (·.length)).sum + xs.length * z.length ≤ 16777216 ∧ Q (.str (Txt.join z (xs.map strOf))) S
theorem m_join : MtR X "str.join" (lowM X.K mJoin) := mtr_weak mt_join fun x vs H QH ⟨dx, as, S, Q, rx, rs, so, ⟨z, y, xs, ex, ea, hy, hs, hz, q⟩, k⟩ => by
  subst ex ea
  obtain rfl := rel_strE rx
  obtain ⟨w, rfl, rw'⟩ := rel_one rs
  obtain ⟨b, zs, rfl, hb, rb⟩ := rel_seqE so rw' hy
  have e := rel_strs rb hs
  subst e
  exact ⟨z, b, xs.map strOf, rfl, rfl, hb, by rw [List.length_map]; exact hz, k _ H _ S so .refl (.str _) q⟩

/-! ### xs[i] = v -/
def agSub (to ti : AE) : AG := fun d τ S Q => to τ S fun o S1 => ti τ S1 fun i S2 => ∃ l ds k j, o = .ref l ∧ i = .int k ∧ S2 l = some (.lst ds) ∧ ixN ds.length k = some j ∧ Q τ (updS S2 l (.lst (ds.set j d)))
theorem g_sub {o i : Expr} {to ti : AE} (ho : PE X o (low (kx X bb) to)) (hi : PE X i (low (kx X bb) ti)) (hs : ∀ v, assign (.Subscript o i pos) X.env v = (do
    let ov ← holding [v] (eval o X.env)
    let iv ← holding [v, ov] (eval i X.env)
    standAt pos
    holding [v, ov, iv] (setItem ov iv v)
    release [v, ov, iv] []) := by intro _; rfl) : PG X (.Subscript o i pos) (lowG (kx X bb) (agSub to ti)) := (pg_sub ho hi set_list hs).weak fun v σ H QH ⟨d, τ, S, Q, r, R, so, q, k⟩ =>
  ⟨τ, S, _, R, so, q, fun vo H1 dO S1 so1 st1 r1 q1 => ⟨τ, S1, _, R.step st1, so1, q1, fun vi H2 di S2 so2 st2 r2 ⟨l, ds, kk, j, eo, ei, hs, hj, q2⟩ => by
    subst eo ei
    obtain rfl := rel_refE r1
    obtain rfl := rel_intE r2
    obtain ⟨ws, hl, rl⟩ := so2 l _ hs
    have st := st1.trans st2
    obtain ⟨so3, st3⟩ := mutL so2 hs (rl.set (r.step st) j)
    exact ⟨l, ws, kk, j, rfl, rfl, hl, by rw [rl.length]; exact hj, k _ _ _ _ so3 (st.trans st3) (R.step (st.trans st3)) q2⟩⟩⟩

/-! ### comprehensions -/
def wipeA (τ : ASt) : List Nat → ASt
  | [] => τ
  | v :: vs => (wipeA τ vs).set v none
theorem Rp.forget {kb : KB} {H : Hp} {S : Store} {σ : L2.St} {τ : ASt} (r : Rp kb H S σ τ) (i : Nat) : Rp kb H S (σ.set i none) (τ.set i none) := by
  refine ⟨by rw [List.length_set, List.length_set, r.len], fun j d h => ?_, r.bt⟩
  by_cases z : j = i
  · subst z
    by_cases hl : j < τ.length
    · rw [List.getElem?_set_self hl] at h; cases h
    · rw [List.getElem?_eq_none (by rw [List.length_set]; omega)] at h; cases h
  · rw [List.getElem?_set_ne (Ne.symm z)] at h
    obtain ⟨v, hv, q⟩ := r.at_ j d h
    exact ⟨v, by rw [List.getElem?_set_ne (Ne.symm z)]; exact hv, q⟩
theorem Rp.wipe {kb : KB} {H : Hp} {S : Store} {σ : L2.St} {τ : ASt} (r : Rp kb H S σ τ) : ∀ vs : List Nat, Rp kb H S (L2.wipe σ vs) (wipeA τ vs)
  | [] => r
  | v :: vs => (Rp.wipe r vs).forget v
theorem wipe_set {σ : L2.St} {i : Nat} {o : Option V} : ∀ {vs : List Nat}, i ∈ vs → L2.wipe (σ.set i o) vs = L2.wipe σ vs
  | v :: vs, h => by
    show (L2.wipe (σ.set i o) vs).set v none = (L2.wipe σ vs).set v none
    by_cases z : i ∈ vs
    · rw [wipe_set z]
    · have hv : i = v := by simpa [z] using h
      subst hv
      have out : ∀ (ws : List Nat) (σ : L2.St), i ∉ ws → L2.wipe (σ.set i o) ws = (L2.wipe σ ws).set i o := by
        intro ws
        induction ws with
        | nil => intro σ _; rfl
        | cons u us ih =>
          intro σ hn
          simp only [List.mem_cons, not_or] at hn
          show (L2.wipe (σ.set i o) us).set u none = ((L2.wipe σ us).set u none).set i o
          rw [ih σ hn.2, List.set_comm _ _ hn.1]
      rw [out vs σ z, List.set_set]
theorem wipe_wipe (σ : L2.St) : ∀ vs : List Nat, (∀ ws, (∀ v ∈ vs, v ∈ ws) → L2.wipe (L2.wipe σ vs) ws = L2.wipe σ ws)
  | [] => fun _ _ => rfl
  | v :: vs => fun ws h => by
    show L2.wipe ((L2.wipe σ vs).set v none) ws = _
    rw [wipe_set (h v List.mem_cons_self)]
    exact wipe_wipe σ vs ws fun u hu => h u (List.mem_cons_of_mem _ hu)
/-- [e for x in xs if t]: the new list as one that does not change any more -/
def aLc (ai : AI) (j : Nat) (tt : AT) (te : AE) (vs : List Nat) : AE := fun τ S Q => ai τ S fun xs G S1 => ∀ D, S1 D = none → ∃ I : Nat → List AV → Store → Prop, I 0 [] (updS S1 D .hid) ∧
  (∀ (i : Nat) x acc S2, xs[i]? = some x → I i acc S2 → G S2 ∧ tt ((wipeA τ vs).set j (some x)) S2 fun b S3 => if b = true then te ((wipeA τ vs).set j (some x)) S3 fun y S4 => acc.length < sizeLine ∧ I (i + 1) (acc ++ [y]) S4 else I (i + 1) acc S3) ∧
  (∀ acc S2, I xs.length acc S2 → G S2 ∧ Q (.lst acc) (dropS S2 D))
/-- the list that grows, as a hidden thing of the store -/
theorem lc_low {kb : KB} {wi : TI} {ai : AI} {g : TG} {tt : AT} {te : AE} {vs : List Nat} {j : Nat} (hj : j ∈ vs) (hwi : wi = lowI kb ai) (hg : g = gName j) : ∀ σ H QH, low kb (aLc ai j tt te vs) σ H QH → tLc wi g (lowT kb tt) (low kb te) vs σ H QH := by
  subst hwi hg
  intro σ H QH ⟨τ, S, Q, R, so, q, k⟩
  refine ⟨τ, S, _, R, so, q, fun J H1 xs G S1 so1 st1 it hI D hD => ?_⟩
  obtain ⟨I, i0, hstep, hend⟩ := hI D (so1.fresh hD)
  have nD : S1 D = none := so1.fresh hD
  -- the start
  have stD : Step H1 S1 (upd H1 D (.lst [])) (updS S1 D .hid) := step_put so1 hD
  have soD : StOk kb.K (upd H1 D (.lst [])) (updS S1 D .hid) := stok_put (u := .hid) so1 hD ⟨_, upd_same⟩
  refine ⟨fun i m H' => ∃ acc S2 ws, I i acc S2 ∧ i + m = xs.length ∧ StOk kb.K H' S2 ∧ S2 D = some .hid ∧ H' D = some (.lst ws) ∧ RelAs kb.K H' S2 ws acc ∧
    (∀ a o, a ≠ D → S1 a = none → H1 a = some o → H' a = some o ∧ S2 a = none) ∧ (∀ a, S1 a = some .hid → H' a = H1 a ∧ S2 a = some .hid), ⟨xs.length, [], _, [], i0, by omega, soD, updS_same, upd_same, .nil, fun a o _ n h => stD.old a o n h, fun a h => stD.hid a h⟩, ?_⟩
  intro i m H2 ⟨acc, S2, ws, w2, hm, so2, hh2, hD2, r2, old2, hid2⟩
  have st2 : Step H1 S1 H2 S2 := ⟨fun a o n h => old2 a o (ne_of_none h hD) n h, hid2⟩
  by_cases hi : i < xs.length
  · right
    have hx : xs[i]? = some xs[i] := List.getElem?_eq_getElem hi
    obtain ⟨hG, hq⟩ := hstep i _ acc S2 hx w2
    obtain ⟨hgo, hy⟩ := (it H2 S2 so2 st2 hG).1 i _ hx
    refine ⟨hgo, _, fun H' h => h, fun v H3 hv => ?_⟩
    obtain ⟨so3, st3, r3⟩ := hy v H3 hv
    refine ⟨by rw [wipe_set hj]; exact wipe_wipe σ vs vs fun _ h => h, ?_⟩
    have R3 : Rp kb H3 S2 ((L2.wipe σ vs).set j (some v)) ((wipeA τ vs).set j (some xs[i])) := (((R.step st1).step st2).step st3).wipe vs |>.set r3 j
    have keep : ∀ {H4 : Hp} {S4 : Store}, Step H2 S2 H4 S4 → H4 D = some (.lst ws) ∧ S4 D = some .hid ∧ RelAs kb.K H4 S4 ws acc ∧ (∀ a o, a ≠ D → S1 a = none → H1 a = some o → H4 a = some o ∧ S4 a = none) ∧ (∀ a, S1 a = some .hid → H4 a = H1 a ∧ S4 a = some .hid) := by
      intro H4 S4 st
      obtain ⟨e1, e2⟩ := st.hid D hh2
      exact ⟨e1.trans hD2, e2, r2.step st, fun a o ne n h => let ⟨h1, n1⟩ := old2 a o ne n h; st.old a o n1 h1, fun a h => let ⟨h1, n1⟩ := hid2 a h; let ⟨h3, n3⟩ := st.hid a n1; ⟨h3.trans h1, n3⟩⟩
    refine ⟨_, S2, _, R3, so3, hq, fun b H4 S4 so4 st4 q4 => ?_⟩
    cases b with
    | false =>
      rw [if_neg Bool.false_ne_true] at q4 ⊢
      obtain ⟨e1, e2, e3, e4, e5⟩ := keep (st3.trans st4)
      exact ⟨m - 1, by omega, acc, S4, ws, q4, by omega, so4, e2, e1, e3, e4, e5⟩
    | true =>
      rw [if_pos rfl] at q4 ⊢
      refine ⟨_, S4, _, R3.step st4, so4, q4, fun y H5 dy S5 so5 st5 r5 ⟨hz, w5⟩ => ?_⟩
      obtain ⟨e1, e2, e3, e4, e5⟩ := keep ((st3.trans st4).trans st5)
      refine ⟨ws, e1, by rw [r2.length]; exact hz, m - 1, by omega, acc ++ [dy], S5, ws ++ [y], w5, by omega, ?_⟩
      -- the list at D has grown; nothing else
      have grow : Old H5 S5 (upd H5 D (.lst (ws ++ [y]))) S5 := fun a o n h => by
        have ne : a ≠ D := by rintro rfl; rw [e2] at n; cases n
        exact ⟨by rw [upd_ne ne]; exact h, n⟩
      refine ⟨fun a o e => ?_, e2, upd_same, (e3.app (.cons r5 .nil)).stepO grow, fun a o ne n h => by rw [upd_ne ne]; exact e4 a o ne n h, fun a h => ?_⟩
      · by_cases z : a = D
        · subst z
          rw [e2] at e
          cases e
          exact ⟨_, upd_same⟩
        · exact (so5 a o e).stepO grow (upd_ne z)
      · have z : a ≠ D := by rintro rfl; rw [nD] at h; cases h
        rw [upd_ne z]
        exact e5 a h
  · left
    have e : i = xs.length := by omega
    subst e
    obtain ⟨hG, hq⟩ := hend acc S2 w2
    have less : Old H2 S2 H2 (dropS S2 D) := fun a o n h => ⟨h, by unfold dropS; split; rfl; exact n⟩
    refine ⟨(it H2 S2 so2 st2 hG).2, k _ H2 _ (dropS S2 D) (fun a o e => ?_) (st1.trans ⟨fun a o n h => ?_, fun a h => ?_⟩) (.lst hD2 dropS_same (r2.stepO less)) hq⟩
    · have ne : a ≠ D := by rintro rfl; rw [dropS_same] at e; cases e
      rw [dropS_ne ne] at e
      exact (so2 a o e).stepO less rfl
    · obtain ⟨h1, n1⟩ := st2.old a o n h
      exact ⟨h1, (less a o n1 h1).2⟩
    · obtain ⟨h1, n1⟩ := st2.hid a h
      have ne : a ≠ D := by rintro rfl; rw [nD] at h; cases h
      exact ⟨h1, by rw [dropS_ne ne]; exact n1⟩
end
end L3

set_option Elab.async false
set_option linter.all false
set_option maxRecDepth 100000
set_option maxHeartbeats 2000000
set_option autoImplicit false
/-! L3H: comprehensions as expressions and set to names, calls with keywords, stores to slices. -/
namespace L3
open PySem L2 PyProof.Rows
variable {bb : Birth}
section
variable {X : Cx} {e a b c : Expr} {es : List Expr} {ta tb tc te : AE} {tt : AT} {t : AA} {pos p : Pos}

/-! ### comprehensions -/
def aYes : AT := fun _ S Q => Q true S
theorem ts_nil : PTs X [] (lowT (kx X bb) aYes) := pts_nil.weak fun σ H QH ⟨τ, S, Q, R, so, q, k⟩ => k true H S so .refl q
theorem ts_one (h : PT X c (lowT (kx X bb) tt)) : PTs X [c] (lowT (kx X bb) tt) := pts_one h
section
variable {elt tg iter : Expr} {ifs : List Expr} {scope : Scope} {own : List (Str × Nat)} {spos : Pos} {ai : AI} {j : Nat}
theorem e_lc (j : Nat) (own : List (Str × Nat)) (hc : X.calm = true) (hN : X.N.Nodup) (hi : PI X tg iter (lowI (kx X bb) ai)) (ok : BlkOk X.N X.env.scope scope own)
    (hg : ∀ (s : Shared) (H : Hp) (C : Addr) (cl : List (Str × Addr)) (fp : List Addr), PG (X.blk s H scope (compEnvC scope cl C X.env) fp) tg (gName j))
    (ht : ∀ (s : Shared) (H : Hp) (C : Addr) (cl : List (Str × Addr)) (fp : List Addr), PTs (X.blk s H scope (compEnvC scope cl C X.env) fp) ifs (lowT (kx X bb) tt))
    (he : ∀ (s : Shared) (H : Hp) (C : Addr) (cl : List (Str × Addr)) (fp : List Addr), PE (X.blk s H scope (compEnvC scope cl C X.env) fp) elt (low (kx X bb) te))
    (hj : j ∈ own.map (·.2) := by decide) (hs : ∀ x, foldedSetIterable iter X.env x = pure x := by intro _; rfl) : PE X (.ListComp elt [⟨tg, iter, ifs, 0⟩] scope pos) (low (kx X bb) (aLc ai j tt te (own.map (·.2)))) :=
  (pe_lc (own := own) hc hN hi ok hg ht he hs).weak (lc_low hj rfl rfl)
theorem s_setLc {y : Str} {py : Pos} (i : Nat) (j : Nat) (own : List (Str × Nat)) (hc : X.calm = true) (hN : X.N.Nodup) (hi : PI X tg iter (lowI (kx X bb) ai)) (ok : BlkOk X.N X.env.scope scope own)
    (hg : ∀ (s : Shared) (H : Hp) (C : Addr) (cl : List (Str × Addr)) (fp : List Addr), PG (X.blk s H scope (compEnvC scope cl C X.env) fp) tg (gName j))
    (ht : ∀ (s : Shared) (H : Hp) (C : Addr) (cl : List (Str × Addr)) (fp : List Addr), PTs (X.blk s H scope (compEnvC scope cl C X.env) fp) ifs (lowT (kx X bb) tt))
    (he : ∀ (s : Shared) (H : Hp) (C : Addr) (cl : List (Str × Addr)) (fp : List Addr), PE (X.blk s H scope (compEnvC scope cl C X.env) fp) elt (low (kx X bb) te))
    (hsw : swapsWith (.ListComp elt [⟨tg, iter, ifs, 0⟩] scope pos) (some (.Name y py)) spos.line X.env = pure true := by exact sw_true rfl rfl rfl (by decide +kernel))
    (hy : X.N[i]? = some y := by rfl) (hyl : X.env.scope.names.lookup y = some .local := by rfl)
    (hj : j ∈ own.map (·.2) := by decide) (hs : ∀ x, foldedSetIterable iter X.env x = pure x := by intro _; rfl) : PS X (.Assign [.Name y py] (.ListComp elt [⟨tg, iter, ifs, 0⟩] scope pos) spos) (lowS (kx X bb) (aAsg (aLc ai j tt te (own.map (·.2))) (agName i))) :=
  (ps_setLc (own := own) hc hN hy hyl hsw hi ok hg ht he hs).weak fun D σ H ⟨τ, S, DA, R, so, q, k⟩ => lc_low hj rfl rfl σ H _ ⟨τ, S, _, R, so, q, fun v H' d S' so' st' r' q' => k.nx _ H' _ S' so' st' ((R.step st').set r' i) q'⟩
end
/-- the iterator goes over one list all the way: what a pure turn gives -/
theorem lc_map {ai : AI} {j : Nat} {tt : AT} {te : AE} {vs : List Nat} {τ : ASt} {S : Store} {Q : AK} (h : ai τ S fun xs G S1 => xs.length ≤ sizeLine ∧ ∃ f : AV → AV, (∀ S2, G S1 → G S2) ∧ G S1 ∧
    (∀ (i : Nat) x S2, xs[i]? = some x → (∀ Qb : Bool → Store → Prop, Qb true S2 → tt ((wipeA τ vs).set j (some x)) S2 Qb) ∧ ∀ Qe : AK, Qe (f x) S2 → te ((wipeA τ vs).set j (some x)) S2 Qe) ∧ Q (.lst (xs.map f)) S1)
    (mono : ∀ Q1 Q2 : List AV → (Store → Prop) → Store → Prop, (∀ xs G S1, Q1 xs G S1 → Q2 xs G S1) → ai τ S Q1 → ai τ S Q2) : aLc ai j tt te vs τ S Q := by
  refine mono _ _ (fun xs G S1 ⟨hl, f, gm, g1, ht, q⟩ => fun D hD => ?_) h
  refine ⟨fun i acc S2 => i ≤ xs.length ∧ acc = (xs.take i).map f ∧ S2 = updS S1 D .hid, ⟨Nat.zero_le _, rfl, rfl⟩, fun i x acc S2 hx ⟨hi, ea, es⟩ => ?_, fun acc S2 ⟨hi, ea, es⟩ => ?_⟩
  · obtain ⟨h1, h2⟩ := ht i x S2 hx
    have hlt := (List.getElem?_eq_some_iff.mp hx).1
    refine ⟨gm S2 g1, h1 _ ?_⟩
    rw [if_pos rfl]
    refine h2 _ ⟨?_, hlt, ?_, es⟩
    · rw [ea, List.length_map, List.length_take]
      omega
    · rw [ea, List.take_add_one, hx]
      simp
  · refine ⟨gm S2 g1, ?_⟩
    rw [ea, es, List.take_length, dropS_upd hD]
    exact q

/-! ### keywords -/
structure FnK (P : Program) (w : World) (K : PySem.W.Frag) (mg : Str → Option Value) (base : Heap) (k : Nat) (x : Str) (ps : List Str) (asp : ASp) (n : Nat) (ks : List Str) (g : {α : Type} → List α → List α → List α) : Prop where
  ex : ∃ (f : Addr) (fd : FuncData), FnG P w K mg base k f fd ps (spOf K asp) ∧ mg x = some (.ref f) ∧ PySem.W.keepIn K (.ref f) = true ∧
    (∀ (s : Shared) (us ws : List Value), us.length = n → ws.length = ks.length → BindsTo s fd ⟨us, ks.zip ws⟩ (ps.zip (g us ws)))
  vals : ∀ {vs : List V} {us : List Value} {zs : List V} {ws : List Value}, vs.length = n → zs.length = ks.length → Vals vs us → Vals zs ws → Vals (g vs zs) (g us ws)
  rels : ∀ {H : Hp} {S : Store} {vs zs : List V} {ds es : List AV}, vs.length = n → zs.length = ks.length → RelAs K H S vs ds → RelAs K H S zs es → RelAs K H S (g vs zs) (g ds es)
theorem run_gk {k : Nat} {f : Addr} {fd : FuncData} {ps ks : List Str} {sp : Sp} {g : List Value → List Value → List Value} {gV : List V → List V → List V} {pins : List (Addr × Obj)} {σ : L2.St} {H : Hp} {s : Shared} {Q : VK} {us ws : List Value} {vs zs : List V} (F : FnG X.prog X.w X.K X.mg X.base k f fd ps sp) (gd : X.A.guards = some [])
    (hr : Room k X.A) (hb : BindsTo s fd ⟨us, ks.zip ws⟩ (ps.zip (g us ws))) (I : Inv X pins σ H s) (r : Vals (gV vs zs) (g us ws)) (h : sp (gV vs zs) H Q E0) : wpAny (model X.prog X.w) X.A (call (.ref f) us (ks.zip ws)) (fun u s' => EP X pins σ Q u s') X.xe s := by
  refine wpAny_call (codeAny_mono (F.go X.A gd hr X.stack s H ⟨us, ks.zip ws⟩ (g us ws) (gV vs zs) Q E0 I.env0 hb r h) fun r' s' z => ?_)
  cases r' with
  | error e => exact False.elim z
  | ok fl =>
    cases fl with
    | brk => exact z.elim
    | cont => exact z.elim
    | next => exact z.elim
    | ret u => exact I.after z
def lowK (kb : KB) (aa : AA) : TA := lowA kb aa
theorem k_nil : PK X [] (lowA (kx X bb) aNil) := ⟨fun pos pins s σ H Q I h => pk_nil.run pos pins s σ H Q I (by obtain ⟨τ, S, QA, R, so, q, k⟩ := h; exact k [] H [] S so .refl .nil q)⟩
theorem k_cons {nm : Option Str} {kpos : Pos} {kws : List Keyword} {tr : AA} (ha : PE X e (low (kx X bb) ta)) (hr : PK X kws (lowA (kx X bb) tr)) : PK X (⟨nm, e, kpos⟩ :: kws) (lowA (kx X bb) (aCons ta tr)) := ⟨fun pos pins s σ H Q I h => (pk_cons ha hr).run pos pins s σ H Q I (by
  obtain ⟨τ, S, QA, R, so, q, k⟩ := h
  exact ⟨τ, S, _, R, so, q, fun v H1 d S1 so1 st1 r1 q1 => ⟨τ, S1, _, R.step st1, so1, q1, fun vs H2 ds S2 so2 st2 r2 q2 => k (v :: vs) H2 (d :: ds) S2 so2 (st1.trans st2) (.cons (r1.step st2) r2) q2⟩⟩)⟩
/-- f(k = v, ..) -/
def aCallK (asp : ASp) (m : Nat) (g : List AV → List AV → List AV) (tk : AA) : AE := fun τ S Q => tk τ S fun zs S1 => zs.length = m ∧ asp (g [] zs) S1 Q
theorem f_callK0 {k : Nat} {x : Str} {ps ks : List Str} {asp : ASp} {g : {α : Type} → List α → List α → List α} {kws : List Keyword} {tk : AA} (F : FnK X.prog X.w X.K X.mg X.base k x ps asp 0 ks g) (gd : X.A.guards = some []) (hr : Room k X.A) (hkw : PK X kws (lowA (kx X bb) tk)) (hg : Gl X x := by rfl)
    (hall : (backToKw pos (keywordEach kws X.env)).all (·.1.isSome) = true := by rfl) (hks : (backToKw pos (keywordEach kws X.env)).filterMap (·.1) = ks := by rfl) (hdb : (x == ("__debug__" : Str)) = false := by decide)
    (hpl : ((backTo pos (starEach [] X.env)).any (·.1) || (backToKw pos (keywordEach kws X.env)).any (·.1.isNone)) = false := by rfl) :
    PE X (.Call (.Name x p) [] kws pos) (low (kx X bb) (aCallK asp ks.length g tk)) := by
  obtain ⟨f, fd, G, hm, hk, hb⟩ := F.ex
  refine ⟨fun pins s σ H QH I h => wpAny_Call_Name_kw (ld_glob I hg hm (PySem.W.callWith_KW0 (h₀ := X.base) I.ok.mod.kin hk hall ?_ hpl) hdb)⟩
  obtain ⟨τ, S, Q, R, so, q, k⟩ := h
  refine thn (hkw.run pos pins s σ H (fun zs H1 => ∃ es S1, StOk X.K H1 S1 ∧ Step H S H1 S1 ∧ RelAs X.K H1 S1 zs es ∧ es.length = ks.length ∧ asp (g [] es) S1 Q) I ⟨τ, S, _, R, so, q, fun zs H1 es S1 so1 st1 r1 q1 => ⟨es, S1, so1, st1, r1, q1⟩⟩) fun ws s2 z => ?_
  obtain ⟨zs, H2, I2, rz, es, S1, so1, st1, r1, hl, q1⟩ := z
  refine ⟨I2.kIn, ?_⟩
  rw [hks]
  have lz : zs.length = ks.length := r1.length.trans hl
  exact run_gk (us := []) (vs := []) (zs := zs) (g := g) (gV := g) G gd hr (hb s2 [] ws rfl (rz.length.symm.trans lz)) I2 (F.vals rfl lz .nil rz) ⟨g [] es, S1, Q, F.rels rfl lz .nil r1, so1, q1, fun d S' v H' so' st' r' q' => k v H' d S' so' (st1.trans st') r' q'⟩
/-- f(e, .., k = v, ..) -/
def aCallKn (asp : ASp) (n m : Nat) (g : List AV → List AV → List AV) (t tk : AA) : AE := fun τ S Q => t τ S fun ds S1 => ds.length = n ∧ tk τ S1 fun zs S2 => zs.length = m ∧ asp (g ds zs) S2 Q
theorem f_callK {k n : Nat} {x : Str} {ps ks : List Str} {asp : ASp} {g : {α : Type} → List α → List α → List α} {kws : List Keyword} {tk : AA} (F : FnK X.prog X.w X.K X.mg X.base k x ps asp n ks g) (gd : X.A.guards = some []) (hr : Room k X.A) (ha : PA X (e :: es) (lowA (kx X bb) t)) (hkw : PK X kws (lowA (kx X bb) tk)) (hg : Gl X x := by rfl)
    (hall : (backToKw pos (keywordEach kws X.env)).all (·.1.isSome) = true := by rfl) (hks : (backToKw pos (keywordEach kws X.env)).filterMap (·.1) = ks := by rfl) (hdb : (x == ("__debug__" : Str)) = false := by decide)
    (he : starEach (e :: es) X.env = (false, eval e X.env) :: starEach es X.env := by rfl) (hpl : ((backTo pos (starEach (e :: es) X.env)).any (·.1) || (backToKw pos (keywordEach kws X.env)).any (·.1.isNone)) = false := by rfl) :
    PE X (.Call (.Name x p) (e :: es) kws pos) (low (kx X bb) (aCallKn asp n ks.length g t tk)) := by
  obtain ⟨f, fd, G, hm, hk, hb⟩ := F.ex
  refine ⟨fun pins s σ H QH I h => wpAny_Call_Name_kw (ld_glob I hg hm (PySem.W.callWith_KW (h₀ := X.base) I.ok.mod.kin hk hall ?_ hpl he) hdb)⟩
  obtain ⟨τ, S, Q, R, so, q, k⟩ := h
  refine thn (ha.run pos pins s σ H (fun vs H1 => ∃ ds S1, StOk X.K H1 S1 ∧ Step H S H1 S1 ∧ RelAs X.K H1 S1 vs ds ∧ ds.length = n ∧ tk τ S1 fun zs S2 => zs.length = ks.length ∧ asp (g ds zs) S2 Q) I ⟨τ, S, _, R, so, q, fun vs H1 ds S1 so1 st1 r1 q1 => ⟨ds, S1, so1, st1, r1, q1⟩⟩) fun us s1 z => ?_
  obtain ⟨vs, H1, I1, rv, ds, S1, so1, st1, r1, hn, q1⟩ := z
  refine thn (hkw.run pos pins s1 σ H1 (fun zs H2 => ∃ es S2, StOk X.K H2 S2 ∧ Step H1 S1 H2 S2 ∧ RelAs X.K H2 S2 zs es ∧ es.length = ks.length ∧ asp (g ds es) S2 Q) I1 ⟨τ, S1, _, R.step st1, so1, q1, fun zs H2 es S2 so2 st2 r2 q2 => ⟨es, S2, so2, st2, r2, q2⟩⟩) fun ws s2 z => ?_
  obtain ⟨zs, H2, I2, rz, es, S2, so2, st2, r2, hl, q2⟩ := z
  refine ⟨I2.kIn, ?_⟩
  rw [hks]
  have lz : zs.length = ks.length := r2.length.trans hl
  have lv : vs.length = n := r1.length.trans hn
  exact run_gk (us := us) (vs := vs) (zs := zs) (g := g) (gV := g) G gd hr (hb s2 us ws (rv.length.symm.trans lv) (rz.length.symm.trans lz)) I2 (F.vals lv lz rv rz) ⟨g ds es, S2, Q, F.rels lv lz (r1.step st2) r2, so2, q2, fun d S' v H' so' st' r' q' => k v H' d S' so' ((st1.trans st2).trans st') r' q'⟩
end

/-! ### xs[lo:] = ys -/
section
variable {prog : Program} {w : World} {A : Around} {E : Value → Shared → Prop} {s : Shared}
set_option maxRecDepth 100000 in
theorem put_slice {l b sl : Addr} {items new : Array Value} {n n2 : Nat} {vl vu : Value} {lo hi : Option Int} {a c : Nat} {Q : Unit → Shared → Prop} (e : s.heap.get? l = some { cls := .type "list", data := .seq items n }) (e2 : s.heap.get? b = some { cls := .type "list", data := .seq new n2 }) (hne : l ≠ b)
    (hs : s.heap.IsSliceOf sl vl vu .none) (pl : IsPart vl lo) (pu : IsPart vu hi) (hb : sliceBounds lo hi none items.size = ((a : Int), (c : Int), 1)) (hac : a ≤ c) (hc : c ≤ items.size)
    (hsz : items.size + new.size ≤ sizeLine) (h : Q () { s with heap := s.heap.update l (Obj.mapSeq fun xs => xs.extract 0 a ++ new ++ xs.extract c xs.size) }) :
    wpAny (model prog w) A (setItem (.ref l) (.ref sl) (.ref b)) Q E s := by
  have isL : s.heap.IsList l items := PySem.IsL.isList e
  have isB : s.heap.IsList b new := PySem.IsL.isList e2
  obtain ⟨os, hos, hcs, hds⟩ := id hs
  have isS : s.TypeIs (.ref sl) "slice" := ⟨os, hos, hcs⟩
  have notSame : Builtin.List.listSameRef (.ref l) (.ref b) = false := by unfold Builtin.List.listSameRef; exact beq_eq_false_iff_ne.mpr hne
  have topN : (max (a : Int) (c : Int)).toNat = c := by omega
  have fits : ((fun xs : Array Value => xs.extract 0 a ++ new ++ xs.extract c xs.size) items).size ≤ sizeLine + 1 := by
    simp only [Array.size_append, Array.size_extract]
    omega
  unfold setItem
  try with_reducible refine wpAny_holding ?_
  first | refine wpAny_bind (wpAny_pure ?_) | skip
  refine wpAny_bind (wpAny_sequenceKey isL.typeIs (by decide) (wpAny_bind (wpAny_callSpecial?_slot (name := Str.ofString "__setitem__") isL.typeIs slot_list_setitem (wpAny_call_entry slot_list_setitem isL.typeIs entry_list_setitem ?_ (args_list_setitem _ _ _)))))
  show wpAny _ _ (Builtin.List.listSubscript? (.ref sl) >>= _) _ _ s
  refine wpAny_bind ?_
  unfold Builtin.List.listSubscript?
  refine wpAny_bind (wpAny_specialOf isS slice_no_index ?_)
  simp only [Option.isNone_none, if_true]
  refine wpAny_pure ?_
  show wpAny _ _ (typeOf (.ref sl) >>= _) _ _ s
  refine wpAny_bind (wpAny_typeOf isS ?_)
  first
    | rw [if_neg (by decide)]
    | refine PySem.W.KFB.if_not (by decide) ?_
  rw [listSliceParts_eq]
  refine wpAny_bind (wpAny_bind (wpAny_field hos hds (x := .none) rfl (wpAny_bind (wpAny_listPart .none ?_))))
  rw [if_neg (show ¬ ((rawPart none == rawInt 0) = true) from Bool.false_ne_true)]
  refine wpAny_bind (wpAny_field hos hds (x := vl) rfl (wpAny_bind (wpAny_listPart pl (wpAny_bind (wpAny_field hos hds (x := vu) rfl (wpAny_bind (wpAny_listPart pu (wpAny_pure ?_))))))))
  first
    | simp only [notSame, Bool.false_eq_true, if_false]
    | refine PySem.W.KFB.if_not notSame ?_
  refine wpAny_bind (m := Builtin.List.listAllItems (.ref b) "must assign iterable to extended slice") ?_
  unfold Builtin.List.listAllItems
  refine wpAny_bind (wpAny_typeOf isB.typeIs ?_)
  first
    | refine PySem.W.KFB.if_so (by decide) ?_
    | rw [if_pos (by decide)]
    | simp only [beq_self_eq_true, Bool.true_or, if_true]
  unfold Builtin.List.listItems
  refine wpAny_bind (wpAny_seqItems e2 rfl (wpAny_pure (wpAny_bind (wpAny_bind (wpAny_seqItems e rfl (wpAny_pure ?_))))))
  refine wpAny_bind (wpAny_of_eq ((sliceIndices_raw lo hi none items.size (by simp)).trans (congrArg (pure : Int × Int × Int → Sem (Int × Int × Int)) hb)) ?_)
  show wpAny _ _ (if ((1 : Int) == 1) = true then _ else _) _ _ s
  rw [if_pos (by decide)]
  refine wpAny_bind (wpAny_rule ?_)
  first
    | simp only [notLongL hsz, Bool.false_eq_true, if_false]
    | refine PySem.W.KFB.if_not (notLongL hsz) ?_
  first | refine wpAny_bind (wpAny_pure ?_) | skip
  show wpAny _ _ (updateSeq l (fun xs => xs.extract 0 ((a : Int)).toNat ++ new ++ xs.extract (max (a : Int) (c : Int)).toNat xs.size) >>= _) _ _ s
  rw [topN, Int.toNat_natCast]
  refine wpAny_bind (wpAny_updateSeq (hz := Nat.le_trans (Nat.le_add_right _ _) hsz) (_hz' := fits) e rfl (wpAny_bind (wpAny_letGo ?_)))
  first
    | exact wpAny_bind (wpAny_pure (wpAny_pure ⟨.none, rfl, wpAny_pure h⟩))
    | exact wpAny_pure ⟨.none, rfl, wpAny_pure h⟩
end
theorem bounds_from (i : Int) (n k : Nat) (h : (if i < 0 then i + n else i) = (k : Int)) (hk : k ≤ n) : sliceBounds (some i) none none n = ((k : Int), (n : Int), 1) := by
  simp only [sliceBounds, Option.getD_none, show (1 : Int) > 0 by decide, if_true, h]
  congr 1
  omega
section
variable {X : Cx} {o lo : Expr} {to tl : AE} {pos p2 : Pos}
/-- xs[lo:] = ys -/
def agCut (to tl : AE) : AG := fun d τ S Q => to τ S fun x S1 => aPart tl τ S1 fun o S2 => ∃ i, o = some i ∧ ∃ (l : Addr) (ds : List AV) (k : Nat) (es : List AV), x = .ref l ∧ S2 l = some (.lst ds) ∧ wstA S2 d = some es ∧ d ≠ .ref l ∧ (if i < 0 then i + ds.length else i) = (k : Int) ∧ k ≤ ds.length ∧ ds.length + es.length ≤ sizeLine ∧
  Q τ (updS S2 l (.lst (ds.take k ++ es)))
theorem g_cut (ho : PE X o (low (kx X bb) to)) (hl : PE X lo (low (kx X bb) tl))
    (ha : ∀ v, assign (.Subscript o (.Slice (some lo) none none p2) pos) X.env v = (do
      let ov ← holding [v] (eval o X.env)
      let iv ← holding [v, ov] (eval (.Slice (some lo) none none p2) X.env)
      standAt pos
      holding [v, ov, iv] (setItem ov iv v)
      release [iv, v, ov] []) := by intro _; rfl) : PG X (.Subscript o (.Slice (some lo) none none p2) pos) (lowG (kx X bb) (agCut to tl)) := by
  refine ⟨fun pins s σ H v u QH I r h => ?_⟩
  obtain ⟨d, τ, S, Q, rd, R, so, q, k⟩ := h
  rw [ha]
  refine wpAny_bind (wpAny_holding (thn (ho.run pins s σ H (fun vo H1 => ∃ x S1, StOk X.K H1 S1 ∧ Step H S H1 S1 ∧ RelA X.K H1 S1 vo x ∧ aPart tl τ S1 fun o S2 => ∃ i, o = some i ∧ ∃ (l : Addr) (ds : List AV) (k : Nat) (es : List AV), x = .ref l ∧ S2 l = some (.lst ds) ∧ wstA S2 d = some es ∧ d ≠ .ref l ∧ (if i < 0 then i + ds.length else i) = (k : Int) ∧ k ≤ ds.length ∧
    ds.length + es.length ≤ sizeLine ∧ Q τ (updS S2 l (.lst (ds.take k ++ es)))) I ⟨τ, S, _, R, so, q, fun vo H1 x S1 so1 st1 r1 q1 => ⟨x, S1, so1, st1, r1, q1⟩⟩) fun ov s1 z => ?_))
  obtain ⟨vo, H1, I1, ro, x, S1, so1, st1, r1, q1⟩ := z
  refine wpAny_bind (wpAny_holding (wpAny_Slice ?_))
  have part : PO X (some lo) (lowP (kx X bb) (aPart tl)) := o_some hl
  refine thn (part.run pins s1 σ H1 (fun o H2 => ∃ i S2, o = some i ∧ StOk X.K H2 S2 ∧ Step H1 S1 H2 S2 ∧ ∃ (l : Addr) (ds : List AV) (k : Nat) (es : List AV), x = .ref l ∧ S2 l = some (.lst ds) ∧ wstA S2 d = some es ∧ d ≠ .ref l ∧ (if i < 0 then i + ds.length else i) = (k : Int) ∧ k ≤ ds.length ∧
    ds.length + es.length ≤ sizeLine ∧ Q τ (updS S2 l (.lst (ds.take k ++ es)))) I1 ⟨τ, S1, fun o S2 => ∃ i, o = some i ∧ ∃ (l : Addr) (ds : List AV) (k : Nat) (es : List AV), x = .ref l ∧ S2 l = some (.lst ds) ∧ wstA S2 d = some es ∧ d ≠ .ref l ∧ (if i < 0 then i + ds.length else i) = (k : Int) ∧ k ≤ ds.length ∧
    ds.length + es.length ≤ sizeLine ∧ Q τ (updS S2 l (.lst (ds.take k ++ es))), R.step st1, so1, q1, fun o H2 S2 so2 st2 ⟨i, e, z⟩ => ⟨i, S2, e, so2, st2, z⟩⟩) fun vl s2 z => ?_
  obtain ⟨o2, H2, I2, pl, i, S2, rfl, so2, st2, l, ds, kk, es, rfl, hs, hes, hne, hk, hkl, hz, q2⟩ := z
  refine thn (po_none.run pins s2 σ H2 (fun o G => o = none ∧ G = H2) I2 ⟨rfl, rfl⟩) fun vu s3 z => ?_
  obtain ⟨o3, H3, I3, pu, rfl, rfl⟩ := z
  rw [evalPart_none]
  refine wpAny_pure ?_
  have I4 : Inv X pins σ H3 { s3 with heap := s3.heap.push { cls := .type "slice", data := .fields #[vl, vu, .none] } } := I3.kept (t' := s3.toks) fun b ob q => Heap.get?_push_of_some _ q
  refine wpAny_bind (wpAny_standAt (wpAny_bind (wpAny_holding ?_)))
  have rd2 := (rd.step st1).step st2
  obtain ⟨b, ws, rfl, hb, rb⟩ := rel_wstE so2 rd2 hes
  obtain rfl := rel_refE r1
  obtain rfl : ov = .ref l := ro
  obtain rfl : u = .ref b := r
  obtain ⟨vs, hl0, rl⟩ := so2 l _ hs
  have hne' : l ≠ b := by
    rintro rfl
    cases rd2 with
    | lst h n _ => rw [hs] at n; cases n
    | tup h n _ => cases hes
    | ref _ => exact hne rfl
    | rol _ _ _ => cases hes
    | tupK _ _ => cases hes
    | rolK _ _ => cases hes
  obtain ⟨z1, its, n1, ri, hli, e1⟩ := I4.lstM hl0
  obtain ⟨z2, its2, n2, ri2, hli2, e2⟩ := I4.lstM hb
  have lv := rl.length
  have lw := rb.length
  have sz : its.toArray.size = ds.length := by rw [List.size_toArray, ← hli, lv]
  obtain ⟨so3, st3⟩ := mutL so2 hs ((rl.take kk).app rb)
  refine put_slice (a := kk) (c := ds.length) e1 e2 hne' (Heap.IsSliceOf.new ..) pl pu (by rw [sz]; exact bounds_from i ds.length kk hk hkl) hkl (by rw [sz]; exact Nat.le_refl _) (by rw [sz, List.size_toArray]; omega) (wpAny_release ?_)
  refine ⟨σ, upd H3 l (.lst (vs.take kk ++ ws)), I4.lset (its' := its.take kk ++ its2) (t' := s3.toks) hl0 e1 ?_ ((ri.take kk).append ri2) ?_, k _ _ _ _ so3 ((st1.trans st2).trans st3) (R.step ((st1.trans st2).trans st3)) q2⟩
  · show its.toArray.extract 0 kk ++ its2.toArray ++ its.toArray.extract ds.length its.toArray.size = (its.take kk ++ its2).toArray
    rw [splice_eq, ← sz, List.size_toArray, List.drop_length, List.append_nil]
  · rw [List.length_append, List.length_take]
    omega
end
end L3

set_option Elab.async false
set_option linter.all false
set_option maxRecDepth 100000
set_option maxHeartbeats 2000000
set_option autoImplicit false
/-! L3I: what a generated text leans on: defs of the top, constants, stored results. -/
namespace L3
open PySem L2 PyProof.Rows
variable {bb : Birth}

/-- a def of the top as it stands -/
structure Def (K : PySem.W.Frag) (mg : Str → Option Value) (x : Str) (st : Stmt) (ps : List Str) : Prop where
  ex : ∃ (f : Addr) (fd : FuncData), L2.Fun K x x st f fd ∧ mg x = some (.ref f) ∧ Binds K fd ps []
theorem Def.of {K : PySem.W.Frag} {h : Heap} {mg : Str → Option Value} {x : Str} {st : Stmt} {ps : List Str} {f : Addr} {od an : Option Addr} {sl : Array (Option Value)} {oc kV doc pm cd ct : Value} (X : K.In h) (G : h.Ns mainGlobals mg)
    (a : PySem.W.nsIn K mainGlobals x = some (some (.ref f))) (l : K.lookup f = some ⟨oc, od, .func (PySem.W.fnOf x x (defArgs st) (defBody st) (defScope st) .none kV doc pm an cd ct), sl⟩) (c : PySem.W.codeIn K cd x = true) (k : PySem.W.keepIn K (.ref f) = true)
    (b : ∀ (kV doc pm : Value) (an : Option Addr) (cdv ct : Value) (us : List Value), us.length = ps.length → bindArgs (PySem.W.fnOf x x (defArgs st) (defBody st) (defScope st) .none kV doc pm an cdv ct) ⟨us, []⟩ = pure (ps.zip us)) : Def K mg x st ps :=
  ⟨f, _, fun_mk (st := st) l c k, PySem.W.mg_of X G a, (fun_mk (st := st) l c k).binds b⟩
/-- a def with its promise -/
structure FnX (P : Program) (w : World) (K : PySem.W.Frag) (mg : Str → Option Value) (base : Heap) (k : Nat) (x : Str) (st : Stmt) (ps : List Str) (asp : ASp) : Prop where
  ex : ∃ (f : Addr) (fd : FuncData), L2.Fun K x x st f fd ∧ FnG P w K mg base k f fd ps (spOf K asp) ∧ mg x = some (.ref f) ∧ Binds K fd ps []
section
variable {P : Program} {w : World} {K : PySem.W.Frag} {mg : Str → Option Value} {base : Heap} {k : Nat} {x : Str} {st : Stmt} {ps : List Str} {asp : ASp}
theorem FnX.f4 (F : FnX P w K mg base k x st ps asp) : Fn4 P w K mg base k x ps asp := let ⟨f, fd, G, h, hm, hb⟩ := F.ex; ⟨f, fd, h, hm, G.kp, hb⟩
theorem FnX.of (D : Def K mg x st ps) (h : ∀ f fd, L2.Fun K x x st f fd → FnG P w K mg base k f fd ps (spOf K asp)) : FnX P w K mg base k x st ps asp := let ⟨f, fd, G, hm, hb⟩ := D.ex; ⟨f, fd, G, h f fd G, hm, hb⟩
theorem FnX.kw (F : FnX P w K mg base k x st ps asp) (n : Nat) (ks : List Str) (g : {α : Type} → List α → List α → List α)
    (b : ∀ (kV doc pm : Value) (an : Option Addr) (cdv ct : Value) (us ws : List Value), us.length = n → ws.length = ks.length → bindArgs (PySem.W.fnOf x x (defArgs st) (defBody st) (defScope st) .none kV doc pm an cdv ct) ⟨us, ks.zip ws⟩ = pure (ps.zip (g us ws)))
    (vals : ∀ {vs : List V} {us : List Value} {zs : List V} {ws : List Value}, vs.length = n → zs.length = ks.length → Vals vs us → Vals zs ws → Vals (g vs zs) (g us ws))
    (rels : ∀ {H : Hp} {S : Store} {vs zs : List V} {ds es : List AV}, vs.length = n → zs.length = ks.length → RelAs K H S vs ds → RelAs K H S zs es → RelAs K H S (g vs zs) (g ds es)) : FnK P w K mg base k x ps asp n ks g := by
  obtain ⟨f, fd, F, G, hm, hb⟩ := F.ex
  have kp := F.kp
  obtain ⟨oc, od, kV, doc, pm, an, cdv, ct, osl, rfl, lk, hcd⟩ := F.ex
  exact ⟨⟨f, _, G, hm, kp, fun s us ws l1 l2 => .of_eq (b kV doc pm an cdv ct us ws l1 l2)⟩, vals, rels⟩
theorem fun_uniq {q : Str} {f : Addr} {fd fd' : FuncData} (F : L2.Fun K x q st f fd) (F' : L2.Fun K x q st f fd') : fd = fd' := by
  obtain ⟨oc, od, kV, doc, pm, an, cdv, ct, osl, e, lk, _⟩ := F.ex
  obtain ⟨oc', od', kV', doc', pm', an', cdv', ct', osl', e', lk', _⟩ := F'.ex
  rw [lk] at lk'
  have h := Option.some.inj lk'
  injection h with h1 h2 h3 h4
  injection h3
theorem FnX.law {fa : Addr} {pn : Str} (D : Def K mg x st [pn]) (hF : ∀ base, FnX P w K mg base k x st [pn] asp) (hmg : mg x = some (.ref fa))
    (b : ∀ (kV doc pm : Value) (an : Option Addr) (cdv ct : Value) (us : List Value), us.length = 1 → bindArgs (PySem.W.fnOf x x (defArgs st) (defBody st) (defScope st) .none kV doc pm an cdv ct) ⟨us, []⟩ = pure ([pn].zip us)) :
    ∃ fd : FuncData, (∀ (s : Shared) (u : Value), BindsTo s fd ⟨[u], []⟩ [(pn, u)]) ∧ ∀ base : Heap, K.In base → base.Ns mainGlobals mg → FnG P w K mg base k fa fd [pn] (spOf K asp) := by
  obtain ⟨f, fd, G, hm, hb⟩ := D.ex
  rw [hm] at hmg
  cases hmg
  refine ⟨fd, fun s u => ?_, fun base _ _ => ?_⟩
  · obtain ⟨oc, od, kV, doc, pm, an, cdv, ct, osl, rfl, lk, hcd⟩ := G.ex
    exact .of_eq (b kV doc pm an cdv ct [u] rfl)
  · obtain ⟨f', fd', G', h', hm', hb'⟩ := (hF base).ex
    rw [hm] at hm'
    cases hm'
    obtain rfl := fun_uniq G G'
    exact h'
/-- keywords alone, in the parameters' order -/
theorem FnX.kwAll (F : FnX P w K mg base k x st ps asp) (b : ∀ (kV doc pm : Value) (an : Option Addr) (cdv ct : Value) (us ws : List Value), us.length = 0 → ws.length = ps.length → bindArgs (PySem.W.fnOf x x (defArgs st) (defBody st) (defScope st) .none kV doc pm an cdv ct) ⟨us, ps.zip ws⟩ = pure (ps.zip ws)) :
    FnK P w K mg base k x ps asp 0 ps (fun _ zs => zs) := F.kw 0 ps (fun _ zs => zs) b (fun _ _ _ r => r) (fun _ _ _ r => r)
end
section
variable {X : Cx} {e a b c : Expr} {es : List Expr} {ta tb tc te : AE} {tt : AT} {t : AA} {pos p : Pos}
theorem e_gI {x : Str} {i : Int} (h : ∃ t, X.mg x = some (.int i t)) (hg : Gl X x := by rfl) (hd : (x == ("__debug__" : Str)) = false := by decide) : PE X (.Name x pos) (low (kx X bb) (aC (.int i))) := let ⟨t, h⟩ := h; e_gint h hg hd
theorem e_gS {x : Str} {i : Str} (h : ∃ t, X.mg x = some (.str i t)) (hg : Gl X x := by rfl) (hd : (x == ("__debug__" : Str)) = false := by decide) : PE X (.Name x pos) (low (kx X bb) (aC (.str i))) := let ⟨t, h⟩ := h; e_gstr h hg hd
theorem gI_of {K : PySem.W.Frag} {h : Heap} {mg : Str → Option Value} {x : Str} {i : Int} {t : Tok} (X : K.In h) (G : h.Ns mainGlobals mg) (a : PySem.W.nsIn K mainGlobals x = some (some (.int i t))) : ∃ t, mg x = some (.int i t) := ⟨t, PySem.W.mg_of X G a⟩
theorem gS_of {K : PySem.W.Frag} {h : Heap} {mg : Str → Option Value} {x : Str} {i : Str} {t : Tok} (X : K.In h) (G : h.Ns mainGlobals mg) (a : PySem.W.nsIn K mainGlobals x = some (some (.str i t))) : ∃ t, mg x = some (.str i t) := ⟨t, PySem.W.mg_of X G a⟩
/-- a loose whole number of the top -/
theorem gI_loose {p : Program} {lv : List (Str × PySem.W.WData)} {mg : Str → Option Value} {h : Heap} {x : Str} {i : Int} (hX : PySem.W.XL p lv mg h) (hm : (x, PySem.W.WData.int i) ∈ lv) : ∃ t, mg x = some (.int i t) := by
  obtain ⟨v, a, b⟩ := hX.2.val _ hm
  cases b
  exact ⟨_, a⟩
/-- xs + ys as a stored list -/
def aAddS (ta tb : AE) : AE := fun τ S Q => ta τ S fun x S1 => tb τ S1 fun y S2 => ∃ xs ys, wstA S2 x = some xs ∧ wstA S2 y = some ys ∧ xs.length + ys.length ≤ sizeLine ∧ ∀ l, S2 l = none → Q (.ref l) (updS S2 l (.lst (xs ++ ys)))
theorem putL {K : PySem.W.Frag} {H : Hp} {S : Store} {l : Addr} {ds : List AV} {vs : List V} (so : StOk K H S) (h : H l = none) (r : RelAs K H S vs ds) : StOk K (upd H l (.lst vs)) (updS S l (.lst ds)) ∧ Step H S (upd H l (.lst vs)) (updS S l (.lst ds)) := by
  have st := step_put (o := .lst vs) (u := .lst ds) so h
  exact ⟨stok_put (u := .lst ds) so h ⟨vs, upd_same, r.step st⟩, st⟩
theorem e_addS (ha : PE X a (low (kx X bb) ta)) (hb : PE X b (low (kx X bb) tb)) : PE X (.BinOp a .Add b pos) (low (kx X bb) (aAddS ta tb)) := (pe_op op_cat ha hb).weak fun σ H QH ⟨τ, S, Q, R, so, q, k⟩ =>
  ⟨τ, S, _, R, so, q, fun v H1 d S1 so1 st1 r1 q1 => ⟨τ, S1, _, R.step st1, so1, q1, fun w H2 e S2 so2 st2 r2 ⟨xs, ys, ex, ey, hz, q2⟩ => by
    obtain ⟨a, vs, rfl, ha, ra⟩ := rel_wstE so2 (r1.step st2) ex
    obtain ⟨b, ws, rfl, hb, rb⟩ := rel_wstE so2 r2 ey
    refine ⟨a, b, vs, ws, rfl, rfl, ha, hb, by rw [ra.length, rb.length]; exact hz, fun l hl => ?_⟩
    obtain ⟨so3, st3⟩ := putL so2 hl (ra.app rb)
    exact k _ _ _ _ so3 ((st1.trans st2).trans st3) (.ref l) (q2 l (so2.fresh hl))⟩⟩
/-- a comprehension's list as a stored one -/
def aLcS (ai : AI) (j : Nat) (tt : AT) (te : AE) (vs : List Nat) : AE := fun τ S Q => ai τ S fun xs G S1 => ∀ D, S1 D = none → ∃ I : Nat → List AV → Store → Prop, I 0 [] (updS S1 D .hid) ∧
  (∀ (i : Nat) x acc S2, xs[i]? = some x → I i acc S2 → G S2 ∧ tt ((wipeA τ vs).set j (some x)) S2 fun b S3 => if b = true then te ((wipeA τ vs).set j (some x)) S3 fun y S4 => acc.length < sizeLine ∧ I (i + 1) (acc ++ [y]) S4 else I (i + 1) acc S3) ∧
  (∀ acc S2, I xs.length acc S2 → G S2 ∧ Q (.ref D) (updS S2 D (.lst acc)))
theorem lcS_low {kb : KB} {ai : AI} {tt : AT} {te : AE} {vs : List Nat} {j : Nat} (hj : j ∈ vs) : ∀ σ H QH, low kb (aLcS ai j tt te vs) σ H QH → tLc (lowI kb ai) (gName j) (lowT kb tt) (low kb te) vs σ H QH := by
  intro σ H QH ⟨τ, S, Q, R, so, q, k⟩
  refine ⟨τ, S, _, R, so, q, fun J H1 xs G S1 so1 st1 it hI D hD => ?_⟩
  obtain ⟨I, i0, hstep, hend⟩ := hI D (so1.fresh hD)
  have nD : S1 D = none := so1.fresh hD
  have stD : Step H1 S1 (upd H1 D (.lst [])) (updS S1 D .hid) := step_put so1 hD
  have soD : StOk kb.K (upd H1 D (.lst [])) (updS S1 D .hid) := stok_put (u := .hid) so1 hD ⟨_, upd_same⟩
  refine ⟨fun i m H' => ∃ acc S2 ws, I i acc S2 ∧ i + m = xs.length ∧ StOk kb.K H' S2 ∧ S2 D = some .hid ∧ H' D = some (.lst ws) ∧ RelAs kb.K H' S2 ws acc ∧
    (∀ a o, a ≠ D → S1 a = none → H1 a = some o → H' a = some o ∧ S2 a = none) ∧ (∀ a, S1 a = some .hid → H' a = H1 a ∧ S2 a = some .hid), ⟨xs.length, [], _, [], i0, by omega, soD, updS_same, upd_same, .nil, fun a o _ n h => stD.old a o n h, fun a h => stD.hid a h⟩, ?_⟩
  intro i m H2 ⟨acc, S2, ws, w2, hm, so2, hh2, hD2, r2, old2, hid2⟩
  have st2 : Step H1 S1 H2 S2 := ⟨fun a o n h => old2 a o (ne_of_none h hD) n h, hid2⟩
  by_cases hi : i < xs.length
  · right
    have hx : xs[i]? = some xs[i] := List.getElem?_eq_getElem hi
    obtain ⟨hG, hq⟩ := hstep i _ acc S2 hx w2
    obtain ⟨hgo, hy⟩ := (it H2 S2 so2 st2 hG).1 i _ hx
    refine ⟨hgo, _, fun H' h => h, fun v H3 hv => ?_⟩
    obtain ⟨so3, st3, r3⟩ := hy v H3 hv
    refine ⟨by rw [wipe_set hj]; exact wipe_wipe σ vs vs fun _ h => h, ?_⟩
    have R3 : Rp kb H3 S2 ((L2.wipe σ vs).set j (some v)) ((wipeA τ vs).set j (some xs[i])) := (((R.step st1).step st2).step st3).wipe vs |>.set r3 j
    have keep : ∀ {H4 : Hp} {S4 : Store}, Step H2 S2 H4 S4 → H4 D = some (.lst ws) ∧ S4 D = some .hid ∧ RelAs kb.K H4 S4 ws acc ∧ (∀ a o, a ≠ D → S1 a = none → H1 a = some o → H4 a = some o ∧ S4 a = none) ∧ (∀ a, S1 a = some .hid → H4 a = H1 a ∧ S4 a = some .hid) := by
      intro H4 S4 st
      obtain ⟨e1, e2⟩ := st.hid D hh2
      exact ⟨e1.trans hD2, e2, r2.step st, fun a o ne n h => let ⟨h1, n1⟩ := old2 a o ne n h; st.old a o n1 h1, fun a h => let ⟨h1, n1⟩ := hid2 a h; let ⟨h3, n3⟩ := st.hid a n1; ⟨h3.trans h1, n3⟩⟩
    refine ⟨_, S2, _, R3, so3, hq, fun b H4 S4 so4 st4 q4 => ?_⟩
    cases b with
    | false =>
      rw [if_neg Bool.false_ne_true] at q4 ⊢
      obtain ⟨e1, e2, e3, e4, e5⟩ := keep (st3.trans st4)
      exact ⟨m - 1, by omega, acc, S4, ws, q4, by omega, so4, e2, e1, e3, e4, e5⟩
    | true =>
      rw [if_pos rfl] at q4 ⊢
      refine ⟨_, S4, _, R3.step st4, so4, q4, fun y H5 dy S5 so5 st5 r5 ⟨hz, w5⟩ => ?_⟩
      obtain ⟨e1, e2, e3, e4, e5⟩ := keep ((st3.trans st4).trans st5)
      refine ⟨ws, e1, by rw [r2.length]; exact hz, m - 1, by omega, acc ++ [dy], S5, ws ++ [y], w5, by omega, ?_⟩
      have grow : Old H5 S5 (upd H5 D (.lst (ws ++ [y]))) S5 := fun a o n h => by
        have ne : a ≠ D := by rintro rfl; rw [e2] at n; cases n
        exact ⟨by rw [upd_ne ne]; exact h, n⟩
      refine ⟨fun a o e => ?_, e2, upd_same, (e3.app (.cons r5 .nil)).stepO grow, fun a o ne n h => by rw [upd_ne ne]; exact e4 a o ne n h, fun a h => ?_⟩
      · by_cases z : a = D
        · subst z
          rw [e2] at e
          cases e
          exact ⟨_, upd_same⟩
        · exact (so5 a o e).stepO grow (upd_ne z)
      · have z : a ≠ D := by rintro rfl; rw [nD] at h; cases h
        rw [upd_ne z]
        exact e5 a h
  · left
    have e : i = xs.length := by omega
    subst e
    obtain ⟨hG, hq⟩ := hend acc S2 w2
    have more : Old H2 S2 H2 (updS S2 D (.lst acc)) := fun a o n h => ⟨h, by
      have ne : a ≠ D := by rintro rfl; rw [hh2] at n; cases n
      rw [updS_ne ne]
      exact n⟩
    refine ⟨(it H2 S2 so2 st2 hG).2, k _ H2 _ (updS S2 D (.lst acc)) (fun a o e => ?_) (st1.trans ⟨fun a o n h => ?_, fun a h => ?_⟩) (.ref D) hq⟩
    · by_cases z : a = D
      · subst z
        rw [updS_same] at e
        cases e
        exact ⟨ws, hD2, r2.stepO more⟩
      · rw [updS_ne z] at e
        exact (so2 a o e).stepO more rfl
    · obtain ⟨h1, n1⟩ := st2.old a o n h
      exact ⟨h1, (more a o n1 h1).2⟩
    · obtain ⟨h1, n1⟩ := st2.hid a h
      have ne : a ≠ D := by rintro rfl; rw [nD] at h; cases h
      exact ⟨h1, by rw [updS_ne ne]; exact n1⟩
section
variable {elt tg iter : Expr} {ifs : List Expr} {scope : Scope} {own : List (Str × Nat)} {spos : Pos} {ai : AI} {j : Nat}
theorem s_setLcS {y : Str} {py : Pos} (i : Nat) (j : Nat) (own : List (Str × Nat)) (hc : X.calm = true) (hN : X.N.Nodup) (hi : PI X tg iter (lowI (kx X bb) ai)) (ok : BlkOk X.N X.env.scope scope own)
    (hg : ∀ (s : Shared) (H : Hp) (C : Addr) (cl : List (Str × Addr)) (fp : List Addr), PG (X.blk s H scope (compEnvC scope cl C X.env) fp) tg (gName j))
    (ht : ∀ (s : Shared) (H : Hp) (C : Addr) (cl : List (Str × Addr)) (fp : List Addr), PTs (X.blk s H scope (compEnvC scope cl C X.env) fp) ifs (lowT (kx X bb) tt))
    (he : ∀ (s : Shared) (H : Hp) (C : Addr) (cl : List (Str × Addr)) (fp : List Addr), PE (X.blk s H scope (compEnvC scope cl C X.env) fp) elt (low (kx X bb) te))
    (hsw : swapsWith (.ListComp elt [⟨tg, iter, ifs, 0⟩] scope pos) (some (.Name y py)) spos.line X.env = pure true := by exact sw_true rfl rfl rfl (by decide +kernel))
    (hy : X.N[i]? = some y := by rfl) (hyl : X.env.scope.names.lookup y = some .local := by rfl)
    (hj : j ∈ own.map (·.2) := by decide) (hs : ∀ x, foldedSetIterable iter X.env x = pure x := by intro _; rfl) : PS X (.Assign [.Name y py] (.ListComp elt [⟨tg, iter, ifs, 0⟩] scope pos) spos) (lowS (kx X bb) (aAsg (aLcS ai j tt te (own.map (·.2))) (agName i))) :=
  (ps_setLc (own := own) hc hN hy hyl hsw hi ok hg ht he hs).weak fun D σ H ⟨τ, S, DA, R, so, q, k⟩ => lcS_low hj σ H _ ⟨τ, S, _, R, so, q, fun v H' d S' so' st' r' q' => k.nx _ H' _ S' so' st' ((R.step st').set r' i) q'⟩
end
end
end L3

set_option Elab.async false
set_option linter.all false
set_option maxRecDepth 100000
set_option maxHeartbeats 1000000
set_option autoImplicit false
/-! L3J: one tactic that reads readings. -/
namespace L3
open PySem L2
variable {bb : Birth}
theorem aVar_z {d : AV} {τ : ASt} {S : Store} {Q : AK} : aVar 0 (some d :: τ) S Q = Q d S :=
  propext ⟨fun ⟨e, h, q⟩ => by cases h; exact q, fun q => ⟨d, rfl, q⟩⟩
theorem aVar_s {i : Nat} {o : Option AV} {τ : ASt} {S : Store} {Q : AK} : aVar (i + 1) (o :: τ) S Q = aVar i τ S Q := rfl
theorem aAug_z {ar : AV → AV → Store → Ans} {i : Nat} {ta : AE} {D : AEnds} {τ : ASt} {S : Store} {x : AV} (h : τ[i]? = some (some x)) :
    aAug ar i ta D τ S = ta τ S fun y S1 => (ar x y S1).ok ∧ D.nx (τ.set i (some (ar x y S1).v)) S1 :=
  propext ⟨fun ⟨e, h', q⟩ => by rw [h] at h'; cases h'; exact q, fun q => ⟨x, h, q⟩⟩
theorem ex_bl {b : Bool} {P : Bool → Prop} : (∃ k, AV.bl b = .bl k ∧ P k) = P b := propext ⟨fun ⟨k, e, p⟩ => by cases e; exact p, fun p => ⟨b, rfl, p⟩⟩
theorem ex_int {b : Int} {P : Int → Prop} : (∃ k, AV.int b = .int k ∧ P k) = P b := propext ⟨fun ⟨k, e, p⟩ => by cases e; exact p, fun p => ⟨b, rfl, p⟩⟩
theorem ex_str {b : Str} {P : Str → Prop} : (∃ k, AV.str b = .str k ∧ P k) = P b := propext ⟨fun ⟨k, e, p⟩ => by cases e; exact p, fun p => ⟨b, rfl, p⟩⟩
theorem ex_tup {b : List AV} {P : List AV → Prop} : (∃ k, AV.tup b = .tup k ∧ P k) = P b := propext ⟨fun ⟨k, e, p⟩ => by cases e; exact p, fun p => ⟨b, rfl, p⟩⟩
theorem ex_eq {α : Type} {b : α} {P : α → Prop} : (∃ k, b = k ∧ P k) = P b := propext ⟨fun ⟨k, e, p⟩ => by cases e; exact p, fun p => ⟨b, rfl, p⟩⟩
theorem ex_cons {x : AV} {xs : List AV} {P : AV → List AV → Prop} : (∃ d es, x :: xs = d :: es ∧ P d es) = P x xs := propext ⟨fun ⟨d, es, e, p⟩ => by cases e; exact p, fun p => ⟨x, xs, rfl, p⟩⟩
theorem ex_pair {x y : AV} {P : AV → AV → Prop} : (∃ a b, [x, y] = [a, b] ∧ P a b) = P x y := propext ⟨fun ⟨d, es, e, p⟩ => by cases e; exact p, fun p => ⟨x, y, rfl, p⟩⟩
theorem ex_one1 {x : AV} {P : AV → Prop} : (∃ a, [x] = [a] ∧ P a) = P x := propext ⟨fun ⟨d, e, p⟩ => by cases e; exact p, fun p => ⟨x, rfl, p⟩⟩
theorem ex_one_int {x : Int} {P : Int → Prop} : (∃ a, [AV.int x] = [.int a] ∧ P a) = P x := propext ⟨fun ⟨d, e, p⟩ => by cases e; exact p, fun p => ⟨x, rfl, p⟩⟩
theorem not_tt {P Q : Prop} : (if (!true) = true then P else Q) = Q := rfl
theorem and_tt {P : Prop} : (True ∧ P) = P := propext ⟨fun h => h.2, fun h => ⟨trivial, h⟩⟩
theorem if_tt {P Q : Prop} : (if true = true then P else Q) = P := rfl
theorem if_ff {P Q : Prop} : (if false = true then P else Q) = Q := rfl
theorem if_true_eq {P : Prop} : (True → P) = P := propext ⟨fun h => h trivial, fun h _ => h⟩
theorem eqA_ii {i j : Int} {S : Store} : eqA (.int i) (.int j) S = ⟨True, .bl (decide (i = j))⟩ := rfl
theorem eqA_ss {i j : Str} {S : Store} : eqA (.str i) (.str j) S = ⟨True, .bl (decide (i = j))⟩ := rfl
theorem neA_ii {i j : Int} {S : Store} : neA (.int i) (.int j) S = ⟨True, .bl (!decide (i = j))⟩ := rfl
theorem neA_ss {i j : Str} {S : Store} : neA (.str i) (.str j) S = ⟨True, .bl (!decide (i = j))⟩ := rfl
theorem ltA_ii {i j : Int} {S : Store} : ltA (.int i) (.int j) S = ⟨True, .bl (decide (i < j))⟩ := rfl
theorem ltA_ss {i j : Str} {S : Store} : ltA (.str i) (.str j) S = ⟨True, .bl (decide (i.cps.toList < j.cps.toList))⟩ := rfl
theorem leA_ii {i j : Int} {S : Store} : leA (.int i) (.int j) S = ⟨True, .bl (decide (i ≤ j))⟩ := rfl
theorem leA_ss {i j : Str} {S : Store} : leA (.str i) (.str j) S = ⟨True, .bl (!decide (j.cps.toList < i.cps.toList))⟩ := rfl
theorem gtA_ii {i j : Int} {S : Store} : gtA (.int i) (.int j) S = ⟨True, .bl (decide (j < i))⟩ := rfl
theorem gtA_ss {i j : Str} {S : Store} : gtA (.str i) (.str j) S = ⟨True, .bl (decide (j.cps.toList < i.cps.toList))⟩ := rfl
theorem geA_ii {i j : Int} {S : Store} : geA (.int i) (.int j) S = ⟨True, .bl (decide (j ≤ i))⟩ := rfl
theorem geA_ss {i j : Str} {S : Store} : geA (.str i) (.str j) S = ⟨True, .bl (!decide (i.cps.toList < j.cps.toList))⟩ := rfl
theorem subA_ii {i j : Int} {S : Store} : subA (.int i) (.int j) S = ⟨True, .int (i - j)⟩ := rfl
theorem mulA_ii {i j : Int} {S : Store} : mulA (.int i) (.int j) S = ⟨CMulB i j, .int (i * j)⟩ := rfl
theorem modA_ii {i j : Int} {S : Store} : modA (.int i) (.int j) S = ⟨0 < j, .int (i % j)⟩ := rfl
theorem fdivA_ii {i j : Int} {S : Store} : fdivA (.int i) (.int j) S = ⟨CDivW i j, .int (i / j)⟩ := rfl
theorem powA_ii {i j : Int} {S : Store} : powA (.int i) (.int j) S = ⟨CPowB i j, .int (i ^ j.toNat)⟩ := rfl
theorem addA_ii {i j : Int} {S : Store} : addA (.int i) (.int j) S = ⟨True, .int (i + j)⟩ := rfl
theorem addA_ss {i j : Str} {S : Store} : addA (.str i) (.str j) S = ⟨i.length + j.length ≤ sizeLine, .str (i ++ j)⟩ := rfl
theorem addA_tt {i j : List AV} {S : Store} : addA (.tup i) (.tup j) S = ⟨i.length + j.length ≤ sizeLine, .tup (i ++ j)⟩ := rfl
theorem addA_ll {i j : List AV} {S : Store} : addA (.lst i) (.lst j) S = ⟨i.length + j.length ≤ sizeLine, .lst (i ++ j)⟩ := rfl
theorem intA_ii {C : Int → Int → Prop} {g : Int → Int → Int} {i j : Int} {S : Store} : intA C g (.int i) (.int j) S = ⟨C i j, .int (g i j)⟩ := rfl
theorem int2A_ii {g : Int → Int → Int} {i j : Int} {S : Store} : int2A g (.int i) (.int j) S = ⟨True, .int (g i j)⟩ := rfl
theorem negA_i {i : Int} {S : Store} : negA (.int i) S = ⟨True, .int (-i)⟩ := rfl
theorem absA_i {i : Int} {S : Store} : absA (.int i) S = ⟨True, .int (if i < 0 then -i else i)⟩ := rfl
theorem toIntA_i {i : Int} {S : Store} : toIntA (.int i) S = ⟨True, .int i⟩ := rfl
theorem toIntA_b {i : Bool} {S : Store} : toIntA (.bl i) S = ⟨True, .int (if i then 1 else 0)⟩ := rfl
theorem seqv {d : AV} {S : Store} (h : flatA d = true) : derefA S d = d := by
  cases d <;> first | rfl | (cases h; done)
theorem eqA_s {d : AV} {S : Store} {w : Str} (h : flatA d = true) (hs : SeqAt.shaped (toD d) = true) (hw : SeqAt.shaped (.str w) = true) : (eqA d (.str w) S).ok ∧ (eqA d (.str w) S).v = .bl (match d with | .str z => decide (z = w) | _ => false) := by
  have hd : okD S d := ⟨by rw [seqv h]; exact h, by unfold datA; rw [seqv h]; exact hs⟩
  have hk : okD S (.str w) := ⟨rfl, hw⟩
  have e : datA S d = toD d := by unfold datA; rw [seqv h]
  cases d with
  | str z => exact ⟨trivial, rfl⟩
  | ref _ => cases h
  | ty _ => cases h
  | non => exact ⟨⟨hd, hk⟩, by show AV.bl (PyData.eqv (toD .non) (.str w)) = _; rw [show PyData.eqv (toD .non) (.str w) = false by unfold toD PyData.eqv; rfl]⟩
  | bl b => exact ⟨⟨hd, hk⟩, by show AV.bl (PyData.eqv (toD (.bl b)) (.str w)) = _; rw [show PyData.eqv (toD (.bl b)) (.str w) = false by unfold toD PyData.eqv; rfl]⟩
  | int b => exact ⟨⟨hd, hk⟩, by show AV.bl (PyData.eqv (toD (.int b)) (.str w)) = _; rw [show PyData.eqv (toD (.int b)) (.str w) = false by unfold toD PyData.eqv; rfl]⟩
  | tup b => exact ⟨⟨hd, hk⟩, by show AV.bl (PyData.eqv (toD (.tup b)) (.str w)) = _; rw [show PyData.eqv (toD (.tup b)) (.str w) = false by unfold toD PyData.eqv; rfl]⟩
  | lst b => exact ⟨⟨hd, hk⟩, by show AV.bl (PyData.eqv (toD (.lst b)) (.str w)) = _; rw [show PyData.eqv (toD (.lst b)) (.str w) = false by unfold toD PyData.eqv; rfl]⟩
  | rol b => exact ⟨⟨hd, hk⟩, by show AV.bl (PyData.eqv (toD (.rol b)) (.str w)) = _; rw [show PyData.eqv (toD (.rol b)) (.str w) = false by unfold toD PyData.eqv; rfl]⟩
/-- a choice by a Bool -/
def bc (b : Bool) (P Q : Prop) : Prop := match b with
  | true => P
  | false => Q
theorem ite_bc {b : Bool} {i : Decidable (b = true)} {P Q : Prop} : (@ite Prop (b = true) i P Q) = bc b P Q := by
  cases b with
  | true => exact if_pos rfl
  | false => exact if_neg Bool.false_ne_true
theorem bc_t {P Q : Prop} : bc true P Q = P := rfl
theorem bc_f {P Q : Prop} : bc false P Q = Q := rfl
theorem isiA_non  {n : String} {S : Store} : isiA (.non) (.ty n) S = ⟨(["NoneType", "bool", "int", "str", "tuple", "list", "dict"].contains "NoneType" && ["bool", "int", "str", "tuple", "list", "dict"].contains n) = true, .bl (isiB "NoneType" n)⟩ := rfl
theorem isiA_bl {b : Bool} {n : String} {S : Store} : isiA (.bl b) (.ty n) S = ⟨(["NoneType", "bool", "int", "str", "tuple", "list", "dict"].contains "bool" && ["bool", "int", "str", "tuple", "list", "dict"].contains n) = true, .bl (isiB "bool" n)⟩ := rfl
theorem isiA_int {b : Int} {n : String} {S : Store} : isiA (.int b) (.ty n) S = ⟨(["NoneType", "bool", "int", "str", "tuple", "list", "dict"].contains "int" && ["bool", "int", "str", "tuple", "list", "dict"].contains n) = true, .bl (isiB "int" n)⟩ := rfl
theorem isiA_str {b : Str} {n : String} {S : Store} : isiA (.str b) (.ty n) S = ⟨(["NoneType", "bool", "int", "str", "tuple", "list", "dict"].contains "str" && ["bool", "int", "str", "tuple", "list", "dict"].contains n) = true, .bl (isiB "str" n)⟩ := rfl
theorem isiA_tup {b : List AV} {n : String} {S : Store} : isiA (.tup b) (.ty n) S = ⟨(["NoneType", "bool", "int", "str", "tuple", "list", "dict"].contains "tuple" && ["bool", "int", "str", "tuple", "list", "dict"].contains n) = true, .bl (isiB "tuple" n)⟩ := rfl
theorem isiA_lst {b : List AV} {n : String} {S : Store} : isiA (.lst b) (.ty n) S = ⟨(["NoneType", "bool", "int", "str", "tuple", "list", "dict"].contains "list" && ["bool", "int", "str", "tuple", "list", "dict"].contains n) = true, .bl (isiB "list" n)⟩ := rfl
theorem isiA_rol {b : List AV} {n : String} {S : Store} : isiA (.rol b) (.ty n) S = ⟨(["NoneType", "bool", "int", "str", "tuple", "list", "dict"].contains "list" && ["bool", "int", "str", "tuple", "list", "dict"].contains n) = true, .bl (isiB "list" n)⟩ := rfl
theorem lenA_str {b : Str} {S : Store} : lenA (.str b) S = ⟨b.length ≤ sizeLine, .int b.length⟩ := rfl
theorem lenA_tup {b : List AV} {S : Store} : lenA (.tup b) S = ⟨True, .int b.length⟩ := rfl
theorem lenA_lst {b : List AV} {S : Store} : lenA (.lst b) S = ⟨True, .int b.length⟩ := rfl
theorem lenA_rol {b : List AV} {S : Store} : lenA (.rol b) S = ⟨True, .int b.length⟩ := rfl
theorem lenA_ref {l : Addr} {b : List AV} {S : Store} (h : S l = some (.lst b)) : lenA (.ref l) S = ⟨True, .int b.length⟩ := by
  show (match lstA S (.ref l) with | some xs => (⟨True, .int xs.length⟩ : Ans) | none => badA) = _
  rw [lstA_ref h]
theorem truA_bl {b : Bool} {S : Store} : truA S (.bl b) = b := rfl
theorem truOk_bl {b : Bool} {S : Store} : truOk S (.bl b) = True := rfl
theorem truA_int {b : Int} {S : Store} : truA S (.int b) = (b != 0) := rfl
theorem truOk_int {b : Int} {S : Store} : truOk S (.int b) = True := rfl
theorem truA_lst {b : List AV} {S : Store} : truA S (.lst b) = !b.isEmpty := rfl
theorem truOk_lst {b : List AV} {S : Store} : truOk S (.lst b) = True := rfl
theorem truA_tup {b : List AV} {S : Store} : truA S (.tup b) = !b.isEmpty := rfl
theorem truOk_tup {b : List AV} {S : Store} : truOk S (.tup b) = True := rfl
theorem truA_ref {l : Addr} {b : List AV} {S : Store} (h : S l = some (.lst b)) : truA S (.ref l) = !b.isEmpty := by
  show (match S l with | some (.lst xs) => !xs.isEmpty | some (.dK xs) => !xs.isEmpty | _ => false) = _
  rw [h]
theorem truOk_ref {l : Addr} {b : List AV} {S : Store} (h : S l = some (.lst b)) : truOk S (.ref l) = True := by
  show (match S l with | some (.lst xs) => True | some (.dK xs) => True | _ => False) = _
  rw [h]
theorem truA_refU {l : Addr} {b : List AV} {S : Store} : truA (updS S l (.lst b)) (.ref l) = !b.isEmpty := truA_ref updS_same
theorem truOk_refU {l : Addr} {b : List AV} {S : Store} : truOk (updS S l (.lst b)) (.ref l) = True := truOk_ref updS_same
theorem ans_tt {p : Prop} {v w : AV} (h : p) (e : v = w) : (⟨p, v⟩ : Ans) = ⟨True, w⟩ := by subst e; rw [eq_true h]
def isTup : AV → Bool
  | .tup _ => true
  | _ => false
theorem isi_T {d : AV} {S : Store} (h : flatA d = true) : isiA d (.ty "tuple") S = ⟨True, .bl (isTup d)⟩ := by
  cases d <;> first | (cases h; done) | skip
  all_goals (simp only [isiA_non, isiA_bl, isiA_int, isiA_str, isiA_tup, isiA_lst, isiA_rol, isTup]; exact ans_tt (by decide +kernel) (congrArg AV.bl (by decide +kernel)))
theorem isi_S {d : AV} {S : Store} (h : flatA d = true) : isiA d (.ty "str") S = ⟨True, .bl (isStrA d)⟩ := by
  cases d <;> first | (cases h; done) | skip
  all_goals (simp only [isiA_non, isiA_bl, isiA_int, isiA_str, isiA_tup, isiA_lst, isiA_rol, isStrA]; exact ans_tt (by decide +kernel) (congrArg AV.bl (by decide +kernel)))
/-- a comprehension over a text's signs -/
theorem lc_sg {i j : Nat} {te : AE} {vs : List Nat} {τ : ASt} {S : Store} {Q : AK} {z : Str} (f : Nat → Bool) (hz : τ[i]? = some (some (.str z))) (hl : z.length ≤ sizeLine)
    (hte : ∀ c S2 (Qe : AK), c ∈ z.cps.toList → Qe (.bl (f c)) S2 → te ((wipeA τ vs).set j (some (.str ⟨#[c]⟩))) S2 Qe) (q : Q (.lst (z.cps.toList.map fun c => .bl (f c))) S) : aLc (aiStr (aVar i)) j aYes te vs τ S Q := by
  refine lc_map ⟨_, hz, z, rfl, ?_, ?_⟩ fun Q1 Q2 h ⟨d, e, x, e2, q1⟩ => ⟨d, e, x, e2, h _ _ _ q1⟩
  · unfold signsA; rw [List.length_map, Array.length_toList]; exact hl
  refine ⟨fun x => match x with | .str y => .bl (f (y.cps.toList.headD 0)) | x => x, fun _ _ => trivial, trivial, fun k x S2 hx => ?_, ?_⟩
  · have hm := List.mem_of_getElem? hx
    obtain ⟨c, hc, rfl⟩ := List.mem_map.mp hm
    exact ⟨fun Qb h => h, fun Qe h => hte c S2 Qe hc h⟩
  · have e : (signsA z).map (fun x : AV => match x with | .str y => AV.bl (f (y.cps.toList.headD 0)) | x => x) = z.cps.toList.map fun c => .bl (f c) := by
      unfold signsA
      rw [List.map_map]
      rfl
    rw [e]
    exact q
theorem lc_sg' {ta : AE} {j : Nat} {te : AE} {vs : List Nat} {τ : ASt} {S : Store} {Q : AK} {z : Str} (f : Nat → Bool) (hz : ∀ Q', Q' (.str z) S → ta τ S Q') (hm : ∀ (Q1 Q2 : AK), (∀ x S1, Q1 x S1 → Q2 x S1) → ta τ S Q1 → ta τ S Q2) (hl : z.length ≤ sizeLine)
    (hte : ∀ c S2 (Qe : AK), c ∈ z.cps.toList → Qe (.bl (f c)) S2 → te ((wipeA τ vs).set j (some (.str ⟨#[c]⟩))) S2 Qe) (q : Q (.lst (z.cps.toList.map fun c => .bl (f c))) S) : aLc (aiStr ta) j aYes te vs τ S Q := by
  refine lc_map (hz _ ⟨z, rfl, ?_, ?_⟩) fun Q1 Q2 h h1 => hm _ _ (fun x S1 ⟨y, e, q1⟩ => ⟨y, e, h _ _ _ q1⟩) h1
  · unfold signsA; rw [List.length_map, Array.length_toList]; exact hl
  refine ⟨fun x => match x with | .str y => .bl (f (y.cps.toList.headD 0)) | x => x, fun _ _ => trivial, trivial, fun k x S2 hx => ?_, ?_⟩
  · have hm := List.mem_of_getElem? hx
    obtain ⟨c, hc, rfl⟩ := List.mem_map.mp hm
    exact ⟨fun Qb h => h, fun Qe h => hte c S2 Qe hc h⟩
  · have e : (signsA z).map (fun x : AV => match x with | .str y => AV.bl (f (y.cps.toList.headD 0)) | x => x) = z.cps.toList.map fun c => .bl (f c) := by
      unfold signsA
      rw [List.map_map]
      rfl
    rw [e]
    exact q
/-- a comprehension over a tuple of a variable -/
theorem lc_tp {i j : Nat} {te : AE} {vs : List Nat} {τ : ASt} {S : Store} {Q : AK} {xs : List AV} (f : AV → AV) (hz : τ[i]? = some (some (.tup xs))) (hl : xs.length ≤ sizeLine)
    (hte : ∀ x S2 (Qe : AK), x ∈ xs → Qe (f x) S2 → te ((wipeA τ vs).set j (some x)) S2 Qe) (q : Q (.lst (xs.map f)) S) : aLc (aiTup (aVar i)) j aYes te vs τ S Q := by
  refine lc_map ⟨_, hz, xs, rfl, hl, f, fun _ _ => trivial, trivial, fun k x S2 hx => ?_, q⟩ fun Q1 Q2 h ⟨d, e, x, e2, q1⟩ => ⟨d, e, x, e2, h _ _ _ q1⟩
  exact ⟨fun Qb h => h, fun Qe h => hte x S2 Qe (List.mem_of_getElem? hx) h⟩
theorem lc_tp' {ta : AE} {j : Nat} {te : AE} {vs : List Nat} {τ : ASt} {S : Store} {Q : AK} {xs : List AV} (f : AV → AV) (hz : ∀ Q', Q' (.tup xs) S → ta τ S Q') (hm : ∀ (Q1 Q2 : AK), (∀ x S1, Q1 x S1 → Q2 x S1) → ta τ S Q1 → ta τ S Q2) (hl : xs.length ≤ sizeLine)
    (hte : ∀ x S2 (Qe : AK), x ∈ xs → Qe (f x) S2 → te ((wipeA τ vs).set j (some x)) S2 Qe) (q : Q (.lst (xs.map f)) S) : aLc (aiTup ta) j aYes te vs τ S Q := by
  refine lc_map (hz _ ⟨xs, rfl, hl, f, fun _ _ => trivial, trivial, fun k x S2 hx => ?_, q⟩) fun Q1 Q2 h h1 => hm _ _ (fun x S1 ⟨y, e, q1⟩ => ⟨y, e, h _ _ _ q1⟩) h1
  exact ⟨fun Qb h => h, fun Qe h => hte x S2 Qe (List.mem_of_getElem? hx) h⟩
theorem allA_map {α : Type} (l : List α) (f : α → Bool) (S : Store) : (allA (.lst (l.map fun c => AV.bl (f c))) S).ok ∧ (allA (.lst (l.map fun c => AV.bl (f c))) S).v = .bl (l.all f) := by
  show ((l.map fun c => AV.bl (f c)).all isBlA = true) ∧ AV.bl ((l.map fun c => AV.bl (f c)).all blOf) = _
  rw [List.all_map, List.all_map]
  refine ⟨by rw [List.all_eq_true]; intro x _; rfl, rfl⟩
theorem anyA_map {α : Type} (l : List α) (f : α → Bool) (S : Store) : (anyA (.lst (l.map fun c => AV.bl (f c))) S).ok ∧ (anyA (.lst (l.map fun c => AV.bl (f c))) S).v = .bl (l.any f) := by
  show ((l.map fun c => AV.bl (f c)).all isBlA = true) ∧ AV.bl ((l.map fun c => AV.bl (f c)).any blOf) = _
  rw [List.all_map, List.any_map]
  refine ⟨by rw [List.all_eq_true]; intro x _; rfl, rfl⟩
theorem le_sl {n : Nat} (h : n ≤ 16777216) : n ≤ sizeLine := by
  have : sizeLine = 16777216 := by decide +kernel
  omega
theorem Sub.upd {S' S : Store} {a : Addr} {o : AO} (s : Sub S' S) : Sub (updS S' a o) (updS S a o) := by
  refine ⟨fun b u e => ?_, fun b e => ?_⟩
  · by_cases q : b = a
    · subst q; rw [updS_same] at e ⊢; exact e
    · rw [updS_ne q] at e ⊢; exact s.le b u e
  · by_cases q : b = a
    · subst q; rw [updS_same] at e ⊢; exact e
    · rw [updS_ne q] at e ⊢; exact s.hid b e
/-- a comprehension all the way, behind its things -/
def LcGo (te : AE) (j : Nat) (vs : List Nat) (τ : ASt) (Q : AK) (xs : List AV) (S1 : Store) : Prop := ∀ D, S1 D = none → ∃ I : Nat → List AV → Store → Prop, I 0 [] (updS S1 D .hid) ∧
  (∀ (i : Nat) x acc S2, xs[i]? = some x → I i acc S2 → True ∧ aYes ((wipeA τ vs).set j (some x)) S2 fun b S3 => if b = true then te ((wipeA τ vs).set j (some x)) S3 fun y S4 => acc.length < sizeLine ∧ I (i + 1) (acc ++ [y]) S4 else I (i + 1) acc S3) ∧
  (∀ acc S2, I xs.length acc S2 → True ∧ Q (.lst acc) (dropS S2 D))
theorem aLc_rng {t : AA} {te : AE} {j : Nat} {vs : List Nat} {τ : ASt} {S : Store} {Q : AK} : aLc (aiRng1 t) j aYes te vs τ S Q = t τ S fun ds S1 => ∃ n : Int, ds = [.int n] ∧ -(2 ^ 62) ≤ n ∧ n < 2 ^ 62 ∧ LcGo te j vs τ Q (rngA 0 n.toNat) S1 := rfl
/-- the same, the list to be stored -/
def LcGoS (te : AE) (j : Nat) (vs : List Nat) (τ : ASt) (Q : AK) (xs : List AV) (S1 : Store) : Prop := ∀ D, S1 D = none → ∃ I : Nat → List AV → Store → Prop, I 0 [] (updS S1 D .hid) ∧
  (∀ (i : Nat) x acc S2, xs[i]? = some x → I i acc S2 → True ∧ aYes ((wipeA τ vs).set j (some x)) S2 fun b S3 => if b = true then te ((wipeA τ vs).set j (some x)) S3 fun y S4 => acc.length < sizeLine ∧ I (i + 1) (acc ++ [y]) S4 else I (i + 1) acc S3) ∧
  (∀ acc S2, I xs.length acc S2 → True ∧ Q (.ref D) (updS S2 D (.lst acc)))
theorem aLcS_rng {t : AA} {te : AE} {j : Nat} {vs : List Nat} {τ : ASt} {S : Store} {Q : AK} : aLcS (aiRng1 t) j aYes te vs τ S Q = t τ S fun ds S1 => ∃ n : Int, ds = [.int n] ∧ -(2 ^ 62) ≤ n ∧ n < 2 ^ 62 ∧ LcGoS te j vs τ Q (rngA 0 n.toNat) S1 := rfl
/-- over a list -/
def LcGoL (te : AE) (j : Nat) (vs : List Nat) (τ : ASt) (Q : AK) (d : AV) (xs : List AV) (S1 : Store) : Prop := ∀ D, S1 D = none → ∃ I : Nat → List AV → Store → Prop, I 0 [] (updS S1 D .hid) ∧
  (∀ (i : Nat) x acc S2, xs[i]? = some x → I i acc S2 → lstA S2 d = some xs ∧ aYes ((wipeA τ vs).set j (some x)) S2 fun b S3 => if b = true then te ((wipeA τ vs).set j (some x)) S3 fun y S4 => acc.length < sizeLine ∧ I (i + 1) (acc ++ [y]) S4 else I (i + 1) acc S3) ∧
  (∀ acc S2, I xs.length acc S2 → lstA S2 d = some xs ∧ Q (.lst acc) (dropS S2 D))
theorem aLc_lst {ta : AE} {te : AE} {j : Nat} {vs : List Nat} {τ : ASt} {S : Store} {Q : AK} : aLc (aiLst ta) j aYes te vs τ S Q = ta τ S fun d S1 => ∃ xs, lstA S1 d = some xs ∧ LcGoL te j vs τ Q d xs S1 := rfl
section
variable {xs : List AV} {te : AE} {j : Nat} {vs : List Nat} {τ : ASt} {S1 : Store} {Q : AK}
/-- over a frozen list, the store being of no account -/
theorem lcL_free (A : AV → Prop) (hl : xs.length ≤ sizeLine) (step : ∀ x ∈ xs, ∀ (Sx : Store) (Qe : AK), (∀ y S', A y → Qe y S') → te ((wipeA τ vs).set j (some x)) Sx Qe)
    (fin : ∀ acc S', (∀ y ∈ acc, A y) → acc.length = xs.length → Q (.lst acc) S') : LcGoL te j vs τ Q (.lst xs) xs S1 := by
  intro D hD
  refine ⟨fun i acc S2 => acc.length = i ∧ ∀ y ∈ acc, A y, ⟨rfl, fun y h => by cases h⟩, fun i x acc S2 hx ⟨hi, ha⟩ => ⟨rfl, ?_⟩, fun acc S2 ⟨hi, ha⟩ => ⟨rfl, fin acc _ ha hi⟩⟩
  have hlt := (List.getElem?_eq_some_iff.mp hx).1
  unfold aYes
  simp only [if_true]
  refine step x (List.mem_of_getElem? hx) _ _ fun y S' hy => ⟨by omega, by rw [List.length_append, List.length_singleton, hi], fun w hw => ?_⟩
  rcases List.mem_append.mp hw with h | h
  · exact ha w h
  · cases List.mem_singleton.mp h; exact hy
/-- over a frozen list, pure -/
theorem lcL_map (f : AV → AV) (hl : xs.length ≤ sizeLine) (step : ∀ x ∈ xs, ∀ (Sx : Store) (Qe : AK), Qe (f x) Sx → te ((wipeA τ vs).set j (some x)) Sx Qe) (q : Q (.lst (xs.map f)) S1) : LcGoL te j vs τ Q (.lst xs) xs S1 := by
  intro D hD
  refine ⟨fun i acc S2 => i ≤ xs.length ∧ acc = (xs.take i).map f ∧ S2 = updS S1 D .hid, ⟨Nat.zero_le _, rfl, rfl⟩, fun i x acc S2 hx ⟨hi, ea, es⟩ => ⟨rfl, ?_⟩, fun acc S2 ⟨hi, ea, es⟩ => ⟨rfl, ?_⟩⟩
  · have hlt := (List.getElem?_eq_some_iff.mp hx).1
    unfold aYes
    simp only [if_true]
    refine step x (List.mem_of_getElem? hx) _ _ ⟨?_, hlt, ?_, es⟩
    · rw [ea, List.length_map, List.length_take]
      omega
    · rw [ea, List.take_add_one, hx]
      simp
  · rw [ea, es, List.take_length, dropS_upd hD]
    exact q
end
section
variable {xs : List AV} {te : AE} {j : Nat} {vs : List Nat} {τ : ASt} {S1 : Store} {Q : AK} {p : Addr} {Pt : Type}
/-- a comprehension of drawn things: the store has one thing that changes -/
theorem lc_pot (po : Pt → AO) {pt : Pt} (I : Nat → Pt → Prop) (hp : S1 p = some (po pt)) (h0 : I 0 pt) (A : AV → Prop) (hl : xs.length ≤ sizeLine)
    (step : ∀ k x pt' Sx (Qe : AK), xs[k]? = some x → k < xs.length → I k pt' → Sx p = some (po pt') → (∀ y pt2, A y → I (k + 1) pt2 → Qe y (updS Sx p (po pt2))) → te ((wipeA τ vs).set j (some x)) Sx Qe)
    (fin : ∀ acc pt', acc.length = xs.length → (∀ y ∈ acc, A y) → I xs.length pt' → Q (.lst acc) (updS S1 p (po pt'))) : LcGo te j vs τ Q xs S1 := by
  intro D hD
  have ne : p ≠ D := by rintro rfl; rw [hp] at hD; cases hD
  refine ⟨fun i acc S2 => acc.length = i ∧ (∀ y ∈ acc, A y) ∧ ∃ pt', I i pt' ∧ S2 = updS (updS S1 p (po pt')) D .hid, ⟨rfl, (fun y h => by cases h), pt, h0, by rw [updS_self hp]⟩, fun i x acc S2 hx ⟨hi, ha, pt', hI, e⟩ => ⟨trivial, ?_⟩, fun acc S2 ⟨hi, ha, pt', hI, e⟩ => ⟨trivial, ?_⟩⟩
  · subst e
    have hlt := (List.getElem?_eq_some_iff.mp hx).1
    unfold aYes
    simp only [if_true]
    refine step i x pt' _ _ hx hlt hI (by rw [updS_ne ne, updS_same]) fun y pt2 hy hI2 => ⟨by omega, by rw [List.length_append, List.length_singleton, hi], fun w hw => ?_, pt2, hI2, ?_⟩
    · rcases List.mem_append.mp hw with h | h
      · exact ha w h
      · cases List.mem_singleton.mp h; exact hy
    · rw [← updS_comm ne, updS_updS]
  · subst e
    rw [dropS_upd (by rw [updS_ne (Ne.symm ne)]; exact hD)]
    exact fin acc pt' hi ha hI
/-- over a stored list: drawn things -/
theorem lcL_potR (po : Pt → AO) {pt : Pt} {l : Addr} (I : Nat → Pt → Prop) (hp : S1 p = some (po pt)) (h0 : I 0 pt) (A : AV → Prop) (hl : xs.length ≤ sizeLine) (hx : S1 l = some (.lst xs)) (nlp : l ≠ p)
    (step : ∀ k x pt' Sx (Qe : AK), xs[k]? = some x → k < xs.length → I k pt' → Sx p = some (po pt') → (∀ y pt2, A y → I (k + 1) pt2 → Qe y (updS Sx p (po pt2))) → te ((wipeA τ vs).set j (some x)) Sx Qe)
    (fin : ∀ acc pt', acc.length = xs.length → (∀ y ∈ acc, A y) → I xs.length pt' → Q (.lst acc) (updS S1 p (po pt'))) : LcGoL te j vs τ Q (.ref l) xs S1 := by
  intro D hD
  have ne : p ≠ D := by rintro rfl; rw [hp] at hD; cases hD
  have nl : l ≠ D := by rintro rfl; rw [hx] at hD; cases hD
  have keep : ∀ pt' : Pt, lstA (updS (updS S1 p (po pt')) D .hid) (.ref l) = some xs := fun pt' => lstA_ref (by rw [updS_ne nl, updS_ne nlp]; exact hx)
  refine ⟨fun i acc S2 => acc.length = i ∧ (∀ y ∈ acc, A y) ∧ ∃ pt', I i pt' ∧ S2 = updS (updS S1 p (po pt')) D .hid, ⟨rfl, (fun y h => by cases h), pt, h0, by rw [updS_self hp]⟩, fun i x acc S2 hx ⟨hi, ha, pt', hI, e⟩ => ?_, fun acc S2 ⟨hi, ha, pt', hI, e⟩ => ?_⟩
  · subst e
    refine ⟨keep pt', ?_⟩
    have hlt := (List.getElem?_eq_some_iff.mp hx).1
    unfold aYes
    simp only [if_true]
    refine step i x pt' _ _ hx hlt hI (by rw [updS_ne ne, updS_same]) fun y pt2 hy hI2 => ⟨by omega, by rw [List.length_append, List.length_singleton, hi], fun w hw => ?_, pt2, hI2, ?_⟩
    · rcases List.mem_append.mp hw with h | h
      · exact ha w h
      · cases List.mem_singleton.mp h; exact hy
    · rw [← updS_comm ne, updS_updS]
  · subst e
    refine ⟨keep pt', ?_⟩
    rw [dropS_upd (by rw [updS_ne (Ne.symm ne)]; exact hD)]
    exact fin acc pt' hi ha hI
theorem lcS_pot (po : Pt → AO) {pt : Pt} (I : Nat → Pt → Prop) (hp : S1 p = some (po pt)) (h0 : I 0 pt) (A : AV → Prop) (hl : xs.length ≤ sizeLine)
    (step : ∀ k x pt' Sx (Qe : AK), xs[k]? = some x → k < xs.length → I k pt' → Sx p = some (po pt') → (∀ y pt2, A y → I (k + 1) pt2 → Qe y (updS Sx p (po pt2))) → te ((wipeA τ vs).set j (some x)) Sx Qe)
    (fin : ∀ acc pt' D, S1 D = none → acc.length = xs.length → (∀ y ∈ acc, A y) → I xs.length pt' → Q (.ref D) (updS (updS S1 p (po pt')) D (.lst acc))) : LcGoS te j vs τ Q xs S1 := by
  intro D hD
  have ne : p ≠ D := by rintro rfl; rw [hp] at hD; cases hD
  refine ⟨fun i acc S2 => acc.length = i ∧ (∀ y ∈ acc, A y) ∧ ∃ pt', I i pt' ∧ S2 = updS (updS S1 p (po pt')) D .hid, ⟨rfl, (fun y h => by cases h), pt, h0, by rw [updS_self hp]⟩, fun i x acc S2 hx ⟨hi, ha, pt', hI, e⟩ => ⟨trivial, ?_⟩, fun acc S2 ⟨hi, ha, pt', hI, e⟩ => ⟨trivial, ?_⟩⟩
  · subst e
    have hlt := (List.getElem?_eq_some_iff.mp hx).1
    unfold aYes
    simp only [if_true]
    refine step i x pt' _ _ hx hlt hI (by rw [updS_ne ne, updS_same]) fun y pt2 hy hI2 => ⟨by omega, by rw [List.length_append, List.length_singleton, hi], fun w hw => ?_, pt2, hI2, ?_⟩
    · rcases List.mem_append.mp hw with h | h
      · exact ha w h
      · cases List.mem_singleton.mp h; exact hy
    · rw [← updS_comm ne, updS_updS]
  · subst e
    rw [updS_updS]
    exact fin acc pt' D hD hi ha hI
end
/-- a loop over numbers, all the way -/
def ForGo (ag : AG) (tb : AS) (D : AEnds) (τ : ASt) (xs : List AV) (S1 : Store) : Prop := ∃ I : Nat → ASt → Store → Prop, I 0 τ S1 ∧
  (∀ (i : Nat) x τ2 S2, xs[i]? = some x → I i τ2 S2 → True ∧ ag x τ2 S2 fun τ3 S3 => tb { D with nx := I (i + 1), ct := I (i + 1), bk := D.nx } τ3 S3) ∧ (∀ τ2 S2, I xs.length τ2 S2 → True ∧ D.nx τ2 S2)
theorem aFor_rng {t : AA} {ag : AG} {tb : AS} {D : AEnds} {τ : ASt} {S : Store} : aFor (aiRng1 t) ag tb D τ S = t τ S fun ds S1 => ∃ n : Int, ds = [.int n] ∧ -(2 ^ 62) ≤ n ∧ n < 2 ^ 62 ∧ ForGo ag tb D τ (rngA 0 n.toNat) S1 := rfl
theorem ForGo.of {ag : AG} {tb : AS} {D : AEnds} {τ : ASt} {xs : List AV} {S1 : Store} (I : Nat → ASt → Store → Prop) (h0 : I 0 τ S1)
    (step : ∀ (i : Nat) x τ2 S2, xs[i]? = some x → i < xs.length → I i τ2 S2 → ag x τ2 S2 fun τ3 S3 => tb { D with nx := I (i + 1), ct := I (i + 1), bk := D.nx } τ3 S3) (fin : ∀ τ2 S2, I xs.length τ2 S2 → D.nx τ2 S2) : ForGo ag tb D τ xs S1 :=
  ⟨I, h0, fun i x τ2 S2 hx hi => ⟨trivial, step i x τ2 S2 hx (List.getElem?_eq_some_iff.mp hx).1 hi⟩, fun τ2 S2 h => ⟨trivial, fin τ2 S2 h⟩⟩
theorem tupleA_lst {xs : List AV} {S : Store} : tupleA (.lst xs) S = ⟨True, .tup xs⟩ := rfl
theorem tupleA_tup {xs : List AV} {S : Store} : tupleA (.tup xs) S = ⟨True, .tup xs⟩ := rfl
theorem tupleA_ref {l : Addr} {xs : List AV} {S : Store} (h : S l = some (.lst xs)) : tupleA (.ref l) S = ⟨True, .tup xs⟩ := by
  show (match lstA S (.ref l) with | some xs => (⟨True, .tup xs⟩ : Ans) | none => badA) = _
  rw [lstA_ref h]
theorem wstA_lst {xs : List AV} {S : Store} : wstA S (.lst xs) = some xs := rfl
/-- what holds between two statements -/
theorem seq_mid {t u : AS} {D : AEnds} {τ : ASt} {S : Store} (P : ASt → Store → Prop) (h : ∀ D' : AEnds, (∀ τ S, P τ S → D'.nx τ S) → D'.rt = D.rt → t D' τ S) (h2 : ∀ τ S, P τ S → u D τ S) : aSeq t u D τ S :=
  h { D with nx := u D } h2 rfl
theorem seq_cut {t u : AS} {D : AEnds} {τ : ASt} {S : Store} (P : ASt → Store → Prop) (h : ∀ D' : AEnds, (∀ τ S, P τ S → D'.nx τ S) → (∀ d S, D.rt d S → D'.rt d S) → (∀ τ S, D.ct τ S → D'.ct τ S) → (∀ τ S, D.bk τ S → D'.bk τ S) → t D' τ S) (h2 : ∀ τ S, P τ S → u D τ S) : aSeq t u D τ S :=
  h { D with nx := u D } h2 (fun _ _ h => h) (fun _ _ h => h) (fun _ _ h => h)
/-- a cell is set -/
def SubAt (o i d : AV) (S : Store) (Q : Store → Prop) : Prop := ∃ l ds k j, o = .ref l ∧ i = .int k ∧ S l = some (.lst ds) ∧ ixN ds.length k = some j ∧ Q (updS S l (.lst (ds.set j d)))
theorem agSub_def {to ti : AE} {d : AV} {τ : ASt} {S : Store} {Q : ASt → Store → Prop} : agSub to ti d τ S Q = to τ S fun o S1 => ti τ S1 fun i S2 => SubAt o i d S2 (Q τ) := rfl
theorem cutAns_rol {xs : List AV} {lo hi : Option Int} {S : Store} : cutAns (.rol xs) lo hi S = ⟨True, .lst (cutL xs lo hi)⟩ := rfl
theorem cutAns_lst {xs : List AV} {lo hi : Option Int} {S : Store} : cutAns (.lst xs) lo hi S = ⟨True, .lst (cutL xs lo hi)⟩ := rfl
theorem cutAns_tup {xs : List AV} {lo hi : Option Int} {S : Store} : cutAns (.tup xs) lo hi S = ⟨True, .tup (cutL xs lo hi)⟩ := rfl
theorem cutAns_str {z : Str} {lo hi : Option Int} {S : Store} : cutAns (.str z) lo hi S = ⟨z.length ≤ sizeLine, .str (cutS z lo hi)⟩ := rfl
theorem cutAns_ref {l : Addr} {xs : List AV} {lo hi : Option Int} {S : Store} (h : S l = some (.lst xs)) : cutAns (.ref l) lo hi S = ⟨True, .lst (cutL xs lo hi)⟩ := by
  show (match lstA S (.ref l) with | some xs => (⟨True, .lst (cutL xs lo hi)⟩ : Ans) | none => badA) = _
  rw [lstA_ref h]
theorem ex_some {α : Type} {b : α} {P : α → Prop} : (∃ i, some b = some i ∧ P i) = P b := propext ⟨fun ⟨k, e, p⟩ => by cases e; exact p, fun p => ⟨b, rfl, p⟩⟩
theorem sumA_ints {xs : List AV} {S : Store} (h : ∀ x ∈ xs, isIntA x = true) : ∃ s, sumA (.lst xs) S = ⟨True, .int s⟩ := by
  exact ⟨(xs.map intOf).sum, ans_tt (List.all_eq_true.mpr h) rfl⟩
theorem sum_cut (ns : List Int) (lo hi : Option Int) : ∃ s, ∀ S, sumA (.lst (cutL (ns.map .int) lo hi)) S = ⟨True, .int s⟩ := by
  obtain ⟨s, h⟩ := sumA_ints (xs := cutL (ns.map .int) lo hi) (S := fun _ => none) fun x hx => by
    obtain ⟨i, _, rfl⟩ := List.mem_map.mp (List.mem_of_mem_drop (List.mem_of_mem_take hx))
    rfl
  exact ⟨s, fun S => h⟩
/-- what is returned beside a list that came anew -/
theorem rt_new {Q : AK} {d : AV} {S : Store} {l : Addr} {xs : List AV} (hl : S l = none) (q : Q d S) : RtW Q d (updS S l (.lst xs)) :=
  rt_sub (.new .refl hl (by rw [hl]; simp) (by simp)) q
/-- the list that came anew is what is returned -/
theorem rt_list {Q : AK} {S : Store} {l : Addr} {xs : List AV} (hl : S l = none) (q : Q (.lst xs) S) : RtW Q (.ref l) (updS S l (.lst xs)) :=
  rt_frz updS_same (.new .refl hl (by rw [hl]; simp) (by simp)) hl q
end L3

set_option Elab.async false
set_option linter.all false
set_option maxRecDepth 100000
set_option maxHeartbeats 1000000
set_option autoImplicit false
/-! L3K: own classes: fields, methods, what is made of them. -/
namespace L3
open PySem L2 PyProof.Rows
variable {bb : Birth}

def putA (f : Str) (v : AV) : List (Str × AV) → List (Str × AV)
  | [] => [(f, v)]
  | (g, x) :: r => if g = f then (g, v) :: r else (g, x) :: putA f v r
/-- fields beside fields -/
inductive RelF (K : PySem.W.Frag) (H : Hp) (S : Store) : List (Str × V) → List (Str × AV) → Prop
  | nil : RelF K H S [] []
  | cons {f : Str} {v : V} {d : AV} {vs : List (Str × V)} {ds : List (Str × AV)} : RelA K H S v d → RelF K H S vs ds → RelF K H S ((f, v) :: vs) ((f, d) :: ds)
section
variable {K : PySem.W.Frag} {H : Hp} {S : Store}
theorem relF_of : ∀ {fv : List (Str × V)} {fs : List (Str × AV)}, fv.map (·.1) = fs.map (·.1) → RelAs K H S (fv.map (·.2)) (fs.map (·.2)) → RelF K H S fv fs
  | [], [], _, _ => .nil
  | [], _ :: _, h, _ => by cases h
  | _ :: _, [], h, _ => by cases h
  | (f, v) :: fv, (g, d) :: fs, h, r => by
    have h1 : f = g := (List.cons.inj h).1
    subst h1
    cases r with
    | cons a b => exact .cons a (relF_of (List.cons.inj h).2 b)
theorem RelF.names : ∀ {fv : List (Str × V)} {fs : List (Str × AV)}, RelF K H S fv fs → fv.map (·.1) = fs.map (·.1)
  | _, _, .nil => rfl
  | _, _, .cons a b => by rw [List.map_cons, List.map_cons, b.names]
theorem RelF.vals : ∀ {fv : List (Str × V)} {fs : List (Str × AV)}, RelF K H S fv fs → RelAs K H S (fv.map (·.2)) (fs.map (·.2))
  | _, _, .nil => .nil
  | _, _, .cons a b => .cons a b.vals
theorem RelF.length : ∀ {fv : List (Str × V)} {fs : List (Str × AV)}, RelF K H S fv fs → fv.length = fs.length
  | _, _, .nil => rfl
  | _, _, .cons a b => by rw [List.length_cons, List.length_cons, b.length]
theorem RelF.look : ∀ {fv : List (Str × V)} {fs : List (Str × AV)} {f : Str} {d : AV}, RelF K H S fv fs → fs.lookup f = some d → ∃ v, fv.lookup f = some v ∧ RelA K H S v d
  | _, _, _, _, .nil, h => by cases h
  | _, _, f, _, .cons (f := g) a b, h => by
    rw [List.lookup_cons] at h ⊢
    cases e : f == g with
    | true => rw [e] at h; cases h; exact ⟨_, rfl, a⟩
    | false => rw [e] at h; exact b.look h
theorem RelF.none : ∀ {fv : List (Str × V)} {fs : List (Str × AV)} {f : Str}, RelF K H S fv fs → fs.lookup f = Option.none → fv.lookup f = Option.none
  | _, _, _, .nil, h => rfl
  | _, _, f, .cons (f := g) a b, h => by
    rw [List.lookup_cons] at h ⊢
    cases e : f == g with
    | true => rw [e] at h; cases h
    | false => rw [e] at h; exact b.none h
theorem RelF.put {f : Str} {v : V} {d : AV} (r : RelA K H S v d) : ∀ {fv : List (Str × V)} {fs : List (Str × AV)}, RelF K H S fv fs → RelF K H S (putF f v fv) (putA f d fs)
  | _, _, .nil => .cons r .nil
  | _, _, .cons (f := g) (v := w) (vs := vs) (ds := ds) (d := e) a b => by
    show RelF K H S (if g = f then (g, v) :: vs else (g, w) :: putF f v vs) (if g = f then (g, d) :: ds else (g, e) :: putA f d ds)
    by_cases h : g = f
    · rw [if_pos h, if_pos h]; exact .cons r b
    · rw [if_neg h, if_neg h]; exact .cons a (RelF.put r b)
theorem insE (so : StOk K H S) {a C : Addr} {fs : List (Str × AV)} (h : S a = some (.ins C fs)) : ∃ dx fv, H a = some (.ins C dx fv) ∧ RelF K H S fv fs := by
  obtain ⟨dx, fv, h1, h2, h3⟩ := so a _ h
  exact ⟨dx, fv, h1, relF_of h2 h3⟩
theorem mutI (so : StOk K H S) {a C dx : Addr} {fs fs' : List (Str × AV)} {fv : List (Str × V)} (h : S a = some (.ins C fs)) (r : RelF K H S fv fs') :
    StOk K (upd H a (.ins C dx fv)) (updS S a (.ins C fs')) ∧ Step H S (upd H a (.ins C dx fv)) (updS S a (.ins C fs')) := by
  have st := step_mut (p := a) (o := .ins C dx fv) (u := .ins C fs') h (H := H) (by simp)
  exact ⟨stok_mut so h (by simp) ⟨dx, fv, upd_same, r.names, r.vals.step st⟩, st⟩
end
/-- a field of a thing is read -/
def FldAt (x : AV) (C : Addr) (f : Str) (S : Store) (Q : AK) : Prop := ∃ a fs v, x = .ref a ∧ S a = some (.ins C fs) ∧ fs.lookup f = some v ∧ Q v S
theorem fldAt_of {a C : Addr} {f : Str} {S : Store} {Q : AK} {fs : List (Str × AV)} {v : AV} (h : S a = some (.ins C fs)) (hl : fs.lookup f = some v) : FldAt (.ref a) C f S Q = Q v S :=
  propext ⟨fun ⟨a', fs', v', e, h', hl', q⟩ => by cases e; rw [h] at h'; cases h'; rw [hl] at hl'; cases hl'; exact q, fun q => ⟨a, fs, v, rfl, h, hl, q⟩⟩
def aFld (C : Addr) (f : Str) (ta : AE) : AE := fun τ S Q => ta τ S fun x S1 => FldAt x C f S1 Q
/-- a field of a thing is written -/
def PutAt (x : AV) (C : Addr) (f : Str) (y : AV) (S : Store) (Q : Store → Prop) : Prop := ∃ a fs, x = .ref a ∧ S a = some (.ins C fs) ∧ fs.length < 1000 ∧ Q (updS S a (.ins C (putA f y fs)))
theorem putAt_of {a C : Addr} {f : Str} {S : Store} {Q : Store → Prop} {fs : List (Str × AV)} {y : AV} (h : S a = some (.ins C fs)) (hl : fs.length < 1000) : PutAt (.ref a) C f y S Q = Q (updS S a (.ins C (putA f y fs))) :=
  propext ⟨fun ⟨a', fs', e, h', hl', q⟩ => by cases e; rw [h] at h'; cases h'; exact q, fun q => ⟨a, fs, rfl, h, hl, q⟩⟩
def aPut (C : Addr) (f : Str) (to tv : AE) : AS := fun D τ S => tv τ S fun y S1 => to τ S1 fun x S2 => PutAt x C f y S2 (D.nx τ)
def agFld (C : Addr) (f : Str) (to : AE) : AG := fun y τ S Q => to τ S fun x S1 => PutAt x C f y S1 (Q τ)
def aPutAug (ar : AV → AV → Store → Ans) (C : Addr) (f : Str) (to tv : AE) : AS := fun D τ S => to τ S fun x S1 => FldAt x C f S1 fun v S2 => tv τ S2 fun y S3 => (ar v y S3).ok ∧ PutAt x C f (ar v y S3).v S3 (D.nx τ)
section
variable {X : Cx} {e o value : Expr} {es : List Expr} {f : Str} {pos pos' tpos p : Pos} {ta tv to : AE} {t : AA} {C : Addr}
theorem e_fld (c : Cls X.K C) (n : NoAttr X.K C f) (he : PE X e (low (kx X bb) ta)) (hb : attributeBase e f X.env (eval e X.env) = eval e X.env := by rfl) : PE X (.Attribute e f pos) (low (kx X bb) (aFld C f ta)) := (pe_fld he hb).weak fun σ H QH ⟨τ, S, Q, R, so, q, k⟩ =>
  ⟨τ, S, _, R, so, q, fun v H1 d S1 so1 st1 r1 ⟨a, fs, y, ex, hs, hl, q1⟩ => by
    subst ex
    obtain rfl := rel_refE r1
    obtain ⟨dx, fv, h1, rf⟩ := insE so1 hs
    obtain ⟨w, hw, rw'⟩ := rf.look hl
    exact ⟨a, C, dx, fv, w, rfl, h1, c, n, hw, k w H1 y S1 so1 st1 rw' q1⟩⟩
theorem s_put (c : Cls X.K C) (n : NoAttr X.K C f) (ho : PE X o (low (kx X bb) to)) (hv : PE X value (low (kx X bb) tv)) (hs : swapsWith value (some (.Attribute o f pos')) pos.line X.env = pure false := by rfl) :
    PS X (.Assign [.Attribute o f pos'] value pos) (lowS (kx X bb) (aPut C f to tv)) := (ps_fld ho hv hs).weak fun DH σ H ⟨τ, S, D, R, so, q, k⟩ =>
  ⟨τ, S, _, R, so, q, fun v H1 d S1 so1 st1 r1 q1 => ⟨τ, S1, _, R.step st1, so1, q1, fun u H2 x S2 so2 st2 r2 ⟨a, fs, ex, hs, hl, q2⟩ => by
    subst ex
    obtain rfl := rel_refE r2
    obtain ⟨dx, fv, h1, rf⟩ := insE so2 hs
    obtain ⟨so3, st3⟩ := mutI (dx := dx) so2 hs (rf.put (r1.step st2))
    exact ⟨a, C, dx, fv, rfl, h1, c, n, by rw [rf.length]; exact hl, k.nx σ _ τ _ so3 ((st1.trans st2).trans st3) (((R.step st1).step st2).step st3) q2⟩⟩⟩
theorem s_putAug {op : Operator} {ar : AV → AV → Store → Ans} (c : Cls X.K C) (n : NoAttr X.K C f) (ho : PE X o (low (kx X bb) to)) (hv : PE X value (low (kx X bb) tv)) (hop : InOp X op (lowO X.K ar)) :
    PS X (.AugAssign (.Attribute o f tpos) op value pos) (lowS (kx X bb) (aPutAug ar C f to tv)) := (ps_fldaug ho hv hop).weak fun DH σ H ⟨τ, S, D, R, so, q, k⟩ =>
  ⟨τ, S, _, R, so, q, fun v H1 x S1 so1 st1 r1 ⟨a, fs, y, ex, hs, hl, q1⟩ => by
    subst ex
    obtain rfl := rel_refE r1
    obtain ⟨dx, fv, h1, rf⟩ := insE so1 hs
    obtain ⟨w, hw, rw'⟩ := rf.look hl
    refine ⟨a, C, dx, fv, w, rfl, h1, c, n, hw, τ, S1, _, R.step st1, so1, q1, fun z H2 dz S2 so2 st2 rz ⟨ok, a2, fs2, e2, hs2, hl2, q2⟩ => ?_⟩
    cases e2
    refine ⟨y, dz, S2, rw'.step st2, rz, so2, ok, fun r H3 so3 st3 rr => ?_⟩
    obtain ⟨dx2, fv2, h2, rf2⟩ := insE so3 hs2
    obtain ⟨so4, st4⟩ := mutI (dx := dx2) so3 hs2 (rf2.put rr)
    have stT := ((st1.trans st2).trans st3).trans st4
    exact ⟨dx2, fv2, h2, by rw [rf2.length]; exact hl2, k.nx σ _ τ _ so4 stT (R.step stT) q2⟩⟩
theorem g_fld (c : Cls X.K C) (n : NoAttr X.K C f) (ho : PE X o (low (kx X bb) to)) : PG X (.Attribute o f pos) (lowG (kx X bb) (agFld C f to)) := by
  refine ⟨fun pins s σ H v u QH I r h => ?_⟩
  obtain ⟨d, τ, S, Q, rd, R, so, q, k⟩ := h
  show wpAny _ _ (do
    let ov ← holding [u] (eval o X.env)
    standAt pos.atName
    holding [u, ov] (setAttr ov f u)
    release [u, ov] []) _ _ _
  refine wpAny_bind (wpAny_holding (thn (ho.run pins s σ H (fun vo H1 => ∃ x S1, StOk X.K H1 S1 ∧ Step H S H1 S1 ∧ RelA X.K H1 S1 vo x ∧ PutAt x C f d S1 (Q τ)) I ⟨τ, S, _, R, so, q, fun vo H1 x S1 so1 st1 r1 q1 => ⟨x, S1, so1, st1, r1, q1⟩⟩) fun ov s1 z => ?_))
  obtain ⟨vo, H1, I1, ro, x, S1, so1, st1, r1, a, fs, ex, hs, hl, q1⟩ := z
  subst ex
  obtain rfl := rel_refE r1
  obtain rfl : ov = .ref a := ro
  obtain ⟨dx, fv, h1, rf⟩ := insE so1 hs
  obtain ⟨so2, st2⟩ := mutI (dx := dx) so1 hs (rf.put (rd.step st1))
  refine wpAny_bind (wpAny_standAt (wpAny_bind (wpAny_holding (setattr_ok I1 h1 c n (by rw [rf.length]; exact hl) r fun s3 I3 => ?_))))
  exact wpAny_release ⟨σ, _, I3, k σ _ τ _ so2 (st1.trans st2) (R.step (st1.trans st2)) q1⟩
end

/-! ### methods -/
structure MethD (K : PySem.W.Frag) (C : Addr) (m qual : Str) (st : Stmt) (ps : List Str) : Prop where
  ex : ∃ (f : Addr) (fd : FuncData), L2.Fun K m qual st f fd ∧ Meth K C m f ∧ Binds K fd ps []
structure FnM (P : Program) (w : World) (K : PySem.W.Frag) (mg : Str → Option Value) (base : Heap) (k : Nat) (C : Addr) (m qual : Str) (st : Stmt) (ps : List Str) (asp : ASp) : Prop where
  ex : ∃ (f : Addr) (fd : FuncData), L2.Fun K m qual st f fd ∧ FnG P w K mg base k f fd ps (spOf K asp) ∧ Meth K C m f ∧ Binds K fd ps []
section
variable {P : Program} {w : World} {K : PySem.W.Frag} {mg : Str → Option Value} {base : Heap} {k : Nat} {C : Addr} {m qual : Str} {st : Stmt} {ps : List Str} {asp : ASp}
theorem MethD.of {h : Heap} {f : Addr} {od an : Option Addr} {sl : Array (Option Value)} {oc kV doc pm cd ct : Value} (X : K.In h)
    (a : PySem.W.findIn K (.ref C) m = some (some (.ref f))) (l : K.lookup f = some ⟨oc, od, .func (PySem.W.fnOf m qual (defArgs st) (defBody st) (defScope st) .none kV doc pm an cd ct), sl⟩) (c : PySem.W.codeIn K cd qual = true) (kp : PySem.W.keepIn K (.ref f) = true)
    (fn : PySem.W.isFn K (.ref f) = true) (b : ∀ (kV doc pm : Value) (an : Option Addr) (cdv ct : Value) (us : List Value), us.length = ps.length → bindArgs (PySem.W.fnOf m qual (defArgs st) (defBody st) (defScope st) .none kV doc pm an cdv ct) ⟨us, []⟩ = pure (ps.zip us)) : MethD K C m qual st ps := by
  have F : L2.Fun K m qual st f (PySem.W.fnOf m qual (defArgs st) (defBody st) (defScope st) .none kV doc pm an cd ct) := ⟨⟨oc, od, kV, doc, pm, an, cd, ct, sl, rfl, l, c⟩, kp⟩
  exact ⟨f, _, F, ⟨a, fn, kp⟩, .all fun us hl => b kV doc pm an cd ct us hl⟩
theorem FnM.of (D : MethD K C m qual st ps) (h : ∀ f fd, L2.Fun K m qual st f fd → FnG P w K mg base k f fd ps (spOf K asp)) : FnM P w K mg base k C m qual st ps asp := let ⟨f, fd, G, hm, hb⟩ := D.ex; ⟨f, fd, G, h f fd G, hm, hb⟩
end
/-- o.m(..) -/
def aMeth (C : Addr) (m : Str) (asp : ASp) (to : AE) (t : AA) : AE := fun τ S Q => to τ S fun x S1 => ∃ a fs, x = .ref a ∧ S1 a = some (.ins C fs) ∧ fs.lookup m = none ∧ t τ S1 fun ds S2 => asp (x :: ds) S2 Q
/-- C(..) -/
def aMake (C : Addr) (asp : ASp) (t : AA) : AE := fun τ S Q => t τ S fun ds S1 => ∀ a, S1 a = none → asp (.ref a :: ds) (updS S1 a (.ins C [])) fun d S2 => d = .non ∧ Q (.ref a) S2
section
variable {X : Cx} {k : Nat} {C : Addr} {m qual x : Str} {st : Stmt} {ps : List Str} {asp : ASp} {e o : Expr} {es : List Expr} {to : AE} {t : AA} {p pos apos : Pos}
theorem e_meth {pl : Sem Bool} (F : FnM X.prog X.w X.K X.mg X.base k C m qual st ps asp) (c : Cls X.K C) (gd : X.A.guards = some []) (hr : Room k X.A) (he : PE X o (low (kx X bb) to)) (ha : PA X (e :: es) (lowA (kx X bb) t))
    (hst : starEach (e :: es) X.env = (false, eval e X.env) :: starEach es X.env := by rfl) (hpl : (backTo pos (starEach es X.env)).any (·.1) = false := by rfl)
    (ht : eval (.Call (.Attribute o m apos) (e :: es) [] pos) X.env = (do
      let ov ← eval o X.env
      standAt apos.atName
      let (f, first) ← holding [ov] (getMethod ov m pl)
      callWith pos f first (backTo pos (starEach (e :: es) X.env)) (backToKw pos (keywordEach [] X.env))) := by rfl) :
    PE X (.Call (.Attribute o m apos) (e :: es) [] pos) (low (kx X bb) (aMeth C m asp to t)) := by
  obtain ⟨f, fd, _, G, hm, hb⟩ := F.ex
  refine ⟨fun pins s σ H QH I ⟨τ, S, Q, R, so, q, kk⟩ => ?_⟩
  refine PySem.W.methodCall_KW (pl := pl) (thn (he.run pins s σ H (fun v H1 => ∃ a fs S1, StOk X.K H1 S1 ∧ Step H S H1 S1 ∧ v = .ref a ∧ S1 a = some (.ins C fs) ∧ fs.lookup m = none ∧ t τ S1 fun ds S2 => asp (.ref a :: ds) S2 Q) I
    ⟨τ, S, _, R, so, q, fun v H1 d S1 so1 st1 r1 ⟨a, fs, ed, hs, hl, q1⟩ => by subst ed; exact ⟨a, fs, S1, so1, st1, rel_refE r1, hs, hl, q1⟩⟩) fun u s1 z => ?_) ht
  obtain ⟨v, H1, I1, rx, a, fs, S1, so1, st1, ev, hs, hl, q1⟩ := z
  subst ev
  obtain rfl : u = Value.ref a := rx
  obtain ⟨dx, fv, h1, rf⟩ := insE so1 hs
  refine getmeth_ok I1 h1 c hm (rf.none hl) ?_
  refine PySem.W.callWith_K (first := [.ref a]) (h₀ := X.base) I1.ok.mod.kin hm.kp (thn (ha.run pos pins s1 σ H1 (fun vs H2 => ∃ ds S2, StOk X.K H2 S2 ∧ Step H1 S1 H2 S2 ∧ RelAs X.K H2 S2 vs ds ∧ asp (.ref a :: ds) S2 Q) I1
    ⟨τ, S1, _, R.step st1, so1, q1, fun vs H2 ds S2 so2 st2 r2 q2 => ⟨ds, S2, so2, st2, r2, q2⟩⟩) fun us s2 z => ?_) hst hpl
  obtain ⟨vs, H2, I2, r, ds, S2, so2, st2, r2, q2⟩ := z
  exact ⟨I2.kIn, run_g (us := .ref a :: us) (vs := .ref a :: vs) G gd hr hb I2 (.cons rfl r) ⟨.ref a :: ds, S2, Q, .cons (.ref a) r2, so2, q2, fun d S' v H' so' st' r' q' => kk v H' d S' so' ((st1.trans st2).trans st') r' q'⟩⟩
theorem e_meth0 {pl : Sem Bool} (F : FnM X.prog X.w X.K X.mg X.base k C m qual st ps asp) (c : Cls X.K C) (gd : X.A.guards = some []) (hr : Room k X.A) (he : PE X o (low (kx X bb) to))
    (ht : eval (.Call (.Attribute o m apos) [] [] pos) X.env = (do
      let ov ← eval o X.env
      standAt apos.atName
      let (f, first) ← holding [ov] (getMethod ov m pl)
      callWith pos f first (backTo pos (starEach [] X.env)) (backToKw pos (keywordEach [] X.env))) := by rfl) :
    PE X (.Call (.Attribute o m apos) [] [] pos) (low (kx X bb) (aMeth C m asp to aNil)) := by
  obtain ⟨f, fd, _, G, hm, hb⟩ := F.ex
  refine ⟨fun pins s σ H QH I ⟨τ, S, Q, R, so, q, kk⟩ => ?_⟩
  refine PySem.W.methodCall_KW (pl := pl) (thn (he.run pins s σ H (fun v H1 => ∃ a fs S1, StOk X.K H1 S1 ∧ Step H S H1 S1 ∧ v = .ref a ∧ S1 a = some (.ins C fs) ∧ fs.lookup m = none ∧ asp [.ref a] S1 Q) I
    ⟨τ, S, _, R, so, q, fun v H1 d S1 so1 st1 r1 ⟨a, fs, ed, hs, hl, q1⟩ => by subst ed; exact ⟨a, fs, S1, so1, st1, rel_refE r1, hs, hl, q1⟩⟩) fun u s1 z => ?_) ht
  obtain ⟨v, H1, I1, rx, a, fs, S1, so1, st1, ev, hs, hl, q1⟩ := z
  subst ev
  obtain rfl : u = Value.ref a := rx
  obtain ⟨dx, fv, h1, rf⟩ := insE so1 hs
  refine getmeth_ok I1 h1 c hm (rf.none hl) ?_
  exact PySem.W.callWith_K0 (first := [.ref a]) I1.kIn hm.kp (run_g (us := [.ref a]) (vs := [.ref a]) G gd hr hb I1 (.cons rfl .nil) ⟨[.ref a], S1, Q, .cons (.ref a) .nil, so1, q1, fun d S' v H' so' st' r' q' => kk v H' d S' so' (st1.trans st') r' q'⟩)
theorem made_ok {K : PySem.W.Frag} {H : Hp} {S : Store} (so : StOk K H S) {a dx : Addr} (ha : H a = none) (hd : H dx = none) (ne : dx ≠ a) :
    StOk K (upd (upd H dx (.own a)) a (.ins C dx [])) (updS S a (.ins C [])) ∧ Step H S (upd (upd H dx (.own a)) a (.ins C dx [])) (updS S a (.ins C [])) := by
  have st1 : Step H S (upd H dx (.own a)) S := step_new so hd
  have so1 : StOk K (upd H dx (.own a)) S := stok_new so hd
  have ha1 : upd H dx (.own a) a = none := by rw [upd_ne (Ne.symm ne)]; exact ha
  have st2 := step_put (o := .ins C dx []) (u := .ins C []) so1 ha1
  exact ⟨stok_put (u := .ins C []) so1 ha1 ⟨dx, [], upd_same, rfl, .nil⟩, st1.trans st2⟩
/-- C(e, ..), its __init__ walked -/
theorem e_make {f : Addr} {fd : FuncData} (M : Mk X.K C f) (G : FnG X.prog X.w X.K X.mg X.base k f fd ps (spOf X.K asp)) (hb : Binds X.K fd ps []) (gd : X.A.guards = some []) (hr : Room (k + 1) X.A) (hm : X.mg x = some (.ref C)) (ha : PA X (e :: es) (lowA (kx X bb) t)) (hg : Gl X x := by rfl)
    (hdb : (x == ("__debug__" : Str)) = false := by decide) (he : starEach (e :: es) X.env = (false, eval e X.env) :: starEach es X.env := by rfl) (hpl : (backTo pos (starEach es X.env)).any (·.1) = false := by rfl) :
    PE X (.Call (.Name x p) (e :: es) [] pos) (low (kx X bb) (aMake C asp t)) := by
  refine ⟨fun pins s σ H QH I ⟨τ, S, Q, R, so, q, kk⟩ => ?_⟩
  refine wpAny_Call_Name_kw (ld_glob I hg hm ?_ hdb)
  refine PySem.W.callWith_K (h₀ := X.base) I.ok.mod.kin M.kp (thn (ha.run pos pins s σ H (fun vs H1 => ∃ ds S1, StOk X.K H1 S1 ∧ Step H S H1 S1 ∧ RelAs X.K H1 S1 vs ds ∧ ∀ a, S1 a = none → asp (.ref a :: ds) (updS S1 a (.ins C [])) fun d S2 => d = .non ∧ Q (.ref a) S2) I
    ⟨τ, S, _, R, so, q, fun vs H1 ds S1 so1 st1 r1 q1 => ⟨ds, S1, so1, st1, r1, q1⟩⟩) fun us s1 z => ?_) he hpl
  obtain ⟨vs, H1, I1, r, ds, S1, so1, st1, r1, q1⟩ := z
  refine ⟨I1.kIn, ?_⟩
  have fx : H1 (s1.heap.objs.size + 1) = none := I1.hok.fresh (Nat.le_succ _)
  have fd' : H1 s1.heap.objs.size = none := I1.hok.fresh (Nat.le_refl _)
  have ne : s1.heap.objs.size ≠ s1.heap.objs.size + 1 := Nat.ne_of_lt (Nat.lt_succ_self _)
  obtain ⟨so2, st2⟩ := made_ok (C := C) so1 fx fd' ne
  have I2 := Inv.made (C := C) I1
  have hq : spOf X.K asp (.ref (s1.heap.objs.size + 1) :: vs) (upd (upd H1 s1.heap.objs.size (.own (s1.heap.objs.size + 1))) (s1.heap.objs.size + 1) (.ins C s1.heap.objs.size [])) (fun v H2 => v = .non ∧ QH (.ref (s1.heap.objs.size + 1)) H2) E0 :=
    ⟨.ref (s1.heap.objs.size + 1) :: ds, _, _, .cons (.ref _) (r1.step st2), so2, q1 _ (so1.fresh fx), fun d S' v H' so' st' r' ⟨ed, q'⟩ => by
      subst ed
      exact ⟨rel_nonE r', kk _ H' _ S' so' ((st1.trans st2).trans st') (.ref _) q'⟩⟩
  have r2 : Vals (V.ref (s1.heap.objs.size + 1) :: vs) (Value.ref (s1.heap.objs.size + 1) :: us) := .cons rfl r
  have hl : (Value.ref (s1.heap.objs.size + 1) :: us ++ []).length = ps.length := by
    rw [List.append_nil, ← r2.length]
    exact G.len _ _ _ _ hq
  have b := hb _ (Value.ref (s1.heap.objs.size + 1) :: us) I2.kIn hl
  rw [List.append_nil] at b
  refine wpAny_call (make_map (f := f) I1.kIn M.makes M.init (beq_iff_eq.mp M.fn) (codeAny_mono (G.go (X.A.under (.builtin "type.__call__" ⟨.ref C :: us, []⟩)) (by first | exact gd | (simpa [Around.under] using gd)) (hr.make C us []) X.stack _ _ ⟨Value.ref (s1.heap.objs.size + 1) :: us, []⟩ (Value.ref (s1.heap.objs.size + 1) :: us) _ _ E0 (I2.env0.make C us []) b r2 hq) fun r' s' hq' => ?_))
  cases r' with
  | error e => exact False.elim hq'
  | ok fl =>
    cases fl with
    | ret u =>
      obtain ⟨v, H', I3, rv, ev, q3⟩ := I2.after hq'
      subst ev
      exact ⟨rv, ⟨V.ref (s1.heap.objs.size + 1), H', I3, rfl, q3⟩⟩
    | next => exact False.elim hq'
    | brk => exact False.elim hq'
    | cont => exact False.elim hq'
theorem e_mk (F : FnM X.prog X.w X.K X.mg X.base k C "__init__" qual st ps asp) (mk : PySem.W.makesIn X.K C = true ∧ PySem.W.keepIn X.K (.ref C) = true) (hm : X.mg x = some (.ref C)) (gd : X.A.guards = some []) (hr : Room (k + 1) X.A) (ha : PA X (e :: es) (lowA (kx X bb) t)) (hg : Gl X x := by rfl)
    (hdb : (x == ("__debug__" : Str)) = false := by decide) (he : starEach (e :: es) X.env = (false, eval e X.env) :: starEach es X.env := by rfl) (hpl : (backTo pos (starEach es X.env)).any (·.1) = false := by rfl) :
    PE X (.Call (.Name x p) (e :: es) [] pos) (low (kx X bb) (aMake C asp t)) := by
  obtain ⟨f, fd, _, G, m, hb⟩ := F.ex
  exact e_make ⟨mk.1, m.at_, m.fn, mk.2⟩ G hb gd hr hm ha hg hdb he hpl
end
end L3

set_option Elab.async false
set_option linter.all false
set_option maxRecDepth 100000
set_option maxHeartbeats 1000000
set_option autoImplicit false
/-! L3M: texts of ints, ints of texts, texts and lists over and over, three names at once. -/
namespace L3
open PySem L2 PyProof.Rows
variable {bb : Birth}

def mulTA (z : Str) (n : Int) : Ans := ⟨z.length * n.toNat ≤ 16777216 ∧ -(2 ^ 63) ≤ n ∧ n ≤ 16777216, .str (Txt.mul z n)⟩
def mulLA (o : Option (List AV)) (n : Int) : Ans := match o with
  | some xs => ⟨-(2 ^ 63) ≤ n ∧ n < 2 ^ 63 ∧ xs.length * n.toNat ≤ sizeLine, .lst (List.replicate n.toNat xs).flatten⟩
  | none => badA
/-- * of ints, of a text and an int, of a list and an int -/
def mulX (x y : AV) (S : Store) : Ans := match x with
  | .int i => match y with
    | .int j => ⟨CMulB i j, .int (i * j)⟩
    | _ => badA
  | .str z => match y with
    | .int n => mulTA z n
    | _ => badA
  | x => match y with
    | .int n => mulLA (wstA S x) n
    | _ => badA
section
variable {X : Cx}
theorem mulOk_txt {z : Str} {n : Int} (h : z.length * n.toNat ≤ 16777216 ∧ -(2 ^ 63) ≤ n ∧ n ≤ 16777216) : MulOk z n := by
  obtain ⟨h1, h2, h3⟩ := h
  by_cases h0 : n < 1
  · exact mulOk_of z.length 0 (Nat.le_refl _) (by omega) h2 (by omega) (by omega)
  · exact mulOk_of z.length n.toNat (Nat.le_refl _) (by omega) h2 (by omega) h1
theorem op_mul_txt : OpR X (binaryOp .Mult) (fun x y H Q => ∃ z n, x = .str z ∧ y = .int n ∧ MulOk z n ∧ Q (.str (Txt.mul z n)) H) := by
  intro pins s σ H x y v u Q I rx ry h
  obtain ⟨z, n, rfl, rfl, hok, q⟩ := h
  obtain ⟨t, rfl⟩ := rx
  obtain ⟨t', rfl⟩ := ry
  exact SB.mul hok fun t' k => ⟨.str (Txt.mul z n), H, I.tok _, ⟨_, rfl⟩, q⟩
theorem relAs_reps {K : PySem.W.Frag} {H : Hp} {S : Store} {vs : List V} {ds : List AV} (r : RelAs K H S vs ds) : ∀ n : Nat, RelAs K H S (List.replicate n vs).flatten (List.replicate n ds).flatten
  | 0 => .nil
  | n + 1 => by rw [List.replicate_succ, List.replicate_succ, List.flatten_cons, List.flatten_cons]; exact r.app (relAs_reps r n)
theorem om_lst {x y : V} {dx : AV} {n : Int} {S : Store} {H : Hp} {QH : VK} (so : StOk X.K H S) (rx : RelA X.K H S x dx) (ry : RelA X.K H S y (.int n)) (ok : (mulLA (wstA S dx) n).ok)
    (k : ∀ v H', StOk X.K H' S → Step H S H' S → RelA X.K H' S v (mulLA (wstA S dx) n).v → QH v H') : rRep x y H QH := by
  cases ex : wstA S dx with
  | none => rw [ex] at ok; exact ok.elim
  | some xs =>
    rw [ex] at ok k
    obtain ⟨a, vs, rfl, ha, ra⟩ := rel_wstE so rx ex
    obtain rfl := rel_intE ry
    obtain ⟨h1, h2, h3⟩ := ok
    exact ⟨a, n, vs, rfl, rfl, ha, h1, h2, by rw [ra.length]; exact h3, fun p hp => k _ _ (stok_new so hp) (step_new so hp) (rel_lst so hp (relAs_reps ra n.toNat))⟩
theorem o_mulX : OpR X (binaryOp .Mult) (lowO X.K mulX) := opr_weak (OpR.or (OpR.or op_mul op_mulW) (OpR.or op_mul_txt op_rep)) fun x y H QH ⟨dx, dy, S, rx, ry, so, ok, k⟩ => by
  cases dx with
  | int i =>
    cases dy with
    | int j =>
      obtain rfl := rel_intE rx
      obtain rfl := rel_intE ry
      rcases ok with c | c
      · exact .inl (.inl ⟨i, j, rfl, rfl, c, k _ H so .refl (.int _)⟩)
      · exact .inl (.inr ⟨i, j, rfl, rfl, c, k _ H so .refl (.int _)⟩)
    | _ => exact ok.elim
  | str z =>
    cases dy with
    | int n =>
      obtain rfl := rel_strE rx
      obtain rfl := rel_intE ry
      exact .inr (.inl ⟨z, n, rfl, rfl, mulOk_txt ok, k _ H so .refl (.str _)⟩)
    | _ => exact ok.elim
  | lst xs =>
    cases dy with
    | int n => exact .inr (.inr (om_lst so rx ry ok k))
    | _ => exact ok.elim
  | ref l =>
    cases dy with
    | int n => exact .inr (.inr (om_lst so rx ry ok k))
    | _ => exact ok.elim
  | _ =>
    cases dy with
    | int n => exact ok.elim
    | _ => exact ok.elim
/-- str(n), str(text) -/
def strA (x : AV) (_ : Store) : Ans := match x with
  | .int i => ⟨i.natAbs.log2 < 1920, .str (Str.ofString (toString i))⟩
  | .str z => ⟨True, .str z⟩
  | _ => badA
theorem c_str : CallR X (.type "str") (lowC X.K (one1 strA)) := c_one (CallR.or call_str_int SkE.call_str_str) fun x d S H QH r so ok k => by
  cases d with
  | int i => obtain rfl := rel_intE r; exact .inl ⟨i, rfl, ok, k _ H so .refl (.str _)⟩
  | str z => obtain rfl := rel_strE r; exact .inr ⟨z, rfl, k _ H so .refl (.str _)⟩
  | _ => exact ok.elim
/-- int(n), int(flag), int(text) -/
def intXA (x : AV) (_ : Store) : Ans := match x with
  | .int i => ⟨True, .int i⟩
  | .bl b => ⟨True, .int (if b then 1 else 0)⟩
  | .str z => ⟨(PySem.intText? z).isSome = true ∧ z.length ≤ 640, .int ((PySem.intText? z).getD 0)⟩
  | _ => badA
theorem c_intX : CallR X (.type "int") (lowC X.K (one1 intXA)) := c_one (CallR.or call_int1 call_int_str) fun x d S H QH r so ok k => by
  cases d with
  | int i => obtain rfl := rel_intE r; exact .inl (.inl ⟨i, rfl, k _ H so .refl (.int _)⟩)
  | bl b => obtain rfl := rel_blE r; exact .inl (.inr ⟨b, rfl, k _ H so .refl (.int _)⟩)
  | str z =>
    obtain rfl := rel_strE r
    obtain ⟨h1, h2⟩ := ok
    obtain ⟨n, hn⟩ := Option.isSome_iff_exists.mp h1
    refine .inr ⟨z, n, rfl, hn, h2, k _ H so .refl ?_⟩
    show RelA X.K H S (.int n) (.int ((PySem.intText? z).getD 0))
    rw [hn]
    exact .int n
  | _ => exact ok.elim
theorem in_add : InOp X .Add (lowO X.K (intA (fun _ _ => True) fun i j => i + j)) := fun pins s σ H x y u v Q I rx ry q => (o_int (rI_tt iop_add)) pins s σ H x y u v Q I rx ry q
theorem mulX_ii {i j : Int} {S : Store} : mulX (.int i) (.int j) S = ⟨CMulB i j, .int (i * j)⟩ := rfl
theorem mulX_si {z : Str} {j : Int} {S : Store} : mulX (.str z) (.int j) S = ⟨z.length * j.toNat ≤ 16777216 ∧ -(2 ^ 63) ≤ j ∧ j ≤ 16777216, .str (Txt.mul z j)⟩ := rfl
theorem mulX_li {xs : List AV} {j : Int} {S : Store} : mulX (.lst xs) (.int j) S = ⟨-(2 ^ 63) ≤ j ∧ j < 2 ^ 63 ∧ xs.length * j.toNat ≤ sizeLine, .lst (List.replicate j.toNat xs).flatten⟩ := rfl
theorem mulX_ri {l : Addr} {xs : List AV} {j : Int} {S : Store} (h : S l = some (.lst xs)) : mulX (.ref l) (.int j) S = ⟨-(2 ^ 63) ≤ j ∧ j < 2 ^ 63 ∧ xs.length * j.toNat ≤ sizeLine, .lst (List.replicate j.toNat xs).flatten⟩ := by
  show mulLA (wstA S (.ref l)) j = _
  rw [wstA_ref h]
  rfl
theorem strA_i {i : Int} {S : Store} : strA (.int i) S = ⟨i.natAbs.log2 < 1920, .str (Str.ofString (toString i))⟩ := rfl
theorem strA_s {z : Str} {S : Store} : strA (.str z) S = ⟨True, .str z⟩ := rfl
theorem intXA_i {i : Int} {S : Store} : intXA (.int i) S = ⟨True, .int i⟩ := rfl
theorem intXA_b {i : Bool} {S : Store} : intXA (.bl i) S = ⟨True, .int (if i then 1 else 0)⟩ := rfl
theorem intXA_s {z : Str} {n : Int} {S : Store} (h : PySem.intText? z = some n) : intXA (.str z) S = ⟨z.length ≤ 640, .int n⟩ := by
  show (⟨(PySem.intText? z).isSome = true ∧ z.length ≤ 640, .int ((PySem.intText? z).getD 0)⟩ : Ans) = _
  rw [h]
  simp
/-- is, is not of bools -/
def isBA (x y : AV) (_ : Store) : Ans := match x with
  | .bl a => match y with
    | .bl b => ⟨True, .bl (decide (a = b))⟩
    | _ => badA
  | _ => badA
def isntBA (x y : AV) (_ : Store) : Ans := match x with
  | .bl a => match y with
    | .bl b => ⟨True, .bl (!decide (a = b))⟩
    | _ => badA
  | _ => badA
theorem isBA_bb {a b : Bool} {S : Store} : isBA (.bl a) (.bl b) S = ⟨True, .bl (decide (a = b))⟩ := rfl
theorem isntBA_bb {a b : Bool} {S : Store} : isntBA (.bl a) (.bl b) S = ⟨True, .bl (!decide (a = b))⟩ := rfl
theorem o_isB : OpR X (compareOp .Is) (lowO X.K isBA) := opr_weak L2.op_isBl fun x y H QH ⟨dx, dy, S, rx, ry, so, ok, k⟩ => by
  cases dx with
  | bl a =>
    cases dy with
    | bl b => obtain rfl := rel_blE rx; obtain rfl := rel_blE ry; exact ⟨a, b, rfl, rfl, k _ H so .refl (.bl _)⟩
    | _ => exact ok.elim
  | _ => exact ok.elim
theorem o_isntB : OpR X (compareOp .IsNot) (lowO X.K isntBA) := opr_weak L2.op_notBl fun x y H QH ⟨dx, dy, S, rx, ry, so, ok, k⟩ => by
  cases dx with
  | bl a =>
    cases dy with
    | bl b => obtain rfl := rel_blE rx; obtain rfl := rel_blE ry; exact ⟨a, b, rfl, rfl, k _ H so .refl (.bl _)⟩
    | _ => exact ok.elim
  | _ => exact ok.elim
end
end L3

set_option Elab.async false
set_option linter.all false
set_option maxRecDepth 100000
set_option maxHeartbeats 2000000
set_option autoImplicit false
/-! L3N: comprehensions over pairs; starred parts of lists. -/
namespace L3
open PySem L2
variable {bb : Birth}
section
/-- [e for x, y in xs if t] -/
def aLcP (ai : AI) (j k : Nat) (tt : AT) (te : AE) (vs : List Nat) : AE := fun τ S Q => ai τ S fun xs G S1 => ∀ D, S1 D = none → ∃ I : Nat → List AV → Store → Prop, I 0 [] (updS S1 D .hid) ∧
  (∀ (i : Nat) x acc S2, xs[i]? = some x → I i acc S2 → G S2 ∧ ∃ d1 d2, x = .tup [d1, d2] ∧ tt (((wipeA τ vs).set j (some d1)).set k (some d2)) S2 fun b S3 => if b = true then te (((wipeA τ vs).set j (some d1)).set k (some d2)) S3 fun y S4 => acc.length < sizeLine ∧ I (i + 1) (acc ++ [y]) S4 else I (i + 1) acc S3) ∧
  (∀ acc S2, I xs.length acc S2 → G S2 ∧ Q (.lst acc) (dropS S2 D))
theorem lcP_low {kb : KB} {wi : TI} {ai : AI} {g : TG} {tt : AT} {te : AE} {vs : List Nat} {j jj : Nat} (hj : j ∈ vs) (hjj : jj ∈ vs) (hwi : wi = lowI kb ai) (hg : g = gTup kb.K 2 (gCons (gName j) (gCons (gName jj) gNil))) : ∀ σ H QH, low kb (aLcP ai j jj tt te vs) σ H QH → tLc wi g (lowT kb tt) (low kb te) vs σ H QH := by
  subst hwi hg
  intro σ H QH ⟨τ, S, Q, R, so, q, k⟩
  refine ⟨τ, S, _, R, so, q, fun J H1 xs G S1 so1 st1 it hI D hD => ?_⟩
  obtain ⟨I, i0, hstep, hend⟩ := hI D (so1.fresh hD)
  have nD : S1 D = none := so1.fresh hD
  -- the start
  have stD : Step H1 S1 (upd H1 D (.lst [])) (updS S1 D .hid) := step_put so1 hD
  have soD : StOk kb.K (upd H1 D (.lst [])) (updS S1 D .hid) := stok_put (u := .hid) so1 hD ⟨_, upd_same⟩
  refine ⟨fun i m H' => ∃ acc S2 ws, I i acc S2 ∧ i + m = xs.length ∧ StOk kb.K H' S2 ∧ S2 D = some .hid ∧ H' D = some (.lst ws) ∧ RelAs kb.K H' S2 ws acc ∧
    (∀ a o, a ≠ D → S1 a = none → H1 a = some o → H' a = some o ∧ S2 a = none) ∧ (∀ a, S1 a = some .hid → H' a = H1 a ∧ S2 a = some .hid), ⟨xs.length, [], _, [], i0, by omega, soD, updS_same, upd_same, .nil, fun a o _ n h => stD.old a o n h, fun a h => stD.hid a h⟩, ?_⟩
  intro i m H2 ⟨acc, S2, ws, w2, hm, so2, hh2, hD2, r2, old2, hid2⟩
  have st2 : Step H1 S1 H2 S2 := ⟨fun a o n h => old2 a o (ne_of_none h hD) n h, hid2⟩
  by_cases hi : i < xs.length
  · right
    have hx : xs[i]? = some xs[i] := List.getElem?_eq_getElem hi
    obtain ⟨hG, d1, d2, ex, hq⟩ := hstep i _ acc S2 hx w2
    obtain ⟨hgo, hy⟩ := (it H2 S2 so2 st2 hG).1 i _ hx
    refine ⟨hgo, _, fun H' h => h, fun v H3 hv => ?_⟩
    obtain ⟨so3, st3, r3⟩ := hy v H3 hv
    rw [ex] at r3
    obtain ⟨av, ws0, ev, sq, rs0⟩ := rel_tupE r3
    obtain ⟨v1, v2, ew, rv1, rv2⟩ := rel_two rs0
    subst ev ew
    refine ⟨av, [v1, v2], rfl, sq, rfl, v1, [v2], rfl, v2, [], rfl, rfl, ?_⟩
    refine ⟨by rw [wipe_set hjj, wipe_set hj]; exact wipe_wipe σ vs vs fun _ h => h, ?_⟩
    have R3 : Rp kb H3 S2 (((L2.wipe σ vs).set j (some v1)).set jj (some v2)) (((wipeA τ vs).set j (some d1)).set jj (some d2)) := ((((R.step st1).step st2).step st3).wipe vs |>.set rv1 j) |>.set rv2 jj
    have keep : ∀ {H4 : Hp} {S4 : Store}, Step H2 S2 H4 S4 → H4 D = some (.lst ws) ∧ S4 D = some .hid ∧ RelAs kb.K H4 S4 ws acc ∧ (∀ a o, a ≠ D → S1 a = none → H1 a = some o → H4 a = some o ∧ S4 a = none) ∧ (∀ a, S1 a = some .hid → H4 a = H1 a ∧ S4 a = some .hid) := by
      intro H4 S4 st
      obtain ⟨e1, e2⟩ := st.hid D hh2
      exact ⟨e1.trans hD2, e2, r2.step st, fun a o ne n h => let ⟨h1, n1⟩ := old2 a o ne n h; st.old a o n1 h1, fun a h => let ⟨h1, n1⟩ := hid2 a h; let ⟨h3, n3⟩ := st.hid a n1; ⟨h3.trans h1, n3⟩⟩
    refine ⟨_, S2, _, R3, so3, hq, fun b H4 S4 so4 st4 q4 => ?_⟩
    cases b with
    | false =>
      rw [if_neg Bool.false_ne_true] at q4 ⊢
      obtain ⟨e1, e2, e3, e4, e5⟩ := keep (st3.trans st4)
      exact ⟨m - 1, by omega, acc, S4, ws, q4, by omega, so4, e2, e1, e3, e4, e5⟩
    | true =>
      rw [if_pos rfl] at q4 ⊢
      refine ⟨_, S4, _, R3.step st4, so4, q4, fun y H5 dy S5 so5 st5 r5 ⟨hz, w5⟩ => ?_⟩
      obtain ⟨e1, e2, e3, e4, e5⟩ := keep ((st3.trans st4).trans st5)
      refine ⟨ws, e1, by rw [r2.length]; exact hz, m - 1, by omega, acc ++ [dy], S5, ws ++ [y], w5, by omega, ?_⟩
      -- the list at D has grown; nothing else
      have grow : Old H5 S5 (upd H5 D (.lst (ws ++ [y]))) S5 := fun a o n h => by
        have ne : a ≠ D := by rintro rfl; rw [e2] at n; cases n
        exact ⟨by rw [upd_ne ne]; exact h, n⟩
      refine ⟨fun a o e => ?_, e2, upd_same, (e3.app (.cons r5 .nil)).stepO grow, fun a o ne n h => by rw [upd_ne ne]; exact e4 a o ne n h, fun a h => ?_⟩
      · by_cases z : a = D
        · subst z
          rw [e2] at e
          cases e
          exact ⟨_, upd_same⟩
        · exact (so5 a o e).stepO grow (upd_ne z)
      · have z : a ≠ D := by rintro rfl; rw [nD] at h; cases h
        rw [upd_ne z]
        exact e5 a h
  · left
    have e : i = xs.length := by omega
    subst e
    obtain ⟨hG, hq⟩ := hend acc S2 w2
    have less : Old H2 S2 H2 (dropS S2 D) := fun a o n h => ⟨h, by unfold dropS; split; rfl; exact n⟩
    refine ⟨(it H2 S2 so2 st2 hG).2, k _ H2 _ (dropS S2 D) (fun a o e => ?_) (st1.trans ⟨fun a o n h => ?_, fun a h => ?_⟩) (.lst hD2 dropS_same (r2.stepO less)) hq⟩
    · have ne : a ≠ D := by rintro rfl; rw [dropS_same] at e; cases e
      rw [dropS_ne ne] at e
      exact (so2 a o e).stepO less rfl
    · obtain ⟨h1, n1⟩ := st2.old a o n h
      exact ⟨h1, (less a o n1 h1).2⟩
    · obtain ⟨h1, n1⟩ := st2.hid a h
      have ne : a ≠ D := by rintro rfl; rw [nD] at h; cases h
      exact ⟨h1, by rw [dropS_ne ne]; exact n1⟩
end
section
variable {X : Cx} {elt tg iter : Expr} {ifs : List Expr} {scope : Scope} {own : List (Str × Nat)} {ai : AI} {tt : AT} {te : AE} {pos : Pos}
theorem e_lcP (j jj : Nat) (own : List (Str × Nat)) (hc : X.calm = true) (hN : X.N.Nodup) (hi : PI X tg iter (lowI (kx X bb) ai)) (ok : BlkOk X.N X.env.scope scope own)
    (hg : ∀ (s : Shared) (H : Hp) (C : Addr) (cl : List (Str × Addr)) (fp : List Addr), PG (X.blk s H scope (compEnvC scope cl C X.env) fp) tg (gTup X.K 2 (gCons (gName j) (gCons (gName jj) gNil))))
    (ht : ∀ (s : Shared) (H : Hp) (C : Addr) (cl : List (Str × Addr)) (fp : List Addr), PTs (X.blk s H scope (compEnvC scope cl C X.env) fp) ifs (lowT (kx X bb) tt))
    (he : ∀ (s : Shared) (H : Hp) (C : Addr) (cl : List (Str × Addr)) (fp : List Addr), PE (X.blk s H scope (compEnvC scope cl C X.env) fp) elt (low (kx X bb) te))
    (hj : j ∈ own.map (·.2) := by decide) (hjj : jj ∈ own.map (·.2) := by decide) (hs : ∀ x, foldedSetIterable iter X.env x = pure x := by intro _; rfl) : PE X (.ListComp elt [⟨tg, iter, ifs, 0⟩] scope pos) (low (kx X bb) (aLcP ai j jj tt te (own.map (·.2)))) :=
  (pe_lc (own := own) hc hN hi ok hg ht he hs).weak (lcP_low hj hjj rfl rfl)
end
/-- [*a, b] -/
def aStar (ta : AE) (tr : AA) : AA := fun τ S Q => ta τ S fun x S1 => ∃ xs, seqA S1 x = some xs ∧ tr τ S1 fun ys S2 => Q (xs ++ ys) S2
section
variable {X : Cx} {e : Expr} {es : List Expr} {ta : AE} {tr : AA} {p : Pos}
theorem a_star (ha : PE X e (low (kx X bb) ta)) (hr : PA X es (lowA (kx X bb) tr)) (hs : starEach (.Starred e p :: es) X.env = (true, eval e X.env) :: starEach es X.env := by rfl) : PA X (.Starred e p :: es) (lowA (kx X bb) (aStar ta tr)) :=
  (StX.pa_star ha hr hs).weak fun σ H QH ⟨τ, S, Q, R, so, q, k⟩ => ⟨τ, S, _, R, so, q, fun v H1 d S1 so1 st1 r1 ⟨xs, e, q1⟩ => by
    obtain ⟨a, vs, rfl, h, rs⟩ := rel_seqE so1 r1 e
    exact ⟨a, vs, rfl, h.symm, τ, S1, _, R.step st1, so1, q1, fun ws H2 ys S2 so2 st2 r2 q2 => k (vs ++ ws) H2 (xs ++ ys) S2 so2 (st1.trans st2) ((rs.step st2).app r2) q2⟩⟩
end
end L3

set_option Elab.async false
set_option linter.all false
set_option maxRecDepth 100000
set_option maxHeartbeats 1000000
set_option autoImplicit false
/-! L3P: in of lists and tuples, index, count, bits, three names at once. -/
namespace L3
open PySem L2 PyProof.Rows
variable {bb : Birth}

def fl1 : AV → Bool
  | .non => true
  | .bl _ => true
  | .int _ => true
  | .str _ => true
  | _ => false
def toV : AV → V
  | .bl b => .bl b
  | .int i => .int i
  | .str z => .str z
  | _ => .non
/-- == of flat values -/
def eq1 : AV → AV → Bool
  | .non, .non => true
  | .bl a, .bl b => a == b
  | .bl a, .int b => (if a then 1 else 0) == b
  | .int a, .bl b => a == (if b then 1 else 0)
  | .int a, .int b => a == b
  | .str a, .str b => a == b
  | _, _ => false
theorem eq1_V {x y : AV} (fx : fl1 x = true) (fy : fl1 y = true) : eqV (toV x) (toV y) = eq1 x y := by
  cases x <;> first | (cases fx; done) | skip
  all_goals cases y <;> first | (cases fy; done) | rfl
section
variable {K : PySem.W.Frag} {H : Hp} {S : Store}
theorem rel_fl {v : V} {d : AV} (r : RelA K H S v d) (f : fl1 d = true) : v = toV d := by
  cases d <;> first | (cases f; done) | skip
  · exact rel_nonE r
  · exact rel_blE r
  · exact rel_intE r
  · exact rel_strE r
theorem toV_flat {d : AV} (f : fl1 d = true) : flatV (toV d) = true := by cases d <;> first | (cases f; done) | rfl
theorem rel_fls : ∀ {vs : List V} {ds : List AV}, RelAs K H S vs ds → ds.all fl1 = true → vs = ds.map toV
  | _, _, .nil, _ => rfl
  | _, _, .cons r t, e => by
    rw [List.all_cons, Bool.and_eq_true_iff] at e
    rw [rel_fl r e.1, rel_fls t e.2]
    rfl
end
theorem toVs_flat {ds : List AV} (h : ds.all fl1 = true) : (ds.map toV).all flatV = true := by
  rw [List.all_map]
  exact List.all_eq_true.mpr fun x hx => toV_flat (List.all_eq_true.mp h x hx)
theorem inV_to {x : AV} {xs : List AV} (fx : fl1 x = true) (fs : xs.all fl1 = true) : inV (toV x) (xs.map toV) = xs.any fun y => eq1 y x := by
  unfold inV
  rw [List.any_map]
  induction xs with
  | nil => rfl
  | cons y ys ih =>
    rw [List.all_cons, Bool.and_eq_true_iff] at fs
    rw [List.any_cons, List.any_cons, ih fs.2, Function.comp_apply, eq1_V fs.1 fx]
def inL (x : AV) : Option (List AV) → Ans
  | some xs => ⟨fl1 x = true ∧ xs.all fl1 = true, .bl (xs.any fun y => eq1 y x)⟩
  | none => badA
/-- x in xs: a sign in a text, a flat value in a list or tuple of flat ones -/
def inA (x y : AV) (S : Store) : Ans := match y with
  | .str z => inSA x (.str z) S
  | y => inL x (seqA S y)
def notA (a : Ans) : Ans := match a with
  | ⟨p, .bl b⟩ => ⟨p, .bl (!b)⟩
  | _ => badA
def ninA (x y : AV) (S : Store) : Ans := match y with
  | .str z => badA
  | y => notA (inL x (seqA S y))
section
variable {X : Cx}
theorem oin_seq {x y : V} {dx dy : AV} {S : Store} {H : Hp} {QH : VK} (so : StOk X.K H S) (rx : RelA X.K H S x dx) (ry : RelA X.K H S y dy) (ok : (inL dx (seqA S dy)).ok)
    (neg : Bool) (k : ∀ b, (inL dx (seqA S dy)).v = .bl b → QH (.bl (if neg then !b else b)) H) : rIn X.K neg x y H QH := by
  cases ey : seqA S dy with
  | none => rw [ey] at ok; exact ok.elim
  | some xs =>
    rw [ey] at ok k
    obtain ⟨f1, f2⟩ := ok
    obtain ⟨p, vs, rfl, hp, rs⟩ := rel_seqE so ry ey
    have e1 := rel_fl rx f1
    have e2 := rel_fls rs f2
    subst e1 e2
    refine ⟨p, _, rfl, hp, toV_flat f1, toVs_flat f2, ?_⟩
    have := k _ rfl
    rw [inV_to f1 f2]
    exact this
theorem o_in : OpR X (compareOp .In) (lowO X.K inA) := opr_weak (OpR.or op_in_sign op_in_seq) fun x y H QH ⟨dx, dy, S, rx, ry, so, ok, k⟩ => by
  have gen : inA dx dy S = inL dx (seqA S dy) → rIn X.K false x y H QH := fun e => by
    rw [e] at ok k
    exact oin_seq so rx ry ok false fun b eb => by rw [eb] at k; exact k _ H so .refl (.bl b)
  cases dy with
  | str j =>
    cases dx with
    | str i =>
      obtain ⟨c, rfl⟩ := ok
      obtain rfl := rel_strE rx
      obtain rfl := rel_strE ry
      exact .inl ⟨c, j, rfl, rfl, k _ H so .refl (.bl _)⟩
    | _ => exact ok.elim
  | _ => exact .inr (gen rfl)
theorem inL_bl {x : AV} {o : Option (List AV)} (ok : (inL x o).ok) : ∃ b, (inL x o).v = .bl b ∧ notA (inL x o) = ⟨(inL x o).ok, .bl (!b)⟩ := by
  cases o with
  | none => exact ok.elim
  | some xs => exact ⟨_, rfl, rfl⟩
theorem notA_ok {a : Ans} (h : (notA a).ok) : a.ok := by
  obtain ⟨p, v⟩ := a
  cases v <;> first | exact h | exact h.elim
theorem o_nin : OpR X (compareOp .NotIn) (lowO X.K ninA) := opr_weak op_notIn_seq fun x y H QH ⟨dx, dy, S, rx, ry, so, ok, k⟩ => by
  have gen : ninA dx dy S = notA (inL dx (seqA S dy)) → rIn X.K true x y H QH := fun e => by
    rw [e] at ok k
    have ok1 := notA_ok ok
    obtain ⟨b, e1, e2⟩ := inL_bl ok1
    rw [e2] at k
    exact oin_seq so rx ry ok1 true fun b' eb => by rw [e1] at eb; cases eb; exact k _ H so .refl (.bl _)
  cases dy with
  | str j => exact ok.elim
  | _ => exact gen rfl
theorem inA_tup {x : AV} {xs : List AV} {S : Store} : inA x (.tup xs) S = ⟨fl1 x = true ∧ xs.all fl1 = true, .bl (xs.any fun y => eq1 y x)⟩ := rfl
theorem inA_lst {x : AV} {xs : List AV} {S : Store} : inA x (.lst xs) S = ⟨fl1 x = true ∧ xs.all fl1 = true, .bl (xs.any fun y => eq1 y x)⟩ := rfl
theorem inA_sg {c : Nat} {z : Str} {S : Store} : inA (.str ⟨#[c]⟩) (.str z) S = ⟨True, .bl (decide (c ∈ z.cps.toList))⟩ := ans_tt ⟨c, rfl⟩ rfl
theorem ninA_tup {x : AV} {xs : List AV} {S : Store} : ninA x (.tup xs) S = ⟨fl1 x = true ∧ xs.all fl1 = true, .bl (!xs.any fun y => eq1 y x)⟩ := rfl
theorem ninA_lst {x : AV} {xs : List AV} {S : Store} : ninA x (.lst xs) S = ⟨fl1 x = true ∧ xs.all fl1 = true, .bl (!xs.any fun y => eq1 y x)⟩ := rfl
/-- bits -/
def shrA := intA (fun _ j => 0 ≤ j) fun i j => i / 2 ^ j.toNat
theorem o_shr : OpR X (binaryOp .RShift) (lowO X.K shrA) := o_int op_shr
def andA := intA (fun _ _ => True) fun i j => Builtin.bitAnd i j
theorem o_band : OpR X (binaryOp .BitAnd) (lowO X.K andA) := o_int (rI_tt op_and)
theorem shrA_ii {i j : Int} {S : Store} : shrA (.int i) (.int j) S = ⟨0 ≤ j, .int (i / 2 ^ j.toNat)⟩ := rfl
theorem andA_ii {i j : Int} {S : Store} : andA (.int i) (.int j) S = ⟨True, .int (Builtin.bitAnd i j)⟩ := rfl
/-- xs.index(y) -/
def mIndex (x : AV) (as : List AV) (S : Store) (Q : AK) : Prop := ∃ xs y j z, lstA S x = some xs ∧ as = [y] ∧ fl1 y = true ∧ xs.all fl1 = true ∧ xs[j]? = some z ∧ eq1 z y = true ∧ (∀ (m : Nat) z', m < j → xs[m]? = some z' → eq1 z' y = false) ∧ Q (.int (j : Nat)) S
theorem m_index : MtR X "list.index" (lowM X.K mIndex) := mtr_weak mt_index fun x vs H QH ⟨dx, as, S, Q, rx, rs, so, ⟨xs, y, j, z, ex, ea, f1, f2, hj, hz, hno, q⟩, k⟩ => by
  subst ea
  obtain ⟨w, rfl, rw'⟩ := rel_one rs
  obtain ⟨a, ws, rfl, hl, rl⟩ := rel_lstE so rx ex
  have e1 := rel_fl rw' f1
  have e2 := rel_fls rl f2
  subst e1 e2
  have fz : fl1 z = true := List.all_eq_true.mp f2 z (List.mem_of_getElem? hj)
  refine ⟨a, _, _, j, toV z, rfl, rfl, hl, toV_flat f1, toVs_flat f2, by rw [List.getElem?_map, hj]; rfl, by rw [eq1_V fz f1]; exact hz, fun m z' hm hz' => ?_, k _ H _ S so .refl (.int _) q⟩
  rw [List.getElem?_map] at hz'
  cases e : xs[m]? with
  | none => rw [e] at hz'; cases hz'
  | some y' =>
    rw [e] at hz'
    cases hz'
    rw [eq1_V (List.all_eq_true.mp f2 y' (List.mem_of_getElem? e)) f1]
    exact hno m y' hm e
/-- xs.count(n) of whole numbers -/
def mCount (x : AV) (as : List AV) (S : Store) (Q : AK) : Prop := ∃ (ns : List Int) (n : Int), lstA S x = some (ns.map .int) ∧ as = [.int n] ∧ Q (.int (ns.count n : Nat)) S
theorem rel_intL {K : PySem.W.Frag} {H : Hp} {S : Store} : ∀ {ns : List Int} {vs : List V}, RelAs K H S vs (ns.map AV.int) → vs = ns.map V.int
  | [], _, .nil => rfl
  | n :: ns, _, .cons r t => by rw [rel_intE r, rel_intL t]; rfl
theorem m_count : MtR X "list.count" (lowM X.K mCount) := mtr_weak mt_lcount fun x vs H QH ⟨dx, as, S, Q, rx, rs, so, ⟨ns, n, ex, ea, q⟩, k⟩ => by
  subst ea
  obtain ⟨w, rfl, rw'⟩ := rel_one rs
  obtain ⟨a, ws, rfl, hl, rl⟩ := rel_lstE so rx ex
  have e1 := rel_intL rl
  subst e1
  obtain rfl := rel_intE rw'
  exact ⟨a, ns, n, rfl, rfl, hl, k _ H _ S so .refl (.int _) q⟩
end
section
variable {X : Cx} {a b c : Expr} {t : AA} {pos : Pos}
/-- a, b, c = x, y, z -/
def aPar3 (i j l : Nat) (t : AA) : AS := fun D τ S => t τ S fun ds S1 => ∃ x y z, ds = [x, y, z] ∧ D.nx (((τ.set i (some x)).set j (some y)).set l (some z)) S1
theorem s_par3 {i j l : Nat} {x y z : Str} {px py pz pt : Pos} {kt k2 : Nat} {pt2 : Pos} (hc : X.calm = true) (hN : X.N.Nodup) (ha : PA X [a, b, c] (lowA (kx X bb) t)) (hi : X.N[i]? = some x := by rfl) (hj : X.N[j]? = some y := by rfl) (hl : X.N[l]? = some z := by rfl)
    (hij : i ≠ j := by decide) (hil : i ≠ l := by decide) (hjl : j ≠ l := by decide) (hx : X.env.scope.names.lookup x = some .local := by rfl) (hy : X.env.scope.names.lookup y = some .local := by rfl) (hz : X.env.scope.names.lookup z = some .local := by rfl)
    (h1 : swappedStores [.Tuple [.Name x px, .Name y py, .Name z pz] kt pt] (.Tuple [a, b, c] k2 pt2) X.env = pure (some [x, y, z]) := by rfl) (h2 : swapsWithSole [.Tuple [.Name x px, .Name y py, .Name z pz] kt pt] (.Tuple [a, b, c] k2 pt2) pos.line X.env = pure false := by rfl) :
    PS X (.Assign [.Tuple [.Name x px, .Name y py, .Name z pz] kt pt] (.Tuple [a, b, c] k2 pt2) pos) (lowS (kx X bb) (aPar3 i j l t)) := (ps_par3 hc hN hi hj hl hij hil hjl hx hy hz ha h1 h2).weak fun D σ H ⟨τ, S, DA, R, so, q, k⟩ =>
  ⟨τ, S, _, R, so, q, fun vs H1 ds S1 so1 st1 r1 ⟨x, y, z, e, q1⟩ => by
    subst e
    cases r1 with
    | cons rx rr =>
      cases rr with
      | cons ry rr =>
        cases rr with
        | cons rz rr =>
          cases rr
          exact ⟨_, _, _, rfl, k.nx _ H1 _ S1 so1 st1 ((((R.step st1).set rx i).set ry j).set rz l) q1⟩⟩
end
theorem ex_tri {x y z : AV} {P : AV → AV → AV → Prop} : (∃ a b c, [x, y, z] = [a, b, c] ∧ P a b c) = P x y z := propext ⟨fun ⟨d, es, f, e, p⟩ => by cases e; exact p, fun p => ⟨x, y, z, rfl, p⟩⟩

/-! ### comprehensions over lists, with tests, over pairs; loops over tuples -/
theorem lstA_upd {S : Store} {d : AV} {xs : List AV} {D : Addr} {o : AO} (h : lstA S d = some xs) (hD : S D = none) : lstA (updS S D o) d = some xs := by
  cases d with
  | ref l =>
    have ne : l ≠ D := by
      rintro rfl
      have h' : (match S l with | some (.lst xs) => some xs | _ => none) = some xs := h
      rw [hD] at h'
      cases h'
    show (match updS S D o l with | some (.lst xs) => some xs | _ => none) = some xs
    rw [updS_ne ne]
    exact h
  | _ => exact h
def LcGoF (tt : AT) (te : AE) (j : Nat) (vs : List Nat) (τ : ASt) (Q : AK) (G : Store → Prop) (xs : List AV) (S1 : Store) : Prop := ∀ D, S1 D = none → ∃ I : Nat → List AV → Store → Prop, I 0 [] (updS S1 D .hid) ∧
  (∀ (i : Nat) x acc S2, xs[i]? = some x → I i acc S2 → G S2 ∧ tt ((wipeA τ vs).set j (some x)) S2 fun b S3 => if b = true then te ((wipeA τ vs).set j (some x)) S3 fun y S4 => acc.length < sizeLine ∧ I (i + 1) (acc ++ [y]) S4 else I (i + 1) acc S3) ∧
  (∀ acc S2, I xs.length acc S2 → G S2 ∧ Q (.lst acc) (dropS S2 D))
theorem aLcF_lst {ta : AE} {tt : AT} {te : AE} {j : Nat} {vs : List Nat} {τ : ASt} {S : Store} {Q : AK} : aLc (aiLst ta) j tt te vs τ S Q = ta τ S fun d S1 => ∃ xs, lstA S1 d = some xs ∧ LcGoF tt te j vs τ Q (fun S2 => lstA S2 d = some xs) xs S1 := rfl
theorem aLcF_tup {ta : AE} {tt : AT} {te : AE} {j : Nat} {vs : List Nat} {τ : ASt} {S : Store} {Q : AK} : aLc (aiTup ta) j tt te vs τ S Q = ta τ S fun d S1 => ∃ xs, d = .tup xs ∧ LcGoF tt te j vs τ Q (fun _ => True) xs S1 := rfl
theorem aLcF_rng {t : AA} {tt : AT} {te : AE} {j : Nat} {vs : List Nat} {τ : ASt} {S : Store} {Q : AK} : aLc (aiRng1 t) j tt te vs τ S Q = t τ S fun ds S1 => ∃ n : Int, ds = [.int n] ∧ -(2 ^ 62) ≤ n ∧ n < 2 ^ 62 ∧ LcGoF tt te j vs τ Q (fun _ => True) (rngA 0 n.toNat) S1 := rfl
section
variable {xs : List AV} {tt : AT} {te : AE} {j : Nat} {vs : List Nat} {τ : ASt} {S1 : Store} {Q : AK} {G : Store → Prop}
/-- pure all the way -/
theorem lcF_pure (p : AV → Bool) (f : AV → AV) (hl : xs.length ≤ sizeLine) (hG : ∀ D, S1 D = none → G (updS S1 D .hid)) (stepT : ∀ x ∈ xs, ∀ (Sx : Store) (Qb : Bool → Store → Prop), Qb (p x) Sx → tt ((wipeA τ vs).set j (some x)) Sx Qb)
    (stepE : ∀ x ∈ xs, p x = true → ∀ (Sx : Store) (Qe : AK), Qe (f x) Sx → te ((wipeA τ vs).set j (some x)) Sx Qe) (q : Q (.lst ((xs.filter p).map f)) S1) : LcGoF tt te j vs τ Q G xs S1 := by
  intro D hD
  refine ⟨fun i acc S2 => i ≤ xs.length ∧ acc = ((xs.take i).filter p).map f ∧ S2 = updS S1 D .hid, ⟨Nat.zero_le _, rfl, rfl⟩, fun i x acc S2 hx ⟨hi, ea, es⟩ => ?_, fun acc S2 ⟨hi, ea, es⟩ => ?_⟩
  · have hlt := (List.getElem?_eq_some_iff.mp hx).1
    have hm := List.mem_of_getElem? hx
    subst es
    refine ⟨hG D hD, stepT x hm _ _ ?_⟩
    cases hp : p x with
    | false =>
      rw [if_neg Bool.false_ne_true]
      refine ⟨hlt, ?_, rfl⟩
      rw [ea, List.take_add_one, hx]
      simp [hp]
    | true =>
      rw [if_pos rfl]
      refine stepE x hm hp _ _ ⟨?_, hlt, ?_, rfl⟩
      · have h1 : ((xs.take i).filter p).length ≤ (xs.take i).length := List.length_filter_le ..
        rw [List.length_take] at h1
        rw [ea, List.length_map]
        omega
      · rw [ea, List.take_add_one, hx]
        simp [hp]
  · subst es
    refine ⟨hG D hD, ?_⟩
    rw [ea, List.take_length, dropS_upd hD]
    exact q
theorem lcF_all (f : AV → AV) (hl : xs.length ≤ sizeLine) (hG : ∀ D, S1 D = none → G (updS S1 D .hid)) (stepE : ∀ x ∈ xs, ∀ (Sx : Store) (Qe : AK), Qe (f x) Sx → te ((wipeA τ vs).set j (some x)) Sx Qe) (q : Q (.lst (xs.map f)) S1) : LcGoF aYes te j vs τ Q G xs S1 :=
  lcF_pure (fun _ => true) f hl hG (fun x _ Sx Qb h => h) (fun x hx _ => stepE x hx) (by rw [List.filter_eq_self.mpr (fun _ _ => rfl)]; exact q)
end
theorem lcF_allM {α : Type} {xs : List α} {te : AE} {j : Nat} {vs : List Nat} {τ : ASt} {S1 : Store} {Q : AK} {G : Store → Prop} (g : α → AV) (f : α → AV) (hl : xs.length ≤ sizeLine) (hG : ∀ D, S1 D = none → G (updS S1 D .hid))
    (stepE : ∀ x ∈ xs, ∀ (Sx : Store) (Qe : AK), Qe (f x) Sx → te ((wipeA τ vs).set j (some (g x))) Sx Qe) (q : Q (.lst (xs.map f)) S1) : LcGoF aYes te j vs τ Q G (xs.map g) S1 := by
  intro D hD
  refine ⟨fun i acc S2 => i ≤ xs.length ∧ acc = (xs.take i).map f ∧ S2 = updS S1 D .hid, ⟨Nat.zero_le _, rfl, rfl⟩, fun i x acc S2 hx ⟨hi, ea, es⟩ => ?_, fun acc S2 ⟨hi, ea, es⟩ => ?_⟩
  · rw [List.getElem?_map] at hx
    cases hy : xs[i]? with
    | none => rw [hy] at hx; cases hx
    | some y =>
      rw [hy] at hx
      cases hx
      have hlt := (List.getElem?_eq_some_iff.mp hy).1
      have hm := List.mem_of_getElem? hy
      subst es
      refine ⟨hG D hD, ?_⟩
      unfold aYes
      simp only [if_true]
      refine stepE y hm _ _ ⟨?_, hlt, ?_, rfl⟩
      · rw [ea, List.length_map, List.length_take]
        omega
      · rw [ea, List.take_add_one, hy]
        simp
  · subst es
    rw [List.length_map] at ea
    refine ⟨hG D hD, ?_⟩
    rw [ea, List.take_length, dropS_upd hD]
    exact q
theorem lcF_pureM {α : Type} {xs : List α} {tt : AT} {te : AE} {j : Nat} {vs : List Nat} {τ : ASt} {S1 : Store} {Q : AK} {G : Store → Prop} (g : α → AV) (p : α → Bool) (f : α → AV) (hl : xs.length ≤ sizeLine) (hG : ∀ D, S1 D = none → G (updS S1 D .hid))
    (stepT : ∀ x ∈ xs, ∀ (Sx : Store) (Qb : Bool → Store → Prop), Qb (p x) Sx → tt ((wipeA τ vs).set j (some (g x))) Sx Qb)
    (stepE : ∀ x ∈ xs, p x = true → ∀ (Sx : Store) (Qe : AK), Qe (f x) Sx → te ((wipeA τ vs).set j (some (g x))) Sx Qe) (q : Q (.lst ((xs.filter p).map f)) S1) : LcGoF tt te j vs τ Q G (xs.map g) S1 := by
  intro D hD
  refine ⟨fun i acc S2 => i ≤ xs.length ∧ acc = ((xs.take i).filter p).map f ∧ S2 = updS S1 D .hid, ⟨Nat.zero_le _, rfl, rfl⟩, fun i x acc S2 hx ⟨hi, ea, es⟩ => ?_, fun acc S2 ⟨hi, ea, es⟩ => ?_⟩
  · rw [List.getElem?_map] at hx
    cases hy : xs[i]? with
    | none => rw [hy] at hx; cases hx
    | some y =>
      rw [hy] at hx
      cases hx
      have hlt := (List.getElem?_eq_some_iff.mp hy).1
      have hm := List.mem_of_getElem? hy
      subst es
      refine ⟨hG D hD, stepT y hm _ _ ?_⟩
      cases hp : p y with
      | false =>
        rw [if_neg Bool.false_ne_true]
        refine ⟨hlt, ?_, rfl⟩
        rw [ea, List.take_add_one, hy]
        simp [hp]
      | true =>
        rw [if_pos rfl]
        refine stepE y hm hp _ _ ⟨?_, hlt, ?_, rfl⟩
        · have h1 : ((xs.take i).filter p).length ≤ (xs.take i).length := List.length_filter_le ..
          rw [List.length_take] at h1
          rw [ea, List.length_map]
          omega
        · rw [ea, List.take_add_one, hy]
          simp [hp]
  · subst es
    rw [List.length_map] at ea
    refine ⟨hG D hD, ?_⟩
    rw [ea, List.take_length, dropS_upd hD]
    exact q
/-- the store being of no account -/
theorem lcF_free {xs : List AV} {te : AE} {j : Nat} {vs : List Nat} {τ : ASt} {S1 : Store} {Q : AK} {G : Store → Prop} (A : AV → Prop) (hl : xs.length ≤ sizeLine) (hG : ∀ S2, G S2) (step : ∀ x ∈ xs, ∀ (Sx : Store) (Qe : AK), (∀ y S', A y → Qe y S') → te ((wipeA τ vs).set j (some x)) Sx Qe)
    (fin : ∀ acc S', (∀ y ∈ acc, A y) → acc.length = xs.length → Q (.lst acc) S') : LcGoF aYes te j vs τ Q G xs S1 := by
  intro D hD
  refine ⟨fun i acc S2 => acc.length = i ∧ ∀ y ∈ acc, A y, ⟨rfl, fun y h => by cases h⟩, fun i x acc S2 hx ⟨hi, ha⟩ => ⟨hG _, ?_⟩, fun acc S2 ⟨hi, ha⟩ => ⟨hG _, fin acc _ ha hi⟩⟩
  have hlt := (List.getElem?_eq_some_iff.mp hx).1
  unfold aYes
  simp only [if_true]
  refine step x (List.mem_of_getElem? hx) _ _ fun y S' hy => ⟨by omega, by rw [List.length_append, List.length_singleton, hi], fun w hw => ?_⟩
  rcases List.mem_append.mp hw with h | h
  · exact ha w h
  · cases List.mem_singleton.mp h; exact hy
/-- drawn things -/
theorem lcF_pot {Pt : Type} {xs : List AV} {te : AE} {j : Nat} {vs : List Nat} {τ : ASt} {S1 : Store} {Q : AK} {p : Addr} {G : Store → Prop} (po : Pt → AO) {pt : Pt} (I : Nat → Pt → Prop) (hp : S1 p = some (po pt)) (h0 : I 0 pt) (A : AV → Prop) (hl : xs.length ≤ sizeLine) (hG : ∀ S2, G S2)
    (step : ∀ k x pt' Sx (Qe : AK), xs[k]? = some x → k < xs.length → I k pt' → Sx p = some (po pt') → (∀ y pt2, A y → I (k + 1) pt2 → Qe y (updS Sx p (po pt2))) → te ((wipeA τ vs).set j (some x)) Sx Qe)
    (fin : ∀ acc pt', acc.length = xs.length → (∀ y ∈ acc, A y) → I xs.length pt' → Q (.lst acc) (updS S1 p (po pt'))) : LcGoF aYes te j vs τ Q G xs S1 := by
  intro D hD
  have ne : p ≠ D := by rintro rfl; rw [hp] at hD; cases hD
  refine ⟨fun i acc S2 => acc.length = i ∧ (∀ y ∈ acc, A y) ∧ ∃ pt', I i pt' ∧ S2 = updS (updS S1 p (po pt')) D .hid, ⟨rfl, (fun y h => by cases h), pt, h0, by rw [updS_self hp]⟩, fun i x acc S2 hx ⟨hi, ha, pt', hI, e⟩ => ⟨hG _, ?_⟩, fun acc S2 ⟨hi, ha, pt', hI, e⟩ => ⟨hG _, ?_⟩⟩
  · subst e
    have hlt := (List.getElem?_eq_some_iff.mp hx).1
    unfold aYes
    simp only [if_true]
    refine step i x pt' _ _ hx hlt hI (by rw [updS_ne ne, updS_same]) fun y pt2 hy hI2 => ⟨by omega, by rw [List.length_append, List.length_singleton, hi], fun w hw => ?_, pt2, hI2, ?_⟩
    · rcases List.mem_append.mp hw with h | h
      · exact ha w h
      · cases List.mem_singleton.mp h; exact hy
    · rw [← updS_comm ne, updS_updS]
  · subst e
    rw [dropS_upd (by rw [updS_ne (Ne.symm ne)]; exact hD)]
    exact fin acc pt' hi ha hI
/-- over pairs -/
def LcGoP (tt : AT) (te : AE) (j k : Nat) (vs : List Nat) (τ : ASt) (Q : AK) (G : Store → Prop) (xs : List AV) (S1 : Store) : Prop := ∀ D, S1 D = none → ∃ I : Nat → List AV → Store → Prop, I 0 [] (updS S1 D .hid) ∧
  (∀ (i : Nat) x acc S2, xs[i]? = some x → I i acc S2 → G S2 ∧ ∃ d1 d2, x = .tup [d1, d2] ∧ tt (((wipeA τ vs).set j (some d1)).set k (some d2)) S2 fun b S3 => if b = true then te (((wipeA τ vs).set j (some d1)).set k (some d2)) S3 fun y S4 => acc.length < sizeLine ∧ I (i + 1) (acc ++ [y]) S4 else I (i + 1) acc S3) ∧
  (∀ acc S2, I xs.length acc S2 → G S2 ∧ Q (.lst acc) (dropS S2 D))
theorem aLcP_lst {ta : AE} {tt : AT} {te : AE} {j k : Nat} {vs : List Nat} {τ : ASt} {S : Store} {Q : AK} : aLcP (aiLst ta) j k tt te vs τ S Q = ta τ S fun d S1 => ∃ xs, lstA S1 d = some xs ∧ LcGoP tt te j k vs τ Q (fun S2 => lstA S2 d = some xs) xs S1 := rfl
theorem aLcP_tup {ta : AE} {tt : AT} {te : AE} {j k : Nat} {vs : List Nat} {τ : ASt} {S : Store} {Q : AK} : aLcP (aiTup ta) j k tt te vs τ S Q = ta τ S fun d S1 => ∃ xs, d = .tup xs ∧ LcGoP tt te j k vs τ Q (fun _ => True) xs S1 := rfl
theorem aLcP_enum {t : AA} {tt : AT} {te : AE} {j k : Nat} {vs : List Nat} {τ : ASt} {S : Store} {Q : AK} : aLcP (aiEnum t) j k tt te vs τ S Q = t τ S fun ds S1 => ∃ d xs, ds = [d] ∧ lstA S1 d = some xs ∧ LcGoP tt te j k vs τ Q (fun S2 => lstA S2 d = some xs) (enumA xs) S1 := rfl
section
variable {α : Type} {xs : List α} {tt : AT} {te : AE} {j k : Nat} {vs : List Nat} {τ : ASt} {S1 : Store} {Q : AK} {G : Store → Prop}
theorem lcP_pure (u v : α → AV) (p : α → Bool) (f : α → AV) (hl : xs.length ≤ sizeLine) (hG : ∀ D, S1 D = none → G (updS S1 D .hid)) (stepT : ∀ x ∈ xs, ∀ (Sx : Store) (Qb : Bool → Store → Prop), Qb (p x) Sx → tt (((wipeA τ vs).set j (some (u x))).set k (some (v x))) Sx Qb)
    (stepE : ∀ x ∈ xs, p x = true → ∀ (Sx : Store) (Qe : AK), Qe (f x) Sx → te (((wipeA τ vs).set j (some (u x))).set k (some (v x))) Sx Qe) (q : Q (.lst ((xs.filter p).map f)) S1) : LcGoP tt te j k vs τ Q G (xs.map fun x => .tup [u x, v x]) S1 := by
  intro D hD
  refine ⟨fun i acc S2 => i ≤ xs.length ∧ acc = ((xs.take i).filter p).map f ∧ S2 = updS S1 D .hid, ⟨Nat.zero_le _, rfl, rfl⟩, fun i x acc S2 hx ⟨hi, ea, es⟩ => ?_, fun acc S2 ⟨hi, ea, es⟩ => ?_⟩
  · rw [List.getElem?_map] at hx
    cases hy : xs[i]? with
    | none => rw [hy] at hx; cases hx
    | some y =>
      rw [hy] at hx
      cases hx
      have hlt := (List.getElem?_eq_some_iff.mp hy).1
      have hm := List.mem_of_getElem? hy
      subst es
      refine ⟨hG D hD, _, _, rfl, stepT y hm _ _ ?_⟩
      cases hp : p y with
      | false =>
        rw [if_neg Bool.false_ne_true]
        refine ⟨hlt, ?_, rfl⟩
        rw [ea, List.take_add_one, hy]
        simp [hp]
      | true =>
        rw [if_pos rfl]
        refine stepE y hm hp _ _ ⟨?_, hlt, ?_, rfl⟩
        · have h1 : ((xs.take i).filter p).length ≤ (xs.take i).length := List.length_filter_le ..
          rw [List.length_take] at h1
          rw [ea, List.length_map]
          omega
        · rw [ea, List.take_add_one, hy]
          simp [hp]
  · subst es
    rw [List.length_map] at ea
    refine ⟨hG D hD, ?_⟩
    rw [ea, List.take_length, dropS_upd hD]
    exact q
end
theorem aFor_tup {ta : AE} {ag : AG} {tb : AS} {D : AEnds} {τ : ASt} {S : Store} : aFor (aiTup ta) ag tb D τ S = ta τ S fun d S1 => ∃ xs, d = .tup xs ∧ ForGo ag tb D τ xs S1 := rfl
/-- a loop over a list, all the way -/
def ForGoL (ag : AG) (tb : AS) (D : AEnds) (τ : ASt) (G : Store → Prop) (xs : List AV) (S1 : Store) : Prop := ∃ I : Nat → ASt → Store → Prop, I 0 τ S1 ∧
  (∀ (i : Nat) x τ2 S2, xs[i]? = some x → I i τ2 S2 → G S2 ∧ ag x τ2 S2 fun τ3 S3 => tb { D with nx := I (i + 1), ct := I (i + 1), bk := D.nx } τ3 S3) ∧ (∀ τ2 S2, I xs.length τ2 S2 → G S2 ∧ D.nx τ2 S2)
theorem aFor_lst {ta : AE} {ag : AG} {tb : AS} {D : AEnds} {τ : ASt} {S : Store} : aFor (aiLst ta) ag tb D τ S = ta τ S fun d S1 => ∃ xs, lstA S1 d = some xs ∧ ForGoL ag tb D τ (fun S2 => lstA S2 d = some xs) xs S1 := rfl
theorem aFor_enum {t : AA} {ag : AG} {tb : AS} {D : AEnds} {τ : ASt} {S : Store} : aFor (aiEnum t) ag tb D τ S = t τ S fun ds S1 => ∃ d xs, ds = [d] ∧ lstA S1 d = some xs ∧ ForGoL ag tb D τ (fun S2 => lstA S2 d = some xs) (enumA xs) S1 := rfl
theorem ForGoL.of {ag : AG} {tb : AS} {D : AEnds} {τ : ASt} {G : Store → Prop} {xs : List AV} {S1 : Store} (I : Nat → ASt → Store → Prop) (h0 : I 0 τ S1)
    (step : ∀ (i : Nat) x τ2 S2, xs[i]? = some x → i < xs.length → I i τ2 S2 → G S2 ∧ ag x τ2 S2 fun τ3 S3 => tb { D with nx := I (i + 1), ct := I (i + 1), bk := D.nx } τ3 S3) (fin : ∀ τ2 S2, I xs.length τ2 S2 → G S2 ∧ D.nx τ2 S2) : ForGoL ag tb D τ G xs S1 :=
  ⟨I, h0, fun i x τ2 S2 hx hi => step i x τ2 S2 hx (List.getElem?_eq_some_iff.mp hx).1 hi, fin⟩

/-! ### equality of lists of ints, of tuples of truths -/
theorem flat_ints : ∀ (ns : List Int), flatAs (ns.map .int) = true
  | [] => rfl
  | _ :: ns => flat_ints ns
theorem lay_ints : ∀ (ns : List Int), PyData.canLayAll0 (toDs (ns.map .int)) = true
  | [] => rfl
  | n :: ns => by
    show (PyData.canLay0 (.int n) && PyData.canLayAll0 (toDs (ns.map .int))) = true
    rw [lay_ints ns, Bool.and_true]
    rfl
theorem depth_ints : ∀ (ns : List Int), PyData.depthAll (toDs (ns.map .int)) = 0
  | [] => rfl
  | n :: ns => by
    show max (PyData.depth (.int n)) (PyData.depthAll (toDs (ns.map .int))) = 0
    rw [depth_ints ns]
    rfl
theorem eqv_ints : ∀ (ns ms : List Int), PyData.eqvAll (toDs (ns.map .int)) (toDs (ms.map .int)) = decide (ns = ms)
  | [], [] => by show PyData.eqvAll [] [] = _; unfold PyData.eqvAll; simp
  | [], m :: ms => by show PyData.eqvAll [] (_ :: _) = _; unfold PyData.eqvAll; simp
  | n :: ns, [] => by show PyData.eqvAll (_ :: _) [] = _; unfold PyData.eqvAll; simp
  | n :: ns, m :: ms => by
    show PyData.eqvAll (.int n :: toDs (ns.map .int)) (.int m :: toDs (ms.map .int)) = _
    unfold PyData.eqvAll
    rw [eqv_ints ns ms]
    unfold PyData.eqv
    by_cases h : n = m <;> by_cases h2 : ns = ms <;> simp [h, h2]
theorem eqA_ints {ns ms : List Int} {S : Store} : eqA (.lst (ns.map .int)) (.lst (ms.map .int)) S = ⟨True, .bl (decide (ns = ms))⟩ := by
  have ok : ∀ ns : List Int, okD S (.lst (ns.map .int)) := fun ns => ⟨flat_ints ns, by
    show SeqAt.shaped (.list (toDs (ns.map .int))) = true
    unfold SeqAt.shaped PyData.canLay0 PyData.depth
    rw [lay_ints, depth_ints]
    rfl⟩
  refine ans_tt ⟨ok ns, ok ms⟩ ?_
  show AV.bl (PyData.eqv (.list (toDs (ns.map .int))) (.list (toDs (ms.map .int)))) = _
  unfold PyData.eqv
  rw [eqv_ints]
theorem map_int_inj {ns ms : List Nat} : (ns.map fun n : Nat => (n : Int)) = (ms.map fun n : Nat => (n : Int)) ↔ ns = ms := by
  refine ⟨fun h => ?_, fun h => by rw [h]⟩
  have := congrArg (List.map Int.toNat) h
  rw [List.map_map, List.map_map] at this
  have e : (Int.toNat ∘ fun n : Nat => (n : Int)) = id := by funext n; exact Int.toNat_natCast n
  rw [e, List.map_id, List.map_id] at this
  exact this
theorem eqA_nats {ns ms : List Nat} {S : Store} : eqA (.lst (ns.map fun n => .int (n : Nat))) (.lst (ms.map fun n => .int (n : Nat))) S = ⟨True, .bl (decide (ns = ms))⟩ := by
  have e : ∀ l : List Nat, (l.map fun n => AV.int (n : Nat)) = (l.map fun n : Nat => (n : Int)).map .int := fun l => by rw [List.map_map]; rfl
  rw [e ns, e ms, eqA_ints]
  exact ans_tt trivial (congrArg AV.bl (decide_eq_decide.mpr map_int_inj))
theorem anyA_eq {α : Type} (l : List α) (f : α → Bool) (S : Store) : anyA (.lst (l.map fun c => AV.bl (f c))) S = ⟨True, .bl (l.any f)⟩ := by
  obtain ⟨a, b⟩ := anyA_map l f S
  have e : anyA (.lst (l.map fun c => AV.bl (f c))) S = ⟨(anyA (.lst (l.map fun c => AV.bl (f c))) S).ok, (anyA (.lst (l.map fun c => AV.bl (f c))) S).v⟩ := rfl
  rw [e, b, eq_true a]
theorem allA_eq {α : Type} (l : List α) (f : α → Bool) (S : Store) : allA (.lst (l.map fun c => AV.bl (f c))) S = ⟨True, .bl (l.all f)⟩ := by
  obtain ⟨a, b⟩ := allA_map l f S
  have e : allA (.lst (l.map fun c => AV.bl (f c))) S = ⟨(allA (.lst (l.map fun c => AV.bl (f c))) S).ok, (allA (.lst (l.map fun c => AV.bl (f c))) S).v⟩ := rfl
  rw [e, b, eq_true a]
theorem bc_or4 {a b c d : Bool} {P R : Prop} : bc a (bc b P (bc c (bc d P R) R)) (bc c (bc d P R) R) = bc (a && b || c && d) P R := by
  cases a <;> cases b <;> cases c <;> cases d <;> rfl
theorem nat_ne {a b : Nat} : (!decide ((a : Int) = (b : Int))) = (a != b) := by
  by_cases h : a = b
  · subst h; simp
  · have : (a : Int) ≠ b := fun z => h (Int.ofNat.inj z)
    simp [h, this]
theorem nat_eq {a b : Nat} : decide ((a : Int) = (b : Int)) = decide (a = b) := decide_eq_decide.mpr ⟨fun h => Int.ofNat.inj h, fun h => by rw [h]⟩
theorem nat_lt {a b : Nat} : decide ((a : Int) < (b : Int)) = decide (a < b) := decide_eq_decide.mpr Int.ofNat_lt
theorem nat_le {a b : Nat} : decide ((a : Int) ≤ (b : Int)) = decide (a ≤ b) := decide_eq_decide.mpr Int.ofNat_le
end L3

set_option Elab.async false
set_option linter.all false
set_option maxRecDepth 100000
set_option maxHeartbeats 1000000
set_option autoImplicit false
/-! ValM: values as the package means them, over AV; what loops over a stack of them reckon. -/
namespace Vm
open PySem L2 L3

def chB (c : Nat) : Bool := (decide (32 ≤ c) && decide (c ≤ 126)) || decide (c = 10)
def leafV : AV → Bool
  | .non => true
  | .int i => decide (-1000000000000000000 ≤ i) && decide (i ≤ 1000000000000000000)
  | .str z => decide (z.length ≤ 100000) && z.cps.toList.all chB
  | _ => false
mutual
/-- a value of at most this depth -/
def isVal : AV → Nat → Bool
  | .tup xs, k => decide (k ≠ 0) && isVals xs (k - 1)
  | .non, _ => leafV .non
  | .bl b, _ => leafV (.bl b)
  | .int i, _ => leafV (.int i)
  | .str z, _ => leafV (.str z)
  | .lst xs, _ => false
  | .rol xs, _ => false
  | .ref a, _ => false
  | .ty n, _ => false
def isVals : List AV → Nat → Bool
  | [], _ => true
  | x :: xs, k => isVal x k && isVals xs k
end
mutual
def cnt : AV → Nat
  | .str z => 1 + z.length
  | .tup xs => 1 + cnts xs
  | .lst xs => 1 + cnts xs
  | _ => 1
def cnts : List AV → Nat
  | [] => 0
  | x :: xs => cnt x + cnts xs
end
mutual
/-- data whose texts are short and whose signs are signs -/
def tame : AV → Bool
  | .str z => PyData.strOk z
  | .tup xs => tames xs
  | .lst xs => tames xs
  | .non => true
  | .bl _ => true
  | .int _ => true
  | _ => false
def tames : List AV → Bool
  | [] => true
  | x :: xs => tame x && tames xs
end
theorem isVals_all (k : Nat) : ∀ xs : List AV, isVals xs k = xs.all fun x => isVal x k
  | [] => rfl
  | x :: xs => by rw [isVals, List.all_cons, isVals_all k xs]
theorem tames_all : ∀ xs : List AV, tames xs = xs.all tame
  | [] => rfl
  | x :: xs => by rw [tames, List.all_cons, tames_all xs]
theorem cnts_sum : ∀ xs : List AV, cnts xs = (xs.map cnt).sum
  | [] => rfl
  | x :: xs => by rw [cnts, List.map_cons, List.sum_cons, cnts_sum xs]
theorem cnts_app : ∀ a b : List AV, cnts (a ++ b) = cnts a + cnts b
  | [], b => (Nat.zero_add _).symm
  | p :: a, b => by rw [List.cons_append, cnts, cnts, cnts_app a b]; omega
theorem isVals_app {k : Nat} {a b : List AV} : isVals (a ++ b) k = (isVals a k && isVals b k) := by
  rw [isVals_all, isVals_all, isVals_all, List.all_append]
theorem flatAs_all : ∀ xs : List AV, flatAs xs = xs.all flatA
  | [] => rfl
  | x :: xs => by rw [flatAs, List.all_cons, flatAs_all xs]
theorem cnt_pos : ∀ d : AV, 1 ≤ cnt d := fun d => by cases d <;> simp only [cnt] <;> omega
theorem len_cnts : ∀ xs : List AV, xs.length ≤ cnts xs
  | [] => Nat.le_refl _
  | x :: xs => by have := len_cnts xs; have := cnt_pos x; simp only [cnts, List.length_cons]; omega
mutual
theorem flat_tame : ∀ d : AV, tame d = true → flatA d = true
  | .non, _ => rfl
  | .bl _, _ => rfl
  | .int _, _ => rfl
  | .str _, _ => rfl
  | .tup xs, h => flats_tame xs h
  | .lst xs, h => flats_tame xs h
  | .rol xs, h => by cases h
  | .ref _, h => by cases h
  | .ty _, h => by cases h
theorem flats_tame : ∀ xs : List AV, tames xs = true → flatAs xs = true
  | [], _ => rfl
  | x :: xs, h => by
    have h := Bool.and_eq_true_iff.mp h
    exact Bool.and_eq_true_iff.mpr ⟨flat_tame x h.1, flats_tame xs h.2⟩
end
theorem ch_lt {c : Nat} (h : chB c = true) : c < 0x110000 := by
  simp only [chB, Bool.or_eq_true, Bool.and_eq_true, decide_eq_true_eq] at h
  omega
mutual
theorem val_tame : ∀ (d : AV) (k : Nat), isVal d k = true → tame d = true
  | .non, _, _ => rfl
  | .bl _, _, h => by cases h
  | .int _, _, _ => rfl
  | .str z, k, h => by
    have h : (decide (z.length ≤ 100000) && z.cps.toList.all chB) = true := h
    rw [Bool.and_eq_true_iff, decide_eq_true_eq, List.all_eq_true] at h
    have e : PyData.strOk z = true := by
      unfold PyData.strOk
      rw [← Array.all_toList, List.all_eq_true]
      exact fun c hc => decide_eq_true (ch_lt (h.2 c hc))
    exact e
  | .tup xs, k, h => vals_tame xs (k - 1) (Bool.and_eq_true_iff.mp h).2
  | .lst xs, _, h => by cases h
  | .rol xs, _, h => by cases h
  | .ref _, _, h => by cases h
  | .ty _, _, h => by cases h
theorem vals_tame : ∀ (xs : List AV) (k : Nat), isVals xs k = true → tames xs = true
  | [], _, _ => rfl
  | x :: xs, k, h => by
    have h := Bool.and_eq_true_iff.mp h
    exact Bool.and_eq_true_iff.mpr ⟨val_tame x k h.1, vals_tame xs k h.2⟩
end
mutual
theorem val_up : ∀ (d : AV) (j k : Nat), j ≤ k → isVal d j = true → isVal d k = true
  | .non, _, _, _, _ => rfl
  | .bl _, _, _, _, h => by cases h
  | .int _, _, _, _, h => h
  | .str z, _, _, _, h => h
  | .tup xs, j, k, hjk, h => by
    have h : (decide (j ≠ 0) && isVals xs (j - 1)) = true := h
    rw [Bool.and_eq_true_iff, decide_eq_true_eq] at h
    show (decide (k ≠ 0) && isVals xs (k - 1)) = true
    rw [vals_up xs (j - 1) (k - 1) (by omega) h.2, decide_eq_true (by omega : k ≠ 0)]
    rfl
  | .lst xs, _, _, _, h => by cases h
  | .rol xs, _, _, _, h => by cases h
  | .ref _, _, _, _, h => by cases h
  | .ty _, _, _, _, h => by cases h
theorem vals_up : ∀ (xs : List AV) (j k : Nat), j ≤ k → isVals xs j = true → isVals xs k = true
  | [], _, _, _, _ => rfl
  | x :: xs, j, k, hjk, h => by
    have h := Bool.and_eq_true_iff.mp h
    exact Bool.and_eq_true_iff.mpr ⟨val_up x j k hjk h.1, vals_up xs j k hjk h.2⟩
end
theorem int_short (i : Int) (h1 : -1000000000000000000 ≤ i) (h2 : i ≤ 1000000000000000000) : (PyData.shown (.int i)).length ≤ 20 := by
  have r : ∀ n : Nat, n < 10 ^ 19 → (Nat.repr n).length ≤ 19 := fun n hn => (Nat.length_repr_le_iff (n := n) (by decide : 0 < 19)).mpr hn
  show (Str.ofString (toString i)).length ≤ 20
  rw [ofString_length]
  cases i with
  | ofNat n =>
    have h3 : (n : Int) ≤ 1000000000000000000 := h2
    have := r n (by omega)
    show (Nat.repr n).length ≤ 20
    omega
  | negSucc n =>
    have := r (n + 1) (by omega)
    show ("-" ++ Nat.repr (n + 1)).length ≤ 20
    rw [String.length_append]
    have : ("-" : String).length = 1 := rfl
    omega
mutual
theorem val_lay : ∀ (d : AV) (k : Nat), isVal d k = true → (toD d).canLay0 = true ∧ (toD d).depth ≤ k ∧ (toD d).leavesShort 20 = true
  | .non, _, _ => ⟨rfl, Nat.zero_le _, by decide +kernel⟩
  | .bl _, _, h => by cases h
  | .int i, _, h => by
    have h : (decide (-1000000000000000000 ≤ i) && decide (i ≤ 1000000000000000000)) = true := h
    rw [Bool.and_eq_true_iff, decide_eq_true_eq, decide_eq_true_eq] at h
    exact ⟨rfl, Nat.zero_le _, decide_eq_true (int_short i h.1 h.2)⟩
  | .str z, k, h => by
    have t := val_tame (.str z) k h
    refine ⟨t, Nat.zero_le _, ?_⟩
    show (z.cps.toList.all fun c => decide (c < 16 ^ 8)) = true
    rw [List.all_eq_true]
    intro c hc
    have h : (decide (z.length ≤ 100000) && z.cps.toList.all chB) = true := h
    rw [Bool.and_eq_true_iff, List.all_eq_true] at h
    have := ch_lt (h.2 c hc)
    exact decide_eq_true (by omega)
  | .tup xs, k, h => by
    have h : (decide (k ≠ 0) && isVals xs (k - 1)) = true := h
    rw [Bool.and_eq_true_iff, decide_eq_true_eq] at h
    obtain ⟨a, b, c⟩ := vals_lay xs (k - 1) h.2
    refine ⟨a, ?_, c⟩
    show PyData.depthAll (toDs xs) + 1 ≤ k
    omega
  | .lst xs, _, h => by cases h
  | .rol xs, _, h => by cases h
  | .ref _, _, h => by cases h
  | .ty _, _, h => by cases h
theorem vals_lay : ∀ (xs : List AV) (k : Nat), isVals xs k = true → PyData.canLayAll0 (toDs xs) = true ∧ PyData.depthAll (toDs xs) ≤ k ∧ PyData.leavesShortAll 20 (toDs xs) = true
  | [], _, _ => ⟨rfl, Nat.zero_le _, by decide +kernel⟩
  | x :: xs, k, h => by
    have h := Bool.and_eq_true_iff.mp h
    obtain ⟨a, b, c⟩ := val_lay x k h.1
    obtain ⟨a2, b2, c2⟩ := vals_lay xs k h.2
    refine ⟨?_, ?_, ?_⟩
    · show (PyData.canLay0 (toD x) && PyData.canLayAll0 (toDs xs)) = true
      rw [a, a2]; rfl
    · show max (PyData.depth (toD x)) (PyData.depthAll (toDs xs)) ≤ k
      omega
    · show (PyData.leavesShort 20 (toD x) && PyData.leavesShortAll 20 (toDs xs)) = true
      rw [c, c2]; rfl
end
mutual
theorem show_val : ∀ (d : AV) (k : Nat), isVal d k = true → (toD d).showable = true ∧ (toD d).hasDict = false
  | .non, _, _ => ⟨rfl, rfl⟩
  | .bl _, _, h => by cases h
  | .int i, _, h => by
    have h : (decide (-1000000000000000000 ≤ i) && decide (i ≤ 1000000000000000000)) = true := h
    rw [Bool.and_eq_true_iff, decide_eq_true_eq, decide_eq_true_eq] at h
    refine ⟨decide_eq_true ?_, rfl⟩
    have : i.natAbs < 2 ^ 60 := by omega
    rcases Nat.eq_zero_or_pos i.natAbs with e | e
    · rw [e]; decide
    · exact Nat.lt_trans ((Nat.log2_lt (by omega)).mpr this) (by decide)
  | .str z, k, h => ⟨rfl, rfl⟩
  | .tup xs, k, h => by
    have h : (decide (k ≠ 0) && isVals xs (k - 1)) = true := h
    rw [Bool.and_eq_true_iff, decide_eq_true_eq] at h
    exact show_vals xs (k - 1) h.2
  | .lst xs, _, h => by cases h
  | .rol xs, _, h => by cases h
  | .ref _, _, h => by cases h
  | .ty _, _, h => by cases h
theorem show_vals : ∀ (xs : List AV) (k : Nat), isVals xs k = true → PyData.showableAll (toDs xs) = true ∧ PyData.hasDictAll (toDs xs) = false
  | [], _, _ => ⟨rfl, rfl⟩
  | x :: xs, k, h => by
    have h := Bool.and_eq_true_iff.mp h
    obtain ⟨a, b⟩ := show_val x k h.1
    obtain ⟨a2, b2⟩ := show_vals xs k h.2
    refine ⟨?_, ?_⟩
    · show (PyData.showable (toD x) && PyData.showableAll (toDs xs)) = true
      rw [a, a2]; rfl
    · show (PyData.hasDict (toD x) || PyData.hasDictAll (toDs xs)) = false
      rw [b, b2]; rfl
end
mutual
theorem bulk_val : ∀ (d : AV) (k : Nat), isVal d k = true → (toD d).bulk + 1 ≤ cnt d
  | .non, _, _ => Nat.le_refl _
  | .bl _, _, h => by cases h
  | .int i, _, h => Nat.le_refl _
  | .str z, k, h => by
    show z.cps.size + 1 ≤ 1 + z.length
    have : z.length = z.cps.size := rfl
    omega
  | .tup xs, k, h => by
    have h : (decide (k ≠ 0) && isVals xs (k - 1)) = true := h
    rw [Bool.and_eq_true_iff] at h
    have := bulk_vals xs (k - 1) h.2
    show PyData.bulkAll (toDs xs) + 1 ≤ 1 + cnts xs
    omega
  | .lst xs, _, h => by cases h
  | .rol xs, _, h => by cases h
  | .ref _, _, h => by cases h
  | .ty _, _, h => by cases h
theorem bulk_vals : ∀ (xs : List AV) (k : Nat), isVals xs k = true → PyData.bulkAll (toDs xs) ≤ cnts xs
  | [], _, _ => Nat.le_refl _
  | x :: xs, k, h => by
    have h := Bool.and_eq_true_iff.mp h
    have a := bulk_val x k h.1
    have b := bulk_vals xs k h.2
    show PyData.bulk (toD x) + 1 + PyData.bulkAll (toDs xs) ≤ cnt x + cnts xs
    omega
end
/-- a value's text fits -/
theorem shown_val {d : AV} {k : Nat} (h : isVal d k = true) (hc : cnt d ≤ 700000) : (toD d).shown.length ≤ sizeLine := by
  have a := PyData.shown_le_bulk 20 (by decide) (toD d) (val_lay d k h).2.2
  have b := bulk_val d k h
  have : sizeLine = 16777216 := by decide +kernel
  omega
theorem repr_ok {d : AV} {k : Nat} (S : Store) (h : isVal d k = true) (hk : k ≤ 60) (hc : cnt d ≤ 700000) : (reprA d S).ok ∧ (reprA d S).v = .str (toD d).shown := by
  have e : derefA S d = d := by cases d <;> first | rfl | cases h
  have e2 : datA S d = toD d := by unfold datA; rw [e]
  unfold reprA
  rw [e, e2]
  obtain ⟨a, b⟩ := show_val d k h
  have := (val_lay d k h).2.1
  exact ⟨⟨flat_tame d (val_tame d k h), a, b, by omega, shown_val h hc⟩, rfl⟩
theorem repr_bl {b : Bool} (S : Store) : (reprA (.bl b) S).ok ∧ (reprA (.bl b) S).v = .str (toD (.bl b)).shown := by
  refine ⟨⟨rfl, rfl, rfl, Nat.zero_le _, ?_⟩, rfl⟩
  show (PyData.shown (.bool b)).length ≤ sizeLine
  cases b <;> decide +kernel
/-! ### seals -/
/-- what may stand at == -/
def lay (d : AV) : Bool := (toD d).canLay0 && decide ((toD d).depth ≤ 60)
theorem lay_shaped {d : AV} (h : lay d = true) : SeqAt.shaped (toD d) = true := by
  unfold lay at h
  unfold SeqAt.shaped
  rw [Bool.and_eq_true_iff, decide_eq_true_eq] at h ⊢
  exact ⟨h.1, by omega⟩
theorem val_lays {d : AV} {k : Nat} (h : isVal d k = true) (hk : k ≤ 60) : lay d = true := by
  obtain ⟨a, b, _⟩ := val_lay d k h
  unfold lay
  rw [a, decide_eq_true (by omega)]
  rfl
def nmB : AV → Bool
  | .str z => (decide (1 ≤ z.length) && decide (z.length ≤ 8)) && z.cps.toList.all fun c => decide (c ∈ ("abcdefghijklmnopqrstuvwxyz" : Str).cps.toList)
  | _ => false
def wordB (w : Str) : AV → Bool
  | .str z => decide (z = w)
  | _ => false
def sealB : AV → Bool
  | .tup [x, y, _] => wordB "seal" x && nmB y
  | _ => false
mutual
def sb (w : Bool) : AV → List AV
  | .tup xs => (if sealB (.tup xs) = true then [.tup xs] else []) ++ (if (w || !sealB (.tup xs)) = true then sbs w xs else [])
  | _ => []
def sbs (w : Bool) : List AV → List AV
  | [] => []
  | x :: xs => sb w x ++ sbs w xs
end
theorem sbs_app (w : Bool) : ∀ xs ys : List AV, sbs w (xs ++ ys) = sbs w xs ++ sbs w ys
  | [], _ => rfl
  | x :: xs, ys => by rw [List.cons_append, sbs, sbs, sbs_app w xs ys, List.append_assoc]
mutual
theorem sb_in (w : Bool) : ∀ (d : AV) (k : Nat), isVal d k = true → ∀ s ∈ sb w d, isVal s k = true ∧ cnt s ≤ cnt d
  | .tup xs, k, h, s, hs => by
    have h' : (decide (k ≠ 0) && isVals xs (k - 1)) = true := h
    rw [Bool.and_eq_true_iff, decide_eq_true_eq] at h'
    rw [sb, List.mem_append] at hs
    rcases hs with hs | hs
    · split at hs
      · cases List.mem_singleton.mp hs; exact ⟨h, Nat.le_refl _⟩
      · cases hs
    · split at hs
      · obtain ⟨a, b⟩ := sbs_in w xs (k - 1) h'.2 s hs
        refine ⟨val_up s (k - 1) k (by omega) a, ?_⟩
        show cnt s ≤ 1 + cnts xs
        omega
      · cases hs
  | .non, _, _, _, hs => by cases hs
  | .bl _, _, _, _, hs => by cases hs
  | .int _, _, _, _, hs => by cases hs
  | .str _, _, _, _, hs => by cases hs
  | .lst _, _, _, _, hs => by cases hs
  | .rol _, _, _, _, hs => by cases hs
  | .ref _, _, _, _, hs => by cases hs
  | .ty _, _, _, _, hs => by cases hs
theorem sbs_in (w : Bool) : ∀ (xs : List AV) (k : Nat), isVals xs k = true → ∀ s ∈ sbs w xs, isVal s k = true ∧ cnt s ≤ cnts xs
  | [], _, _, _, hs => by cases hs
  | x :: xs, k, h, s, hs => by
    have h := Bool.and_eq_true_iff.mp h
    rw [sbs, List.mem_append] at hs
    show _ ∧ cnt s ≤ cnt x + cnts xs
    rcases hs with hs | hs
    · obtain ⟨a, b⟩ := sb_in w x k h.1 s hs
      exact ⟨a, by omega⟩
    · obtain ⟨a, b⟩ := sbs_in w xs k h.2 s hs
      exact ⟨a, by omega⟩
end
mutual
theorem sb_len (w : Bool) : ∀ d : AV, (sb w d).length ≤ cnt d
  | .tup xs => by
    have := sbs_len w xs
    rw [sb, List.length_append]
    show _ ≤ 1 + cnts xs
    split <;> split <;> simp only [List.length_cons, List.length_nil] <;> omega
  | .non => Nat.zero_le _
  | .bl _ => Nat.zero_le _
  | .int _ => Nat.zero_le _
  | .str _ => Nat.zero_le _
  | .lst _ => Nat.zero_le _
  | .rol _ => Nat.zero_le _
  | .ref _ => Nat.zero_le _
  | .ty _ => Nat.zero_le _
theorem sbs_len (w : Bool) : ∀ xs : List AV, (sbs w xs).length ≤ cnts xs
  | [] => Nat.zero_le _
  | x :: xs => by
    have := sb_len w x
    have := sbs_len w xs
    rw [sbs, List.length_append, cnts]
    omega
end
mutual
theorem sb_cnt (w : Bool) : ∀ (d : AV) (k : Nat), isVal d k = true → cnts (sb w d) ≤ k * cnt d
  | .tup xs, k, h => by
    have h' : (decide (k ≠ 0) && isVals xs (k - 1)) = true := h
    rw [Bool.and_eq_true_iff, decide_eq_true_eq] at h'
    obtain ⟨j, rfl⟩ : ∃ j, k = j + 1 := ⟨k - 1, by omega⟩
    have a := sbs_cnt w xs j h'.2
    have e : cnt (.tup xs) = 1 + cnts xs := rfl
    have e2 : (j + 1) * cnt (.tup xs) = j * (1 + cnts xs) + (1 + cnts xs) := by rw [e, Nat.succ_mul]
    have e3 : j * (1 + cnts xs) = j + j * cnts xs := by rw [Nat.mul_add, Nat.mul_one]
    rw [sb, cnts_app]
    have l1 : cnts (if sealB (.tup xs) = true then [AV.tup xs] else []) ≤ 1 + cnts xs := by
      split
      · show cnt (.tup xs) + 0 ≤ _; omega
      · exact Nat.zero_le _
    have l2 : cnts (if (w || !sealB (.tup xs)) = true then sbs w xs else []) ≤ j * cnts xs := by
      split
      · exact a
      · exact Nat.zero_le _
    omega
  | .non, _, _ => Nat.zero_le _
  | .bl _, _, _ => Nat.zero_le _
  | .int _, _, _ => Nat.zero_le _
  | .str _, _, _ => Nat.zero_le _
  | .lst _, _, _ => Nat.zero_le _
  | .rol _, _, _ => Nat.zero_le _
  | .ref _, _, _ => Nat.zero_le _
  | .ty _, _, _ => Nat.zero_le _
theorem sbs_cnt (w : Bool) : ∀ (xs : List AV) (k : Nat), isVals xs k = true → cnts (sbs w xs) ≤ k * cnts xs
  | [], _, _ => Nat.zero_le _
  | x :: xs, k, h => by
    have h := Bool.and_eq_true_iff.mp h
    have a := sb_cnt w x k h.1
    have b := sbs_cnt w xs k h.2
    rw [sbs, cnts_app, cnts, Nat.mul_add]
    omega
end
/-- the seals of a value make a value -/
theorem sb_val {d : AV} {k : Nat} (w : Bool) (h : isVal d k = true) : isVal (.tup (sb w d)) (k + 1) = true ∧ cnt (.tup (sb w d)) ≤ 1 + k * cnt d := by
  refine ⟨?_, ?_⟩
  · show (decide (k + 1 ≠ 0) && isVals (sb w d) (k + 1 - 1)) = true
    rw [Nat.add_sub_cancel, isVals_all, decide_eq_true (by omega : k + 1 ≠ 0), Bool.true_and, List.all_eq_true]
    exact fun s hs => (sb_in w d k h s hs).1
  · have a := sb_cnt w d k h
    show 1 + cnts (sb w d) ≤ _
    omega
end Vm

set_option Elab.async false
set_option linter.all false
set_option maxRecDepth 100000
set_option maxHeartbeats 1000000
set_option autoImplicit false
/-! PotM: what the drawn numbers need -/
namespace L3
open PySem L2
abbrev Pt := Int × Int × Int
def potO (t : Pt) : AO := .lst [.int t.1, .int t.2.1, .int t.2.2]
def okP (N : Nat) (t : Pt) : Prop := 0 ≤ t.1 ∧ 0 ≤ t.2.1 ∧ t.2.1 < 2305843009213693951 ∧ 0 ≤ t.2.2 ∧ t.2.2 ≤ N
theorem okP.up {M N : Nat} {t : Pt} (h : okP M t) (k : M ≤ N) : okP N t := ⟨h.1, h.2.1, h.2.2.1, h.2.2.2.1, by have := h.2.2.2.2; omega⟩
theorem ixNZ {n : Nat} {i : Int} (h0 : 0 ≤ i) (h1 : i < n) : ixN n i = some i.toNat := by
  unfold ixN
  rw [if_pos h0, if_pos h1]
theorem ixL_at {xs : List AV} {i : Int} (h0 : 0 ≤ i) (h1 : i < xs.length) : ∃ y, y ∈ xs ∧ ixL (some xs) (.int i) = ⟨True, y⟩ := by
  have e : atI xs i = some xs[i.toNat] := by
    unfold atI
    rw [ixNZ h0 h1]
    exact List.getElem?_eq_getElem (by omega)
  refine ⟨xs[i.toNat], List.getElem_mem .., ?_⟩
  show (⟨(atI xs i).isSome = true, (atI xs i).getD .non⟩ : Ans) = _
  rw [e]
  exact ans_tt rfl rfl
theorem ixA_lst {xs : List AV} {i : Int} {S : Store} (h0 : 0 ≤ i) (h1 : i < xs.length) : ∃ y, y ∈ xs ∧ ixA (.lst xs) (.int i) S = ⟨True, y⟩ := ixL_at h0 h1
theorem ixA_rol {xs : List AV} {i : Int} {S : Store} (h0 : 0 ≤ i) (h1 : i < xs.length) : ∃ y, y ∈ xs ∧ ixA (.rol xs) (.int i) S = ⟨True, y⟩ := ixL_at h0 h1
theorem ixA_tup {xs : List AV} {i : Int} {S : Store} (h0 : 0 ≤ i) (h1 : i < xs.length) : ∃ y, y ∈ xs ∧ ixA (.tup xs) (.int i) S = ⟨True, y⟩ := ixL_at h0 h1
theorem ixA_str {z : Str} {i : Int} {S : Store} (hz : z.length ≤ sizeLine) (h0 : 0 ≤ i) (h1 : i < z.length) : ∃ c, c ∈ z.cps.toList ∧ ixA (.str z) (.int i) S = ⟨True, .str ⟨#[c]⟩⟩ := by
  have hl : z.length = z.cps.toList.length := (Array.length_toList).symm
  have h2 : i.toNat < z.cps.toList.length := by omega
  have e : atI z.cps.toList i = some z.cps.toList[i.toNat] := by
    unfold atI
    rw [ixNZ h0 (by omega)]
    exact List.getElem?_eq_getElem h2
  refine ⟨z.cps.toList[i.toNat], List.getElem_mem .., ?_⟩
  show (⟨z.length ≤ sizeLine ∧ (atI z.cps.toList i).isSome = true, .str ⟨#[(atI z.cps.toList i).getD 0]⟩⟩ : Ans) = _
  rw [e]
  exact ans_tt ⟨hz, rfl⟩ rfl
theorem ixP {S : Store} {p : Addr} {t : Pt} (h : S p = some (potO t)) {i : Int} : ixA (.ref p) (.int i) S = ixL (some [.int t.1, .int t.2.1, .int t.2.2]) (.int i) := by
  show ixL (lstA S (.ref p)) (.int i) = _
  rw [lstA_ref h]
theorem ixP0 {S : Store} {p : Addr} {t : Pt} (h : S p = some (potO t)) : ixA (.ref p) (.int 0) S = ⟨True, .int t.1⟩ := (ixP h).trans (ans_tt rfl rfl)
theorem ixP1 {S : Store} {p : Addr} {t : Pt} (h : S p = some (potO t)) : ixA (.ref p) (.int 1) S = ⟨True, .int t.2.1⟩ := (ixP h).trans (ans_tt rfl rfl)
theorem ixP2 {S : Store} {p : Addr} {t : Pt} (h : S p = some (potO t)) : ixA (.ref p) (.int 2) S = ⟨True, .int t.2.2⟩ := (ixP h).trans (ans_tt rfl rfl)
theorem prime_ix {i : Int} (h0 : 0 ≤ i) (h1 : i < 5) : ∃ v : Int, 0 < v ∧ v < 2147483648 ∧ ∀ S, ixA (.lst [.int 2147483647, .int 2147483629, .int 2147483587, .int 2147483579, .int 2147483563]) (.int i) S = ⟨True, .int v⟩ := by
  have : i = 0 ∨ i = 1 ∨ i = 2 ∨ i = 3 ∨ i = 4 := by omega
  rcases this with rfl | rfl | rfl | rfl | rfl
  · exact ⟨2147483647, by decide, by decide, fun S => ans_tt rfl rfl⟩
  · exact ⟨2147483629, by decide, by decide, fun S => ans_tt rfl rfl⟩
  · exact ⟨2147483587, by decide, by decide, fun S => ans_tt rfl rfl⟩
  · exact ⟨2147483579, by decide, by decide, fun S => ans_tt rfl rfl⟩
  · exact ⟨2147483563, by decide, by decide, fun S => ans_tt rfl rfl⟩
theorem mulL {i j : Int} (h : -(2 ^ 64) < i) (h' : i < 2 ^ 64) : CMulB i j := .inl (.inl ⟨h, h'⟩)
theorem mulR {i j : Int} (h : -(2 ^ 64) < j) (h' : j < 2 ^ 64) : CMulB i j := .inl (.inr ⟨h, h'⟩)
theorem divS {i j : Int} (h : 0 < j) (h' : j < 2 ^ 64) : CDivW i j := by
  have : j.natAbs.log2 < 64 := (Nat.log2_lt (by omega)).mpr (by omega)
  exact ⟨h, by omega⟩
theorem powS {i j : Int} (h0 : 0 ≤ i) (h : i < 2 ^ 512) (h1 : 0 ≤ j) (h2 : j ≤ 2 ^ 17) : CPowB i j := by
  have b : Builtin.Int.intBits i ≤ 512 := intBits_le_iff.mpr (by omega)
  refine ⟨h1, ?_⟩
  have h3 : (Builtin.Int.intBits i : Int) * j ≤ 512 * j := Int.mul_le_mul_of_nonneg_right (by omega) h1
  omega
theorem ix1_0 {S : Store} {p : Addr} {x : AV} (h : S p = some (.lst [x])) : ixA (.ref p) (.int 0) S = ⟨True, x⟩ := by
  show ixL (lstA S (.ref p)) (.int 0) = _
  rw [lstA_ref h]
  exact ans_tt rfl rfl
theorem ix3_0 {S : Store} {p : Addr} {x y z : AV} (h : S p = some (.lst [x, y, z])) : ixA (.ref p) (.int 0) S = ⟨True, x⟩ := by
  show ixL (lstA S (.ref p)) (.int 0) = _
  rw [lstA_ref h]
  exact ans_tt rfl rfl
theorem ix3_1 {S : Store} {p : Addr} {x y z : AV} (h : S p = some (.lst [x, y, z])) : ixA (.ref p) (.int 1) S = ⟨True, y⟩ := by
  show ixL (lstA S (.ref p)) (.int 1) = _
  rw [lstA_ref h]
  exact ans_tt rfl rfl
theorem ix3_2 {S : Store} {p : Addr} {x y z : AV} (h : S p = some (.lst [x, y, z])) : ixA (.ref p) (.int 2) S = ⟨True, z⟩ := by
  show ixL (lstA S (.ref p)) (.int 2) = _
  rw [lstA_ref h]
  exact ans_tt rfl rfl
theorem ixU_0 {S : Store} {p : Addr} {x y z : AV} : ixA (.ref p) (.int 0) (updS S p (.lst [x, y, z])) = ⟨True, x⟩ := ix3_0 updS_same
theorem ixU_1 {S : Store} {p : Addr} {x y z : AV} : ixA (.ref p) (.int 1) (updS S p (.lst [x, y, z])) = ⟨True, y⟩ := ix3_1 updS_same
theorem ixU_2 {S : Store} {p : Addr} {x y z : AV} : ixA (.ref p) (.int 2) (updS S p (.lst [x, y, z])) = ⟨True, z⟩ := ix3_2 updS_same
theorem SubAt3_0 {S : Store} {p : Addr} {x y z d : AV} {Q : Store → Prop} (h : S p = some (.lst [x, y, z])) (q : Q (updS S p (.lst [d, y, z]))) : SubAt (.ref p) (.int 0) d S Q := ⟨p, _, 0, 0, rfl, rfl, h, rfl, q⟩
theorem SubAt3_2 {S : Store} {p : Addr} {x y z d : AV} {Q : Store → Prop} (h : S p = some (.lst [x, y, z])) (q : Q (updS S p (.lst [x, y, d]))) : SubAt (.ref p) (.int 2) d S Q := ⟨p, _, 2, 2, rfl, rfl, h, rfl, q⟩
/-- what a draw asks and gives -/
def spTake : ASp := fun ds S Q => ∃ p t n N, ds = [.ref p, .int n] ∧ 0 < n ∧ n < 2 ^ 62 ∧ S p = some (potO t) ∧ okP N t ∧ N < 2 ^ 40 ∧ ∀ t' r, okP (N + 1) t' → 0 ≤ r → r < n → Q (.int r) (updS S p (potO t'))
/-- what may stand in _law_of -/
def partsA : AV → Option (List AV)
  | .str z => if z.length ≤ sizeLine then some (signsA z) else none
  | .lst xs => some xs
  | .tup xs => some xs
  | _ => none
def spOne : ASp := fun ds S Q => ∃ p t x xs N, ds = [.ref p, x] ∧ partsA x = some xs ∧ xs ≠ [] ∧ xs.length < 2 ^ 40 ∧ S p = some (potO t) ∧ okP N t ∧ N < 2 ^ 40 ∧ ∀ t' y, okP (N + 1) t' → y ∈ xs → Q y (updS S p (potO t'))
theorem one_str {p : Addr} {t : Pt} {z : Str} {N : Nat} {S : Store} {Q : AK} (hz : 0 < z.length) (hz2 : z.length ≤ 16777216) (hp : S p = some (potO t)) (ok : okP N t) (hN : N < 2 ^ 40)
    (q : ∀ t' c, okP (N + 1) t' → c ∈ z.cps.toList → Q (.str ⟨#[c]⟩) (updS S p (potO t'))) : spOne [.ref p, .str z] S Q := by
  have hl : (signsA z).length = z.length := by unfold signsA; rw [List.length_map, Array.length_toList]; rfl
  refine ⟨p, t, _, signsA z, N, rfl, if_pos (le_sl hz2), ?_, by omega, hp, ok, hN, fun t' y ok' hy => ?_⟩
  · exact List.ne_nil_of_length_pos (by omega)
  · obtain ⟨c, hc, rfl⟩ := List.mem_map.mp hy
    exact q t' c ok' hc
theorem one_lst {p : Addr} {t : Pt} {xs : List AV} {N : Nat} {S : Store} {Q : AK} (hz : 0 < xs.length) (hz2 : xs.length < 2 ^ 40) (hp : S p = some (potO t)) (ok : okP N t) (hN : N < 2 ^ 40)
    (q : ∀ t' y, okP (N + 1) t' → y ∈ xs → Q y (updS S p (potO t'))) : spOne [.ref p, .lst xs] S Q :=
  ⟨p, t, _, xs, N, rfl, rfl, List.ne_nil_of_length_pos hz, hz2, hp, ok, hN, q⟩
theorem take_of {p : Addr} {t : Pt} {n : Int} {N : Nat} {S : Store} {Q : AK} (hn : 0 < n) (hn2 : n < 2 ^ 62) (hp : S p = some (potO t)) (ok : okP N t) (hN : N < 2 ^ 40)
    (q : ∀ t' r, okP (N + 1) t' → 0 ≤ r → r < n → Q (.int r) (updS S p (potO t'))) : spTake [.ref p, .int n] S Q := ⟨p, t, n, N, rfl, hn, hn2, hp, ok, hN, q⟩
/-- one sign of those that a value may have -/
def Sgn (y : AV) : Prop := ∃ c, y = .str ⟨#[c]⟩ ∧ Vm.chB c = true
theorem join_tl : ∀ xs : List Str, (Str.join (Str.ofString "") xs).cps.toList = xs.flatMap (·.cps.toList)
  | [] => rfl
  | [x] => by simp [Str.join]
  | x :: z :: r => by
    have e : (Str.ofString "").cps.toList = [] := by decide +kernel
    show ((x.cps ++ (Str.ofString "").cps) ++ (Str.join (Str.ofString "") (z :: r)).cps).toList = _
    rw [Array.toList_append, Array.toList_append, e, join_tl (z :: r), List.append_nil]
    rfl
theorem sgn_all : ∀ {acc : List AV}, (∀ y ∈ acc, Sgn y) → acc.all isStrA = true ∧ ((acc.map strOf).map (·.length)).sum = acc.length ∧ ((acc.map strOf).flatMap (·.cps.toList)).length = acc.length ∧ ∀ c ∈ (acc.map strOf).flatMap (·.cps.toList), Vm.chB c = true
  | [], _ => ⟨rfl, rfl, rfl, fun c h => by cases h⟩
  | x :: xs, h => by
    obtain ⟨c, rfl, hc⟩ := h x (List.mem_cons_self ..)
    obtain ⟨a, b, d, e⟩ := sgn_all fun y hy => h y (List.mem_cons_of_mem _ hy)
    refine ⟨by rw [List.all_cons, a]; rfl, ?_, ?_, fun k hk => ?_⟩
    · rw [List.map_cons, List.map_cons, List.sum_cons, b, List.length_cons]; show 1 + _ = _; omega
    · rw [List.map_cons, List.flatMap_cons, List.length_append, d, List.length_cons]; show 1 + _ = _; omega
    · rw [List.map_cons, List.flatMap_cons] at hk
      rcases List.mem_append.mp hk with h | h
      · have h : k ∈ [c] := h
        cases List.mem_singleton.mp h; exact hc
      · exact e k h
theorem sgn_join {acc : List AV} (h : ∀ y ∈ acc, Sgn y) {S : Store} {Q : AK} (hl : acc.length ≤ 1000000) (q : ∀ z : Str, z.length = acc.length → (∀ c ∈ z.cps.toList, Vm.chB c = true) → Q (.str z) S) : mJoin (.str (Str.ofString "")) [.lst acc] S Q := by
  obtain ⟨a, b, d, e⟩ := sgn_all h
  have e0 : (Str.ofString "").length = 0 := by decide +kernel
  refine ⟨_, _, acc, rfl, rfl, rfl, a, ?_, ?_⟩
  · rw [b, e0]; omega
  · rw [TL.join_eq]
    refine q _ ?_ (by rw [join_tl]; exact e)
    show (Str.join (Str.ofString "") (acc.map strOf)).cps.size = _
    rw [← Array.length_toList, join_tl, d]
theorem cube_okG {A B b c : Int} (hA : 0 ≤ A) (hA2 : A < 2 ^ 20) (hB : 0 ≤ B) (hB2 : B < 2 ^ 20) (h0 : 0 ≤ b) (h1 : b < 2305843009213693951) (h2 : 0 ≤ c) (h3 : c < 2 ^ 41) : 0 ≤ b + A * c * c + B ∧ b + A * c * c + B < 2 ^ 512 := by
  have hAc : 0 ≤ A * c := Int.mul_nonneg hA h2
  have a : 0 ≤ A * c * c := Int.mul_nonneg hAc h2
  have d : A * c * c ≤ A * c * 2 ^ 41 := Int.mul_le_mul_of_nonneg_left (by omega) hAc
  have e : A * c ≤ 2 ^ 20 * c := Int.mul_le_mul_of_nonneg_right (by omega) h2
  omega
theorem cube_ok {b c : Int} (h0 : 0 ≤ b) (h1 : b < 2305843009213693951) (h2 : 0 ≤ c) (h3 : c < 2 ^ 41) : 0 ≤ b + 99029 * c * c + 719 ∧ b + 99029 * c * c + 719 < 2 ^ 512 := by
  have a : 0 ≤ 99029 * c * c := Int.mul_nonneg (by omega) h2
  have d : 99029 * c * c ≤ 99029 * c * 2 ^ 41 := Int.mul_le_mul_of_nonneg_left (by omega) (by omega)
  omega
/-- the row of values that is being made -/
structure RowOk (m i : Nat) (ds : List AV) : Prop where
  ne : 0 < ds.length
  len : ds.length ≤ 20 + i
  val : Vm.isVals ds (2 * i) = true
  cnt : Vm.cnts ds ≤ 10 * m + 11 * i
theorem vals_part {ds : List AV} {k j : Nat} (h : Vm.isVals ds k = true) : Vm.isVals (ds.take j) k = true ∧ Vm.isVals (ds.drop j) k = true ∧ Vm.cnts (ds.take j) + Vm.cnts (ds.drop j) = Vm.cnts ds := by
  have e := List.take_append_drop j ds
  have h1 : Vm.isVals (ds.take j ++ ds.drop j) k = true := by rw [e]; exact h
  rw [Vm.isVals_app, Bool.and_eq_true_iff] at h1
  refine ⟨h1.1, h1.2, ?_⟩
  rw [← Vm.cnts_app, e]
theorem RowOk.tup {m i j : Nat} {ds : List AV} (h : RowOk m i ds) : RowOk m (i + 1) (ds.take j ++ [.tup (ds.drop j)]) := by
  obtain ⟨a, b, c⟩ := vals_part (j := j) h.val
  refine ⟨by simp, ?_, ?_, ?_⟩
  · have := h.len
    rw [List.length_append, List.length_take, List.length_singleton]; omega
  · rw [Vm.isVals_app, Vm.vals_up _ (2 * i) (2 * (i + 1)) (by omega) a]
    show (true && ((decide (2 * (i + 1) ≠ 0) && Vm.isVals (ds.drop j) (2 * (i + 1) - 1)) && true)) = true
    rw [Vm.vals_up _ (2 * i) (2 * (i + 1) - 1) (by omega) b, decide_eq_true (by omega)]
    rfl
  · have := h.cnt
    rw [Vm.cnts_app]
    show _ + (1 + Vm.cnts (ds.drop j) + 0) ≤ _
    omega
theorem RowOk.seal {m i j : Nat} {ds : List AV} {nm : AV} (h : RowOk m i ds) (h1 : Vm.isVal nm 0 = true) (h2 : Vm.cnt nm ≤ 4) : RowOk m (i + 1) (ds.take j ++ [.tup [.str "seal", nm, .tup (ds.drop j)]]) := by
  obtain ⟨a, b, c⟩ := vals_part (j := j) h.val
  refine ⟨by simp, ?_, ?_, ?_⟩
  · have := h.len
    rw [List.length_append, List.length_take, List.length_singleton]; omega
  · rw [Vm.isVals_app, Vm.vals_up _ (2 * i) (2 * (i + 1)) (by omega) a]
    have s1 : Vm.isVal (.str "seal") (2 * (i + 1) - 1) = true := by show Vm.leafV (.str "seal") = true; decide +kernel
    show (true && ((decide (2 * (i + 1) ≠ 0) && (Vm.isVal (.str "seal") (2 * (i + 1) - 1) && (Vm.isVal nm (2 * (i + 1) - 1) && ((decide (2 * (i + 1) - 1 ≠ 0) && Vm.isVals (ds.drop j) (2 * (i + 1) - 1 - 1)) && true)))) && true)) = true
    rw [Vm.vals_up _ (2 * i) (2 * (i + 1) - 1 - 1) (by omega) b, decide_eq_true (by omega), decide_eq_true (by omega), s1, Vm.val_up nm 0 _ (by omega) h1]
    rfl
  · have := h.cnt
    have s1 : Vm.cnt (.str "seal") = 5 := by decide +kernel
    rw [Vm.cnts_app]
    show _ + ((1 + (Vm.cnt (.str "seal") + (Vm.cnt nm + ((1 + Vm.cnts (ds.drop j)) + 0)))) + 0) ≤ _
    omega
theorem RowOk.start {m : Nat} {ds : List AV} (h0 : 0 < ds.length) (h1 : ds.length ≤ m) (hm : m ≤ 20) (h : ∀ y ∈ ds, Vm.isVal y 0 = true ∧ Vm.cnt y ≤ 10) : RowOk m 0 ds := by
  refine ⟨h0, by omega, by rw [Vm.isVals_all, List.all_eq_true]; exact fun x hx => (h x hx).1, ?_⟩
  have : ∀ xs : List AV, (∀ y ∈ xs, Vm.cnt y ≤ 10) → Vm.cnts xs ≤ 10 * xs.length := by
    intro xs
    induction xs with
    | nil => intro _; exact Nat.zero_le _
    | cons x xs ih =>
      intro h
      have a := h x (List.mem_cons_self ..)
      have b := ih fun y hy => h y (List.mem_cons_of_mem _ hy)
      rw [Vm.cnts, List.length_cons]
      omega
  have := this ds fun y hy => (h y hy).2
  omega
/-- the same, of any parts -/
structure RowG (m i : Nat) (ds : List AV) : Prop where
  ne : 0 < ds.length
  len : ds.length ≤ 20 + i
  val : Vm.isVals ds (2 * i) = true
  cnt : Vm.cnts ds ≤ m + 11 * i
theorem vals_partG {ds : List AV} {k j : Nat} (h : Vm.isVals ds k = true) : Vm.isVals (ds.take j) k = true ∧ Vm.isVals (ds.drop j) k = true ∧ Vm.cnts (ds.take j) + Vm.cnts (ds.drop j) = Vm.cnts ds := by
  have e := List.take_append_drop j ds
  have h1 : Vm.isVals (ds.take j ++ ds.drop j) k = true := by rw [e]; exact h
  rw [Vm.isVals_app, Bool.and_eq_true_iff] at h1
  refine ⟨h1.1, h1.2, ?_⟩
  rw [← Vm.cnts_app, e]
theorem RowG.tup {m i j : Nat} {ds : List AV} (h : RowG m i ds) : RowG m (i + 1) (ds.take j ++ [.tup (ds.drop j)]) := by
  obtain ⟨a, b, c⟩ := vals_partG (j := j) h.val
  refine ⟨by simp, ?_, ?_, ?_⟩
  · have := h.len
    rw [List.length_append, List.length_take, List.length_singleton]; omega
  · rw [Vm.isVals_app, Vm.vals_up _ (2 * i) (2 * (i + 1)) (by omega) a]
    show (true && ((decide (2 * (i + 1) ≠ 0) && Vm.isVals (ds.drop j) (2 * (i + 1) - 1)) && true)) = true
    rw [Vm.vals_up _ (2 * i) (2 * (i + 1) - 1) (by omega) b, decide_eq_true (by omega)]
    rfl
  · have := h.cnt
    rw [Vm.cnts_app]
    show _ + (1 + Vm.cnts (ds.drop j) + 0) ≤ _
    omega
theorem RowG.seal {m i j : Nat} {ds : List AV} {nm : AV} (h : RowG m i ds) (h1 : Vm.isVal nm 0 = true) (h2 : Vm.cnt nm ≤ 4) : RowG m (i + 1) (ds.take j ++ [.tup [.str "seal", nm, .tup (ds.drop j)]]) := by
  obtain ⟨a, b, c⟩ := vals_partG (j := j) h.val
  refine ⟨by simp, ?_, ?_, ?_⟩
  · have := h.len
    rw [List.length_append, List.length_take, List.length_singleton]; omega
  · rw [Vm.isVals_app, Vm.vals_up _ (2 * i) (2 * (i + 1)) (by omega) a]
    have s1 : Vm.isVal (.str "seal") (2 * (i + 1) - 1) = true := by show Vm.leafV (.str "seal") = true; decide +kernel
    show (true && ((decide (2 * (i + 1) ≠ 0) && (Vm.isVal (.str "seal") (2 * (i + 1) - 1) && (Vm.isVal nm (2 * (i + 1) - 1) && ((decide (2 * (i + 1) - 1 ≠ 0) && Vm.isVals (ds.drop j) (2 * (i + 1) - 1 - 1)) && true)))) && true)) = true
    rw [Vm.vals_up _ (2 * i) (2 * (i + 1) - 1 - 1) (by omega) b, decide_eq_true (by omega), decide_eq_true (by omega), s1, Vm.val_up nm 0 _ (by omega) h1]
    rfl
  · have := h.cnt
    have s1 : Vm.cnt (.str "seal") = 5 := by decide +kernel
    rw [Vm.cnts_app]
    show _ + ((1 + (Vm.cnt (.str "seal") + (Vm.cnt nm + ((1 + Vm.cnts (ds.drop j)) + 0)))) + 0) ≤ _
    omega
theorem RowG.start {m c M : Nat} {ds : List AV} (h0 : 0 < ds.length) (h1 : ds.length ≤ m) (hm : m ≤ 20) (hM : M = c * m) (h : ∀ y ∈ ds, Vm.isVal y 0 = true ∧ Vm.cnt y ≤ c) : RowG M 0 ds := by
  refine ⟨h0, by omega, by rw [Vm.isVals_all, List.all_eq_true]; exact fun x hx => (h x hx).1, ?_⟩
  have : ∀ xs : List AV, (∀ y ∈ xs, Vm.cnt y ≤ c) → Vm.cnts xs ≤ c * xs.length := by
    intro xs
    induction xs with
    | nil => intro _; exact Nat.zero_le _
    | cons x xs ih =>
      intro h
      have a := h x (List.mem_cons_self ..)
      have b := ih fun y hy => h y (List.mem_cons_of_mem _ hy)
      rw [Vm.cnts, List.length_cons, Nat.mul_succ]
      omega
  have a := this ds fun y hy => (h y hy).2
  have b := Nat.mul_le_mul_left c h1
  omega
theorem cutL_neg {ds : List AV} {k : Nat} (h0 : 0 < k) (h : k ≤ ds.length) : cutL ds (some (-(k : Int))) none = ds.drop (ds.length - k) := by
  have e : HT.sIx ds.length 0 (some (-(k : Int))) = ds.length - k := by
    show (if -(k : Int) < 0 then (-(k : Int) + (ds.length : Int)).toNat else _) = _
    rw [if_pos (by omega)]
    omega
  unfold cutL
  rw [e, HT.sIx_none]
  exact List.take_of_length_le (by rw [List.length_drop]; omega)
theorem cutL_hi {ds : List AV} {k : Nat} (h : k ≤ ds.length) : cutL ds none (some (k : Int)) = ds.take k := by
  unfold cutL
  rw [HT.sIx_none, HT.sIx_nat, List.drop_zero, Nat.min_eq_left h, Nat.sub_zero]
theorem cutL_lo {ds : List AV} {k : Nat} (h : k ≤ ds.length) : cutL ds (some (k : Int)) none = ds.drop k := by
  unfold cutL
  rw [HT.sIx_none, HT.sIx_nat, Nat.min_eq_left h]
  exact List.take_of_length_le (by rw [List.length_drop]; omega)
theorem repr_v {d : AV} {k : Nat} (h : Vm.isVal d k = true) (hk : k ≤ 60) (hc : Vm.cnt d ≤ 700000) (S : Store) : reprA d S = ⟨True, .str (toD d).shown⟩ := by
  obtain ⟨a, b⟩ := Vm.repr_ok S h hk hc
  have : reprA d S = ⟨(reprA d S).ok, (reprA d S).v⟩ := rfl
  rw [this, b, eq_true a]
theorem repr_b (b : Bool) (S : Store) : reprA (.bl b) S = ⟨True, .str (toD (.bl b)).shown⟩ := by
  obtain ⟨a, c⟩ := Vm.repr_bl (b := b) S
  have : reprA (.bl b) S = ⟨(reprA (.bl b) S).ok, (reprA (.bl b) S).v⟩ := rfl
  rw [this, c, eq_true a]
theorem addA_rl {l : Addr} {xs ys : List AV} {S : Store} (h : S l = some (.lst xs)) : addA (.ref l) (.lst ys) S = ⟨xs.length + ys.length ≤ sizeLine, .lst (xs ++ ys)⟩ := by
  show catA (wstA S (.ref l)) (some ys) = _
  rw [wstA_ref h]
  rfl
theorem sgn_val {z : Str} {k n : Nat} (hl : z.length ≤ n) (hn : n ≤ 100000) (hc : ∀ c ∈ z.cps.toList, Vm.chB c = true) : Vm.isVal (.str z) k = true ∧ Vm.cnt (.str z) ≤ 1 + n := by
  refine ⟨?_, by show 1 + z.length ≤ _; omega⟩
  show (decide (z.length ≤ 100000) && z.cps.toList.all Vm.chB) = true
  rw [decide_eq_true (by omega), List.all_eq_true.mpr hc]
  rfl
end L3

set_option Elab.async false
set_option linter.all false
set_option maxRecDepth 100000
set_option maxHeartbeats 2000000
set_option autoImplicit false
/-! L3Q: own exceptions over ValueError whose __init__ says super().__init__(value); self.value = value. -/
namespace L3
open PySem L2 PyProof.Rows
namespace XI
section
open PySem.W
/-- ValueError's own way to begin, held by x -/
abbrev wrapV (x : Addr) : Obj := { cls := .type "method-wrapper", dict := none, data := .fields #[.builtin "ValueError.__init__", .ref x], slots := #[] }
theorem tyV : typeOf (.builtin "ValueError.__init__") = pure (.type "wrapper_descriptor") := by
  show builtinType _ = _
  rw [builtinType_eq_fast]
  kernel_rfl
theorem nameV : (kfb_private% "nameAndClass") (Value.builtin "ValueError.__init__") = (pure (("__init__" : Str), Value.type "ValueError") : Sem (Str × Value)) := by kernel_rfl
theorem alongV (K : Frag) : alongIn K "__init__" PySem.HandSPX.veTail = some (some (.builtin "ValueError.__init__")) := by kernel_rfl
variable {prog : Program} {w : World} {A : Around} {E : Value → Shared → Prop} {h : Heap} {g : Array GenState} {d : Drawn} {t : Nat} {os : OsState}
theorem getV {x C : Addr} {P : Fin → Shared → Prop} (hin : Looks (model prog w) h (isInstance (.ref x) (.type "ValueError")) true) (hq : P (.done (.ret (.ref h.objs.size))) ⟨h.push (wrapV x), g, d, t, os⟩) :
    wpAny (model prog w) A (Builtin.«wrapper_descriptor.__get__» ⟨[.builtin "ValueError.__init__", .ref x, .ref C], []⟩) P E ⟨h, g, d, t, os⟩ := by
  unfold Builtin.«wrapper_descriptor.__get__»
  refine wpAny_bind (wpAny_of_eq (a := (.builtin "ValueError.__init__", some (.ref x), some (.ref C))) (by first | rfl | kernel_rfl) ?_)
  show wpAny _ A ((kfb_private% "checkInstance") (.builtin "ValueError.__init__") (.ref x) >>= fun _ => newFields "method-wrapper" [.builtin "ValueError.__init__", .ref x] >>= fun r => ret r) P E _
  refine wpAny_bind ?_
  show wpAny _ A ((kfb_private% "nameAndClass") (.builtin "ValueError.__init__") >>= _) _ E _
  refine wpAny_bind (wpAny_of_eq nameV ?_)
  show wpAny _ A (isInstance (.ref x) (.type "ValueError") >>= _) _ E _
  refine wpAny_bind (hin.at (KFB.if_not rfl (wpAny_pure ?_)))
  exact wpAny_bind (wpAny_newObj_type (wpAny_pure hq))
/-- super's look for __init__ finds it -/
theorem lookV {so D x C : Addr} {l₀ l : List Value} {K : Frag} {tk : Tok} {name : Str} {Q : Fin → Shared → Prop} (hf : alongIn K name l = some (some (.builtin "ValueError.__init__"))) (hn : (name == ("__class__" : Str)) = false) (hso : h.get? so = some (ks_superObj D x C)) (hno : Looks (model prog w) h (opaqueClassAbove (.ref C)) none)
    (hC : Looks (model prog w) h (mroOf (.ref C)) l₀) (hl : (l₀.dropWhile (· != .ref D)).drop 1 = l) (X : K.In h) (hxC : x ≠ C) (hin : Looks (model prog w) h (isInstance (.ref x) (.type "ValueError")) true)
    (hq : Q (.done (.ret (.ref h.objs.size))) ⟨h.push (wrapV x), g, d, t, os⟩) : wpAny (model prog w) A (Builtin.«super.__getattribute__» ⟨[.ref so, .str name tk], []⟩) Q E ⟨h, g, d, t, os⟩ := by
  have hlk := PySem.ESX.slot_wd.lookup
  have hne : (Value.ref x == Value.ref C) = false := by simp [hxC]
  have hTf := tyV
  have hTi : Shared.TypeIs ⟨h, g, d, t, os⟩ (.builtin "ValueError.__init__") "wrapper_descriptor" := tyV
  have h0 : (#[.ref D, .ref x, .ref C] : Array Value)[0]? = some (.ref D) := rfl
  have h1 : (#[.ref D, .ref x, .ref C] : Array Value)[1]? = some (.ref x) := rfl
  have h2 : (#[.ref D, .ref x, .ref C] : Array Value)[2]? = some (.ref C) := rfl
  have hdt : (ks_superObj D x C).data = .fields #[.ref D, .ref x, .ref C] := rfl
  unfold Builtin.«super.__getattribute__»
  repeat (first
    | (with_reducible refine wpAny_field hso hdt h0 ?_)
    | (with_reducible refine wpAny_field hso hdt h1 ?_)
    | (with_reducible refine wpAny_field hso hdt h2 ?_)
    | (with_reducible refine PySem.ks_wpAny_notOpaque hno ?_)
    | (with_reducible refine Looks.at hC ?_
       rw [hl])
    | (refine PySem.ks_forIn_along X (fun _ _ => rfl) rfl ?_ hf)
    | (with_reducible refine wpAny_call_entry PySem.ESX.slot_wd hTi PySem.ESX.entry_wd ?_ (PySem.ESX.args_wd _ _ _))
    | (with_reducible refine getV hin ?_)
    | (with_reducible refine ⟨_, rfl, ?_⟩)
    | (simp only [hn, hne, Bool.or_false, Bool.false_eq_true, if_false])
    | wp_step
    | dsimp only)
  all_goals exact hq
theorem methV {so D x C : Addr} {l₀ l : List Value} {K : Frag} {name : Str} {pl : Sem Bool} {Q : Value × List Value → Shared → Prop} (hf : alongIn K name l = some (some (.builtin "ValueError.__init__"))) (hn : (name == ("__class__" : Str)) = false) (hso : h.get? so = some (ks_superObj D x C)) (hno : Looks (model prog w) h (opaqueClassAbove (.ref C)) none)
    (hC : Looks (model prog w) h (mroOf (.ref C)) l₀) (hl : (l₀.dropWhile (· != .ref D)).drop 1 = l) (X : K.In h) (hxC : x ≠ C) (hin : Looks (model prog w) h (isInstance (.ref x) (.type "ValueError")) true)
    (hq : Q (.ref h.objs.size, []) ⟨h.push (wrapV x), g, d, t + 1, os⟩) : wpAny (model prog w) A (getMethod (.ref so) name pl) Q E ⟨h, g, d, t, os⟩ := by
  have look := PySem.F.ks_slot_super_ga.lookup
  have isS : ∀ t', (⟨h, g, d, t', os⟩ : Shared).TypeIs (.ref so) "super" := fun _ => ⟨_, hso, rfl⟩
  unfold getMethod
  refine wpAny_bind (wpAny_specialOf (isS _) look ?_)
  show wpAny _ _ (if (Manifest.canonical "super.__getattribute__" != "object.__getattribute__") = true then _ else _) _ _ _
  rw [if_pos PySem.F.ks_canon_super_ga]
  unfold getAttr getAttrBy
  refine wpAny_bind (wpAny_bind (wpAny_mkText (wpAny_holding (wpAny_bind (wpAny_typeOf (isS _) (wpAny_bind (wpAny_of_eq look ?_)))))))
  show wpAny _ _ (getAttrByItsOwn (.ref so) (.str name t) (.type "super") (.builtin "super.__getattribute__") true false) _ _ _
  unfold getAttrByItsOwn hookBefore callGetattribute boundAndCalled
  refine wpAny_bind (wpAny_of_eq (show (if onTheHeap (.type "super") then typeLookup (.type "super") "__getattr__" else pure none) = pure none from rfl) (wpAny_bind (wpAny_attempt (wpAny_holding ?_))))
  show wpAny _ _ (bindSpecial (.builtin "super.__getattribute__") (.ref so) >>= _) _ _ _
  refine wpAny_bind (wpAny_of_eq (PySem.F.ks_slot_super_ga.bind _) ?_)
  refine wpAny_mono (Q := fun v s' => v = .ref h.objs.size ∧ s' = ⟨h.push (wrapV x), g, d, t + 1, os⟩) (E := fun _ _ => False)
    (wpAny_call_entry PySem.F.ks_slot_super_ga (isS _) PySem.F.ks_entry_super_ga (lookV hf hn hso hno hC hl X hxC hin ⟨_, rfl, rfl, rfl⟩) (PySem.F.ks_gaArgs_super _ _)) (fun v s' ⟨e1, e2⟩ => ?_) fun _ _ z => z.elim
  subst e1 e2
  exact wpAny_pure (wpAny_pure hq)
end
section
open PySem.W PySem.Calls
variable {prog : Program} {w : World} {M : Model} {A : Around} {E : Value → Shared → Prop} {s : Shared}
/-- the call's arguments, then the call -/
theorem callWithV {pos : Pos} {u x : Addr} {env : Env} {e : Expr} {Q : Value → Shared → Prop}
    (h : wpAny M A (eval e env) (fun v s₁ => s₁.heap.get? u = some (wrapV x) ∧ wpAny M A (call (.ref u) [v]) Q E s₁) E s) (he : starEach [e] env = (false, eval e env) :: starEach [] env := by rfl) :
    wpAny M A (callWith pos (.ref u) [] (backTo pos (starEach [e] env)) []) Q E s := by
  have any0 : (backTo pos (starEach ([] : List Expr) env)).any (·.1) = false := by rfl
  rw [he]
  have args : wpAny M A (evalArgs (.ref u) true (backTo pos ((false, eval e env) :: starEach [] env)) []) (fun a s₁ => s₁.heap.get? u = some (wrapV x) ∧ wpAny M A (call (.ref u) ([] ++ a.pos) a.kw) Q E s₁) E s := by
    refine evalArgs_plain (spliced_cons (wpAny_mono h (fun v s₁ h₁ => spliced_nil ⟨h₁.1, h₁.2⟩) fun _ _ z => z))
  unfold callWith
  refine wpAny_bind (wpAny_holding (wpAny_mono args (fun a s₁ h₁ => wpAny_bind (wpAny_standAt ?_)) fun _ _ z => z))
  obtain ⟨ho, hcall⟩ := h₁
  have any1 : (backTo pos ((false, eval e env) :: starEach [] env)).any (·.1) = false := by
    show (false || (backTo pos (starEach [] env)).any (·.1)) = false
    rw [any0]
    rfl
  simp only [any1, List.any_nil, Bool.or_false]
  refine wpAny_bind (m := keeperOf (.ref u)) ?_
  unfold keeperOf
  refine wpAny_bind (wpAny_load ho ?_)
  simp only [wrapV, show (Value.type "method-wrapper" != Value.type "method") = true by decide, show (Value.type "method-wrapper" == Value.type "builtin_function_or_method" || Value.type "method-wrapper" == Value.type "method-wrapper") = true by decide, if_true]
  refine wpAny_pure (wpAny_bind (wpAny_mono hcall (fun r s₂ hr => ?_) fun _ _ z => z))
  exact wpAny_bind (wpAny_holding (wpAny_point (wpAny_pure hr)))
end
section
open PySem.W
variable {prog : Program} {w : World} {A : Around} {E : Value → Shared → Prop} {h : Heap} {g : Array GenState} {d : Drawn} {t : Nat} {os : OsState}
variable {nm q : Str} {C N : Addr} {bs bm : List Value} {hdct : Bool} {sn : List Str} {sub : List Value} {ab : Bool} {col : Option Bool} {dd : Option Addr} {k0 k1 k2 k3 k5 : Option Value}
theorem checkV {M : Model} {e : Addr} {oe : Obj} {rest : List Value} {Q : Unit → Shared → Prop} (hC : h.get? C = some (excClassObj nm q C N bs bm hdct sn sub ab col dd k0 k1 k2 k3 k5 "ValueError.__new__")) (he : h.get? e = some oe) (hcls : oe.cls = .ref C) (hq : Q () ⟨h, g, d, t, os⟩) :
    wpAny M A (checkBoundCall "ValueError.__init__" ⟨.ref e :: rest, []⟩) Q E ⟨h, g, d, t, os⟩ := by
  have FB := PySem.F.excBase_ValueError
  have short := FB.noStar
  simp only [checkBoundCall, FB.initKind, FB.initRow]
  repeat (first
    | (with_reducible refine wpAny_loadPart_at he ?_
       rw [hcls])
    | with_reducible refine wpAny_loadPart_at hC ?_
    | wp_step)
  refine wpAny_onRaise ?_
  rw [show ∀ (a b : String) (n : Nat), Bind.check ⟨.positional, "*", "ValueError", .self, [⟨"args", .varPos, false⟩]⟩ a b n (List.map (fun x => x.fst) ({ pos := Value.ref e :: rest } : Args).kw) = pure () from fun a b n => check_star_args _ _ _ _ _ _]
  exact wpAny_pure hq
theorem callV {u e t0 : Addr} {rest : List Value} {Q : Value → Shared → Prop} (hC : h.get? C = some (excClassObj nm q C N bs bm hdct sn sub ab col dd k0 k1 k2 k3 k5 "ValueError.__new__")) (he : h.get? e = some (PySem.HandSPX.excO C t0)) (hu : h.get? u = some (wrapV e)) (hrest : rest.length ≤ sizeLine)
    (hq : ∀ h' t1, (∀ b o, b ≠ e → h.get? b = some o → h'.get? b = some o) → h'.get? e = some (PySem.HandSPX.excO C t1) → Q .none ⟨h', g, d, t, os⟩) : wpAny (model prog w) A (call (.ref u) rest) Q E ⟨h, g, d, t, os⟩ := by
  refine wpAny_call (codeAny_of_tree ?_)
  show wpAny _ A.in1 (callAny (.ref u) ⟨rest, []⟩) _ _ _
  simp only [callAny]
  refine wpAny_bind (wpAny_load hu ?_)
  simp only [wrapV, show (Value.type "method-wrapper" == Value.type "method" || Value.type "method-wrapper" == Value.type "builtin_function_or_method" || Value.type "method-wrapper" == Value.type "method-wrapper") = true by decide, if_true]
  refine KFB.if_so (by decide) (wpAny_bind (checkV hC he rfl (wpAny_bind (wpAny_pure (wpAny_pure ⟨Code.quiet_builtin _ (by decide +kernel), codeAny_builtin PySem.F.excBase_ValueError.initEntry ?_⟩)))))
  rw [Around.under_plainId PySem.F.excBase_ValueError.init.plain _]
  wp_walk
  refine hq _ h.objs.size (fun b o hb ho => ?_) ?_
  · rw [Heap.get?_update_other _ _ (Ne.symm hb)]
    exact Heap.get?_push_of_some _ ho
  · rw [Heap.get?_update_self _ (Heap.get?_push_of_some _ he) rfl]
    rfl
end
end XI
end L3

set_option Elab.async false
set_option linter.all false
set_option maxRecDepth 100000
set_option maxHeartbeats 2000000
set_option autoImplicit false
/-! L3R: that __init__ as it runs. -/
namespace L3
open PySem L2 PyProof.Rows
namespace XI
/-- the two statements of that __init__ -/
abbrev initBody (p0 p1 p2 p3 p4 p5 p6 p7 p8 p9 : Pos) : List Stmt :=
  [.Expr (.Call (.Attribute (.Call (.Name "super" p0) [] [] p1) "__init__" p2) [.Name "value" p3] [] p4) p5, .Assign [.Attribute (.Name "self" p6) "value" p7] (.Name "value" p8) p9]
section
open PySem.W PySem.Calls
/-- what is known of an own class C over D over ValueError -/
structure Kind (K : Frag) (C D : Addr) : Prop where
  cls : ∃ nm q N bs bm sn sub ab col dd k0 k1 k2 k3 k5, K.lookup C = some (excClassObj nm q C N bs bm true sn sub ab col dd k0 k1 k2 k3 k5 "ValueError.__new__") ∧ PySem.HandSPX.refsVE bm = true ∧ ((Value.ref C :: bm).dropWhile (· != .ref D)).drop 1 = PySem.HandSPX.veTail ∧ (Value.ref C :: bm).contains (.ref D) = true
  sa : findIn K (.ref C) "__setattr__" = some (some (.builtin "object.__setattr__"))
  no : findIn K (.ref C) "value" = some none
variable {prog : Program} {w : World} {A : Around} {R : Result → Shared → Prop} {s : Shared} {K : Frag} {mg : Str → Option Value} {C D f x cc cda t0 : Addr} {u : Value} {oc kV doc pm ct ccl cl : Value} {od an cdd cld : Option Addr} {osl ccs csl : Array (Option Value)} {vs : Array Value} {file : Str} {tf : Tok} {qual : Str}
  {params : Arguments} {scope : Scope} {p0 p1 p2 p3 p4 p5 p6 p7 p8 p9 : Pos} {ar : Arg} {cdD : ClassData}
theorem beginV (T : Kind K C D) (X : K.In s.heap) (G : s.heap.Ns mainGlobals mg) (B : ∃ mb, s.heap.Ns builtinsNs mb ∧ ∀ y : Str, y ≠ "__name__" → mb y = bootBuiltins y) (NL : s.heap.NoLimit) (hroom : A.depth < recursionLimit)
    (ho : K.lookup f = some ⟨oc, od, .func (fnX "__init__" qual params (initBody p0 p1 p2 p3 p4 p5 p6 p7 p8 p9) scope [("__class__", cc)] .none kV doc pm an (.ref cda) ct), osl⟩) (hcd : codeIn K (.ref cda) qual = true)
    (hp : (params.posonlyargs ++ params.args).head? = some ar) (har : ar.arg = "self")
    (hbind : BindsTo s (fnX "__init__" qual params (initBody p0 p1 p2 p3 p4 p5 p6 p7 p8 p9) scope [("__class__", cc)] .none kV doc pm an (.ref cda) ct) ⟨[.ref x, u], []⟩ [("self", .ref x), ("value", u)])
    (hcode : K.lookup cda = some ⟨ccl, cdd, .fields vs, ccs⟩) (hvs : vs[2]? = some (.str file tf)) (hfile : ((prog.main.file : Str) == file) = true) (hcell : K.lookup cc = some ⟨cl, cld, .cell (some (.ref D)), csl⟩) (hD : clsIn K D = some cdD)
    (hno : nsIn K cStatics "thirdparty.any" = some none) (hsup : mg "super" = none) (htop : (prog.main.scope.names.lookup ("super" : Str)).isSome = false)
    (hks : scope.names.lookup ("super" : Str) = some .globalImplicit) (hkc : scope.names.lookup ("__class__" : Str) = some .free) (hka : scope.names.lookup ("self" : Str) = some .local) (hkv : scope.names.lookup ("value" : Str) = some .local)
    (hkind : scope.kind = .function) (hcells : ∀ x ∈ scope.names, x.2 ≠ .cell) (hco : scope.isCoroutine = false) (hgen : scope.isGenerator = false)
    (hx : s.heap.get? x = some (PySem.HandSPX.excO C t0)) (hKx : K.lookup x = none)
    (i1 : ∀ L, interactive (envX qual scope L f (.ref cda) [("__class__", cc)]) = false) (i2 : ∀ L, swapsWith (.Call (.Attribute (.Call (.Name "super" p0) [] [] p1) "__init__" p2) [.Name "value" p3] [] p4) none p5.line (envX qual scope L f (.ref cda) [("__class__", cc)]) = pure false)
    (i3 : ∀ L, ∃ pl : Sem Bool, eval (.Call (.Attribute (.Call (.Name "super" p0) [] [] p1) "__init__" p2) [.Name "value" p3] [] p4) (envX qual scope L f (.ref cda) [("__class__", cc)]) = (do
      let ov ← attributeBase (.Call (.Name "super" p0) [] [] p1) "__init__" (envX qual scope L f (.ref cda) [("__class__", cc)]) (eval (.Call (.Name "super" p0) [] [] p1) (envX qual scope L f (.ref cda) [("__class__", cc)]))
      standAt p2.atName
      let (f', first) ← holding [ov] (getMethod ov "__init__" pl)
      callWith p4 f' first (backTo p4 (starEach [.Name "value" p3] (envX qual scope L f (.ref cda) [("__class__", cc)]))) []))
    (i4 : ∀ L, swapsWith (.Name "value" p8) (some (.Attribute (.Name "self" p6) "value" p7)) p9.line (envX qual scope L f (.ref cda) [("__class__", cc)]) = pure false)
    (hq : ∀ h' tk' dx t1, (∀ b o, b ≠ x → s.heap.get? b = some o → h'.get? b = some o) → s.heap.get? dx = none → dx ≠ x → h'.get? x = some ({ cls := .ref C, dict := some dx, data := .fields #[.ref t1, .none, .none, .none, .bool false, .none] } : Obj) →
      h'.Ns1 dx (fun y => if y = ("value" : Str) then some u else none) → R (.ok (.ret .none)) { s with heap := h', toks := tk' }) :
    codeAny (model prog w) A (.call (.ref f) ⟨[.ref x, u], []⟩) R s := by
  obtain ⟨nm, q, N, bs, bm, sn, sub, ab, col, dd, k0, k1, k2, k3, k5, hCl, hbm, hdrop, hcont⟩ := T.cls
  have hclsC : clsIn K C = some { name := nm, bases := bs, mro := .ref C :: bm, ns := N, qualname := q, hasDict := true, slotNames := sn, subclasses := sub, abstract := ab, collection := col, hasDel := false } := by
    unfold clsIn
    rw [hCl] <;> rfl
  obtain ⟨oD, hDo, hDd⟩ : ∃ oD, K.lookup D = some oD ∧ oD.data = .cls cdD := by
    unfold clsIn at hD
    split at hD
    · rename_i ho'
      cases hD
      exact ⟨_, ho', rfl⟩
    · cases hD
  have hsub : mroIn K C (.ref D) = some true := by
    unfold mroIn
    rw [hclsC, Option.bind_some, if_neg (by simp), hcont]
  have hve : mroIn K C (.type "ValueError") = some true := by
    unfold mroIn
    rw [hclsC, Option.bind_some, if_neg (by simp)]
    show some ((Value.ref C :: bm).contains (.type "ValueError")) = some true
    rw [PySem.HandSPX.refsVE_contains "ValueError" (.ref C :: bm) hbm]
    rfl
  have hxC : x ≠ C := fun e => by rw [e, hCl] at hKx; cases hKx
  have in_of : ∀ {h' : Heap}, (∀ b o, b ≠ x → s.heap.get? b = some o → h'.get? b = some o) → K.In h' := fun k b o e => k b o (fun z => by rw [z, hKx] at e; cases e) (X b o e)
  refine PySem.ks_codeAny_call_defAt (binds := [("self", .ref x), ("value", u)]) hroom (X _ _ ho) rfl NL (codeRec_of X hcd) rfl hbind hcells (fun y hy => ?_) (fun h₀ hns hk => ?_) hco hgen hkind
  · rcases List.mem_cons.mp hy with rfl | hy
    · exact hka
    · rw [List.mem_singleton.mp hy]
      exact hkv
  have X₀ : K.In h₀ := in_of fun b o _ e => hk b o e
  have up₀ : ∀ {b : Addr} {m : Str → Option Value}, s.heap.Ns b m → h₀.Ns b m := fun hn => hn.keeps hk
  have hself : (fun y => ([("self", Value.ref x), ("value", u)] : List (Str × Value)).reverse.lookup y) ("self" : Str) = some (.ref x) := by
    show List.lookup ("self" : Str) [("value", u), ("self", Value.ref x)] = _
    rw [List.lookup_cons, show (("self" : Str) == "value") = false by decide +kernel]
    show List.lookup ("self" : Str) [("self", Value.ref x)] = _
    rw [List.lookup_cons, show (("self" : Str) == "self") = true by decide +kernel]
  have hvalue : (fun y => ([("self", Value.ref x), ("value", u)] : List (Str × Value)).reverse.lookup y) ("value" : Str) = some u := by
    show List.lookup ("value" : Str) [("value", u), ("self", Value.ref x)] = _
    rw [List.lookup_cons, show (("value" : Str) == "value") = true by decide +kernel]
  show _root_.PySem.wpAt (model prog w) (A.deeper (envX qual scope s.heap.objs.size f (.ref cda) [("__class__", cc)])) (.func (initBody p0 p1 p2 p3 p4 p5 p6 p7 p8 p9) (envX qual scope s.heap.objs.size f (.ref cda) [("__class__", cc)])) (execs (initBody p0 p1 p2 p3 p4 p5 p6 p7 p8 p9) (envX qual scope s.heap.objs.size f (.ref cda) [("__class__", cc)])) _ _ _
  obtain ⟨hp0, g, d, t, os⟩ := s
  obtain ⟨mb, hmb, hbb⟩ := B
  obtain ⟨pl, i3⟩ := i3 hp0.objs.size
  refine PySem.ks_wpAt_execs_cons (PySem.ks_wpAt_Expr_any (PySem.ks_wpAt_MethodCall (pl := pl) (PySem.ks_wpAt_super_base (env := envX qual scope hp0.objs.size f (.ref cda) [("__class__", cc)]) hks hkc (by decide +kernel) rfl (X₀ _ _ ho) rfl hp rfl (X₀ _ _ hcode) rfl hvs hfile htop ?_) i3) (i1 _) (i2 _))
  refine ks_loadName_global hkind hks (loadGlobal_builtin (env := envX qual scope hp0.objs.size f (.ref cda) [("__class__", cc)]) (up₀ G) hsup (up₀ hmb) ((hbb _ (by decide +kernel)).trans (show bootBuiltins "super" = some (.type "super") by decide +kernel)) ⟨rfl, ?_⟩)
  refine wpAny_loadName_free hkind hkc rfl ⟨_, X₀ _ _ hcell, rfl⟩ ?_
  rw [har]
  refine wpAny_loadName_local hkind hka hns hself ?_
  refine PySem.ks_wpAny_isType_cls (X₀ _ _ hDo) hDd ⟨rfl, ?_⟩
  have hx₀ : h₀.get? x = some (PySem.HandSPX.excO C t0) := hk _ _ hx
  refine PySem.ks_wpAny_call_super (X₀ _ _ hDo) hDd hx₀ rfl (fun c e => by cases e) (looks_mroIn X₀ hsub) (fun h1 e1 k1 => ?_)
  have X₁ : K.In h1 := X₀.keeps k1
  have I₁ : InstAt h1 x (PySem.HandSPX.excO C t0) C none := ⟨k1 _ _ hx₀, rfl, rfl, trivial⟩
  refine methV (alongV K) (by decide +kernel) e1 (looks_opaque X₁ hno) (l₀ := .ref C :: bm) (fun A Q E s k z => wpAny_bind ((looks_clsIn X₁ hclsC) A _ E s k (wpAny_pure z))) hdrop X₁ hxC (I₁.type.andThen (looks_mroIn X₁ hve)) ?_
  have k2 : ∀ b o, h1.get? b = some o → (h1.push (wrapV x)).get? b = some o := fun b o e => Heap.get?_push_of_some _ e
  have hns2 : (h1.push (wrapV x)).Ns hp0.objs.size (fun y => ([("self", Value.ref x), ("value", u)] : List (Str × Value)).reverse.lookup y) := (hns.keeps k1).keeps k2
  refine callWithV (x := x) (wpAny_Name (wpAny_loadName_local hkind hkv hns2 hvalue ⟨Heap.get?_push_at rfl rfl, ?_⟩) (by decide))
  refine callV (X₁.keeps k2 _ _ hCl) (k2 _ _ (k1 _ _ hx₀)) (Heap.get?_push_at rfl rfl) (by show 1 ≤ sizeLine; rw [sizeLine_eq]; omega) (fun h3 t1 k3 e3 => ?_)
  have kk : ∀ b o, b ≠ x → hp0.get? b = some o → h3.get? b = some o := fun b o n e => k3 b o n (k2 _ _ (k1 _ _ (hk _ _ e)))
  have X₃ : K.In h3 := in_of kk
  have hL : hp0.objs.size ≠ x := Nat.ne_of_gt (Heap.lt_size (h := hp0) hx)
  have hns3 : h3.Ns hp0.objs.size (fun y => ([("self", Value.ref x), ("value", u)] : List (Str × Value)).reverse.lookup y) := by
    obtain ⟨o, es, ep, e, r⟩ := hns2
    exact ⟨o, es, ep, k3 _ _ hL e, r⟩
  refine PySem.ks_wpAt_execs_cons (wpAt_of_wpAny (plainObj_wpAny_Assign_Attribute (wpAny_Name (wpAny_loadName_local hkind hkv hns3 hvalue (wpAny_Name (wpAny_loadName_local hkind hka hns3 hself ?_) (by decide))) (by decide)) (i4 _)))
  refine set_plain X₃ (ox := PySem.HandSPX.excO C t1) (od := none) ⟨e3, rfl, rfl, trivial⟩ T.sa ?_
  refine PySem.HandSPX.exc_osa X₃ e3 hclsC hbm rfl T.no (fun h4 tk dx k4 hd1 hd2 hx4 hn4 => ?_)
  refine wpAt_of_wpAny (wpAny_execs_nil ?_)
  refine hq h4 tk dx t1 (fun b o n e => k4 b o n (kk b o n e)) ?_ hd2 hx4 hn4
  cases z : hp0.get? dx with
  | none => rfl
  | some o =>
    have lt : dx < h3.objs.size := Heap.lt_size (kk dx o hd2 z)
    have ge : h3.objs.size ≤ dx := hd1
    omega
end
end XI
end L3

set_option Elab.async false
set_option linter.all false
set_option maxRecDepth 100000
set_option maxHeartbeats 2000000
set_option autoImplicit false
/-! L3S: defs that raise, try, over L3. -/
namespace L3
open PySem L2 PyProof.Rows
variable {bb : Birth}
open XI in
/-- the __init__ of D at f, as it runs for an exception of a kind C -/
structure HInit (P : Program) (w : World) (K : PySem.W.Frag) (mg : Str → Option Value) (D f : Addr) : Prop where
  run : ∀ {A : Around} {R : Result → Shared → Prop} {s : Shared} {C x t0 : Addr} {u : Value}, Kind K C D → K.In s.heap → s.heap.Ns mainGlobals mg → (∃ mb, s.heap.Ns builtinsNs mb ∧ ∀ y : Str, y ≠ "__name__" → mb y = bootBuiltins y) → s.heap.NoLimit → A.depth < recursionLimit →
    s.heap.get? x = some (PySem.HandSPX.excO C t0) → K.lookup x = none →
    (∀ h' tk' dx t1, (∀ b o, b ≠ x → s.heap.get? b = some o → h'.get? b = some o) → s.heap.get? dx = none → dx ≠ x → h'.get? x = some ({ cls := .ref C, dict := some dx, data := .fields #[.ref t1, .none, .none, .none, .bool false, .none] } : Obj) →
      h'.Ns1 dx (fun y => if y = ("value" : Str) then some u else none) → R (.ok (.ret .none)) { s with heap := h', toks := tk' }) →
    codeAny (model P w) A (.call (.ref f) ⟨[.ref x, u], []⟩) R s
  ty : PySem.W.typeIn K (.ref f) = some (.type "function")
/-- a class that may be raised -/
structure Exn (P : Program) (w : World) (K : PySem.W.Frag) (mg : Str → Option Value) (D f : Addr) (C : Addr) : Prop where
  kind : XI.Kind K C D
  ini : PySem.W.findIn K (.ref C) "__init__" = some (some (.ref f))
  kp : PySem.W.keepIn K (.ref C) = true
  sub : PySem.W.subIn K (.ref C) (.type "BaseException") = some true
  ty : PySem.W.typeIn K (.ref C) = some (.type "type")
  xf : XfC K C
/-- d: the dict of an exception that keeps v -/
def XdIs (K : PySem.W.Frag) (H : Hp) (S : Store) (d : Addr) (v : AV) : Prop := S d = none ∧ ∃ y, H d = some (.xd [(("value" : Str), y)]) ∧ RelA K H S y v
/-- C(e) -/
def tMkV (C : Addr) (te : TE) : L2.St → Hp → XK → Prop := fun σ H Q => te σ H fun y H1 => ∀ d, H1 d = none → Q (.ref C) (some d) (upd H1 d (.xd [(("value" : Str), y)]))
theorem rel_look {y : V} {u : Value} (r : RelV y u) (f : Str) : RelO (([(("value" : Str), y)] : List (Str × V)).lookup f) (if f = ("value" : Str) then some u else none) := by
  by_cases h : f = "value"
  · subst h
    rw [if_pos rfl, show List.lookup ("value" : Str) [(("value" : Str), y)] = some y by simp [List.lookup]]
    exact r
  · rw [if_neg h]
    have e : (f == ("value" : Str)) = false := by simpa using h
    rw [show List.lookup f [(("value" : Str), y)] = none by simp [List.lookup, e]]
    exact True.intro
section
variable {X : Cx} {C D f : Addr} {x : Str} {e : Expr} {te : TE} {p pos : Pos}
theorem pmkV (HI : HInit X.prog X.w X.K X.mg D f) (T : Exn X.prog X.w X.K X.mg D f C) (hm : X.mg x = some (.ref C)) (hr : Room 1 X.A) (he : PE X e te) (hg : Gl X x := by rfl) (hdb : (x == ("__debug__" : Str)) = false := by decide)
    (hs : starEach [e] X.env = (false, eval e X.env) :: starEach [] X.env := by rfl) : PMk X (.Call (.Name x p) [e] [] pos) (tMkV C te) := by
  intro pins s σ H Q I h
  obtain ⟨nm, q, N, bs, bm, sn, sub, ab, col, dd, k0, k1, k2, k3, k5, hC, hbm, _, _⟩ := T.kind.cls
  refine wpAny_Call_Name_kw (ld_glob I hg hm ?_ hdb)
  refine PySem.W.callWith_K (h₀ := X.base) I.ok.mod.kin T.kp ?_ hs (by rfl)
  rw [hs]
  show wpAny _ _ (spliced ((false, eval e X.env) :: backTo pos (starEach [] X.env))) _ _ s
  refine Calls.spliced_cons (thn (he.run pins s σ H _ I h) fun u s1 ⟨y, H1, I1, r1, q1⟩ => Calls.spliced_nil ⟨I1.kIn, ?_⟩)
  show wpAny _ _ (call (.ref C) [u]) _ _ _
  obtain ⟨hp, g, dr, tk, os⟩ := s1
  have env := I1.env0
  have kk : ∀ b o, hp.get? b = some o → ((hp.push (PySem.W.kdv_tup [u])).push (PySem.HandSPX.excO C hp.objs.size)).get? b = some o := fun b o z => Heap.get?_push_of_some _ (Heap.get?_push_of_some _ z)
  have base : ∀ b o, X.base.get? b = some o → ((hp.push (PySem.W.kdv_tup [u])).push (PySem.HandSPX.excO C hp.objs.size)).get? b = some o := fun b o z => kk b o (env.bs b o z).1
  have hget : ((hp.push (PySem.W.kdv_tup [u])).push (PySem.HandSPX.excO C hp.objs.size)).get? (hp.objs.size + 1) = some (PySem.HandSPX.excO C hp.objs.size) := by heap_get
  have newx : ∀ o, hp.get? (hp.objs.size + 1) ≠ some o := fun o z => absurd (Heap.lt_size z) (Nat.not_lt.mpr (Nat.le_succ _))
  refine wpAny_call (PySem.HandSPX.call_own PySem.F.excBase_ValueError (fun Y => PySem.HandSPX.refsVE_contains Y bm hbm) (I1.kIn _ _ hC) (PySem.W.looks_findIn I1.kIn T.ini) (fun self => PySem.W.bind_fn I1.kIn self HI.ty) (by show 1 ≤ sizeLine; rw [sizeLine_eq]; omega)
    (HI.run T.kind (env.mod.kin.keeps base) (env.mod.glob.keeps base) (by obtain ⟨mb, a, b⟩ := env.mod.blt; exact ⟨mb, a.keeps base, b⟩) (by obtain ⟨mc, a, b⟩ := env.mod.nolimit; exact ⟨mc, a.keeps base, b⟩) (hr.make C [u] []).depth hget (by
      cases z : X.K.lookup (hp.objs.size + 1) with
      | none => rfl
      | some o => exact absurd (I1.kIn _ _ z) (newx o)) fun h' tk' dx t1 k1 hdx hne hx hns => ?_))
  refine ⟨rfl, ?_⟩
  -- the exception stands; the state without it is a state of ours
  obtain ⟨G, g1, g2⟩ := restrict h' fun b => decide (b ≠ hp.objs.size + 1)
  have gk : ∀ b, b ≠ hp.objs.size + 1 → G.get? b = h'.get? b := fun b hb => g1 b (decide_eq_true hb)
  have ge : G.get? (hp.objs.size + 1) = none := g2 _ (by simp)
  have toG : ∀ b o, hp.get? b = some o → G.get? b = some o := fun b o z => by
    have hb : b ≠ hp.objs.size + 1 := fun e => newx o (by rw [← e]; exact z)
    rw [gk b hb]
    exact k1 b o hb (kk b o z)
  have ofG : ∀ b o, G.get? b = some o → h'.get? b = some o := fun b o z => by
    by_cases hb : b = hp.objs.size + 1
    · rw [hb, ge] at z
      cases z
    · rw [← gk b hb]
      exact z
  have hd0 : hp.get? dx = none := by
    cases z : hp.get? dx with
    | none => rfl
    | some o =>
      have h2 : ((hp.push (PySem.W.kdv_tup [u])).push (PySem.HandSPX.excO C hp.objs.size)).get? dx = none := hdx
      rw [kk dx o z] at h2
      cases h2
  have hn1 : H1 dx = none := I1.hok.gone hd0
  have na : H1 (hp.objs.size + 1) = none := I1.hok.fresh (Nat.le_succ _)
  have hnsG : G.Ns1 dx (fun y => if y = ("value" : Str) then some u else none) := hns.at fun o z => (gk dx hne).trans z
  have J : Inv X pins σ (upd H1 dx (.xd [(("value" : Str), y)])) ⟨G, g, dr, tk', os⟩ := I1.laidN (t' := tk') toG hd0 hn1 ⟨_, hnsG, rel_look r1⟩
  exact ⟨hp.objs.size + 1, _, _, ⟨G, g, dr, tk', os⟩, _, .ref C, some dx, rfl, J, ofG, ge, hx, ⟨rfl, rfl⟩, rfl, rfl, by rw [upd_ne (Ne.symm hne)]; exact na, rfl, I1.bare, raises_own T.sub T.ty, q1 dx hn1⟩
end

/-! ### wishes about exceptions -/
abbrev EXw := ASt → Addr → AV → Store → Prop
/-- what is wished of an exception of the class C with v is enough for the context -/
structure TkX (X : Cx) (bb : Birth) (EX : EXw) : Prop where
  ex : ∃ W : WX, Takes X W ∧ ∀ (C d : Addr) (v : AV) (σ : L2.St) (τ : ASt) (H : Hp) (S : Store), Rp (kx X bb) H S σ τ → StOk X.K H S → XdIs X.K H S d v → EX τ C v S → W (.ref C) (some d) σ H
theorem XdIs.step {K : PySem.W.Frag} {H H' : Hp} {S S' : Store} {d : Addr} {v : AV} (x : XdIs K H S d v) (st : Step H S H' S') : XdIs K H' S' d v := let ⟨n, y, h, r⟩ := x; ⟨(st.old d _ n h).2, y, (st.old d _ n h).1, r.step st⟩
/-- raise C(e) -/
def aRaise (C : Addr) (EX : EXw) (ta : AE) : AS := fun _ τ S => ta τ S fun v S1 => EX τ C v S1
section
variable {X : Cx} {C D f : Addr} {x : Str} {e : Expr} {ta : AE} {EX : EXw} {p pos pos2 : Pos}
theorem s_raise (HI : HInit X.prog X.w X.K X.mg D f) (T : Exn X.prog X.w X.K X.mg D f C) (hm : X.mg x = some (.ref C)) (hr : Room 1 X.A) (tk : TkX X bb EX) (he : PE X e (low (kx X bb) ta)) (hc : X.calm = true := by rfl) (hg : Gl X x := by rfl) (hdb : (x == ("__debug__" : Str)) = false := by decide)
    (hs : starEach [e] X.env = (false, eval e X.env) :: starEach [] X.env := by rfl) : PS X (.Raise (some (.Call (.Name x p) [e] [] pos)) none pos2) (lowS (kx X bb) (aRaise C EX ta)) := by
  obtain ⟨W, tw, hw⟩ := tk.ex
  refine (ps_raise hc tw (pmkV HI T hm hr he hg hdb hs)).weak fun DH σ H ⟨τ, S, DA, R, so, q, k⟩ => ⟨τ, S, _, R, so, q, fun y H1 dv S1 so1 st1 r1 q1 => fun d hd => ?_⟩
  exact hw C d dv σ τ _ S1 ((R.step st1).step (step_new so1 hd)) (stok_new so1 hd) ⟨so1.fresh hd, y, upd_same, r1.step (step_new so1 hd)⟩ q1
end

/-! ### promises of defs that raise -/
abbrev ASpX := List AV → Store → AK → (Addr → AV → Store → Prop) → Prop
def spOfX (K : PySem.W.Frag) (asp : ASpX) : Sp := fun vs H QH EH => ∃ ds S Q EX, RelAs K H S vs ds ∧ StOk K H S ∧ asp ds S Q EX ∧ (∀ d S' v H', StOk K H' S' → Step H S H' S' → RelA K H' S' v d → Q d S' → QH v H') ∧
  ∀ C d v H' S', StOk K H' S' → Step H S H' S' → XdIs K H' S' d v → EX C v S' → EH (.ref C) (some d) H'
structure FnGX (P : Program) (w : World) (K : PySem.W.Frag) (mg : Str → Option Value) (base : Heap) (k : Nat) (f : Addr) (fd : FuncData) (ps : List Str) (sp : Sp) : Prop where
  len : ∀ vs H Q E, sp vs H Q E → vs.length = ps.length
  go : ∀ (A : Around), A.guards = some [] → Room k A → ∀ (out : List Env) (s : Shared) (H : Hp) (ar : Args) (us : List Value) (vs : List V) (Q : VK) (E : XK), Env0 P w K mg base A out s H → BindsTo s fd ar (ps.zip us) → Vals vs us → sp vs H Q E →
    codeAny (model P w) A (.call (.ref f) ar) (fun r s' => CR (L2.CX P w) out P w H s Q E r s') s
section
variable {P : Program} {w : World} {K : PySem.W.Frag} {mg : Str → Option Value} {base : Heap}
theorem FnGX.up {j k : Nat} {f : Addr} {fd : FuncData} {ps : List Str} {sp : Sp} (F : FnGX P w K mg base j f fd ps sp) (h : j ≤ k) : FnGX P w K mg base k f fd ps sp := ⟨F.len, fun A g hr => F.go A g (hr.mono h)⟩
/-- a def that may raise, by its body -/
theorem fngx_of {x qual : Str} {st : Stmt} {f : Addr} {fd : FuncData} {N ps : List Str} {k : Nat} {sp : Sp} (F : L2.Fun K x qual st f fd) (S : FnScope N ps (defScope st)) (len : ∀ vs H Q E, sp vs H Q E → vs.length = ps.length)
    (body : ∀ (cdv : Value) (A : Around), A.guards = some [] → ∀ (out : List Env) (s : Shared) (H : Hp) (vs : List V) (Q : VK) (E : XK), Room k (A.deeper (envOfC qual (defScope st) s.heap.objs.size f cdv)) → sp vs H Q E →
      ∃ t, PSs (cxOf (L2.CX P w) P w K mg base N qual (defScope st) f cdv A out s H E) (defBody st) t ∧ t { nx := fun _ H' => Q .non H', rt := Q } (L2.start N vs) H) : FnGX P w K mg base (k + 1) f fd ps sp := by
  obtain ⟨oc, od, kV, doc, pm, an, cdv, ct, osl, rfl, lk, hcd⟩ := F.ex
  refine ⟨len, fun A hgd hr out s H ar us vs Q E e0 hb rv h => ?_⟩
  have kin : K.In s.heap := e0.mod.kin.keeps fun b o z => (e0.bs b o z).1
  have nol : s.heap.NoLimit := e0.mod.nolimit.keeps fun b o z => (e0.bs b o z).1
  have kinds : ∀ y ∈ ps.zip us, (defScope st).names.lookup y.1 = some .local ∨ ((defScope st).names.lookup y.1 = some .cell ∧ ((cellsFrom (s.heap.objs.size + 1) (defScope st).names []).lookup y.1).isSome = true) := by
    intro z hz
    cases S.par z.1 (List.of_mem_zip (a := z.1) (b := z.2) hz).1 with
    | inl q => exact Or.inl q
    | inr q => exact Or.inr ⟨q, PySem.W.cellsFrom_some _ _ _ (Or.inl q)⟩
  refine codeAny_call_function hr.depth (kin _ _ lk) rfl S.co S.gen rfl (PySem.W.codeRec_of kin hcd) (hb _ _ _ _ ?_)
  refine wpAny_newFunctionEnv_cells S.kind kinds fun env he s1 ic => ?_
  subst he
  refine ⟨nol.keeps ic.toInCall.keep, codeAny_func ?_⟩
  obtain ⟨t, ht, q⟩ := body cdv A hgd out s H vs Q E (hr.deeper _) h
  have J0 := inv_start (CX := L2.CX P w) (E := E) S hr.hd e0 (len vs H Q E h) rv ic
  refine wpAny_mono (ht.run [] s1 (L2.start N vs) H _ J0 q) (fun fl s2 z => ?_) fun e s2 z => z
  cases fl with
  | brk => obtain ⟨_, _, _, z⟩ := z; cases z
  | cont => obtain ⟨_, _, _, z⟩ := z; cases z
  | next => obtain ⟨σ2, H2, J, z⟩ := z; exact ⟨V.non, H2, J.os, J.bare, J.base, J.hok, rfl, z⟩
  | ret u => obtain ⟨v, σ2, H2, J, r2, z⟩ := z; exact ⟨v, H2, J.os, J.bare, J.base, J.hok, r2, z⟩
/-- THE RULE for a def that may raise, over L3 -/
theorem _root_.L2.Fun.ok4X {x qual : Str} {st : Stmt} {f : Addr} {fd : FuncData} {N ps : List Str} {k : Nat} {asp : ASpX} (F : L2.Fun K x qual st f fd) (Sc : FnScope N ps (defScope st)) (len : ∀ ds S Q E, asp ds S Q E → ds.length = ps.length)
    (hbody : ∀ (cdv : Value) (A : Around), A.guards = some [] → ∀ (outer : List Env) (s : Shared) (H : Hp) (E : XK) (S : Store) (EX : EXw), Room k (A.deeper (envOfC qual (defScope st) s.heap.objs.size f cdv)) → TkX (cxOf (L2.CX P w) P w K mg base N qual (defScope st) f cdv A outer s H E) (bornAt H S) EX →
      PassesOwn (model P w) (cxOf (L2.CX P w) P w K mg base N qual (defScope st) f cdv A outer s H E).A (cxOf (L2.CX P w) P w K mg base N qual (defScope st) f cdv A outer s H E).env (cxOf (L2.CX P w) P w K mg base N qual (defScope st) f cdv A outer s H E).xe →
      ∃ as, PSs (cxOf (L2.CX P w) P w K mg base N qual (defScope st) f cdv A outer s H E) (defBody st) (lowS ⟨K, bornAt H S⟩ as) ∧ ∀ ds Q EX', asp ds S Q EX' → (∀ τ C v S', EX' C v S' → EX τ C v S') → as { nx := fun _ S' => RtW Q .non S', rt := RtW Q } (startA N ds) S) :
    FnGX P w K mg base (k + 1) f fd ps (spOfX K asp) :=
  fngx_of F Sc (fun vs H Q E h => by obtain ⟨ds, S, Q', EX, r, so, q, _⟩ := h; rw [r.length]; exact len ds S Q' EX q) fun cdv A gd outer s H vs QH E hr h => by
    obtain ⟨ds, S, Q, EX', r, so, q, k, kE⟩ := h
    have tk : TkX (cxOf (L2.CX P w) P w K mg base N qual (defScope st) f cdv A outer s H E) (bornAt H S) (fun _ C v S' => EX' C v S') := ⟨⟨fun cls d _ H => E cls d H, takes_of rfl rfl rfl rfl, fun C d v σ τ H' S' R so' xd ex => kE C d v H' S' so' R.bt xd ex⟩⟩
    obtain ⟨as, hp, ha⟩ := hbody cdv A gd outer s H E S _ hr tk (passes_of rfl)
    have rt : ∀ v H' d S', StOk K H' S' → Step H S H' S' → RelA K H' S' v d → RtW Q d S' → QH v H' := fun v H' d S' so' st' r' ⟨d2, S2, sb, hd, q2⟩ => by
      rcases hd with rfl | ⟨l, ds, rfl, hl, hn, rfl⟩
      · exact k d2 S2 v H' (so'.sub sb) (st'.subR sb) (r'.sub sb) q2
      · obtain rfl := rel_refE r'
        obtain ⟨vs, hv, rv⟩ := so' l _ hl
        exact k _ S2 _ H' (so'.sub sb) (st'.subR sb) (.lst hv hn (rv.sub sb)) q2
    exact ⟨_, hp, startA N ds, S, _, rp_start (k := ⟨K, bornAt H S⟩) Step.refl r, so, ha ds Q EX' q (fun _ _ _ _ h => h), fun σ' H' τ' S' so' st' _ q' => rt .non H' .non S' so' st' .non q', rt, fun _ _ _ _ _ _ _ z => z.elim, fun _ _ _ _ _ _ _ z => z.elim⟩
end
/-- the callee runs -/
theorem run_gx {X : Cx} {k : Nat} {f : Addr} {fd : FuncData} {ps : List Str} {sp : Sp} {E : XK} {pins : List (Addr × Obj)} {σ : L2.St} {H : Hp} {s : Shared} {Q : VK} {us : List Value} {vs : List V} (F : FnGX X.prog X.w X.K X.mg X.base k f fd ps sp) (hg : X.A.guards = some [])
    (hr : Room k X.A) (hb : Binds X.K fd ps []) (hx : PassesAt (L2.CX X.prog X.w) X σ E) (I : Inv X pins σ H s) (r : Vals vs us) (h : sp vs H Q E) : wpAny (model X.prog X.w) X.A (call (.ref f) us) (fun u s' => EP X pins σ Q u s') X.xe s := by
  have hl : (us ++ []).length = ps.length := by rw [List.append_nil, ← r.length]; exact F.len _ _ _ _ h
  have b := hb s us I.kIn hl
  rw [List.append_nil] at b
  refine wpAny_call (codeAny_mono (F.go X.A hg hr X.stack s H ⟨us, []⟩ us vs Q E I.env0 b r h) fun r' s' z => ?_)
  cases r' with
  | error e => exact hx pins H s e s' I z
  | ok fl =>
    cases fl with
    | brk => exact z.elim
    | cont => exact z.elim
    | next => exact z.elim
    | ret u => exact I.after z
structure Fn4X (P : Program) (w : World) (K : PySem.W.Frag) (mg : Str → Option Value) (base : Heap) (k : Nat) (x : Str) (ps : List Str) (asp : ASpX) : Prop where
  ex : ∃ (f : Addr) (fd : FuncData), FnGX P w K mg base k f fd ps (spOfX K asp) ∧ mg x = some (.ref f) ∧ PySem.W.keepIn K (.ref f) = true ∧ Binds K fd ps []
/-- a def that may raise, with its promise -/
structure FnXX (P : Program) (w : World) (K : PySem.W.Frag) (mg : Str → Option Value) (base : Heap) (k : Nat) (x : Str) (st : Stmt) (ps : List Str) (asp : ASpX) : Prop where
  ex : ∃ (f : Addr) (fd : FuncData), L2.Fun K x x st f fd ∧ FnGX P w K mg base k f fd ps (spOfX K asp) ∧ mg x = some (.ref f) ∧ Binds K fd ps []
structure FnMX (P : Program) (w : World) (K : PySem.W.Frag) (mg : Str → Option Value) (base : Heap) (k : Nat) (C : Addr) (m qual : Str) (st : Stmt) (ps : List Str) (asp : ASpX) : Prop where
  ex : ∃ (f : Addr) (fd : FuncData), L2.Fun K m qual st f fd ∧ FnGX P w K mg base k f fd ps (spOfX K asp) ∧ Meth K C m f ∧ Binds K fd ps []
section
variable {P : Program} {w : World} {K : PySem.W.Frag} {mg : Str → Option Value} {base : Heap} {k : Nat} {x m qual : Str} {C : Addr} {st : Stmt} {ps : List Str} {asp : ASpX}
theorem FnXX.f4 (F : FnXX P w K mg base k x st ps asp) : Fn4X P w K mg base k x ps asp := let ⟨f, fd, G, h, hm, hb⟩ := F.ex; ⟨f, fd, h, hm, G.kp, hb⟩
theorem FnXX.of (D : Def K mg x st ps) (h : ∀ f fd, L2.Fun K x x st f fd → FnGX P w K mg base k f fd ps (spOfX K asp)) : FnXX P w K mg base k x st ps asp := let ⟨f, fd, G, hm, hb⟩ := D.ex; ⟨f, fd, G, h f fd G, hm, hb⟩
theorem FnMX.of (D : MethD K C m qual st ps) (h : ∀ f fd, L2.Fun K m qual st f fd → FnGX P w K mg base k f fd ps (spOfX K asp)) : FnMX P w K mg base k C m qual st ps asp := let ⟨f, fd, G, hm, hb⟩ := D.ex; ⟨f, fd, G, h f fd G, hm, hb⟩
end
/-- f(e, ..), f may raise -/
def aCallX (asp : ASpX) (EX : EXw) (t : AA) : AE := fun τ S Q => t τ S fun ds S1 => asp ds S1 Q (EX τ)
def aMethX (C : Addr) (m : Str) (asp : ASpX) (EX : EXw) (to : AE) (t : AA) : AE := fun τ S Q => to τ S fun x S1 => ∃ a fs, x = .ref a ∧ S1 a = some (.ins C fs) ∧ fs.lookup m = none ∧ t τ S1 fun ds S2 => asp (x :: ds) S2 Q (EX τ)
section
variable {X : Cx} {e o : Expr} {es : List Expr} {to : AE} {t : AA} {pos p apos : Pos} {k : Nat} {x m qual : Str} {st : Stmt} {C : Addr} {ps : List Str} {asp : ASpX} {EX : EXw}
theorem f_callX (tk : TkX X bb EX) (F : Fn4X X.prog X.w X.K X.mg X.base k x ps asp) (gd : X.A.guards = some []) (hr : Room k X.A) (ha : PA X (e :: es) (lowA (kx X bb) t)) (hg : Gl X x := by rfl)
    (hdb : (x == ("__debug__" : Str)) = false := by decide) (he : starEach (e :: es) X.env = (false, eval e X.env) :: starEach es X.env := by rfl) (hpl : (backTo pos (starEach es X.env)).any (·.1) = false := by rfl) :
    PE X (.Call (.Name x p) (e :: es) [] pos) (low (kx X bb) (aCallX asp EX t)) := by
  obtain ⟨f, fd, G, hm, hk, hb⟩ := F.ex
  obtain ⟨W, tw, hw⟩ := tk.ex
  refine ⟨fun pins s σ H QH I ⟨τ, S, Q, R, so, q, kk⟩ => ?_⟩
  refine wpAny_Call_Name_kw (ld_glob I hg hm ?_ hdb)
  refine PySem.W.callWith_K (h₀ := X.base) I.ok.mod.kin hk (thn (ha.run pos pins s σ H (fun vs H1 => ∃ ds S1, StOk X.K H1 S1 ∧ Step H S H1 S1 ∧ RelAs X.K H1 S1 vs ds ∧ asp ds S1 Q (EX τ)) I ⟨τ, S, _, R, so, q, fun vs H1 ds S1 so1 st1 r1 q1 => ⟨ds, S1, so1, st1, r1, q1⟩⟩) fun us s1 z => ?_) he hpl
  obtain ⟨vs, H1, I1, r, ds, S1, so1, st1, r1, q1⟩ := z
  exact ⟨I1.kIn, run_gx G gd hr hb (passAt tw σ) I1 r ⟨ds, S1, Q, EX τ, r1, so1, q1, fun d S' v H' so' st' r' q' => kk v H' d S' so' (st1.trans st') r' q', fun C d v H' S' so' st' xd ex => hw C d v σ τ H' S' (R.step (st1.trans st')) so' xd ex⟩⟩
theorem e_methX {pl : Sem Bool} (tk : TkX X bb EX) (F : FnMX X.prog X.w X.K X.mg X.base k C m qual st ps asp) (c : Cls X.K C) (gd : X.A.guards = some []) (hr : Room k X.A) (he : PE X o (low (kx X bb) to)) (ha : PA X (e :: es) (lowA (kx X bb) t))
    (hst : starEach (e :: es) X.env = (false, eval e X.env) :: starEach es X.env := by rfl) (hpl : (backTo pos (starEach es X.env)).any (·.1) = false := by rfl)
    (ht : eval (.Call (.Attribute o m apos) (e :: es) [] pos) X.env = (do
      let ov ← eval o X.env
      standAt apos.atName
      let (f, first) ← holding [ov] (getMethod ov m pl)
      callWith pos f first (backTo pos (starEach (e :: es) X.env)) (backToKw pos (keywordEach [] X.env))) := by rfl) :
    PE X (.Call (.Attribute o m apos) (e :: es) [] pos) (low (kx X bb) (aMethX C m asp EX to t)) := by
  obtain ⟨f, fd, _, G, hm, hb⟩ := F.ex
  obtain ⟨W, tw, hw⟩ := tk.ex
  refine ⟨fun pins s σ H QH I ⟨τ, S, Q, R, so, q, kk⟩ => ?_⟩
  refine PySem.W.methodCall_KW (pl := pl) (thn (he.run pins s σ H (fun v H1 => ∃ a fs S1, StOk X.K H1 S1 ∧ Step H S H1 S1 ∧ v = .ref a ∧ S1 a = some (.ins C fs) ∧ fs.lookup m = none ∧ t τ S1 fun ds S2 => asp (.ref a :: ds) S2 Q (EX τ)) I
    ⟨τ, S, _, R, so, q, fun v H1 d S1 so1 st1 r1 ⟨a, fs, ed, hs, hl, q1⟩ => by subst ed; exact ⟨a, fs, S1, so1, st1, rel_refE r1, hs, hl, q1⟩⟩) fun u s1 z => ?_) ht
  obtain ⟨v, H1, I1, rx, a, fs, S1, so1, st1, ev, hs, hl, q1⟩ := z
  subst ev
  obtain rfl : u = Value.ref a := rx
  obtain ⟨dx, fv, h1, rf⟩ := insE so1 hs
  refine getmeth_ok I1 h1 c hm (rf.none hl) ?_
  refine PySem.W.callWith_K (first := [.ref a]) (h₀ := X.base) I1.ok.mod.kin hm.kp (thn (ha.run pos pins s1 σ H1 (fun vs H2 => ∃ ds S2, StOk X.K H2 S2 ∧ Step H1 S1 H2 S2 ∧ RelAs X.K H2 S2 vs ds ∧ asp (.ref a :: ds) S2 Q (EX τ)) I1
    ⟨τ, S1, _, R.step st1, so1, q1, fun vs H2 ds S2 so2 st2 r2 q2 => ⟨ds, S2, so2, st2, r2, q2⟩⟩) fun us s2 z => ?_) hst hpl
  obtain ⟨vs, H2, I2, r, ds, S2, so2, st2, r2, q2⟩ := z
  exact ⟨I2.kIn, run_gx (us := .ref a :: us) (vs := .ref a :: vs) G gd hr hb (passAt tw σ) I2 (.cons rfl r) ⟨.ref a :: ds, S2, Q, EX τ, .cons (.ref a) r2, so2, q2, fun d S' v H' so' st' r' q' => kk v H' d S' so' ((st1.trans st2).trans st') r' q', fun C d v H' S' so' st' xd ex => hw C d v σ τ H' S' (R.step ((st1.trans st2).trans st')) so' xd ex⟩⟩
theorem e_methX0 {pl : Sem Bool} (tk : TkX X bb EX) (F : FnMX X.prog X.w X.K X.mg X.base k C m qual st ps asp) (c : Cls X.K C) (gd : X.A.guards = some []) (hr : Room k X.A) (he : PE X o (low (kx X bb) to))
    (ht : eval (.Call (.Attribute o m apos) [] [] pos) X.env = (do
      let ov ← eval o X.env
      standAt apos.atName
      let (f, first) ← holding [ov] (getMethod ov m pl)
      callWith pos f first (backTo pos (starEach [] X.env)) (backToKw pos (keywordEach [] X.env))) := by rfl) :
    PE X (.Call (.Attribute o m apos) [] [] pos) (low (kx X bb) (aMethX C m asp EX to aNil)) := by
  obtain ⟨f, fd, _, G, hm, hb⟩ := F.ex
  obtain ⟨W, tw, hw⟩ := tk.ex
  refine ⟨fun pins s σ H QH I ⟨τ, S, Q, R, so, q, kk⟩ => ?_⟩
  refine PySem.W.methodCall_KW (pl := pl) (thn (he.run pins s σ H (fun v H1 => ∃ a fs S1, StOk X.K H1 S1 ∧ Step H S H1 S1 ∧ v = .ref a ∧ S1 a = some (.ins C fs) ∧ fs.lookup m = none ∧ asp [.ref a] S1 Q (EX τ)) I
    ⟨τ, S, _, R, so, q, fun v H1 d S1 so1 st1 r1 ⟨a, fs, ed, hs, hl, q1⟩ => by subst ed; exact ⟨a, fs, S1, so1, st1, rel_refE r1, hs, hl, q1⟩⟩) fun u s1 z => ?_) ht
  obtain ⟨v, H1, I1, rx, a, fs, S1, so1, st1, ev, hs, hl, q1⟩ := z
  subst ev
  obtain rfl : u = Value.ref a := rx
  obtain ⟨dx, fv, h1, rf⟩ := insE so1 hs
  refine getmeth_ok I1 h1 c hm (rf.none hl) ?_
  exact PySem.W.callWith_K0 (first := [.ref a]) I1.kIn hm.kp (run_gx (us := [.ref a]) (vs := [.ref a]) G gd hr hb (passAt tw σ) I1 (.cons rfl .nil) ⟨[.ref a], S1, Q, EX τ, .cons (.ref a) .nil, so1, q1, fun d S' v H' so' st' r' q' => kk v H' d S' so' (st1.trans st') r' q', fun C d v H' S' so' st' xd ex => hw C d v σ τ H' S' (R.step (st1.trans st')) so' xd ex⟩)
end

/-! ### try -/
theorem Rp.re {k1 k2 : KB} {H : Hp} {S : Store} {σ : L2.St} {τ : ASt} (r : Rp k1 H S σ τ) (e : k2.K = k1.K) (hb : k2.b.p H S) : Rp k2 H S σ τ := ⟨r.len, fun i d h => by rw [e]; exact r.at_ i d h, hb⟩
/-- try: .. except x as n: .. -/
def aTryAs (K : PySem.W.Frag) (i : Nat) (Hc : Addr) (asb : EXw → AS) (ash : Addr → Addr → AV → AS) : AS := fun D τ S =>
  asb (fun τ' C v S' => PySem.W.exmOne K (.ref C) (.ref Hc) = some true ∧ ∀ a, ash a C v { nx := fun τ2 S2 => D.nx (τ2.set i none) S2, rt := D.rt, bk := fun τ2 S2 => D.bk (τ2.set i none) S2, ct := fun τ2 S2 => D.ct (τ2.set i none) S2 } (τ'.set i (some (.ref a))) S') D τ S
section
variable {X : Cx} {x n : Str} {Hc : Addr} {i : Nat} {body suite : List Stmt} {b₀ : Stmt} {np pos pos' : Pos} {asb : EXw → AS} {ash : Addr → Addr → AV → AS}
theorem s_tryAs (i : Nat) (hc : X.mg x = some (.ref Hc)) (hN : X.N.Nodup) (hb : ∀ (pn : List (Addr × Obj)) (xe : Value → Shared → Prop) (EX : EXw) (b2 : Birth), TkX (X.tr pn xe) b2 EX → PassesOwn (model X.prog X.w) X.A X.env xe → PSs (X.tr pn xe) body (lowS ⟨X.K, b2⟩ (asb EX)))
    (hsu : ∀ (a : Addr) (oe : Obj) (C d : Addr) (v : AV) (pn : List (Addr × Obj)) (Hh : Hp) (Sh : Store), Zc (.ref C) (some d) oe → (∃ vs, oe.data = .fields vs) → XdIs X.K Hh Sh d v → PSs (X.suite a ((a, oe) :: pn)) (b₀ :: suite) (lowS ⟨X.K, bornAt Hh Sh⟩ (ash a C v)))
    (hi : X.N[i]? = some n := by rfl) (hln : X.env.kindOf n = some .local := by rfl) (hs : X.stack = X.env :: X.outer := by rfl) (hf : X.env.frame = some X.env.locals := by rfl) (hg : Gl X x := by rfl) (hdb : (x == ("__debug__" : Str)) = false := by decide) :
    PS X (.Try body [.ExceptHandler (some (.Name x np)) (some n) (b₀ :: suite) pos'] [] [] pos) (lowS (kx X bb) (aTryAs X.K i Hc asb ash)) := by
  refine (ps_try_as (i := i) (c := .ref Hc) (tb := fun W D σ H => ∃ (b2 : Birth) (EX : EXw), (∀ (C d : Addr) (v : AV) (σ : L2.St) (τ : ASt) (H : Hp) (S : Store), Rp ⟨X.K, b2⟩ H S σ τ → StOk X.K H S → XdIs X.K H S d v → EX τ C v S → W (.ref C) (some d) σ H) ∧ lowS ⟨X.K, b2⟩ (asb EX) D σ H)
    (ts := fun a cls d D σ H => ∃ (C dd : Addr) (v : AV) (S : Store) (τ : ASt) (DA : AEnds), cls = .ref C ∧ d = some dd ∧ XdIs X.K H S dd v ∧ Rp ⟨X.K, bornAt H S⟩ H S σ τ ∧ StOk X.K H S ∧ ash a C v DA τ S ∧ EndsOk ⟨X.K, bornAt H S⟩ H S DA D)
    hs hf hN hi hln ⟨hg, hdb, .inl hc⟩ takes0 (fun W pn xe tw po => ⟨fun pins s σ H D I ⟨b2, EX, ht, q⟩ => (hb pn xe EX b2 ⟨⟨W, tw, ht⟩⟩ po).run pins s σ H D I q⟩) (fun a oe cls d pn hz hd => ⟨fun pins s σ H D I h => ?_⟩)).weak fun DH σ H ⟨τ, S, DA, R, so, q, k⟩ => ?_
  · obtain ⟨C, dd, v, S, τ, DA, e1, e2, xd, R, so, q, ends⟩ := h
    subst e1 e2
    exact (hsu a oe C dd v pn H S hz hd xd).run pins s σ H D I ⟨τ, S, DA, R, so, q, ends⟩
  · refine ⟨bornAt H S, _, fun C d v σ' τ' H' S' R' so' xd ⟨em, hq⟩ => ⟨true, em, fun _ a ha => ?_, fun z => by cases z⟩, τ, S, DA, R.re rfl Step.refl, so, q, ?_⟩
    · exact ⟨fun σ2 H2 τ2 S2 so2 st2 R2 q2 => k.nx _ H2 _ S2 so2 st2 (R2.re rfl (bb.step R.bt st2)) q2, fun v2 H2 d2 S2 so2 st2 => k.rt v2 H2 d2 S2 so2 st2,
        fun σ2 H2 τ2 S2 so2 st2 R2 q2 => k.bk _ H2 _ S2 so2 st2 (R2.re rfl (bb.step R.bt st2)) q2, fun σ2 H2 τ2 S2 so2 st2 R2 q2 => k.ct _ H2 _ S2 so2 st2 (R2.re rfl (bb.step R.bt st2)) q2⟩
    · have st' : Step H S H' S' := R'.bt
      refine ⟨C, d, v, S', _, _, rfl, rfl, xd, (R'.re (k2 := ⟨X.K, bornAt H' S'⟩) rfl Step.refl).set (.ref a) i, so', hq a, ?_⟩
      exact ⟨fun σ2 H2 τ2 S2 so2 st2 R2 q2 => k.nx _ H2 _ S2 so2 (st'.trans st2) ((R2.forget i).re rfl (bb.step R.bt (st'.trans st2))) q2, fun v2 H2 d2 S2 so2 st2 => k.rt v2 H2 d2 S2 so2 (st'.trans st2),
        fun σ2 H2 τ2 S2 so2 st2 R2 q2 => k.bk _ H2 _ S2 so2 (st'.trans st2) ((R2.forget i).re rfl (bb.step R.bt (st'.trans st2))) q2, fun σ2 H2 τ2 S2 so2 st2 R2 q2 => k.ct _ H2 _ S2 so2 (st'.trans st2) ((R2.forget i).re rfl (bb.step R.bt (st'.trans st2))) q2⟩
end
/-- error.value, error the one that the suite holds -/
def aErr (a : Addr) (v : AV) (te : AE) : AE := fun τ S Q => te τ S fun x S1 => x = .ref a ∧ Q v S1
theorem e_err {X : Cx} {a C d : Addr} {v : AV} {oe : Obj} {pn : List (Addr × Obj)} {Hh : Hp} {Sh : Store} {e : Expr} {te : AE} {pos : Pos} (T : XfC X.K C) (hno : PySem.W.findIn X.K (.ref C) "value" = some none) (hz : Zc (.ref C) (some d) oe) (hf : ∃ vs, oe.data = .fields vs) (xd : XdIs X.K Hh Sh d v)
    (he : PE (X.suite a ((a, oe) :: pn)) e (low ⟨X.K, bornAt Hh Sh⟩ te)) (hb : attributeBase e "value" X.env (eval e X.env) = eval e X.env := by rfl) : PE (X.suite a ((a, oe) :: pn)) (.Attribute e "value" pos) (low ⟨X.K, bornAt Hh Sh⟩ (aErr a v te)) :=
  (pe_xf T hno hz hf he hb).weak fun σ H QH ⟨τ, S, Q, R, so, q, k⟩ => ⟨τ, S, _, R, so, q, fun x H1 dx S1 so1 st1 r1 ⟨ex, q1⟩ => by
    subst ex
    obtain ⟨n, y, hy, ry⟩ := xd.step (Step.trans R.bt st1)
    exact ⟨rel_refE r1, rfl, d, _, y, rfl, hy, by simp [List.lookup], k y H1 v S1 so1 st1 ry q1⟩⟩
end L3

set_option Elab.async false
set_option linter.all false
set_option maxRecDepth 100000
set_option maxHeartbeats 2000000
set_option autoImplicit false
/-! L3T: enumerate of a text, of a tuple. -/
namespace L3
open PySem L2 PyProof.Rows
variable {bb : Birth}
namespace XE
set_option maxHeartbeats 1000000 in
theorem meets1 {v : Value} {o : Obj} {Hd : Heap → Prop} (B : Begins v o Hd) : Meets (Builtin.«enumerate.__new__» ⟨[.type "enumerate", v], []⟩) (fun _ R s => Hd s.heap ∧
    R (.ok (.ret (.ref (s.heap.push o).objs.size))) { s with heap := (s.heap.push o).push { cls := .type "enumerate", data := .fields #[.none, .bool false, .ref s.heap.objs.size, rawInt 0, .none, .none] } }) :=
  .of_wp fun prog w A R s h => by
    obtain ⟨hp, g, d, tk, os⟩ := s
    obtain ⟨h1, h⟩ := h
    have sub := sub_enumerate
    have it : ∀ {A' : Around} {E : Value → Shared → Prop} {Q : Value → Shared → Prop}, Q (.ref hp.objs.size) ⟨hp.push o, g, d, tk, os⟩ → wpAny (model prog w) A' (pyIter v) Q E ⟨hp, g, d, tk, os⟩ :=
      fun q => B.iter prog w _ _ ⟨hp, g, d, tk, os⟩ _ h1 q
    wp_walk using it
    refine wpAny_stack_any fun st => wpAny_pure ?_
    split
    · rename_i c _ _ _ _ _
      cases (c == Value.type "enumerate") <;>
        (wp_walk using it
         exact ⟨_, rfl, h⟩)
    · wp_walk using it
      exact ⟨_, rfl, h⟩
theorem call1 {prog : Program} {w : World} {A : Around} {E : Value → Shared → Prop} {s : Shared} {v : Value} {o : Obj} {Hd : Heap → Prop} {Q : Value → Shared → Prop} (B : Begins v o Hd) (h1 : Hd s.heap)
    (h : ∀ h', IsEnum h' (s.heap.objs.size + 1) s.heap.objs.size 0 .none → h'.get? s.heap.objs.size = some o → (∀ b o, s.heap.get? b = some o → h'.get? b = some o) → Q (.ref (s.heap.objs.size + 1)) { s with heap := h' }) :
    wpAny (model prog w) A (call (.type "enumerate") [v]) Q E s := by
  refine callType_new F.called_enumerate (by decide) (F.typeCall_enumerate_1 _) (F.newCall_enumerate_1 _) (fun obj => F.args_object_init_2 obj _) F.entry_enumerate_new (meets1 B) ⟨h1, ?_⟩
  have hz : (s.heap.push o).objs.size = s.heap.objs.size + 1 := Heap.size_push ..
  show _ ∧ _
  rw [hz]
  have he : IsEnum ((s.heap.push o).push { cls := .type "enumerate", data := .fields #[.none, .bool false, .ref s.heap.objs.size, rawInt 0, .none, .none] }) (s.heap.objs.size + 1) s.heap.objs.size 0 .none := by
    have := Heap.get?_push_size (s.heap.push o) (o := { cls := .type "enumerate", data := .fields #[.none, .bool false, .ref s.heap.objs.size, rawInt 0, .none, .none] }) rfl
    rw [hz] at this
    exact this
  exact ⟨⟨_, he, rfl⟩, h _ he (Heap.get?_push_of_some _ (Heap.get?_push_size _ B.free)) fun b o x => Heap.get?_push_of_some _ (Heap.get?_push_of_some _ x)⟩
/-- the signs of a text, each in a new pair with its place -/
def IteS (z : Str) : It := ⟨fun i _ => i < z.cps.size, fun i H v H' => ∃ T c, v = .ref T ∧ H T = none ∧ H' = upd H T (.tup [.int (i : Nat), .str ⟨#[c]⟩]) ∧ z.cps[i]? = some c, fun i _ => z.cps.size ≤ i⟩
theorem turnS {P : Program} {w : World} {K : PySem.W.Frag} {elts : List Expr} {kk : Nat} {tpos : Pos} (z : Str) (t : Tok) (e it : Addr) :
    Turn P w K (.Tuple elts kk tpos) (IteS z) [e, it] e (fun i h => i ≤ z.cps.size ∧ (∃ old, IsEnum h e it ((i : Nat) : Int) old) ∧ h.IsStrIter it (strIterType z) z t i ∧ e ≠ it) where
  mem := by simp
  obj := fun i h st b hb => by
    obtain ⟨_, ⟨old, he⟩, ⟨o, ho, hc, hd⟩, _⟩ := st
    have e' : b = e ∨ b = it := by simpa using hb
    rcases e' with z | z
    · rw [z]; exact ⟨_, he, fun v q => nomatch q⟩
    · rw [z]; exact ⟨o, ho, fun v q => by rw [hd] at q; cases q⟩
  keep := fun i h h' st k => let ⟨hl, ⟨old, he⟩, ⟨o, ho, r⟩, hne⟩ := st; ⟨hl, ⟨old, k e (by simp) _ he⟩, ⟨o, k it (by simp) _ ho, r⟩, hne⟩
  item := by
    intro X hP hw hK hc i pins s σ H E I hf st hg
    subst hP hw hK
    obtain ⟨_, ⟨old, he⟩, hit, hne⟩ := st
    have hg : i < z.cps.size := hg
    have hel : e < s.heap.objs.size := Heap.lt_size he
    have hil : it < s.heap.objs.size := by obtain ⟨_, q, _⟩ := hit; exact Heap.lt_size q
    have hh : X.A.in1.handled = none := I.ok.hd hc
    refine wpAny_pyNext_enum_itemD (Draws.text hh it z t) he hit hg hne (by simp [hne]) fun x h' tk ⟨c, u, hcx, ex⟩ ho hit' hT hsz hk => ?_
    subst ex
    refine ⟨_, rfl, wpAny_letOwnedTupleGo_enum (s := { s with heap := h', toks := tk + 1 }) ho fun h'' he' sb => ?_⟩
    have hT2 : h''.get? s.heap.objs.size = some { cls := .type "tuple", data := .seq #[.int i tk, .str ⟨#[c]⟩ u] } := (sb.2 _ (Nat.ne_of_gt hel)).trans hT
    have new : ObjOk X.prog X.w (upd H s.heap.objs.size (.tup [.int (i : Nat), .str ⟨#[c]⟩])) h'' s.heap.objs.size (.tup [.int (i : Nat), .str ⟨#[c]⟩]) :=
      ⟨by show 2 ≤ sizeLine; decide, [.int i tk, .str ⟨#[c]⟩ u], .cons ⟨_, rfl⟩ (.cons ⟨_, rfl⟩ .nil), ⟨_, hT2, rfl, _, rfl⟩⟩
    have I1 : Inv X pins σ (upd H s.heap.objs.size (.tup [.int (i : Nat), .str ⟨#[c]⟩])) { s with heap := h'', toks := tk + 1 } :=
      I.turnedNew (ch := [e, it]) (fun b ob hb q => (sb.2 b (fun z => hb (by simp [z]))).trans (hk b ob (fun z => hb (by simp [z])) (fun z => hb (by simp [z])) q)) hf (Nat.le_refl _) new
    refine ⟨.ref s.heap.objs.size, _, I1, rfl, ⟨_, c, rfl, I.hok.fresh (Nat.le_refl _), rfl, hcx⟩, ⟨hg, ⟨Value.str ⟨#[c]⟩ u, ?_⟩, ?_, hne⟩, fun b hb => ?_⟩
    · have e1 : ((i + 1 : Nat) : Int) = (i : Int) + 1 := by omega
      rw [e1]
      exact he'
    · obtain ⟨o, q, r⟩ := hit'
      exact ⟨o, (sb.2 it (Ne.symm hne)).trans q, r⟩
    · have hb' : b < s.heap.objs.size := by
        have e' : b = e ∨ b = it := by simpa using hb
        rcases e' with z | z
        · rw [z]; exact hel
        · rw [z]; exact hil
      rw [upd_ne (Nat.ne_of_lt hb')]
      exact (hf b hb).1
  done := by
    intro X hP hw hK hc i pins s σ H E I hf st hg
    subst hP hw hK
    obtain ⟨hl, ⟨old, he⟩, hit, hne⟩ := st
    have hg : z.cps.size ≤ i := hg
    have ei : i = z.cps.size := by omega
    subst ei
    obtain ⟨f0, f1, f2, f3, f4, f5⟩ := hf it (by simp)
    have hh : X.A.in1.handled = none := I.ok.hd hc
    exact wpAny_pyNext_enum_endD (Draws.text hh it z t) he hit fun h' eb => ⟨rfl, I.turned (t' := s.toks) (fun b o hb q => eb b o hb q) f0 f1 f3 f4 f5⟩
  self := fun A i s Q E st h => let ⟨_, ⟨_, he⟩, _⟩ := st; wpAny_pyIter_enum he h
/-- the parts of the tuple at a, n of them -/
def IteT (K : PySem.W.Frag) (a : Addr) (n : Nat) : It := ⟨fun i H => ∃ (xs : List V) (x : V), SqT K H a xs ∧ xs.length = n ∧ xs[i]? = some x, fun i H v H' => ∃ T x, v = .ref T ∧ H T = none ∧ H' = upd H T (.tup [.int (i : Nat), x]) ∧ ∀ xs, SqT K H a xs → xs[i]? = some x, fun i H => ∃ xs : List V, SqT K H a xs ∧ xs.length = n ∧ n ≤ i⟩
theorem turnT {P : Program} {w : World} {K : PySem.W.Frag} {elts : List Expr} {kk : Nat} {tpos : Pos} (a : Addr) (n : Nat) (e it : Addr) :
    Turn P w K (.Tuple elts kk tpos) (IteT K a n) [e, it] e (fun i h => i ≤ n ∧ (∃ old, IsEnum h e it ((i : Nat) : Int) old) ∧ h.IsTupleIter it a i ∧ e ≠ it) where
  mem := by simp
  obj := fun i h st b hb => by
    obtain ⟨_, ⟨old, he⟩, ⟨o, ho, hc, hd⟩, _⟩ := st
    have e' : b = e ∨ b = it := by simpa using hb
    rcases e' with z | z
    · rw [z]; exact ⟨_, he, fun v q => nomatch q⟩
    · rw [z]; exact ⟨o, ho, fun v q => by rw [hd] at q; cases q⟩
  keep := fun i h h' st k => let ⟨hl, ⟨old, he⟩, ⟨o, ho, r⟩, hne⟩ := st; ⟨hl, ⟨old, k e (by simp) _ he⟩, ⟨o, k it (by simp) _ ho, r⟩, hne⟩
  item := by
    intro X hP hw hK hc i pins s σ H E I hf st hg
    subst hP hw hK
    obtain ⟨_, ⟨old, he⟩, hit, hne⟩ := st
    obtain ⟨xs, y, hq, hxn, hy⟩ := hg
    have hlt := (List.getElem?_eq_some_iff.mp hy).1
    obtain ⟨its, rv, p, hz⟩ := I.tuple hq
    have hln := rv.length
    have hel : e < s.heap.objs.size := Heap.lt_size he
    have hil : it < s.heap.objs.size := by obtain ⟨_, q, _⟩ := hit; exact Heap.lt_size q
    have hh : X.A.in1.handled = none := I.ok.hd hc
    have nea : a ≠ it := by
      rintro rfl
      obtain ⟨o1, q1, c1, _⟩ := hit
      obtain ⟨o2, q2, c2, _⟩ := p
      rw [q1] at q2
      cases q2
      exact absurd (Value.type.inj (c1.symm.trans c2)) (by decide)
    have eea : a ≠ e := by
      rintro rfl
      obtain ⟨o2, q2, c2, _⟩ := p
      rw [he] at q2
      cases q2
      exact absurd (Value.type.inj c2) (by decide)
    refine wpAny_pyNext_enum_itemD (Draws.tuple hh it a nea its.toArray) he ⟨hit, p⟩ (by rw [List.size_toArray]; omega) hne (by simp [hne, Ne.symm eea]) fun x h' tk hx ho hit' hT hsz hk => ?_
    have hx' : its[i]? = some x := by simpa using hx
    obtain ⟨u, hu, ru⟩ := rv.get hy
    rw [hu] at hx'
    cases hx'
    refine ⟨_, rfl, wpAny_letOwnedTupleGo_enum (s := { s with heap := h', toks := tk + 1 }) ho fun h'' he' sb => ?_⟩
    have hT2 : h''.get? s.heap.objs.size = some { cls := .type "tuple", data := .seq #[.int i tk, x] } := (sb.2 _ (Nat.ne_of_gt hel)).trans hT
    have new : ObjOk X.prog X.w (upd H s.heap.objs.size (.tup [.int (i : Nat), y])) h'' s.heap.objs.size (.tup [.int (i : Nat), y]) :=
      ⟨by show 2 ≤ sizeLine; decide, [.int i tk, x], .cons ⟨_, rfl⟩ (.cons ru .nil), ⟨_, hT2, rfl, _, rfl⟩⟩
    have I1 : Inv X pins σ (upd H s.heap.objs.size (.tup [.int (i : Nat), y])) { s with heap := h'', toks := tk + 1 } :=
      I.turnedNew (ch := [e, it]) (fun b ob hb q => (sb.2 b (fun z => hb (by simp [z]))).trans (hk b ob (fun z => hb (by simp [z])) (fun z => hb (by simp [z])) q)) hf (Nat.le_refl _) new
    refine ⟨.ref s.heap.objs.size, _, I1, rfl, ⟨_, y, rfl, I.hok.fresh (Nat.le_refl _), rfl, fun zs hzs => by rw [I.tuple_inj hzs hq]; exact hy⟩, ⟨by omega, ⟨x, ?_⟩, ?_, hne⟩, fun b hb => ?_⟩
    · have e1 : ((i + 1 : Nat) : Int) = (i : Int) + 1 := by omega
      rw [e1]
      exact he'
    · obtain ⟨o, q, r⟩ := hit'.1
      exact ⟨o, (sb.2 it (Ne.symm hne)).trans q, r⟩
    · have hb' : b < s.heap.objs.size := by
        have e' : b = e ∨ b = it := by simpa using hb
        rcases e' with z | z
        · rw [z]; exact hel
        · rw [z]; exact hil
      rw [upd_ne (Nat.ne_of_lt hb')]
      exact (hf b hb).1
  done := by
    intro X hP hw hK hc i pins s σ H E I hf st hg
    subst hP hw hK
    obtain ⟨hl, ⟨old, he⟩, hit, hne⟩ := st
    obtain ⟨xs, hq, hxn, hge⟩ := hg
    obtain ⟨its, rv, p, hz⟩ := I.tuple hq
    have hln := rv.length
    have ei : i = its.toArray.size := by rw [List.size_toArray]; omega
    have nea : a ≠ it := by
      rintro rfl
      obtain ⟨o1, q1, c1, _⟩ := hit
      obtain ⟨o2, q2, c2, _⟩ := p
      rw [q1] at q2
      cases q2
      exact absurd (Value.type.inj (c1.symm.trans c2)) (by decide)
    obtain ⟨f0, f1, f2, f3, f4, f5⟩ := hf it (by simp)
    have hh : X.A.in1.handled = none := I.ok.hd hc
    rw [ei] at hit
    exact wpAny_pyNext_enum_endD (Draws.tuple hh it a nea its.toArray) he ⟨hit, p⟩ fun h' eb => ⟨rfl, I.turned (t' := s.toks) (fun b o hb q => eb b o hb q) f0 f1 f3 f4 f5⟩
  self := fun A i s Q E st h => let ⟨_, ⟨_, he⟩, _⟩ := st; wpAny_pyIter_enum he h
section
variable {X : Cx} {e : Expr} {ta : TA} {p pos tpos : Pos} {elts : List Expr} {kk : Nat}
theorem fp2 {pins : List (Addr × Obj)} {σ : L2.St} {H : Hp} {s : Shared} {h' : Heap} (I : Inv X pins σ H s) (hk : ∀ b o, s.heap.get? b = some o → h'.get? b = some o) : ∀ b ∈ [s.heap.objs.size + 1, s.heap.objs.size], FpOk X pins H b := fun b hb => by
  have e' : b = s.heap.objs.size + 1 ∨ b = s.heap.objs.size := by simpa using hb
  have hle : s.heap.objs.size ≤ b := by
    rcases e' with z | z
    · rw [z]; exact Nat.le_add_right _ _
    · rw [z]; exact Nat.le_refl _
  exact I.fpOk hle (I.hok.fresh hle)
theorem piS (hg : Gl X "enumerate") (hm : X.mg "enumerate" = none) (ha : PA X [e] ta) (hs : starEach [e] X.env = [(false, eval e X.env)] := by rfl) :
    PI X (.Tuple elts kk tpos) (.Call (.Name "enumerate" p) [e] [] pos) (fun σ H R => ta σ H fun vs H1 => ∃ z, vs = [.str z] ∧ R (IteS z) H1) := by
  refine ⟨fun pins s σ H R I h => ?_⟩
  refine Call_ (ld_blt I hg hm boot_enumerate (PyProof.Rows.callWith_type1 (thn (ha.run pos pins s σ H _ I h) fun us s1 ⟨vs, H1, I1, r1, q1⟩ => ?_) hs rfl))
  obtain ⟨z, ex, q⟩ := q1
  subst ex
  cases r1 with
  | cons r rr =>
    cases rr
    obtain ⟨t, rfl⟩ := r
    refine call1 (begins_text z t) trivial fun h' he hit hk => wpAny_pyIter_enum he ?_
    have I2 : Inv X pins σ H1 { s1 with heap := h' } := I1.kept (t' := s1.toks) hk
    exact ⟨s1.heap.objs.size + 1, [s1.heap.objs.size + 1, s1.heap.objs.size], _, _, H1, rfl, I2, turnS z t (s1.heap.objs.size + 1) s1.heap.objs.size, ⟨Nat.zero_le _, ⟨.none, he⟩, ⟨_, hit, rfl, rfl⟩, Nat.succ_ne_self _⟩, fp2 I1 hk, q⟩
theorem piT (hg : Gl X "enumerate") (hm : X.mg "enumerate" = none) (ha : PA X [e] ta) (hs : starEach [e] X.env = [(false, eval e X.env)] := by rfl) :
    PI X (.Tuple elts kk tpos) (.Call (.Name "enumerate" p) [e] [] pos) (fun σ H R => ta σ H fun vs H1 => ∃ a xs, vs = [.ref a] ∧ SqT X.K H1 a xs ∧ R (IteT X.K a xs.length) H1) := by
  refine ⟨fun pins s σ H R I h => ?_⟩
  refine Call_ (ld_blt I hg hm boot_enumerate (PyProof.Rows.callWith_type1 (thn (ha.run pos pins s σ H _ I h) fun us s1 ⟨vs, H1, I1, r1, q1⟩ => ?_) hs rfl))
  obtain ⟨a, xs, ex, hq, q⟩ := q1
  subst ex
  cases r1 with
  | cons r rr =>
    cases rr
    cases r
    obtain ⟨its, rv, p', hz⟩ := I1.tuple hq
    refine call1 (begins_tuple a its.toArray) p' fun h' he hit hk => wpAny_pyIter_enum he ?_
    have I2 : Inv X pins σ H1 { s1 with heap := h' } := I1.kept (t' := s1.toks) hk
    exact ⟨s1.heap.objs.size + 1, [s1.heap.objs.size + 1, s1.heap.objs.size], _, _, H1, rfl, I2, turnT a xs.length (s1.heap.objs.size + 1) s1.heap.objs.size, ⟨Nat.zero_le _, ⟨.none, he⟩, ⟨_, hit, rfl, rfl⟩, Nat.succ_ne_self _⟩, fp2 I1 hk, q⟩
end
end XE
/-- enumerate(text), enumerate(tuple) -/
def aiEnumS (t : AA) : AI := fun τ S Q => t τ S fun ds S1 => ∃ z, ds = [.str z] ∧ Q (enumA (signsA z)) (fun _ => True) S1
def aiEnumT (t : AA) : AI := fun τ S Q => t τ S fun ds S1 => ∃ xs, ds = [.tup xs] ∧ Q (enumA xs) (fun _ => True) S1
section
variable {X : Cx} {e : Expr} {t : AA} {elts : List Expr} {kk : Nat} {tpos p pos : Pos}
theorem i_enumS (hm : X.mg "enumerate" = none) (ha : PA X [e] (lowA (kx X bb) t)) (hg : Gl X "enumerate" := by rfl) (hs : starEach [e] X.env = [(false, eval e X.env)] := by rfl) :
    PI X (.Tuple elts kk tpos) (.Call (.Name "enumerate" p) [e] [] pos) (lowI (kx X bb) (aiEnumS t)) := (XE.piS hg hm ha hs).weak fun σ H R ⟨τ, S, Q, Rr, so, q, k⟩ => ⟨τ, S, _, Rr, so, q, fun vs H1 ds S1 so1 st1 r1 ⟨z, e, q1⟩ => by
    subst e
    obtain ⟨v, rfl, r⟩ := rel_one r1
    obtain rfl := rel_strE r
    have hlen : (signsA z).length = z.cps.size := by unfold signsA; rw [List.length_map, Array.length_toList]
    refine ⟨z, rfl, k _ H1 _ _ S1 so1 st1 (fun H' S' so' st' g => ⟨fun i x hx => ?_, ?_⟩) q1⟩
    · obtain ⟨y, hy, rfl⟩ := enumA_get hx
      have hi : i < z.cps.size := by have := (List.getElem?_eq_some_iff.mp hy).1; omega
      refine ⟨hi, fun v H'' hv => ?_⟩
      obtain ⟨T, c, rfl, hT, rfl, hc⟩ := hv
      have e2 : y = .str ⟨#[c]⟩ := by
        unfold signsA at hy
        rw [List.getElem?_map, Array.getElem?_toList, hc] at hy
        cases hy
        rfl
      subst e2
      exact ⟨stok_new so' hT, step_new so' hT, rel_tup so' hT (.cons (.int _) (.cons (.str _) .nil))⟩
    · rw [enumA_len, hlen]
      exact Nat.le_refl _⟩
theorem i_enumT (hm : X.mg "enumerate" = none) (ha : PA X [e] (lowA (kx X bb) t)) (hg : Gl X "enumerate" := by rfl) (hs : starEach [e] X.env = [(false, eval e X.env)] := by rfl) :
    PI X (.Tuple elts kk tpos) (.Call (.Name "enumerate" p) [e] [] pos) (lowI (kx X bb) (aiEnumT t)) := (XE.piT hg hm ha hs).weak fun σ H R ⟨τ, S, Q, Rr, so, q, k⟩ => ⟨τ, S, _, Rr, so, q, fun vs H1 ds S1 so1 st1 r1 ⟨xs, e, q1⟩ => by
    subst e
    obtain ⟨v, rfl, r⟩ := rel_one r1
    obtain ⟨a, ws, rfl, hl, rs⟩ := rel_tupE r
    have hn := rs.length
    refine ⟨a, ws, rfl, hl, k _ H1 _ _ S1 so1 st1 (fun H' S' so' st' g => ?_) q1⟩
    obtain ⟨a', us, ea, hl', rs'⟩ := rel_tupE (r.step st')
    cases ea
    have hn' := rs'.length
    refine ⟨fun i x hx => ?_, us, hl', by omega, by rw [enumA_len]; omega⟩
    obtain ⟨y, hy, rfl⟩ := enumA_get hx
    obtain ⟨u, hu, ru⟩ := rs'.get hy
    refine ⟨⟨us, u, hl', by omega, hu⟩, fun v H'' hv => ?_⟩
    obtain ⟨T, x1, rfl, hT, rfl, e2⟩ := hv
    have e3 := e2 us hl'
    rw [hu] at e3
    cases e3
    exact ⟨stok_new so' hT, step_new so' hT, rel_tup so' hT (.cons (.int _) (.cons ru .nil))⟩⟩
end
end L3

set_option Elab.async false
set_option linter.all false
set_option maxRecDepth 100000
set_option maxHeartbeats 4000000
set_option autoImplicit false
/-! L3V: isinstance of a caught exception that has its own dict. -/
namespace L3
open PySem PySem.Spec PySem.Calls PySem.W PyProof.Rows
namespace XK
section
variable {prog : Program} {w : World} {A : Around} {E : Value → Shared → Prop} {s : Shared} {K : Frag} {x D : Addr} {ox : Obj} {od : Option Obj}
theorem findObj_dataX {C : Addr} {name : Str} {a g : Value} (hc : (clsIn K C).isSome = true) (ha : findIn K (.ref C) name = some (some a)) (hg : specialIn K a "__get__" = some (some g)) (ht : takesIn K a = some true) : findObj K C od name = some (.bind g a) := by
  obtain ⟨cd, hc⟩ := Option.isSome_iff_exists.mp hc
  unfold findObj
  rw [hc, Option.bind_some, ha, Option.bind_some]
  simp [hg, ht]
theorem kin_classX {Q : Option Value → Shared → Prop} (hga : findIn K (.ref D) "__getattribute__" = some (some (.builtin "BaseException.__getattribute__"))) (hgt : findIn K (.ref D) "__getattr__" = some none) (hsub : subIn K (.ref D) (.type "BaseException") = some true)
    (hdct : hasDictIn K D = true) (ha : findIn K (.ref D) "__class__" = some (some (.builtin "object.__class__")))
    (hn : specialIn K (.builtin "object.__class__") "__get__" = some (some (.builtin "getset_descriptor.__get__"))) (htk : takesIn K (.builtin "object.__class__") = some true) (hm : mroIn K D (.type "object") = some true)
    (X : K.In s.heap) (I : InstAt s.heap x ox D od) (h : Q (some (.ref D)) { s with toks := s.toks + 1 }) : wpAny (model prog w) A (getAttr? (.ref x) "__class__") Q E s := by
  have hf : findObj K D od "__class__" = some (.bind (.builtin "getset_descriptor.__get__") (.builtin "object.__class__")) := findObj_dataX (by obtain ⟨cd, hc, _⟩ := any_some hdct; rw [hc]; rfl) ha hn htk
  obtain ⟨hp, g, d, t, os⟩ := s
  have L0 := I.type (M := model prog w)
  have L1 := looks_findIn (M := model prog w) X hga
  have L2 := looks_findIn (M := model prog w) X hgt
  have L3 := looks_find (M := model prog w) X I hf
  have sub : Looks (model prog w) hp (isInstance (.ref x) (.type "BaseException")) true := L0.andThen (looks_subIn X hsub)
  have hx0 : (false && onTheHeap (Value.builtin "BaseException.__getattribute__")) = false := rfl
  have hx2 : (Value.builtin "BaseException.__getattribute__" == Value.builtin "object.__getattribute__") = false := by decide +kernel
  have hx1 : (onTheHeap (Value.ref D) && Value.builtin "BaseException.__getattribute__" == Value.builtin "object.__getattribute__") = false := by rw [hx2]; rfl
  unfold getAttr? getAttrBy? getAttrBy
  refine wpAny_bind (wpAny_mkText (wpAny_bind (wpAny_attempt (wpAny_holding (wpAny_bind (L0.at (wpAny_bind (L1.at ?_))))))))
  show wpAny _ _ (if (onTheHeap (Value.ref D) && Value.builtin "BaseException.__getattribute__" == Value.builtin "object.__getattribute__") = true then _ else _) _ _ _
  rw [hx1, if_neg Bool.false_ne_true]
  unfold getAttrByItsOwn hookBefore
  refine wpAny_bind ?_
  rw [if_pos (show onTheHeap (Value.ref D) = true from rfl)]
  refine L2.at ?_
  refine wpAny_bind (wpAny_attempt (wpAny_holding ?_))
  unfold callGetattribute
  rw [hx0, if_neg Bool.false_ne_true]
  unfold boundAndCalled
  rw [PySem.F.excAttr_ValueError.ga.bind (.ref x)]
  refine wpAny_bind (wpAny_pure ?_)
  show wpAny _ _ (call (.builtin "BaseException.__getattribute__") [.ref x, .str "__class__" t]) _ _ _
  refine wpAny_call (codeAny_call_builtin PySem.F.excAttr_ValueError.ga.plain PySem.F.entry_bexc_ga ?_)
  refine @check_slot (model prog w) _ _ ⟨hp, g, d, t + 1, os⟩ "BaseException.__getattribute__" "BaseException" "__getattribute__" (.ref x) [.str "__class__" t] [] _ (by decide +kernel) (by decide +kernel) sub (PySem.F.args_bexc_ga (.ref x) (.str "__class__" t)) ?_
  unfold Builtin.«object.__getattribute__»
  refine wpAny_bind (wpAny_of_eq (a := ((Value.ref x : Value), [Value.str "__class__" t])) (by first | rfl | (simp only [slotArgs]; rfl)) ?_)
  refine wpAny_bind (wpAny_pure (wpAny_bind (L0.at (wpAny_bind (L3.at ?_)))))
  show wpAny _ _ (holding [Value.builtin "object.__class__"] (call (.builtin "getset_descriptor.__get__") [.builtin "object.__class__", .ref x, .ref D]) >>= ret) _ _ _
  refine wpAny_bind (wpAny_holding (wpAny_call (class_get (s := ⟨hp, g, d, t + 1, os⟩) (ox := ox) (od := od) X I hm ?_)))
  refine wpAny_pure ?_
  show wpAny _ _ (handedOut (.ref D)) _ _ _
  rw [handedOut_of (v := .ref D) rfl]
  first
    | exact wpAny_pure (wpAny_pure h)
    | exact wpAny_pure h
    | exact wpAny_pure (wpAny_bind (wpAny_pure (wpAny_pure h)))
theorem kitx_exc (hga : findIn K (.ref D) "__getattribute__" = some (some (.builtin "BaseException.__getattribute__"))) (hgt : findIn K (.ref D) "__getattr__" = some none) (hsub : subIn K (.ref D) (.type "BaseException") = some true) (hdct : hasDictIn K D = true) (ha : findIn K (.ref D) "__class__" = some (some (.builtin "object.__class__")))
    (hn : specialIn K (.builtin "object.__class__") "__get__" = some (some (.builtin "getset_descriptor.__get__"))) (htk : takesIn K (.builtin "object.__class__") = some true) (hm : mroIn K D (.type "object") = some true) :
    KitX K (.ref x) (.ref D) (fun h => InstAt h x ox D od) where
  ty := fun _ _ _ I => I.type
  it := fun _ _ X _ => by
    obtain ⟨cdD, hcD, _⟩ := any_some hdct
    unfold clsIn at hcD
    split at hcD
    · rename_i c' d' cd' sl' ho
      intro A' Q' E' s' k q
      unfold isType loadHead
      exact wpAny_bind (wpAny_loadPart (k _ _ (X _ _ ho)) (wpAny_pure q))
    · cases hcD
  ne := fun h tp dd its n sl X htp => by
    obtain ⟨cdD, hcD, _⟩ := any_some hdct
    refine Bool.eq_false_iff.mpr fun q => ?_
    have e : D = tp := Value.ref.inj (beq_iff_eq.mp q)
    subst e
    unfold clsIn at hcD
    split at hcD
    · rename_i c' d' cd' sl' ho
      have z := (X _ _ ho).symm.trans htp
      cases z
    · cases hcD
  ca := fun X I k => kin_classX hga hgt hsub hdct ha hn htk hm X I k
end
end XK
end L3
namespace L3
open PySem L2 PyProof.Rows
variable {bb : Birth}
/-- isinstance(e, c), e the exception that the suite holds, with its dict dd -/
def rIsX (K : PySem.W.Frag) (D a dd : Addr) : List V → Hp → VK → Prop := fun xs H Q => ∃ (c : V) (cv : Value) (b : Bool) (fs : List (Str × V)), xs = [.ref a, c] ∧ (∀ u, RelV c u → u = cv) ∧ PySem.W.kitOne K (.ref D) cv = some b ∧ H dd = some (.xd fs) ∧ Q (.bl b) H
theorem call_isX {X : Cx} {a D dd : Addr} {oe : Obj} {pn : List (Addr × Obj)} (C : ExcC X.K D) (hz : Zc (.ref D) (some dd) oe) (hf : ∃ vs, oe.data = .fields vs) : CallR (X.suite a ((a, oe) :: pn)) (.builtin "isinstance") (rIsX X.K D a dd) := by
  intro pins s σ H xs us Q I r h
  obtain ⟨c, cv, b, fs, rfl, hcv, e, hd, q⟩ := h
  cases r with
  | cons rx rr =>
    cases rr with
    | cons rt rr =>
      cases rr
      cases rx
      have ec := hcv _ rt
      subst ec
      obtain ⟨hget, _⟩ := I.pin (a, oe) (List.mem_append.mpr (.inl List.mem_cons_self))
      obtain ⟨vs, hv⟩ := hf
      have hx : ObjOk X.prog X.w H s.heap dd (.xd fs) := I.hok dd _ hd
      obtain ⟨mA, hns, hr⟩ := hx
      obtain ⟨od, ho, hl⟩ := lookIn_ns hns
      have J : PySem.W.InstAt s.heap a oe D (some od) := ⟨hget, hz.1, by unfold PySem.W.notCls; rw [hv] <;> rfl, by rw [hz.2]; exact ho⟩
      exact PySem.W.kia_one (XK.kitx_exc C.hg C.hk C.hs C.hd C.ha C.hn C.ht C.hm) I.kIn J e (fun z => nomatch z) fun tk => ⟨.bl b, H, I.kept (t' := tk) fun _ _ z => z, rfl, q⟩
/-- an own class's name -/
theorem e_gC {X : Cx} {x : Str} {C : Addr} {pos : Pos} (hm : X.mg x = some (.ref C)) (hg : Gl X x := by rfl) (hdb : (x == ("__debug__" : Str)) = false := by decide) : PE X (.Name x pos) (low (kx X bb) (aC (.ref C))) := low_c (pe_glob (v := .ref C) hg hm rfl hdb) fun _ _ _ => .ref _
/-- isinstance(e, C) -/
def aIsE (K : PySem.W.Frag) (a C : Addr) (t : AA) : AE := fun τ S Q => t τ S fun ds S1 => ∃ c b, ds = [.ref a, .ref c] ∧ PySem.W.kitOne K (.ref C) (.ref c) = some b ∧ Q (.bl b) S1
theorem e_isE {X : Cx} {a C d : Addr} {v : AV} {oe : Obj} {pn : List (Addr × Obj)} {Hh : Hp} {Sh : Store} {e : Expr} {es : List Expr} {t : AA} {p pos : Pos} (E : ExcC X.K C) (hz : Zc (.ref C) (some d) oe) (hf : ∃ vs, oe.data = .fields vs) (xd : XdIs X.K Hh Sh d v)
    (hm : X.mg "isinstance" = none) (ha : PA (X.suite a ((a, oe) :: pn)) (e :: es) (lowA ⟨X.K, bornAt Hh Sh⟩ t)) (hg : Gl X "isinstance" := by rfl) (he : starEach (e :: es) X.env = (false, eval e X.env) :: starEach es X.env := by rfl) (hpl : (backTo pos (starEach es X.env)).any (·.1) = false := by rfl) :
    PE (X.suite a ((a, oe) :: pn)) (.Call (.Name "isinstance" p) (e :: es) [] pos) (low ⟨X.K, bornAt Hh Sh⟩ (aIsE X.K a C t)) :=
  (pe_callB (call_isX E hz hf) hg hm (by decide +kernel) ha (by decide) (by decide) he hpl).weak fun σ H QH ⟨τ, S, Q, R, so, q, k⟩ => ⟨τ, S, _, R, so, q, fun vs H1 ds S1 so1 st1 r1 ⟨c, b, ed, hk, q1⟩ => by
    subst ed
    obtain ⟨n, y, hy, ry⟩ := xd.step (Step.trans R.bt st1)
    cases r1 with
    | cons rx rr =>
      cases rr with
      | cons rt rr =>
        cases rr
        obtain rfl := rel_refE rx
        obtain rfl := rel_refE rt
        exact ⟨_, .ref c, b, _, rfl, fun u h => h, hk, hy, k _ H1 _ S1 so1 st1 (.bl b) q1⟩⟩
theorem kit_same {K : PySem.W.Frag} {C : Addr} : PySem.W.kitOne K (.ref C) (.ref C) = some true := by
  unfold PySem.W.kitOne
  rw [if_pos (by simp)]
end L3

set_option Elab.async false
set_option linter.all false
set_option maxRecDepth 100000
set_option maxHeartbeats 2000000
set_option autoImplicit false
/-! L3U: what a text says of its exceptions; an empty dict; try with error.value. -/
namespace L3
open PySem L2 PyProof.Rows
variable {bb : Birth}
section
open PySem.W
variable {K : Frag} {mg : Str → Option Value} {C D f cc cda : Addr}
theorem HInit.of {P : Program} {w : World} {st : Stmt} {oc kV doc pm ct ccl cl : Value} {od an cdd cld : Option Addr} {osl ccs csl : Array (Option Value)} {vs : Array Value} {file : Str} {tf : Tok} {qual : Str} {p0 p1 p2 p3 p4 p5 p6 p7 p8 p9 : Pos} {ar : Arg}
    {nm q : Str} {N : Addr} {bs bm : List Value} {sn : List Str} {sub : List Value} {ab : Bool} {col : Option Bool} {dd : Option Addr} {k0 k1 k2 k3 k5 : Option Value}
    (ho : K.lookup f = some ⟨oc, od, .func (fnX "__init__" qual (defArgs st) (defBody st) (defScope st) [("__class__", cc)] .none kV doc pm an (.ref cda) ct), osl⟩) (hcd : codeIn K (.ref cda) qual = true)
    (hcode : K.lookup cda = some ⟨ccl, cdd, .fields vs, ccs⟩) (hvs : vs[2]? = some (.str file tf)) (hcell : K.lookup cc = some ⟨cl, cld, .cell (some (.ref D)), csl⟩)
    (hDl : K.lookup D = some (excClassObj nm q D N bs bm true sn sub ab col dd k0 k1 k2 k3 k5 "ValueError.__new__"))
    (hno : nsIn K cStatics "thirdparty.any" = some none) (hsup : mg "super" = none) (ty : typeIn K (.ref f) = some (.type "function"))
    (hfile : ((P.main.file : Str) == file) = true) (htop : (P.main.scope.names.lookup ("super" : Str)).isSome = false)
    (hb : defBody st = XI.initBody p0 p1 p2 p3 p4 p5 p6 p7 p8 p9)
    (hp : ((defArgs st).posonlyargs ++ (defArgs st).args).head? = some ar) (har : ar.arg = "self")
    (hbind : ∀ (kV doc pm : Value) (an : Option Addr) (cdv ct : Value) (cl : List (Str × Addr)) (us : List Value), us.length = 2 → bindArgs (fnX "__init__" qual (defArgs st) (defBody st) (defScope st) cl .none kV doc pm an cdv ct) ⟨us, []⟩ = pure ((["self", "value"] : List Str).zip us))
    (hks : (defScope st).names.lookup ("super" : Str) = some .globalImplicit) (hkc : (defScope st).names.lookup ("__class__" : Str) = some .free) (hka : (defScope st).names.lookup ("self" : Str) = some .local) (hkv : (defScope st).names.lookup ("value" : Str) = some .local)
    (hkind : (defScope st).kind = .function) (hcells : ∀ x ∈ (defScope st).names, x.2 ≠ .cell) (hco : (defScope st).isCoroutine = false) (hgen : (defScope st).isGenerator = false)
    (i1 : ∀ L, interactive (envX qual (defScope st) L f (.ref cda) [("__class__", cc)]) = false) (i2 : ∀ L, swapsWith (.Call (.Attribute (.Call (.Name "super" p0) [] [] p1) "__init__" p2) [.Name "value" p3] [] p4) none p5.line (envX qual (defScope st) L f (.ref cda) [("__class__", cc)]) = pure false)
    (i3 : ∀ L, ∃ pl : Sem Bool, eval (.Call (.Attribute (.Call (.Name "super" p0) [] [] p1) "__init__" p2) [.Name "value" p3] [] p4) (envX qual (defScope st) L f (.ref cda) [("__class__", cc)]) = (do
      let ov ← attributeBase (.Call (.Name "super" p0) [] [] p1) "__init__" (envX qual (defScope st) L f (.ref cda) [("__class__", cc)]) (eval (.Call (.Name "super" p0) [] [] p1) (envX qual (defScope st) L f (.ref cda) [("__class__", cc)]))
      standAt p2.atName
      let (f', first) ← holding [ov] (getMethod ov "__init__" pl)
      callWith p4 f' first (backTo p4 (starEach [.Name "value" p3] (envX qual (defScope st) L f (.ref cda) [("__class__", cc)]))) []))
    (i4 : ∀ L, swapsWith (.Name "value" p8) (some (.Attribute (.Name "self" p6) "value" p7)) p9.line (envX qual (defScope st) L f (.ref cda) [("__class__", cc)]) = pure false) : HInit P w K mg D f := by
  have hD : clsIn K D = some { name := nm, bases := bs, mro := .ref D :: bm, ns := N, qualname := q, hasDict := true, slotNames := sn, subclasses := sub, abstract := ab, collection := col, hasDel := false } := by
    unfold clsIn
    rw [hDl] <;> rfl
  rw [hb] at ho hbind
  refine ⟨fun T X G B NL hr hx hKx hq => ?_, ty⟩
  exact XI.beginV T X G B NL hr ho hcd hp har (.of_eq (hbind _ _ _ _ _ _ _ _ rfl)) hcode hvs hfile hcell hD hno hsup htop hks hkc hka hkv hkind hcells hco hgen hx hKx i1 i2 i3 i4 hq
theorem Exn.of {P : Program} {w : World} {nm q : Str} {N : Addr} {bs bm : List Value} {sn : List Str} {sub : List Value} {ab : Bool} {col : Option Bool} {dd : Option Addr} {k0 k1 k2 k3 k5 : Option Value}
    (xL : K.lookup C = some (excClassObj nm q C N bs bm true sn sub ab col dd k0 k1 k2 k3 k5 "ValueError.__new__")) (ini : findIn K (.ref C) "__init__" = some (some (.ref f))) (sa : findIn K (.ref C) "__setattr__" = some (some (.builtin "object.__setattr__"))) (no : findIn K (.ref C) "value" = some none)
    (kp : keepIn K (.ref C) = true) (sb : subIn K (.ref C) (.type "BaseException") = some true) (ty : typeIn K (.ref C) = some (.type "type"))
    (ga : findIn K (.ref C) "__getattribute__" = some (some (.builtin "BaseException.__getattribute__"))) (gg : findIn K (.ref C) "__getattr__" = some none) (hd : hasDictIn K C = true)
    (hbm : PySem.HandSPX.refsVE bm = true) (hdr : ((Value.ref C :: bm).dropWhile (· != .ref D)).drop 1 = PySem.HandSPX.veTail) (hct : (Value.ref C :: bm).contains (.ref D) = true) : Exn P w K mg D f C :=
  ⟨⟨⟨_, _, _, _, _, _, _, _, _, _, _, _, _, _, _, xL, hbm, hdr, hct⟩, sa, no⟩, ini, kp, sb, ty, ⟨ga, gg, sb, hd⟩⟩
theorem exm_sub {S : Addr} (h1 : subIn K (.ref S) (.type "BaseException") = some true) (h2 : isClsIn K S = true) (h3 : typeIn K (.ref S) = some (.type "type")) (h4 : subIn K (.ref C) (.ref S) = some true) : exmOne K (.ref C) (.ref S) = some true := by
  have e1 : (PySem.W.subIn K (.ref S) (.type "BaseException") == some true) = true := by rw [h1] <;> rfl
  have e2 : ((PySem.W.clsIn K S).isSome && PySem.W.typeIn K (.ref S) == some (.type "type")) = true := by
    have h2' : (PySem.W.clsIn K S).isSome = true := h2
    rw [h2', h3] <;> rfl
  show (if (PySem.W.subIn K (.ref S) (.type "BaseException") == some true) = true then (if ((PySem.W.clsIn K S).isSome && PySem.W.typeIn K (.ref S) == some (.type "type")) = true then PySem.W.subIn K (.ref C) (.ref S) else none) else none) = some true
  rw [if_pos e1, if_pos e2]
  exact h4
end
/-- an exception's class whose instances keep a value -/
def XfV (K : PySem.W.Frag) (C : Addr) : Prop := XfC K C ∧ PySem.W.findIn K (.ref C) "value" = some none ∧ ExcC K C
theorem Exn.xv {P : Program} {w : World} {K : PySem.W.Frag} {mg : Str → Option Value} {D f C : Addr} (T : Exn P w K mg D f C) (E : ExcC K C) : XfV K C := ⟨T.xf, T.kind.no, E⟩
/-- try: .. except x as n: .., n.value read -/
def aTryV (K : PySem.W.Frag) (i : Nat) (Hc : Addr) (asb : EXw → AS) (ash : Addr → Addr → AV → AS) : AS := fun D τ S =>
  asb (fun τ' C v S' => PySem.W.exmOne K (.ref C) (.ref Hc) = some true ∧ XfV K C ∧ ∀ a, ash a C v { nx := fun τ2 S2 => D.nx (τ2.set i none) S2, rt := D.rt, bk := fun τ2 S2 => D.bk (τ2.set i none) S2, ct := fun τ2 S2 => D.ct (τ2.set i none) S2 } (τ'.set i (some (.ref a))) S') D τ S
section
variable {X : Cx} {x n : Str} {Hc : Addr} {i : Nat} {body suite : List Stmt} {b₀ : Stmt} {np pos pos' : Pos} {asb : EXw → AS} {ash : Addr → Addr → AV → AS}
theorem s_tryV (i : Nat) (hc : X.mg x = some (.ref Hc)) (hN : X.N.Nodup) (hb : ∀ (pn : List (Addr × Obj)) (xe : Value → Shared → Prop) (EX : EXw) (b2 : Birth), TkX (X.tr pn xe) b2 EX → PassesOwn (model X.prog X.w) X.A X.env xe → PSs (X.tr pn xe) body (lowS ⟨X.K, b2⟩ (asb EX)))
    (hsu : ∀ (a : Addr) (oe : Obj) (C d : Addr) (v : AV) (pn : List (Addr × Obj)) (Hh : Hp) (Sh : Store), Zc (.ref C) (some d) oe → (∃ vs, oe.data = .fields vs) → XdIs X.K Hh Sh d v → XfV X.K C → PSs (X.suite a ((a, oe) :: pn)) (b₀ :: suite) (lowS ⟨X.K, bornAt Hh Sh⟩ (ash a C v)))
    (hi : X.N[i]? = some n := by rfl) (hln : X.env.kindOf n = some .local := by rfl) (hs : X.stack = X.env :: X.outer := by rfl) (hf : X.env.frame = some X.env.locals := by rfl) (hg : Gl X x := by rfl) (hdb : (x == ("__debug__" : Str)) = false := by decide) :
    PS X (.Try body [.ExceptHandler (some (.Name x np)) (some n) (b₀ :: suite) pos'] [] [] pos) (lowS (kx X bb) (aTryV X.K i Hc asb ash)) := by
  refine (ps_try_as (i := i) (c := .ref Hc) (tb := fun W D σ H => ∃ (b2 : Birth) (EX : EXw), (∀ (C d : Addr) (v : AV) (σ : L2.St) (τ : ASt) (H : Hp) (S : Store), Rp ⟨X.K, b2⟩ H S σ τ → StOk X.K H S → XdIs X.K H S d v → EX τ C v S → W (.ref C) (some d) σ H) ∧ lowS ⟨X.K, b2⟩ (asb EX) D σ H)
    (ts := fun a cls d D σ H => ∃ (C dd : Addr) (v : AV) (S : Store) (τ : ASt) (DA : AEnds), cls = .ref C ∧ d = some dd ∧ XdIs X.K H S dd v ∧ XfV X.K C ∧ Rp ⟨X.K, bornAt H S⟩ H S σ τ ∧ StOk X.K H S ∧ ash a C v DA τ S ∧ EndsOk ⟨X.K, bornAt H S⟩ H S DA D)
    hs hf hN hi hln ⟨hg, hdb, .inl hc⟩ takes0 (fun W pn xe tw po => ⟨fun pins s σ H D I ⟨b2, EX, ht, q⟩ => (hb pn xe EX b2 ⟨⟨W, tw, ht⟩⟩ po).run pins s σ H D I q⟩) (fun a oe cls d pn hz hd => ⟨fun pins s σ H D I h => ?_⟩)).weak fun DH σ H ⟨τ, S, DA, R, so, q, k⟩ => ?_
  · obtain ⟨C, dd, v, S, τ, DA, e1, e2, xd, xv, R, so, q, ends⟩ := h
    subst e1 e2
    exact (hsu a oe C dd v pn H S hz hd xd xv).run pins s σ H D I ⟨τ, S, DA, R, so, q, ends⟩
  · refine ⟨bornAt H S, _, fun C d v σ' τ' H' S' R' so' xd ⟨em, xv, hq⟩ => ⟨true, em, fun _ a ha => ?_, fun z => by cases z⟩, τ, S, DA, R.re rfl Step.refl, so, q, ?_⟩
    · exact ⟨fun σ2 H2 τ2 S2 so2 st2 R2 q2 => k.nx _ H2 _ S2 so2 st2 (R2.re rfl (bb.step R.bt st2)) q2, fun v2 H2 d2 S2 so2 st2 => k.rt v2 H2 d2 S2 so2 st2,
        fun σ2 H2 τ2 S2 so2 st2 R2 q2 => k.bk _ H2 _ S2 so2 st2 (R2.re rfl (bb.step R.bt st2)) q2, fun σ2 H2 τ2 S2 so2 st2 R2 q2 => k.ct _ H2 _ S2 so2 st2 (R2.re rfl (bb.step R.bt st2)) q2⟩
    · have st' : Step H S H' S' := R'.bt
      refine ⟨C, d, v, S', _, _, rfl, rfl, xd, xv, (R'.re (k2 := ⟨X.K, bornAt H' S'⟩) rfl Step.refl).set (.ref a) i, so', hq a, ?_⟩
      exact ⟨fun σ2 H2 τ2 S2 so2 st2 R2 q2 => k.nx _ H2 _ S2 so2 (st'.trans st2) ((R2.forget i).re rfl (bb.step R.bt (st'.trans st2))) q2, fun v2 H2 d2 S2 so2 st2 => k.rt v2 H2 d2 S2 so2 (st'.trans st2),
        fun σ2 H2 τ2 S2 so2 st2 R2 q2 => k.bk _ H2 _ S2 so2 (st'.trans st2) ((R2.forget i).re rfl (bb.step R.bt (st'.trans st2))) q2, fun σ2 H2 τ2 S2 so2 st2 R2 q2 => k.ct _ H2 _ S2 so2 (st'.trans st2) ((R2.forget i).re rfl (bb.step R.bt (st'.trans st2))) q2⟩
end
theorem e_errV {X : Cx} {a C d : Addr} {v : AV} {oe : Obj} {pn : List (Addr × Obj)} {Hh : Hp} {Sh : Store} {e : Expr} {te : AE} {pos : Pos} (hz : Zc (.ref C) (some d) oe) (hf : ∃ vs, oe.data = .fields vs) (xd : XdIs X.K Hh Sh d v) (xv : XfV X.K C)
    (he : PE (X.suite a ((a, oe) :: pn)) e (low ⟨X.K, bornAt Hh Sh⟩ te)) (hb : attributeBase e "value" X.env (eval e X.env) = eval e X.env := by rfl) : PE (X.suite a ((a, oe) :: pn)) (.Attribute e "value" pos) (low ⟨X.K, bornAt Hh Sh⟩ (aErr a v te)) := e_err xv.1 xv.2.1 hz hf xd he hb
/-- {} -/
def aDct0 : AE := fun _ S Q => ∀ l, S l = none → Q (.ref l) (updS S l (.dK []))
theorem e_dct0 {X : Cx} {pos : Pos} : PE X (.Dict [] [] pos) (low (kx X bb) aDct0) := pe_dnewK.weak fun σ H QH ⟨τ, S, Q, R, so, q, k⟩ => fun p hp => by
  have n : S p = none := so.fresh hp
  have st2 := step_put (o := .dK []) (u := .dK []) so hp
  exact k _ _ _ _ (stok_put (u := .dK []) so hp ⟨[], upd_same, rfl, .nil⟩) st2 (.ref p) (q p n)
section
variable {X : Cx} {elt tg iter : Expr} {ifs : List Expr} {scope : Scope} {ai : AI} {tt : AT} {te : AE} {pos spos : Pos}
/-- y = [e for a, b in ..] -/
theorem s_setLcP {y : Str} {py : Pos} (i : Nat) (j jj : Nat) (own : List (Str × Nat)) (hc : X.calm = true) (hN : X.N.Nodup) (hi : PI X tg iter (lowI (kx X bb) ai)) (ok : BlkOk X.N X.env.scope scope own)
    (hg : ∀ (s : Shared) (H : Hp) (C : Addr) (cl : List (Str × Addr)) (fp : List Addr), PG (X.blk s H scope (compEnvC scope cl C X.env) fp) tg (gTup X.K 2 (gCons (gName j) (gCons (gName jj) gNil))))
    (ht : ∀ (s : Shared) (H : Hp) (C : Addr) (cl : List (Str × Addr)) (fp : List Addr), PTs (X.blk s H scope (compEnvC scope cl C X.env) fp) ifs (lowT (kx X bb) tt))
    (he : ∀ (s : Shared) (H : Hp) (C : Addr) (cl : List (Str × Addr)) (fp : List Addr), PE (X.blk s H scope (compEnvC scope cl C X.env) fp) elt (low (kx X bb) te))
    (hj : j ∈ own.map (·.2) := by decide) (hjj : jj ∈ own.map (·.2) := by decide) (hy : X.N[i]? = some y := by rfl) (hyl : X.env.scope.names.lookup y = some .local := by rfl)
    (hsw : swapsWith (.ListComp elt [⟨tg, iter, ifs, 0⟩] scope pos) (some (.Name y py)) spos.line X.env = pure true := by exact sw_true rfl rfl rfl (by decide +kernel)) (hs : ∀ x, foldedSetIterable iter X.env x = pure x := by intro _; rfl) :
    PS X (.Assign [.Name y py] (.ListComp elt [⟨tg, iter, ifs, 0⟩] scope pos) spos) (lowS (kx X bb) (aAsg (aLcP ai j jj tt te (own.map (·.2))) (agName i))) :=
  (ps_setLc (own := own) hc hN hy hyl hsw hi ok hg ht he hs).weak fun D σ H ⟨τ, S, DA, R, so, q, k⟩ => lcP_low hj hjj rfl rfl σ H _ ⟨τ, S, _, R, so, q, fun v H' d S' so' st' r' q' => k.nx _ H' _ S' so' st' ((R.step st').set r' i) q'⟩
end
end L3

set_option Elab.async false
set_option linter.all false
set_option maxRecDepth 100000
set_option maxHeartbeats 2000000
set_option autoImplicit false
/-! L3W: f(k = v), f may raise. -/
namespace L3
open PySem L2 PyProof.Rows
variable {bb : Birth}
structure FnKX (P : Program) (w : World) (K : PySem.W.Frag) (mg : Str → Option Value) (base : Heap) (k : Nat) (x : Str) (ps : List Str) (asp : ASpX) (n : Nat) (ks : List Str) (g : {α : Type} → List α → List α → List α) : Prop where
  ex : ∃ (f : Addr) (fd : FuncData), FnGX P w K mg base k f fd ps (spOfX K asp) ∧ mg x = some (.ref f) ∧ PySem.W.keepIn K (.ref f) = true ∧
    (∀ (s : Shared) (us ws : List Value), us.length = n → ws.length = ks.length → BindsTo s fd ⟨us, ks.zip ws⟩ (ps.zip (g us ws)))
  vals : ∀ {vs : List V} {us : List Value} {zs : List V} {ws : List Value}, vs.length = n → zs.length = ks.length → Vals vs us → Vals zs ws → Vals (g vs zs) (g us ws)
  rels : ∀ {H : Hp} {S : Store} {vs zs : List V} {ds es : List AV}, vs.length = n → zs.length = ks.length → RelAs K H S vs ds → RelAs K H S zs es → RelAs K H S (g vs zs) (g ds es)
theorem run_gkx {X : Cx} {k : Nat} {f : Addr} {fd : FuncData} {ps ks : List Str} {sp : Sp} {g : List Value → List Value → List Value} {gV : List V → List V → List V} {E : XK} {pins : List (Addr × Obj)} {σ : L2.St} {H : Hp} {s : Shared} {Q : VK} {us ws : List Value} {vs zs : List V} (F : FnGX X.prog X.w X.K X.mg X.base k f fd ps sp) (gd : X.A.guards = some [])
    (hr : Room k X.A) (hb : BindsTo s fd ⟨us, ks.zip ws⟩ (ps.zip (g us ws))) (hx : PassesAt (L2.CX X.prog X.w) X σ E) (I : Inv X pins σ H s) (r : Vals (gV vs zs) (g us ws)) (h : sp (gV vs zs) H Q E) : wpAny (model X.prog X.w) X.A (call (.ref f) us (ks.zip ws)) (fun u s' => EP X pins σ Q u s') X.xe s := by
  refine wpAny_call (codeAny_mono (F.go X.A gd hr X.stack s H ⟨us, ks.zip ws⟩ (g us ws) (gV vs zs) Q E I.env0 hb r h) fun r' s' z => ?_)
  cases r' with
  | error e => exact hx pins H s e s' I z
  | ok fl =>
    cases fl with
    | brk => exact z.elim
    | cont => exact z.elim
    | next => exact z.elim
    | ret u => exact I.after z
section
variable {P : Program} {w : World} {K : PySem.W.Frag} {mg : Str → Option Value} {base : Heap} {k : Nat} {x : Str} {st : Stmt} {ps : List Str} {asp : ASpX}
theorem FnXX.kw (F : FnXX P w K mg base k x st ps asp) (n : Nat) (ks : List Str) (g : {α : Type} → List α → List α → List α)
    (b : ∀ (kV doc pm : Value) (an : Option Addr) (cdv ct : Value) (us ws : List Value), us.length = n → ws.length = ks.length → bindArgs (PySem.W.fnOf x x (defArgs st) (defBody st) (defScope st) .none kV doc pm an cdv ct) ⟨us, ks.zip ws⟩ = pure (ps.zip (g us ws)))
    (vals : ∀ {vs : List V} {us : List Value} {zs : List V} {ws : List Value}, vs.length = n → zs.length = ks.length → Vals vs us → Vals zs ws → Vals (g vs zs) (g us ws))
    (rels : ∀ {H : Hp} {S : Store} {vs zs : List V} {ds es : List AV}, vs.length = n → zs.length = ks.length → RelAs K H S vs ds → RelAs K H S zs es → RelAs K H S (g vs zs) (g ds es)) : FnKX P w K mg base k x ps asp n ks g := by
  obtain ⟨f, fd, F, G, hm, hb⟩ := F.ex
  have kp := F.kp
  obtain ⟨oc, od, kV, doc, pm, an, cdv, ct, osl, rfl, lk, hcd⟩ := F.ex
  exact ⟨⟨f, _, G, hm, kp, fun s us ws l1 l2 => .of_eq (b kV doc pm an cdv ct us ws l1 l2)⟩, vals, rels⟩
theorem FnXX.kwAll (F : FnXX P w K mg base k x st ps asp) (b : ∀ (kV doc pm : Value) (an : Option Addr) (cdv ct : Value) (us ws : List Value), us.length = 0 → ws.length = ps.length → bindArgs (PySem.W.fnOf x x (defArgs st) (defBody st) (defScope st) .none kV doc pm an cdv ct) ⟨us, ps.zip ws⟩ = pure (ps.zip ws)) :
    FnKX P w K mg base k x ps asp 0 ps (fun _ zs => zs) := F.kw 0 ps (fun _ zs => zs) b (fun _ _ _ r => r) (fun _ _ _ r => r)
end
def aCallKX (asp : ASpX) (EX : EXw) (m : Nat) (g : List AV → List AV → List AV) (tk : AA) : AE := fun τ S Q => tk τ S fun zs S1 => zs.length = m ∧ asp (g [] zs) S1 Q (EX τ)
theorem f_callKX0 {X : Cx} {pos p : Pos} {k : Nat} {x : Str} {ps ks : List Str} {asp : ASpX} {EX : EXw} {g : {α : Type} → List α → List α → List α} {kws : List Keyword} {ta : AA} (tk : TkX X bb EX) (F : FnKX X.prog X.w X.K X.mg X.base k x ps asp 0 ks g) (gd : X.A.guards = some []) (hr : Room k X.A) (hkw : PK X kws (lowA (kx X bb) ta)) (hg : Gl X x := by rfl)
    (hall : (backToKw pos (keywordEach kws X.env)).all (·.1.isSome) = true := by rfl) (hks : (backToKw pos (keywordEach kws X.env)).filterMap (·.1) = ks := by rfl) (hdb : (x == ("__debug__" : Str)) = false := by decide)
    (hpl : ((backTo pos (starEach [] X.env)).any (·.1) || (backToKw pos (keywordEach kws X.env)).any (·.1.isNone)) = false := by rfl) :
    PE X (.Call (.Name x p) [] kws pos) (low (kx X bb) (aCallKX asp EX ks.length g ta)) := by
  obtain ⟨f, fd, G, hm, hk, hb⟩ := F.ex
  obtain ⟨W, tw, hw⟩ := tk.ex
  refine ⟨fun pins s σ H QH I h => wpAny_Call_Name_kw (ld_glob I hg hm (PySem.W.callWith_KW0 (h₀ := X.base) I.ok.mod.kin hk hall ?_ hpl) hdb)⟩
  obtain ⟨τ, S, Q, R, so, q, kk⟩ := h
  refine thn (hkw.run pos pins s σ H (fun zs H1 => ∃ es S1, StOk X.K H1 S1 ∧ Step H S H1 S1 ∧ RelAs X.K H1 S1 zs es ∧ es.length = ks.length ∧ asp (g [] es) S1 Q (EX τ)) I ⟨τ, S, _, R, so, q, fun zs H1 es S1 so1 st1 r1 q1 => ⟨es, S1, so1, st1, r1, q1⟩⟩) fun ws s2 z => ?_
  obtain ⟨zs, H2, I2, rz, es, S1, so1, st1, r1, hl, q1⟩ := z
  refine ⟨I2.kIn, ?_⟩
  rw [hks]
  have lz : zs.length = ks.length := r1.length.trans hl
  exact run_gkx (us := []) (vs := []) (zs := zs) (g := g) (gV := g) G gd hr (hb s2 [] ws rfl (rz.length.symm.trans lz)) (passAt tw σ) I2 (F.vals rfl lz .nil rz) ⟨g [] es, S1, Q, EX τ, F.rels rfl lz .nil r1, so1, q1, fun d S' v H' so' st' r' q' => kk v H' d S' so' (st1.trans st') r' q',
    fun C d v H' S' so' st' xd ex => hw C d v σ τ H' S' (R.step (st1.trans st')) so' xd ex⟩
end L3

set_option Elab.async false
set_option linter.all false
set_option maxRecDepth 100000
set_option maxHeartbeats 1000000
set_option autoImplicit false
/-! ReadM: the reader of values, as mathematics: what each of its methods makes of the signs that are left. -/
namespace Vm
open PySem L2 L3 NumText
def dig (c : Nat) : Bool := decide (48 ≤ c) && decide (c ≤ 57)
/-- the figures from here on, no greater than most, no nought ahead -/
def figs (neg : Bool) (most : Int) (found : List Nat) : List Nat → List Nat
  | [] => found
  | c :: rs => if dig c = true then (if found = [48] ∨ (neg = true ∧ found ++ [c] = [48]) ∨ most < (digitsVal (found ++ [c]) : Int) then found else figs neg most (found ++ [c]) rs) else found
/-- a number and its end: what it is (none: stuck), how many signs are gone -/
def numF (below : Bool) (most : Int) (e : Nat) (rs : List Nat) : Option Int × Nat :=
  let neg := below && decide (rs.head? = some 45)
  let k := if neg = true then 1 else 0
  let f := figs neg most [] (rs.drop k)
  if f = [] then (none, k) else if (rs.drop (k + f.length)).head? = some e then (some (if neg = true then -(digitsVal f : Int) else (digitsVal f : Int)), k + f.length + 1) else (none, k + f.length)
/-- a string, behind its sign -/
def strF (rs : List Nat) : Option (List Nat) × Nat := match numF false 100000 58 rs with
  | (none, n) => (none, n)
  | (some m, n) =>
    let found := (rs.drop n).take m.toNat
    if (found.filter chB).length < m.toNat then (none, n + (found.takeWhile chB).length) else (some found, n + m.toNat)
def sngF (rs : List Nat) : Option AV × Nat :=
  if rs.head? = some 110 then (some .non, 1)
  else if rs.head? = some 105 then ((numF true 1000000000000000000 59 (rs.drop 1)).1.map AV.int, 1 + (numF true 1000000000000000000 59 (rs.drop 1)).2)
  else if rs.head? = some 115 then ((strF (rs.drop 1)).1.map fun l => AV.str ⟨l.toArray⟩, 1 + (strF (rs.drop 1)).2)
  else (none, 0)
/-- a value: fuel, what is open, the signs that are left -/
def valF : Nat → List (List AV) → List Nat → Option AV × Nat
  | 0, _, _ => (none, 0)
  | n + 1, st, rs =>
    if st.length < 30 ∧ rs.head? = some 40 then let r := valF n ([] :: st) (rs.drop 1); (r.1, 1 + r.2)
    else match st with
      | [] => sngF rs
      | top :: more =>
        if rs.head? = some 41 then match more with
          | [] => (some (.tup top), 1)
          | up :: rest => let r := valF n ((up ++ [.tup top]) :: rest) (rs.drop 1); (r.1, 1 + r.2)
        else match sngF rs with
          | (none, k) => (none, k)
          | (some v, k) => let r := valF n ((top ++ [v]) :: more) (rs.drop k); (r.1, k + r.2)
/-! ### the reader's fields -/
def rdF (z : Str) (i : Int) (st : Bool) : List (Str × AV) := [("own_text", .str z), ("own_at", .int i), ("is_stuck", .bl st)]
section
variable {S : Store} {a C : Addr} {z : Str} {i : Int} {st : Bool} {Q : AK} {R : Store → Prop}
theorem rd_text (h : S a = some (.ins C (rdF z i st))) : FldAt (.ref a) C "own_text" S Q = Q (.str z) S := fldAt_of h (by unfold rdF; simp [List.lookup])
theorem rd_at (h : S a = some (.ins C (rdF z i st))) : FldAt (.ref a) C "own_at" S Q = Q (.int i) S := fldAt_of h (by
  have e : (("own_at" : Str) == ("own_text" : Str)) = false := by decide +kernel
  unfold rdF
  rw [List.lookup_cons, e]
  simp [List.lookup])
theorem rd_st (h : S a = some (.ins C (rdF z i st))) : FldAt (.ref a) C "is_stuck" S Q = Q (.bl st) S := fldAt_of h (by
  have e : (("is_stuck" : Str) == ("own_text" : Str)) = false := by decide +kernel
  have e2 : (("is_stuck" : Str) == ("own_at" : Str)) = false := by decide +kernel
  unfold rdF
  rw [List.lookup_cons, e, List.lookup_cons, e2]
  simp [List.lookup])
theorem put_at {j : Int} (h : S a = some (.ins C (rdF z i st))) : PutAt (.ref a) C "own_at" (.int j) S R = R (updS S a (.ins C (rdF z j st))) := by
  rw [putAt_of h (by show 3 < 1000; omega)]
  have e : putA "own_at" (.int j) (rdF z i st) = rdF z j st := by
    unfold rdF
    rw [putA, if_neg (by decide +kernel), putA, if_pos rfl]
  rw [e]
theorem put_st {b : Bool} (h : S a = some (.ins C (rdF z i st))) : PutAt (.ref a) C "is_stuck" (.bl b) S R = R (updS S a (.ins C (rdF z i b))) := by
  rw [putAt_of h (by show 3 < 1000; omega)]
  have e : putA "is_stuck" (.bl b) (rdF z i st) = rdF z i b := by
    unfold rdF
    rw [putA, if_neg (by decide +kernel), putA, if_neg (by decide +kernel), putA, if_pos rfl]
  rw [e]
theorem no_attr {m : Str} (h1 : ((m == ("own_text" : Str)) = false) := by decide +kernel) (h2 : ((m == ("own_at" : Str)) = false) := by decide +kernel) (h3 : ((m == ("is_stuck" : Str)) = false) := by decide +kernel) : (rdF z i st).lookup m = none := by
  unfold rdF
  rw [List.lookup_cons, h1, List.lookup_cons, h2, List.lookup_cons, h3]
  rfl
end
theorem str_eq {x y : Str} : x = y ↔ x.cps.toList = y.cps.toList := ⟨fun h => by rw [h], fun h => by
  have : x.cps = y.cps := Array.toList_inj.mp h
  cases x; cases y; exact congrArg Str.mk this⟩
theorem cut_one {z : Str} {k c : Nat} (hk : k ≤ z.length) : decide (cutS z (some (k : Int)) (some ((k : Int) + 1)) = ⟨#[c]⟩) = decide ((z.cps.toList.drop k).head? = some c) := by
  have hl : z.length = z.cps.toList.length := (Array.length_toList).symm
  refine decide_eq_decide.mpr ?_
  rw [str_eq]
  unfold cutS
  have e1 : HT.sIx z.length 0 (some (k : Int)) = k := by rw [HT.sIx_nat]; omega
  have e2 : HT.sIx z.length z.length (some ((k : Int) + 1)) = min (k + 1) z.length := HT.sIx_nat _ _ (k + 1)
  rw [e1, e2]
  show (((z.cps.toList.drop k).take (min (k + 1) z.length - k)).toArray).toList = [c] ↔ _
  rw [List.toList_toArray]
  have hd : (z.cps.toList.drop k).length = z.length - k := by rw [List.length_drop, hl]
  cases h : z.cps.toList.drop k with
  | nil => simp
  | cons x xs =>
    rw [h, List.length_cons] at hd
    have e3 : min (k + 1) z.length - k = 1 := by omega
    rw [e3]
    simp
theorem put_len (f : Str) (y : AV) : ∀ fs : List (Str × AV), (putA f y fs).length ≤ fs.length + 1
  | [] => Nat.le_refl _
  | (g, x) :: r => by
    rw [putA]
    split
    · rw [List.length_cons, List.length_cons]; omega
    · have := put_len f y r
      rw [List.length_cons, List.length_cons]; omega
theorem rd_init {S : Store} {a C : Addr} {z : Str} {i : Int} {b : Bool} {R : Store → Prop} (h : S a = some (.ins C [])) (q : R (updS S a (.ins C (rdF z i b)))) :
    PutAt (.ref a) C "own_text" (.str z) S fun S1 => PutAt (.ref a) C "own_at" (.int i) S1 fun S2 => PutAt (.ref a) C "is_stuck" (.bl b) S2 R := by
  have l1 := put_len "own_text" (.str z) []
  have l2 := put_len "own_at" (.int i) (putA "own_text" (.str z) [])
  have l0 : ([] : List (Str × AV)).length = 0 := rfl
  rw [putAt_of h (by show 0 < 1000; omega), putAt_of updS_same (by omega), putAt_of updS_same (by omega), updS_updS, updS_updS]
  have e : putA "is_stuck" (.bl b) (putA "own_at" (.int i) (putA "own_text" (.str z) [])) = rdF z i b := by
    unfold rdF
    rw [putA, putA, if_neg (by decide +kernel), putA, putA, if_neg (by decide +kernel), putA, if_neg (by decide +kernel), putA]
  rw [e]
  exact q
theorem se {l m : List Nat} : decide ((⟨l.toArray⟩ : Str) = ⟨m.toArray⟩) = decide (l = m) := by
  refine decide_eq_decide.mpr ?_
  rw [str_eq]
theorem se1 {l m : List Nat} {w : Str} (h : w.cps.toList = m) : decide ((⟨l.toArray⟩ : Str) = w) = decide (l = m) := by
  refine decide_eq_decide.mpr ?_
  rw [str_eq, h]
theorem val_low : ∀ (t : List Nat) (acc : Nat), acc * 10 ^ t.length ≤ t.foldl (fun acc c => acc * 10 + (c - 48)) acc
  | [], acc => by show acc * 1 ≤ acc; omega
  | c :: t, acc => by
    have h := val_low t (acc * 10 + (c - 48))
    rw [List.foldl_cons, List.length_cons, Nat.pow_succ]
    have e : acc * (10 ^ t.length * 10) = acc * 10 * 10 ^ t.length := by rw [Nat.mul_comm (10 ^ t.length) 10, Nat.mul_assoc]
    have e2 : (acc * 10 + (c - 48)) * 10 ^ t.length = acc * 10 * 10 ^ t.length + (c - 48) * 10 ^ t.length := Nat.add_mul ..
    omega
/-- figures as they may stand -/
structure FigOk (most : Int) (found : List Nat) : Prop where
  dig : ∀ c ∈ found, 48 ≤ c ∧ c ≤ 57
  head : found = [] ∨ found = [48] ∨ ∃ h t, found = h :: t ∧ 49 ≤ h
  len : found.length ≤ 19
theorem FigOk.nil {most : Int} : FigOk most [] := ⟨(fun c h => by cases h), .inl rfl, by decide⟩
theorem FigOk.step {most : Int} {found : List Nat} {c : Nat} (h : FigOk most found) (hc : Vm.dig c = true) (h0 : found ≠ [48]) (hm : ¬ most < (digitsVal (found ++ [c]) : Int)) (hm2 : most ≤ 1000000000000000000) : FigOk most (found ++ [c]) := by
  simp only [Vm.dig, Bool.and_eq_true, decide_eq_true_eq] at hc
  have hh : found ++ [c] = [48] ∨ ∃ x t, found ++ [c] = x :: t ∧ 49 ≤ x := by
    rcases h.head with e | e | ⟨x, t, e, hx⟩
    · subst e
      by_cases z : c = 48
      · exact .inl (by rw [z]; rfl)
      · exact .inr ⟨c, [], rfl, by omega⟩
    · exact absurd e h0
    · exact .inr ⟨x, t ++ [c], by rw [e]; rfl, hx⟩
  refine ⟨fun d hd => ?_, .inr hh, ?_⟩
  · rcases List.mem_append.mp hd with z | z
    · exact h.dig d z
    · cases List.mem_singleton.mp z; exact hc
  · rcases hh with e | ⟨x, t, e, hx⟩
    · rw [e]; decide
    · have l := val_low t (0 * 10 + (x - 48))
      have v : digitsVal (found ++ [c]) = t.foldl (fun acc c => acc * 10 + (c - 48)) (0 * 10 + (x - 48)) := by rw [e]; rfl
      rw [v] at hm
      rw [e, List.length_cons]
      have hx2 : 1 * 10 ^ t.length ≤ (0 * 10 + (x - 48)) * 10 ^ t.length := Nat.mul_le_mul_right _ (by omega)
      by_cases z : t.length ≤ 18
      · omega
      · have : 10 ^ 19 ≤ 10 ^ t.length := Nat.pow_le_pow_right (by omega) (by omega)
        have : (10 : Nat) ^ 19 = 10000000000000000000 := by decide
        omega
theorem FigOk.text {most : Int} {found : List Nat} {c : Nat} (h : FigOk most found) (hc : Vm.dig c = true) : PySem.intText? ⟨(found ++ [c]).toArray⟩ = some ((digitsVal (found ++ [c]) : Nat) : Int) := by
  simp only [Vm.dig, Bool.and_eq_true, decide_eq_true_eq] at hc
  have hl := h.len
  refine intText_digits (x := ⟨(found ++ [c]).toArray⟩) (fun d hd => ?_) ?_ ?_
  · rw [List.toList_toArray] at hd
    rcases List.mem_append.mp hd with z | z
    · exact h.dig d z
    · cases List.mem_singleton.mp z; exact hc
  · show (found ++ [c]).toArray.toList ≠ []
    rw [List.toList_toArray]; simp
  · show (found ++ [c]).toArray.size ≤ 4300
    rw [List.size_toArray, List.length_append, List.length_singleton]; omega
theorem fig_in (c : Nat) : decide (c ∈ ("0123456789" : Str).cps.toList) = Vm.dig c := by
  have e : ("0123456789" : Str).cps.toList = [48, 49, 50, 51, 52, 53, 54, 55, 56, 57] := by decide +kernel
  rw [e]
  unfold Vm.dig
  by_cases h1 : 48 ≤ c
  · by_cases h2 : c ≤ 57
    · rw [decide_eq_true h1, decide_eq_true h2]
      have : c = 48 ∨ c = 49 ∨ c = 50 ∨ c = 51 ∨ c = 52 ∨ c = 53 ∨ c = 54 ∨ c = 55 ∨ c = 56 ∨ c = 57 := by omega
      rcases this with rfl | rfl | rfl | rfl | rfl | rfl | rfl | rfl | rfl | rfl <;> decide
    · rw [decide_eq_false h2, Bool.and_false]
      exact decide_eq_false (by simp only [List.mem_cons, List.not_mem_nil, or_false]; omega)
  · rw [decide_eq_false h1, Bool.false_and]
    exact decide_eq_false (by simp only [List.mem_cons, List.not_mem_nil, or_false]; omega)
theorem ix_str {z : Str} {k : Nat} {S : Store} (hz : z.length ≤ sizeLine) (hk : k < z.length) : ∃ c rs, z.cps.toList.drop k = c :: rs ∧ rs = z.cps.toList.drop (k + 1) ∧ ∀ S, ixA (.str z) (.int (k : Int)) S = ⟨True, .str ⟨#[c]⟩⟩ := by
  have hl : z.length = z.cps.toList.length := (Array.length_toList).symm
  have h2 : k < z.cps.toList.length := by omega
  refine ⟨z.cps.toList[k], _, List.drop_eq_getElem_cons h2, rfl, fun S => ?_⟩
  have e : atI z.cps.toList (k : Int) = some z.cps.toList[k] := atI_nat (List.getElem?_eq_getElem h2)
  show (⟨z.length ≤ sizeLine ∧ (atI z.cps.toList (k : Int)).isSome = true, .str ⟨#[(atI z.cps.toList (k : Int)).getD 0]⟩⟩ : Ans) = _
  rw [e]
  exact ans_tt ⟨hz, rfl⟩ rfl
theorem fig_inA (c : Nat) (S : Store) : inSA (.str ⟨#[c]⟩) (.str "0123456789") S = ⟨True, .bl (Vm.dig c)⟩ := by
  refine ans_tt ⟨c, rfl⟩ ?_
  rw [← fig_in c]
  rfl
theorem app1 {l : List Nat} {c : Nat} : (⟨l.toArray⟩ : Str) ++ (⟨#[c]⟩ : Str) = ⟨(l ++ [c]).toArray⟩ := by
  rw [str_eq]
  show (l.toArray ++ #[c]).toList = (l ++ [c]).toArray.toList
  simp
theorem app_tl (x y : Str) : (x ++ y).cps.toList = x.cps.toList ++ y.cps.toList := by
  show (x.cps ++ y.cps).toList = _
  rw [Array.toList_append]
theorem sg_longer {neg : Bool} {l : List Nat} (hd : ∀ d ∈ l, 48 ≤ d ∧ d ≤ 57) : decide ((if neg = true then ("-" : Str) else ("" : Str)) ++ (⟨l.toArray⟩ : Str) = ("-" : Str) ++ ("0" : Str)) = decide (neg = true ∧ l = [48]) := by
  have e0 : (("-" : Str) ++ ("0" : Str)).cps.toList = [45, 48] := by decide +kernel
  have e1 : ("-" : Str).cps.toList = [45] := by decide +kernel
  have e2 : ("" : Str).cps.toList = [] := by decide +kernel
  refine decide_eq_decide.mpr ?_
  rw [str_eq, e0, app_tl]
  cases neg with
  | true =>
    rw [if_pos rfl, e1]
    show [45] ++ l.toArray.toList = [45, 48] ↔ _
    simp
  | false =>
    rw [if_neg Bool.false_ne_true, e2]
    show [] ++ l.toArray.toList = [45, 48] ↔ _
    rw [List.nil_append, List.toList_toArray]
    refine ⟨fun h => ?_, fun h => by cases h.1⟩
    have := hd 45 (by rw [h]; simp)
    omega
theorem figs_cons {neg : Bool} {most : Int} {found rs : List Nat} {c : Nat} : figs neg most found (c :: rs) = if dig c = true then (if found = [48] ∨ (neg = true ∧ found ++ [c] = [48]) ∨ most < (digitsVal (found ++ [c]) : Int) then found else figs neg most (found ++ [c]) rs) else found := rfl
theorem figs_ok {neg : Bool} {most : Int} (hm : most ≤ 1000000000000000000) : ∀ (rs found : List Nat), FigOk most found → FigOk most (figs neg most found rs)
  | [], found, h => h
  | c :: rs, found, h => by
    rw [figs_cons]
    by_cases hc : dig c = true
    · rw [if_pos hc]
      split
      · exact h
      · rename_i hn
        exact figs_ok hm rs _ (h.step hc (fun e => hn (.inl e)) (fun e => hn (.inr (.inr e))) hm)
    · rw [if_neg hc]; exact h
theorem figs_len {neg : Bool} {most : Int} : ∀ (rs found : List Nat), found.length ≤ (figs neg most found rs).length ∧ (figs neg most found rs).length ≤ found.length + rs.length
  | [], found => ⟨Nat.le_refl _, Nat.le_refl _⟩
  | c :: rs, found => by
    rw [figs_cons]
    have h := figs_len (neg := neg) (most := most) rs (found ++ [c])
    rw [List.length_append, List.length_singleton] at h
    rw [List.length_cons]
    split
    · split
      · omega
      · omega
    · omega
theorem int_of {neg : Bool} {f : List Nat} {most : Int} (h : FigOk most f) (hne : f ≠ []) : PySem.intText? ((if neg = true then ("-" : Str) else ("" : Str)) ++ (⟨f.toArray⟩ : Str)) = some (if neg = true then -(digitsVal f : Int) else (digitsVal f : Int)) := by
  have e1 : ("-" : Str).cps.toList = [45] := by decide +kernel
  have e2 : ("" : Str).cps.toList = [] := by decide +kernel
  have hl := h.len
  cases neg with
  | true =>
    rw [if_pos rfl, if_pos rfl]
    have e : (("-" : Str) ++ (⟨f.toArray⟩ : Str)).cps.toList = 45 :: f := by
      rw [app_tl, e1]
      show [45] ++ f.toArray.toList = _
      simp
    refine intText_neg e h.dig hne ?_
    show (("-" : Str) ++ (⟨f.toArray⟩ : Str)).cps.size ≤ 4300
    rw [← Array.length_toList, e, List.length_cons]
    omega
  | false =>
    rw [if_neg Bool.false_ne_true, if_neg Bool.false_ne_true]
    have e : (("" : Str) ++ (⟨f.toArray⟩ : Str)).cps.toList = f := by
      rw [app_tl, e2]
      show [] ++ f.toArray.toList = _
      simp
    have r := intText_digits (x := ("" : Str) ++ (⟨f.toArray⟩ : Str)) (by rw [e]; exact h.dig) (by rw [e]; exact hne) (by
      show (("" : Str) ++ (⟨f.toArray⟩ : Str)).cps.size ≤ 4300
      rw [← Array.length_toList, e]
      omega)
    rw [e] at r
    exact r
theorem numF_eq {below : Bool} {most : Int} {e : Nat} {rs f : List Nat} {neg : Bool} {k : Nat} (hn : neg = (below && decide (rs.head? = some 45))) (hk : k = if neg = true then 1 else 0) (hf : f = figs neg most [] (rs.drop k)) :
    numF below most e rs = if f = [] then (none, k) else if (rs.drop (k + f.length)).head? = some e then (some (if neg = true then -(digitsVal f : Int) else (digitsVal f : Int)), k + f.length + 1) else (none, k + f.length) := by
  subst hf hk hn
  rfl
theorem numF_le {below : Bool} {most : Int} {e : Nat} {rs : List Nat} : (numF below most e rs).2 ≤ rs.length := by
  rw [numF_eq rfl rfl rfl]
  generalize hn : (below && decide (rs.head? = some 45)) = neg
  generalize hk : (if neg = true then 1 else 0) = k
  have hk1 : k ≤ rs.length := by
    subst hk
    cases neg with
    | false => simp
    | true =>
      rw [Bool.and_eq_true_iff, decide_eq_true_eq] at hn
      cases rs with
      | nil => cases hn.2
      | cons _ _ => simp
  have hl := (figs_len (neg := neg) (most := most) (rs.drop k) []).2
  rw [List.length_drop, List.length_nil] at hl
  split
  · exact hk1
  · split
    · rename_i h
      have : rs.drop (k + (figs neg most [] (rs.drop k)).length) ≠ [] := by intro z; rw [z] at h; cases h
      have h3 := mt List.drop_eq_nil_of_le this
      show k + _ + 1 ≤ _
      omega
    · show k + _ ≤ _
      omega
theorem len_app (x y : Str) : (x ++ y).length = x.length + y.length := by
  show (x.cps ++ y.cps).size = _
  exact Array.size_append ..
theorem numF_nat {most : Int} {e : Nat} {rs : List Nat} {m : Int} {n : Nat} (h : numF false most e rs = (some m, n)) : 0 ≤ m := by
  rw [numF_eq (neg := false) (k := 0) rfl rfl rfl] at h
  split at h
  · cases h
  · split at h
    · have h1 := congrArg Prod.fst h
      have h2 := Option.some.inj h1
      rw [if_neg Bool.false_ne_true] at h2
      omega
    · cases h
theorem cut_mid {z : Str} {a b : Nat} (h : a ≤ z.length) (hab : a ≤ b) : cutS z (some (a : Int)) (some (b : Int)) = ⟨((z.cps.toList.drop a).take (b - a)).toArray⟩ := by
  have hl : z.length = z.cps.toList.length := (Array.length_toList).symm
  unfold cutS
  rw [HT.sIx_nat, HT.sIx_nat, Nat.min_eq_left h]
  congr 2
  by_cases hb : b ≤ z.length
  · rw [Nat.min_eq_left hb]
  · rw [Nat.min_eq_right (by omega), List.take_of_length_le (by rw [List.length_drop]; omega), List.take_of_length_le (by rw [List.length_drop]; omega)]
/-- a comprehension over a text's signs, with a test -/
theorem lc_flt {i j : Nat} {tt : AT} {te : AE} {vs : List Nat} {τ : ASt} {S : Store} {Q : AK} {z : Str} (f : Nat → Bool) (hz : τ[i]? = some (some (.str z))) (hl : z.length ≤ sizeLine)
    (htt : ∀ c S2 (Qb : Bool → Store → Prop), c ∈ z.cps.toList → Qb (f c) S2 → tt ((wipeA τ vs).set j (some (.str ⟨#[c]⟩))) S2 Qb)
    (hte : ∀ c S2 (Qe : AK), c ∈ z.cps.toList → Qe (.str ⟨#[c]⟩) S2 → te ((wipeA τ vs).set j (some (.str ⟨#[c]⟩))) S2 Qe)
    (q : Q (.lst ((z.cps.toList.filter f).map fun c => .str ⟨#[c]⟩)) S) : aLc (aiStr (aVar i)) j tt te vs τ S Q := by
  refine ⟨_, hz, z, rfl, fun D hD => ?_⟩
  have hll : z.cps.toList.length = z.length := Array.length_toList
  refine ⟨fun k acc S2 => k ≤ z.cps.toList.length ∧ acc = ((z.cps.toList.take k).filter f).map (fun c => .str ⟨#[c]⟩) ∧ S2 = updS S D .hid, ⟨Nat.zero_le _, rfl, rfl⟩, fun k x acc S2 hx ⟨hk, ea, es⟩ => ⟨trivial, ?_⟩, fun acc S2 ⟨hk, ea, es⟩ => ⟨trivial, ?_⟩⟩
  · unfold signsA at hx
    rw [List.getElem?_map] at hx
    cases hc : z.cps.toList[k]? with
    | none => rw [hc] at hx; cases hx
    | some c =>
      rw [hc] at hx
      cases hx
      have hlt := (List.getElem?_eq_some_iff.mp hc).1
      have hm := List.mem_of_getElem? hc
      have hacc : acc.length ≤ k := by
        rw [ea, List.length_map]
        refine Nat.le_trans (List.length_filter_le ..) ?_
        rw [List.length_take]; omega
      refine htt c S2 _ hm ?_
      have e : ((z.cps.toList.take (k + 1)).filter f).map (fun c => AV.str ⟨#[c]⟩) = acc ++ (if f c = true then [AV.str ⟨#[c]⟩] else []) := by
        rw [List.take_add_one, hc, List.filter_append, List.map_append, ea]
        congr 1
        cases h : f c <;> simp [h]
      cases h : f c with
      | true =>
        rw [h, if_pos rfl] at e
        simp only [if_true]
        exact hte c S2 _ hm ⟨by omega, by omega, e.symm, es⟩
      | false =>
        rw [h, if_neg Bool.false_ne_true, List.append_nil] at e
        simp only [Bool.false_eq_true, if_false]
        exact ⟨by omega, e.symm, es⟩
  · unfold signsA at ea
    rw [List.length_map] at ea
    rw [ea, es, List.take_length, dropS_upd hD]
    exact q
/-- a string that stands here is whole -/
def goodS (rs : List Nat) : Prop := rs.head? = some 115 → ∀ n m, numF false 100000 58 (rs.drop 1) = (some m, n) → m.toNat ≤ ((((rs.drop 1).drop n).take m.toNat).filter chB).length
def goodV : Nat → List (List AV) → List Nat → Prop
  | 0, _, _ => True
  | n + 1, st, rs =>
    if st.length < 30 ∧ rs.head? = some 40 then goodV n ([] :: st) (rs.drop 1)
    else match st with
      | [] => goodS rs
      | top :: more =>
        if rs.head? = some 41 then match more with
          | [] => True
          | up :: rest => goodV n ((up ++ [.tup top]) :: rest) (rs.drop 1)
        else goodS rs ∧ match sngF rs with
          | (none, _) => True
          | (some v, k) => goodV n ((top ++ [v]) :: more) (rs.drop k)
/-- the stack of lists that are open, as it lies in the store -/
structure StkS (base S : Store) (l : Addr) (refs : List Addr) (st : List (List AV)) : Prop where
  sub : Sub base S
  hl : S l = some (.lst (refs.reverse.map AV.ref))
  hb : base l = none
  len : refs.length = st.length
  at_ : ∀ (i : Nat) (r : Addr) (xs : List AV), refs[i]? = some r → st[i]? = some xs → S r = some (.lst xs)
  nd : refs.Nodup
  out : ∀ r ∈ refs, base r = none ∧ r ≠ l
theorem StkS.self {base S : Store} {l a : Addr} {refs : List Addr} {st : List (List AV)} {o o2 : AO} (h : StkS base S l refs st) (ha : base a = some o) : StkS (updS base a o2) (updS S a o2) l refs st := by
  have nl : l ≠ a := by rintro rfl; rw [h.hb] at ha; cases ha
  have nr : ∀ r ∈ refs, r ≠ a := fun r hr => by rintro rfl; rw [(h.out r hr).1] at ha; cases ha
  refine ⟨h.sub.upd, by rw [updS_ne nl]; exact h.hl, by rw [updS_ne nl]; exact h.hb, h.len, fun i r xs hr hx => ?_, h.nd, fun r hr => ⟨by rw [updS_ne (nr r hr)]; exact (h.out r hr).1, (h.out r hr).2⟩⟩
  rw [updS_ne (nr r (List.mem_of_getElem? hr))]
  exact h.at_ i r xs hr hx
theorem StkS.push {base S : Store} {l r : Addr} {refs : List Addr} {st : List (List AV)} (h : StkS base S l refs st) (hr : S r = none) : StkS base (updS (updS S r (.lst [])) l (.lst ((r :: refs).reverse.map AV.ref))) l (r :: refs) ([] :: st) := by
  have nl : r ≠ l := by rintro rfl; rw [h.hl] at hr; cases hr
  have hbr := h.sub.non hr
  have nr : ∀ q ∈ refs, q ≠ r := fun q hq => by
    rintro rfl
    obtain ⟨i, hi⟩ := List.getElem?_of_mem hq
    have : i < st.length := by rw [← h.len]; exact (List.getElem?_eq_some_iff.mp hi).1
    have e := h.at_ i q st[i] hi (List.getElem?_eq_getElem this)
    rw [hr] at e; cases e
  refine ⟨?_, updS_same, h.hb, by rw [List.length_cons, List.length_cons, h.len], fun i q xs hq hx => ?_, ?_, fun q hq => ?_⟩
  · exact (h.sub.new hbr (by rw [hr]; simp) (by simp)).new h.hb (by rw [updS_ne (Ne.symm nl), h.hl]; simp) (by simp)
  · cases i with
    | zero =>
      rw [List.getElem?_cons_zero] at hq hx
      cases hq; cases hx
      rw [updS_ne nl, updS_same]
    | succ i =>
      rw [List.getElem?_cons_succ] at hq hx
      have hm := List.mem_of_getElem? hq
      rw [updS_ne (h.out q hm).2, updS_ne (nr q hm)]
      exact h.at_ i q xs hq hx
  · exact List.nodup_cons.mpr ⟨fun hm => nr r hm rfl, h.nd⟩
  · rcases List.mem_cons.mp hq with rfl | hq
    · exact ⟨hbr, nl⟩
    · exact h.out q hq
theorem StkS.pop {base S : Store} {l r : Addr} {refs : List Addr} {st : List (List AV)} {xs : List AV} (h : StkS base S l (r :: refs) (xs :: st)) : S l = some (.lst (refs.reverse.map AV.ref ++ [.ref r])) ∧ S r = some (.lst xs) ∧ r ≠ l ∧ StkS base (updS S l (.lst (refs.reverse.map AV.ref))) l refs st := by
  refine ⟨by rw [h.hl, List.reverse_cons, List.map_append]; rfl, h.at_ 0 r xs rfl rfl, (h.out r (List.mem_cons_self ..)).2, ?_⟩
  refine ⟨h.sub.new h.hb (by rw [h.hl]; simp) (by simp), updS_same, h.hb, by have := h.len; rw [List.length_cons, List.length_cons] at this; omega, fun i q ys hq hx => ?_, (List.nodup_cons.mp h.nd).2, fun q hq => h.out q (List.mem_cons_of_mem _ hq)⟩
  rw [updS_ne (h.out q (List.mem_cons_of_mem _ (List.mem_of_getElem? hq))).2]
  exact h.at_ (i + 1) q ys (by rw [List.getElem?_cons_succ]; exact hq) (by rw [List.getElem?_cons_succ]; exact hx)
theorem StkS.app {base S : Store} {l r : Addr} {refs : List Addr} {st : List (List AV)} {xs : List AV} {v : AV} (h : StkS base S l (r :: refs) (xs :: st)) : StkS base (updS S r (.lst (xs ++ [v]))) l (r :: refs) ((xs ++ [v]) :: st) := by
  have o := h.out r (List.mem_cons_self ..)
  have hr := h.at_ 0 r xs rfl rfl
  refine ⟨h.sub.new o.1 (by rw [hr]; simp) (by simp), by rw [updS_ne (Ne.symm o.2)]; exact h.hl, h.hb, by rw [h.len]; rfl, fun i q ys hq hx => ?_, h.nd, h.out⟩
  cases i with
  | zero =>
    rw [List.getElem?_cons_zero] at hq hx
    cases hq; cases hx
    exact updS_same
  | succ i =>
    have hq' : refs[i]? = some q := by rw [List.getElem?_cons_succ] at hq; exact hq
    have ne : q ≠ r := by
      rintro rfl
      exact (List.nodup_cons.mp h.nd).1 (List.mem_of_getElem? hq')
    rw [updS_ne ne]
    exact h.at_ (i + 1) q ys hq (by rw [List.getElem?_cons_succ] at hx ⊢; exact hx)
theorem ix_last {S : Store} {l : Addr} {xs : List AV} {y : AV} (h : S l = some (.lst (xs ++ [y]))) : ixA (.ref l) (.int (-1)) S = ⟨True, y⟩ := by
  show ixL (lstA S (.ref l)) (.int (-1)) = _
  rw [lstA_ref h]
  show (⟨(atI (xs ++ [y]) (-1)).isSome = true, (atI (xs ++ [y]) (-1)).getD .non⟩ : Ans) = _
  rw [atI_last]
  exact ans_tt rfl rfl
theorem sngF_le {rs : List Nat} : (sngF rs).2 ≤ rs.length ∧ ((sngF rs).1 ≠ none → 1 ≤ (sngF rs).2) := by
  have hd : ∀ c : Nat, rs.head? = some c → 1 + (rs.drop 1).length = rs.length := fun c h => by
    cases rs with
    | nil => cases h
    | cons x xs => rw [List.drop_one, List.tail_cons, List.length_cons]; omega
  unfold sngF
  split
  · rename_i h
    have := hd _ h
    exact ⟨by show 1 ≤ _; omega, fun _ => Nat.le_refl _⟩
  · split
    · rename_i h
      have := hd _ h
      have := numF_le (below := true) (most := 1000000000000000000) (e := 59) (rs := rs.drop 1)
      exact ⟨by show 1 + _ ≤ _; omega, fun _ => by show 1 ≤ 1 + _; omega⟩
    · split
      · rename_i h
        have h1 := hd _ h
        refine ⟨?_, fun _ => by show 1 ≤ 1 + _; omega⟩
        show 1 + (strF (rs.drop 1)).2 ≤ _
        have hs : (strF (rs.drop 1)).2 ≤ (rs.drop 1).length := by
          unfold strF
          have hn := numF_le (below := false) (most := 100000) (e := 58) (rs := rs.drop 1)
          generalize numF false 100000 58 (rs.drop 1) = pr at hn ⊢
          obtain ⟨o, n⟩ := pr
          cases o with
          | none => exact hn
          | some m =>
            have hn : n ≤ (rs.drop 1).length := hn
            show (if (List.filter chB (List.take m.toNat (List.drop n (List.drop 1 rs)))).length < m.toNat then ((none, n + (List.takeWhile chB (List.take m.toNat (List.drop n (List.drop 1 rs)))).length) : Option (List Nat) × Nat) else (some (List.take m.toNat (List.drop n (List.drop 1 rs))), n + m.toNat)).2 ≤ _
            split
            · have a := (List.takeWhile_sublist (l := List.take m.toNat (List.drop n (List.drop 1 rs))) chB).length_le
              rw [List.length_take, List.length_drop] at a
              show n + _ ≤ _
              omega
            · rename_i hf
              have a := List.length_filter_le chB (List.take m.toNat (List.drop n (List.drop 1 rs)))
              rw [List.length_take, List.length_drop] at a
              show n + _ ≤ _
              omega
        omega
      · exact ⟨Nat.zero_le _, fun h => absurd rfl h⟩
section
variable {m j : Nat} {st more rest : List (List AV)} {top up : List AV} {rs : List Nat} {v : AV}
theorem valF_open (h : st.length < 30 ∧ rs.head? = some 40) : valF (m + 1) st rs = ((valF m ([] :: st) (rs.drop 1)).1, 1 + (valF m ([] :: st) (rs.drop 1)).2) := if_pos h
theorem goodV_open (h : st.length < 30 ∧ rs.head? = some 40) (g : goodV (m + 1) st rs) : goodV m ([] :: st) (rs.drop 1) := by
  exact Eq.mp (if_pos h) g
theorem valF_nil (h : ¬ (([] : List (List AV)).length < 30 ∧ rs.head? = some 40)) : valF (m + 1) [] rs = sngF rs := if_neg h
theorem goodV_nil (h : ¬ (([] : List (List AV)).length < 30 ∧ rs.head? = some 40)) (g : goodV (m + 1) [] rs) : goodS rs := by
  rw [goodV, if_neg h] at g; exact g
theorem valF_shut0 (h : ¬ (([top] : List (List AV)).length < 30 ∧ rs.head? = some 40)) (h2 : rs.head? = some 41) : valF (m + 1) [top] rs = (some (.tup top), 1) := by
  rw [valF, if_neg h]
  exact if_pos h2
theorem valF_shut (h : ¬ ((top :: up :: rest).length < 30 ∧ rs.head? = some 40)) (h2 : rs.head? = some 41) : valF (m + 1) (top :: up :: rest) rs = ((valF m ((up ++ [.tup top]) :: rest) (rs.drop 1)).1, 1 + (valF m ((up ++ [.tup top]) :: rest) (rs.drop 1)).2) := by
  rw [valF, if_neg h]
  exact if_pos h2
theorem goodV_shut (h : ¬ ((top :: up :: rest).length < 30 ∧ rs.head? = some 40)) (h2 : rs.head? = some 41) (g : goodV (m + 1) (top :: up :: rest) rs) : goodV m ((up ++ [.tup top]) :: rest) (rs.drop 1) := by
  rw [goodV, if_neg h] at g
  have g : (if rs.head? = some 41 then goodV m ((up ++ [.tup top]) :: rest) (rs.drop 1) else _) := g
  rw [if_pos h2] at g
  exact g
theorem goodV_sng (h : ¬ ((top :: more).length < 30 ∧ rs.head? = some 40)) (h2 : ¬ rs.head? = some 41) (g : goodV (m + 1) (top :: more) rs) : goodS rs ∧ match sngF rs with
    | (none, _) => True
    | (some v, k) => goodV m ((top ++ [v]) :: more) (rs.drop k) := by
  have g1 := Eq.mp (if_neg h) g
  exact Eq.mp (if_neg h2) g1
theorem valF_non (h : ¬ ((top :: more).length < 30 ∧ rs.head? = some 40)) (h2 : ¬ rs.head? = some 41) (hs : sngF rs = (none, j)) : valF (m + 1) (top :: more) rs = (none, j) := by
  refine (if_neg h).trans ((if_neg h2).trans ?_)
  rw [hs]
theorem valF_som (h : ¬ ((top :: more).length < 30 ∧ rs.head? = some 40)) (h2 : ¬ rs.head? = some 41) (hs : sngF rs = (some v, j)) : valF (m + 1) (top :: more) rs = ((valF m ((top ++ [v]) :: more) (rs.drop j)).1, j + (valF m ((top ++ [v]) :: more) (rs.drop j)).2) := by
  refine (if_neg h).trans ((if_neg h2).trans ?_)
  rw [hs]
end
end Vm

set_option Elab.async false
set_option linter.all false
set_option maxRecDepth 100000
set_option maxHeartbeats 1000000
set_option autoImplicit false
/-! TextM: texts of values, and that the reader reads them back. -/
namespace Vm
open PySem L2 L3 NumText
def num (i : Int) : List Nat := (Str.ofString (toString i)).cps.toList
mutual
def txt : AV → List Nat
  | .non => [110]
  | .int i => 105 :: (num i ++ [59])
  | .str z => 115 :: (num z.length ++ 58 :: z.cps.toList)
  | .tup xs => 40 :: (txts xs ++ [41])
  | _ => []
def txts : List AV → List Nat
  | [] => []
  | x :: xs => txt x ++ txts xs
end
/-! ### figures -/
def dgs (m : Nat) : List Nat := (Nat.toDigits 10 m).map Char.toNat
theorem num_nat (m : Nat) : num (m : Int) = dgs m := PySem.W.KIN.signs_num m
theorem num_neg (m : Nat) : num (Int.negSucc m) = 45 :: dgs (m + 1) := by
  have e : ("-" ++ Nat.repr (m + 1)).toList = '-' :: (Nat.repr (m + 1)).toList := by rw [String.toList_append]; rfl
  unfold num dgs
  have s : (Str.ofString (toString (Int.negSucc m))).cps.toList = (toString (Int.negSucc m)).toList.map Char.toNat := PyProof.Rows.signs_ofString _
  rw [s]
  show ("-" ++ Nat.repr (m + 1)).toList.map Char.toNat = _
  rw [e, List.map_cons, Nat.toList_repr]
  rfl
theorem dgs_dig (m : Nat) : ∀ c ∈ dgs m, 48 ≤ c ∧ c ≤ 57 := by
  intro c hc
  obtain ⟨ch, hch, e⟩ := List.mem_map.mp hc
  have r := PyProof.Rows.digit_range (Nat.isDigit_of_mem_toDigits (by decide) (by decide) hch)
  rw [← e]
  exact r
theorem dgs_val (m : Nat) : digitsVal (dgs m) = m := PySem.W.KIN.val_back m
theorem dgs_head (m : Nat) : dgs m = [48] ∨ ∃ h t, dgs m = h :: t ∧ 49 ≤ h := by
  induction m using Nat.strongRecOn with
  | _ m ih =>
    by_cases h : m < 10
    · unfold dgs
      rw [Nat.toDigits_of_lt_base h]
      have : m = 0 ∨ m = 1 ∨ m = 2 ∨ m = 3 ∨ m = 4 ∨ m = 5 ∨ m = 6 ∨ m = 7 ∨ m = 8 ∨ m = 9 := by omega
      rcases this with rfl | rfl | rfl | rfl | rfl | rfl | rfl | rfl | rfl | rfl
      · exact .inl (by decide)
      all_goals exact .inr ⟨_, _, rfl, by decide⟩
    · have hm : m % 10 < 10 := Nat.mod_lt _ (by omega)
      have t : Nat.toDigits 10 (m / 10) ++ Nat.toDigits 10 (m % 10) = Nat.toDigits 10 (10 * (m / 10) + m % 10) := Nat.toDigits_append_toDigits (by decide) (by omega) hm
      rw [Nat.div_add_mod] at t
      have e : dgs m = dgs (m / 10) ++ dgs (m % 10) := by
        unfold dgs
        rw [← t, List.map_append]
      rcases ih (m / 10) (by omega) with z | ⟨x, y, z, hx⟩
      · have v := dgs_val (m / 10)
        rw [z] at v
        have : m / 10 = 0 := v.symm
        omega
      · exact .inr ⟨x, y ++ dgs (m % 10), by rw [e, z]; rfl, hx⟩
theorem val_mono (p q : List Nat) : digitsVal p ≤ digitsVal (p ++ q) := by
  have h := val_low q (digitsVal p)
  have e : digitsVal (p ++ q) = q.foldl (fun acc c => acc * 10 + (c - 48)) (digitsVal p) := by unfold digitsVal; rw [List.foldl_append]
  rw [e]
  have : 1 ≤ 10 ^ q.length := Nat.pow_le_pow_right (show 0 < 10 by omega) (Nat.zero_le q.length)
  have : digitsVal p * 1 ≤ digitsVal p * 10 ^ q.length := Nat.mul_le_mul_left _ this
  omega
/-- the figures of a number are read whole -/
theorem figs_all {neg : Bool} {most : Int} {ds rest : List Nat} (hd : ∀ c ∈ ds, 48 ≤ c ∧ c ≤ 57) (hh : ds = [48] ∨ ∃ h t, ds = h :: t ∧ 49 ≤ h) (hm : (digitsVal ds : Int) ≤ most) (hn : ¬ (neg = true ∧ ds = [48])) (hr : ∀ c, rest.head? = some c → dig c = false) :
    ∀ more found : List Nat, found ++ more = ds → figs neg most found (more ++ rest) = ds
  | [], found, e => by
    rw [List.append_nil] at e
    rw [List.nil_append]
    cases rest with
    | nil => exact e
    | cons c rs => rw [figs_cons, if_neg (by rw [hr c rfl]; simp)]; exact e
  | c :: more, found, e => by
    have hc := hd c (by rw [← e]; simp)
    have hcd : dig c = true := by unfold dig; rw [decide_eq_true hc.1, decide_eq_true hc.2]; rfl
    have e2 : (found ++ [c]) ++ more = ds := by rw [List.append_assoc]; exact e
    rw [List.cons_append, figs_cons, if_pos hcd, if_neg]
    · exact figs_all hd hh hm hn hr more (found ++ [c]) e2
    · rintro (z | ⟨z1, z2⟩ | z)
      · subst z
        rcases hh with w | ⟨x, t, w, hx⟩
        · rw [w] at e; cases e
        · rw [w] at e
          have := (List.cons.inj e).1
          omega
      · rw [z2] at e2
        rcases hh with w | ⟨x, t, w, hx⟩
        · exact hn ⟨z1, w⟩
        · rw [w] at e2
          have := (List.cons.inj e2).1
          omega
      · have v := val_mono (found ++ [c]) more
        rw [e2] at v
        omega
theorem numF_num {below : Bool} {most : Int} {e : Nat} {i : Int} {rest : List Nat} (h0 : below = true ∨ 0 ≤ i) (h1 : -most ≤ i) (h2 : i ≤ most) (he : dig e = false) : numF below most e (num i ++ e :: rest) = (some i, (num i).length + 1) := by
  have hr : ∀ c, (e :: rest).head? = some c → dig c = false := fun c hc => by cases hc; exact he
  cases i with
  | ofNat m =>
    have en : num (Int.ofNat m) = dgs m := num_nat m
    rw [en]
    have hne : dgs m ≠ [] := by rcases dgs_head m with z | ⟨x, t, z, _⟩ <;> rw [z] <;> simp
    have h45 : (below && decide ((dgs m ++ e :: rest).head? = some 45)) = false := by
      rw [Bool.and_eq_false_iff]
      right
      refine decide_eq_false ?_
      cases hdg : dgs m with
      | nil => exact absurd hdg hne
      | cons x t =>
        have := dgs_dig m x (by rw [hdg]; simp)
        intro z
        cases z
        omega
    have hm : (digitsVal (dgs m) : Int) ≤ most := by rw [dgs_val]; exact h2
    have hf : figs false most [] ((dgs m ++ e :: rest).drop 0) = dgs m := figs_all (dgs_dig m) (dgs_head m) hm (by rintro ⟨z, _⟩; cases z) hr (dgs m) [] rfl
    rw [numF_eq (neg := false) (k := 0) (f := dgs m) h45.symm rfl hf.symm, if_neg hne, Nat.zero_add, List.drop_left, if_pos (show (e :: rest).head? = some e from rfl), dgs_val]
    rfl
  | negSucc m =>
    have hb : below = true := h0.elim id fun z => by omega
    subst hb
    rw [num_neg]
    have hne : dgs (m + 1) ≠ [] := by rcases dgs_head (m + 1) with z | ⟨x, t, z, _⟩ <;> rw [z] <;> simp
    have hm : (digitsVal (dgs (m + 1)) : Int) ≤ most := by rw [dgs_val]; omega
    have hf : figs true most [] (((45 :: dgs (m + 1)) ++ e :: rest).drop 1) = dgs (m + 1) := figs_all (dgs_dig _) (dgs_head _) hm (by
      rintro ⟨_, z⟩
      have v := dgs_val (m + 1)
      rw [z] at v
      cases v) hr (dgs (m + 1)) [] rfl
    rw [numF_eq (neg := true) (k := 1) (f := dgs (m + 1)) rfl rfl hf.symm, if_neg hne]
    have ed : ((45 :: dgs (m + 1)) ++ e :: rest).drop (1 + (dgs (m + 1)).length) = e :: rest := by
      rw [Nat.add_comm, List.cons_append, List.drop_succ_cons, List.drop_left]
    rw [ed, if_pos (show (e :: rest).head? = some e from rfl), if_pos rfl, dgs_val, List.length_cons]
    have ei : -((m + 1 : Nat) : Int) = Int.negSucc m := by omega
    rw [ei, Nat.add_comm 1]
/-! ### single values -/
theorem strF_txt {z : Str} {rest : List Nat} (hl : z.length ≤ 100000) (hc : z.cps.toList.all chB = true) : strF (num z.length ++ 58 :: (z.cps.toList ++ rest)) = (some z.cps.toList, (num z.length).length + 1 + z.length) ∧ ∀ n m, numF false 100000 58 (num z.length ++ 58 :: (z.cps.toList ++ rest)) = (some m, n) → m.toNat ≤ ((((num z.length ++ 58 :: (z.cps.toList ++ rest)).drop n).take m.toNat).filter chB).length := by
  have hll : z.cps.toList.length = z.length := Array.length_toList
  have hN := numF_num (below := false) (most := 100000) (e := 58) (i := (z.length : Int)) (rest := z.cps.toList ++ rest) (.inr (by omega)) (by omega) (by omega) (by decide)
  have ed : (num z.length ++ 58 :: (z.cps.toList ++ rest)).drop ((num z.length).length + 1) = z.cps.toList ++ rest := by
    rw [← List.drop_drop, List.drop_left, List.drop_one, List.tail_cons]
  have et : (z.cps.toList ++ rest).take z.length = z.cps.toList := by rw [← hll, List.take_left]
  have ef : z.cps.toList.filter chB = z.cps.toList := List.filter_eq_self.mpr (List.all_eq_true.mp hc)
  refine ⟨?_, fun n m h => ?_⟩
  · unfold strF
    rw [hN]
    show (if ((((num z.length ++ 58 :: (z.cps.toList ++ rest)).drop ((num z.length).length + 1)).take ((z.length : Int)).toNat).filter chB).length < ((z.length : Int)).toNat then _ else _) = _
    rw [Int.toNat_natCast, ed, et, ef, if_neg (by omega)]
  · rw [hN] at h
    obtain ⟨h1, h2⟩ := Prod.mk.inj h
    have h1 := Option.some.inj h1
    subst h1 h2
    rw [Int.toNat_natCast, ed, et, ef]
    omega
theorem sngF_txt {d : AV} {k : Nat} {rest : List Nat} (hv : isVal d k = true) (ht : isTup d = false) : sngF (txt d ++ rest) = (some d, (txt d).length) ∧ goodS (txt d ++ rest) ∧ (txt d ++ rest).head? ≠ some 40 ∧ (txt d ++ rest).head? ≠ some 41 := by
  cases d with
  | non => exact ⟨rfl, (fun h => by cases h), (fun h => by cases h), (fun h => by cases h)⟩
  | int i =>
    have hv : (decide (-1000000000000000000 ≤ i) && decide (i ≤ 1000000000000000000)) = true := hv
    rw [Bool.and_eq_true_iff, decide_eq_true_eq, decide_eq_true_eq] at hv
    have hN := numF_num (below := true) (most := 1000000000000000000) (e := 59) (i := i) (rest := rest) (.inl rfl) hv.1 hv.2 (by decide)
    have e : txt (.int i) ++ rest = 105 :: (num i ++ 59 :: rest) := by
      show 105 :: (num i ++ [59]) ++ rest = _
      rw [List.cons_append, List.append_assoc]
      rfl
    rw [e]
    refine ⟨?_, (fun h => by cases h), (fun h => by cases h), (fun h => by cases h)⟩
    show ((numF true 1000000000000000000 59 (num i ++ 59 :: rest)).1.map AV.int, 1 + (numF true 1000000000000000000 59 (num i ++ 59 :: rest)).2) = _
    rw [hN]
    show (some (AV.int i), 1 + ((num i).length + 1)) = (some (AV.int i), (105 :: (num i ++ [59])).length)
    rw [List.length_cons, List.length_append, List.length_singleton, Nat.add_comm 1]
  | str z =>
    have hv : (decide (z.length ≤ 100000) && z.cps.toList.all chB) = true := hv
    rw [Bool.and_eq_true_iff, decide_eq_true_eq] at hv
    have hll : z.cps.toList.length = z.length := Array.length_toList
    obtain ⟨hS, hg⟩ := strF_txt (rest := rest) hv.1 hv.2
    have e : txt (.str z) ++ rest = 115 :: (num z.length ++ 58 :: (z.cps.toList ++ rest)) := by
      show 115 :: (num z.length ++ 58 :: z.cps.toList) ++ rest = _
      rw [List.cons_append, List.append_assoc, List.cons_append]
    rw [e]
    refine ⟨?_, (fun _ => hg), (fun h => by cases h), (fun h => by cases h)⟩
    show ((strF (num z.length ++ 58 :: (z.cps.toList ++ rest))).1.map (fun l => AV.str ⟨l.toArray⟩), 1 + (strF (num z.length ++ 58 :: (z.cps.toList ++ rest))).2) = _
    rw [hS]
    show (some (AV.str ⟨z.cps.toList.toArray⟩), 1 + ((num z.length).length + 1 + z.length)) = (some (AV.str z), (115 :: (num z.length ++ 58 :: z.cps.toList)).length)
    rw [List.length_cons, List.length_append, List.length_cons, hll]
    have ez : (⟨z.cps.toList.toArray⟩ : Str) = z := by rw [str_eq]
    rw [ez]
    congr 1
    omega
  | tup xs => cases ht
  | bl b => cases hv
  | lst xs => cases hv
  | rol xs => cases hv
  | ref a => cases hv
  | ty n => cases hv
/-! ### the reader's run: enough fuel is as good as more -/
theorem drop_lt {rs : List Nat} {c j : Nat} (h : rs.head? = some c) (hj : 1 ≤ j) : (rs.drop j).length < rs.length := by
  cases rs with
  | nil => cases h
  | cons x xs => rw [List.length_drop, List.length_cons]; omega
theorem drop_lt' {rs : List Nat} {j : Nat} (hj : 1 ≤ j) (hr : j ≤ rs.length) : (rs.drop j).length < rs.length := by
  rw [List.length_drop]; omega
theorem fuel : ∀ (m m' : Nat) (st : List (List AV)) (rs : List Nat), rs.length < m → rs.length < m' → valF m st rs = valF m' st rs ∧ (goodV m st rs → goodV m' st rs)
  | 0, _, _, _, h, _ => by omega
  | _ + 1, 0, _, _, _, h => by omega
  | m + 1, m' + 1, st, rs, h, h' => by
    by_cases ho : st.length < 30 ∧ rs.head? = some 40
    · have hl := drop_lt ho.2 (Nat.le_refl 1)
      obtain ⟨a, b⟩ := fuel m m' ([] :: st) (rs.drop 1) (by omega) (by omega)
      rw [valF_open ho, valF_open ho, a]
      refine ⟨rfl, fun g => ?_⟩
      have g := b (goodV_open ho g)
      exact Eq.mpr (if_pos ho) g
    · have sl := sngF_le (rs := rs)
      cases st with
      | nil =>
        rw [valF_nil ho, valF_nil ho]
        exact ⟨rfl, fun g => Eq.mpr (if_neg ho) (goodV_nil ho g)⟩
      | cons top more =>
        by_cases h2 : rs.head? = some 41
        · have hl := drop_lt h2 (Nat.le_refl 1)
          cases more with
          | nil =>
            rw [valF_shut0 ho h2, valF_shut0 ho h2]
            exact ⟨rfl, fun _ => Eq.mpr (if_neg ho) (Eq.mpr (if_pos h2) trivial)⟩
          | cons up rest =>
            obtain ⟨a, b⟩ := fuel m m' ((up ++ [.tup top]) :: rest) (rs.drop 1) (by omega) (by omega)
            rw [valF_shut ho h2, valF_shut ho h2, a]
            exact ⟨rfl, fun g => Eq.mpr (if_neg ho) (Eq.mpr (if_pos h2) (b (goodV_shut ho h2 g)))⟩
        · rcases hS : sngF rs with ⟨so, j⟩
          rw [hS] at sl
          cases so with
          | none =>
            rw [valF_non ho h2 hS, valF_non ho h2 hS]
            refine ⟨rfl, fun g => ?_⟩
            obtain ⟨g1, g2⟩ := goodV_sng ho h2 g
            refine Eq.mpr (if_neg ho) (Eq.mpr (if_neg h2) ⟨g1, ?_⟩)
            rw [hS]
            trivial
          | some v =>
            have hl : (rs.drop j).length < rs.length := drop_lt' (sl.2 (by simp)) sl.1
            obtain ⟨a, b⟩ := fuel m m' ((top ++ [v]) :: more) (rs.drop j) (by omega) (by omega)
            rw [valF_som ho h2 hS, valF_som ho h2 hS, a]
            refine ⟨rfl, fun g => ?_⟩
            obtain ⟨g1, g2⟩ := goodV_sng ho h2 g
            rw [hS] at g2
            refine Eq.mpr (if_neg ho) (Eq.mpr (if_neg h2) ⟨g1, ?_⟩)
            rw [hS]
            exact b g2
/-- with fuel enough -/
def vR (st : List (List AV)) (rs : List Nat) : Option AV × Nat := valF (rs.length + 1) st rs
def vG (st : List (List AV)) (rs : List Nat) : Prop := goodV (rs.length + 1) st rs
theorem vR_of {m : Nat} {st : List (List AV)} {rs : List Nat} (h : rs.length < m) : valF m st rs = vR st rs := (fuel m (rs.length + 1) st rs h (Nat.lt_succ_self _)).1
theorem vG_of {m : Nat} {st : List (List AV)} {rs : List Nat} (h : rs.length < m) (g : vG st rs) : goodV m st rs := (fuel (rs.length + 1) m st rs (Nat.lt_succ_self _) h).2 g
/-- r, behind k more signs -/
def beh (k : Nat) (r : Option AV × Nat) : Option AV × Nat := (r.1, k + r.2)
theorem beh_beh (j k : Nat) (r : Option AV × Nat) : beh j (beh k r) = beh (j + k) r := by
  unfold beh
  rw [Nat.add_assoc]
theorem vR_open {st : List (List AV)} {rs : List Nat} (h : st.length < 30) : vR st (40 :: rs) = beh 1 (vR ([] :: st) rs) ∧ (vG ([] :: st) rs → vG st (40 :: rs)) := by
  have ho : st.length < 30 ∧ (40 :: rs).head? = some 40 := ⟨h, rfl⟩
  refine ⟨?_, fun g => Eq.mpr (if_pos ho) g⟩
  unfold vR
  rw [valF_open ho]
  rfl
theorem vR_shut0 {top : List AV} {rs : List Nat} : vR [top] (41 :: rs) = (some (.tup top), 1) ∧ vG [top] (41 :: rs) := by
  have ho : ¬ (([top] : List (List AV)).length < 30 ∧ (41 :: rs).head? = some 40) := fun h => by cases h.2
  have h2 : (41 :: rs).head? = some 41 := rfl
  have g : goodV ((41 :: rs).length + 1) [top] (41 :: rs) := by
    rw [goodV, if_neg ho]
    show (if (41 :: rs).head? = some 41 then True else _)
    rw [if_pos h2]
    trivial
  refine ⟨?_, g⟩
  unfold vR
  rw [valF_shut0 ho rfl]
theorem vR_shut {top up : List AV} {rest : List (List AV)} {rs : List Nat} : vR (top :: up :: rest) (41 :: rs) = beh 1 (vR ((up ++ [.tup top]) :: rest) rs) ∧ (vG ((up ++ [.tup top]) :: rest) rs → vG (top :: up :: rest) (41 :: rs)) := by
  have ho : ¬ ((top :: up :: rest).length < 30 ∧ (41 :: rs).head? = some 40) := fun h => by cases h.2
  have h2 : (41 :: rs).head? = some 41 := rfl
  refine ⟨?_, fun g => Eq.mpr (if_neg ho) (Eq.mpr (if_pos h2) g)⟩
  unfold vR
  rw [valF_shut ho rfl]
  rfl
theorem vR_leaf {top : List AV} {more : List (List AV)} {d : AV} {k : Nat} {rest : List Nat} (hv : isVal d k = true) (ht : isTup d = false) : vR (top :: more) (txt d ++ rest) = beh (txt d).length (vR ((top ++ [d]) :: more) rest) ∧ (vG ((top ++ [d]) :: more) rest → vG (top :: more) (txt d ++ rest)) := by
  obtain ⟨hS, hg, h40, h41⟩ := sngF_txt (rest := rest) hv ht
  have sl := sngF_le (rs := txt d ++ rest)
  rw [hS] at sl
  have ho : ¬ ((top :: more).length < 30 ∧ (txt d ++ rest).head? = some 40) := fun h => h40 h.2
  have ed : (txt d ++ rest).drop (txt d).length = rest := List.drop_left
  have hl : rest.length < (txt d ++ rest).length := by
    have := sl.2 (by simp)
    rw [List.length_append]; show _ < (txt d).length + _; have : 1 ≤ (txt d).length := this; omega
  refine ⟨?_, fun g => ?_⟩
  · unfold vR
    rw [valF_som ho h41 hS, ed, vR_of hl]
    rfl
  · refine Eq.mpr (if_neg ho) (Eq.mpr (if_neg h41) ⟨hg, ?_⟩)
    rw [hS]
    show goodV (txt d ++ rest).length ((top ++ [d]) :: more) ((txt d ++ rest).drop (txt d).length)
    rw [ed]
    exact vG_of hl g
mutual
theorem vR_val : ∀ (d : AV) (k : Nat) (top : List AV) (more : List (List AV)) (rest : List Nat), isVal d k = true → more.length + 1 + k ≤ 30 →
    vR (top :: more) (txt d ++ rest) = beh (txt d).length (vR ((top ++ [d]) :: more) rest) ∧ (vG ((top ++ [d]) :: more) rest → vG (top :: more) (txt d ++ rest))
  | .tup xs, k, top, more, rest, hv, hk => by
    have h' : (decide (k ≠ 0) && isVals xs (k - 1)) = true := hv
    rw [Bool.and_eq_true_iff, decide_eq_true_eq] at h'
    have e : txt (.tup xs) ++ rest = 40 :: (txts xs ++ 41 :: rest) := by
      show 40 :: (txts xs ++ [41]) ++ rest = _
      rw [List.cons_append, List.append_assoc]
      rfl
    have el : (txt (.tup xs)).length = 1 + ((txts xs).length + 1) := by
      show (40 :: (txts xs ++ [41])).length = _
      rw [List.length_cons, List.length_append, List.length_singleton]; omega
    obtain ⟨o1, o2⟩ := vR_open (st := top :: more) (rs := txts xs ++ 41 :: rest) (by rw [List.length_cons]; omega)
    obtain ⟨v1, v2⟩ := vRs_val xs (k - 1) [] (top :: more) (41 :: rest) h'.2 (by rw [List.length_cons]; omega)
    obtain ⟨s1, s2⟩ := vR_shut (top := [] ++ xs) (up := top) (rest := more) (rs := rest)
    rw [e, o1, v1, s1, beh_beh, beh_beh, el]
    exact ⟨by rw [Nat.add_assoc]; rfl, fun g => o2 (v2 (s2 g))⟩
  | .non, k, top, more, rest, hv, _ => vR_leaf hv rfl
  | .int i, k, top, more, rest, hv, _ => vR_leaf hv rfl
  | .str z, k, top, more, rest, hv, _ => vR_leaf hv rfl
  | .bl _, _, _, _, _, hv, _ => by cases hv
  | .lst _, _, _, _, _, hv, _ => by cases hv
  | .rol _, _, _, _, _, hv, _ => by cases hv
  | .ref _, _, _, _, _, hv, _ => by cases hv
  | .ty _, _, _, _, _, hv, _ => by cases hv
theorem vRs_val : ∀ (xs : List AV) (k : Nat) (top : List AV) (more : List (List AV)) (rest : List Nat), isVals xs k = true → more.length + 1 + k ≤ 30 →
    vR (top :: more) (txts xs ++ rest) = beh (txts xs).length (vR ((top ++ xs) :: more) rest) ∧ (vG ((top ++ xs) :: more) rest → vG (top :: more) (txts xs ++ rest))
  | [], _, top, more, rest, _, _ => by
    rw [List.append_nil]
    show vR (top :: more) rest = beh 0 (vR (top :: more) rest) ∧ (vG (top :: more) rest → vG (top :: more) rest)
    refine ⟨?_, id⟩
    unfold beh
    rw [Nat.zero_add]
  | x :: xs, k, top, more, rest, hv, hk => by
    have h := Bool.and_eq_true_iff.mp hv
    obtain ⟨a1, a2⟩ := vR_val x k top more (txts xs ++ rest) h.1 hk
    obtain ⟨b1, b2⟩ := vRs_val xs k (top ++ [x]) more rest h.2 hk
    have e : txts (x :: xs) ++ rest = txt x ++ (txts xs ++ rest) := by rw [txts, List.append_assoc]
    have et : top ++ [x] ++ xs = top ++ x :: xs := by rw [List.append_assoc]; rfl
    rw [et] at b1 b2
    rw [e, a1, b1, beh_beh, txts, List.length_append]
    exact ⟨rfl, fun g => a2 (b2 g)⟩
end
/-- THE READ-BACK: a value's text is read as that value, whole -/
theorem vR_all {d : AV} (hv : isVal d 30 = true) (rest : List Nat) : vR [] (txt d ++ rest) = (some d, (txt d).length) ∧ vG [] (txt d ++ rest) := by
  cases hT : isTup d with
  | false =>
    obtain ⟨hS, hg, h40, _⟩ := sngF_txt (rest := rest) hv hT
    have ho : ¬ (([] : List (List AV)).length < 30 ∧ (txt d ++ rest).head? = some 40) := fun h => h40 h.2
    refine ⟨?_, Eq.mpr (if_neg ho) hg⟩
    unfold vR
    rw [valF_nil ho, hS]
  | true =>
    cases d with
    | tup xs =>
      have h' : (decide (30 ≠ 0) && isVals xs 29) = true := hv
      rw [Bool.and_eq_true_iff] at h'
      have e : txt (.tup xs) ++ rest = 40 :: (txts xs ++ 41 :: rest) := by
        show 40 :: (txts xs ++ [41]) ++ rest = _
        rw [List.cons_append, List.append_assoc]
        rfl
      have el : (txt (.tup xs)).length = 1 + ((txts xs).length + 1) := by
        show (40 :: (txts xs ++ [41])).length = _
        rw [List.length_cons, List.length_append, List.length_singleton]; omega
      obtain ⟨o1, o2⟩ := vR_open (st := []) (rs := txts xs ++ 41 :: rest) (by decide)
      obtain ⟨v1, v2⟩ := vRs_val xs 29 [] [] (41 :: rest) h'.2 (by decide)
      obtain ⟨s1, s2⟩ := vR_shut0 (top := [] ++ xs) (rs := rest)
      rw [e, o1, v1, s1, el]
      exact ⟨rfl, o2 (v2 s2)⟩
    | _ => cases hT
/-! ### texts as Strs -/
def txtS (d : AV) : Str := ⟨(txt d).toArray⟩
theorem txtS_tl (d : AV) : (txtS d).cps.toList = txt d := by unfold txtS; rw [List.toList_toArray]
theorem tS_non : ("n" : Str) = txtS .non := by decide +kernel
theorem tS_str (z : Str) : (("s" : Str) ++ Str.ofString (toString (z.length : Int)) ++ (":" : Str)) ++ z = txtS (.str z) := by
  have e1 : ("s" : Str).cps.toList = [115] := by decide +kernel
  have e2 : (":" : Str).cps.toList = [58] := by decide +kernel
  rw [str_eq, txtS_tl, app_tl, app_tl, app_tl, e1, e2]
  show [115] ++ num z.length ++ [58] ++ z.cps.toList = 115 :: (num z.length ++ 58 :: z.cps.toList)
  simp
theorem tS_int (i : Int) : (("i" : Str) ++ Str.ofString (toString i)) ++ (";" : Str) = txtS (.int i) := by
  have e1 : ("i" : Str).cps.toList = [105] := by decide +kernel
  have e2 : (";" : Str).cps.toList = [59] := by decide +kernel
  rw [str_eq, txtS_tl, app_tl, app_tl, e1, e2]
  show [105] ++ num i ++ [59] = 105 :: (num i ++ [59])
  simp
theorem num_len {i : Int} (h1 : -1000000000000000000 ≤ i) (h2 : i ≤ 1000000000000000000) : (num i).length ≤ 20 := by
  have h := int_short i h1 h2
  have e : (num i).length = (Str.ofString (toString i)).length := Array.length_toList
  rw [e]
  exact h
mutual
theorem txt_len : ∀ (d : AV) (k : Nat), isVal d k = true → (txt d).length ≤ 24 * cnt d ∧ 1 ≤ (txt d).length
  | .non, _, _ => ⟨by decide, by decide⟩
  | .int i, _, h => by
    have h : (decide (-1000000000000000000 ≤ i) && decide (i ≤ 1000000000000000000)) = true := h
    rw [Bool.and_eq_true_iff, decide_eq_true_eq, decide_eq_true_eq] at h
    have := num_len h.1 h.2
    show (105 :: (num i ++ [59])).length ≤ 24 * 1 ∧ 1 ≤ (105 :: (num i ++ [59])).length
    rw [List.length_cons, List.length_append, List.length_singleton]; omega
  | .str z, _, h => by
    have h : (decide (z.length ≤ 100000) && z.cps.toList.all chB) = true := h
    rw [Bool.and_eq_true_iff, decide_eq_true_eq] at h
    have := num_len (i := z.length) (by omega) (by omega)
    have hl : z.cps.toList.length = z.length := Array.length_toList
    show (115 :: (num z.length ++ 58 :: z.cps.toList)).length ≤ 24 * (1 + z.length) ∧ 1 ≤ (115 :: (num z.length ++ 58 :: z.cps.toList)).length
    rw [List.length_cons, List.length_append, List.length_cons, hl]; omega
  | .tup xs, k, h => by
    have h : (decide (k ≠ 0) && isVals xs (k - 1)) = true := h
    rw [Bool.and_eq_true_iff] at h
    have := txts_len xs (k - 1) h.2
    show (40 :: (txts xs ++ [41])).length ≤ 24 * (1 + cnts xs) ∧ 1 ≤ (40 :: (txts xs ++ [41])).length
    rw [List.length_cons, List.length_append, List.length_singleton]; omega
  | .bl _, _, h => by cases h
  | .lst _, _, h => by cases h
  | .rol _, _, h => by cases h
  | .ref _, _, h => by cases h
  | .ty _, _, h => by cases h
theorem txts_len : ∀ (xs : List AV) (k : Nat), isVals xs k = true → (txts xs).length ≤ 24 * cnts xs
  | [], _, _ => Nat.le_refl _
  | x :: xs, k, h => by
    have h := Bool.and_eq_true_iff.mp h
    have a := (txt_len x k h.1).1
    have b := txts_len xs k h.2
    rw [txts, List.length_append, cnts]; omega
end
/-! ### a text that is being made -/
def itx (p : AV × Bool) : List Nat := match p.2 with
  | true => [41]
  | false => txt p.1
def msr (p : AV × Bool) : Nat := match p.2 with
  | true => 1
  | false => 2 * cnt p.1
def msum : List (AV × Bool) → Nat
  | [] => 0
  | p :: ps => msr p + msum ps
theorem msum_app : ∀ a b : List (AV × Bool), msum (a ++ b) = msum a + msum b
  | [], b => (Nat.zero_add _).symm
  | p :: a, b => by rw [List.cons_append, msum, msum, msum_app a b]; omega
theorem msum_len : ∀ a : List (AV × Bool), a.length ≤ msum a
  | [] => Nat.le_refl _
  | (x, b) :: a => by
    have := msum_len a
    have h := cnt_pos x
    rw [List.length_cons, msum]
    have : 1 ≤ msr (x, b) := by
      cases b with
      | true => exact Nat.le_refl _
      | false => show 1 ≤ 2 * cnt x; omega
    omega
theorem msum_rev : ∀ xs : List AV, msum (xs.reverse.map fun x => (x, false)) = 2 * cnts xs
  | [] => rfl
  | x :: xs => by
    rw [List.reverse_cons, List.map_append, msum_app, msum_rev xs, cnts]
    show _ + (2 * cnt x + 0) = _
    omega
structure TxOk (d : AV) (found : List Str) (items : List (AV × Bool)) (m : Nat) : Prop where
  sum : msum items = m
  le : m ≤ 4000000
  ok : ∀ p ∈ items, p.2 = false → isVal p.1 30 = true
  eq : found.flatMap (·.cps.toList) ++ items.reverse.flatMap itx = txt d
  ne : ∀ z ∈ found, 1 ≤ z.length
  len : (txt d).length ≤ 10000000
theorem flat_len : ∀ {found : List Str}, (∀ z ∈ found, 1 ≤ z.length) → found.length ≤ (found.flatMap (·.cps.toList)).length ∧ (found.map (·.length)).sum = (found.flatMap (·.cps.toList)).length
  | [], _ => ⟨Nat.le_refl _, rfl⟩
  | z :: zs, h => by
    obtain ⟨a, b⟩ := flat_len fun y hy => h y (List.mem_cons_of_mem _ hy)
    have := h z (List.mem_cons_self ..)
    have e : z.cps.toList.length = z.length := Array.length_toList
    rw [List.flatMap_cons, List.length_append, List.length_cons, List.map_cons, List.sum_cons, e]
    omega
section
variable {d : AV} {found : List Str} {items init : List (AV × Bool)} {m : Nat} {x : AV} {xs : List AV}
theorem TxOk.start (hv : isVal d 30 = true) (hc : cnt d ≤ 400000) : TxOk d [] [(d, false)] (2 * cnt d) := by
  have := (txt_len d 30 hv).1
  refine ⟨Nat.add_zero _, by omega, fun p hp _ => by cases List.mem_singleton.mp hp; exact hv, ?_, (fun z h => by cases h), by omega⟩
  show txt d ++ [] = txt d
  rw [List.append_nil]
theorem TxOk.flen (h : TxOk d found items m) : found.length ≤ 10000000 := by
  have a := (flat_len h.ne).1
  have b := congrArg List.length h.eq
  have := h.len
  rw [List.length_append] at b
  omega
theorem TxOk.ilen (h : TxOk d found items m) : items.length ≤ 4000000 := by
  have := msum_len items
  have := h.sum
  have := h.le
  omega
theorem TxOk.fin (h : TxOk d found [] m) : found.flatMap (·.cps.toList) = txt d := by
  have := h.eq
  rw [List.reverse_nil, List.flatMap_nil, List.append_nil] at this
  exact this
theorem TxOk.shut (h : TxOk d found (init ++ [(x, true)]) m) : ∃ m', m' < m ∧ TxOk d (found ++ [(")" : Str)]) init m' := by
  have s := h.sum
  have l := h.le
  have e := h.eq
  rw [msum_app] at s
  have e1 : msum [(x, true)] = 1 := rfl
  have c : (")" : Str).cps.toList = [41] := by decide +kernel
  rw [List.reverse_append, List.reverse_cons, List.reverse_nil, List.nil_append, List.cons_append, List.nil_append, List.flatMap_cons] at e
  refine ⟨msum init, by omega, rfl, by omega, fun p hp => h.ok p (List.mem_append_left _ hp), ?_, fun z hz => ?_, h.len⟩
  · rw [List.flatMap_append, List.flatMap_cons, List.flatMap_nil, List.append_nil, c, List.append_assoc]
    exact e
  · rcases List.mem_append.mp hz with w | w
    · exact h.ne z w
    · cases List.mem_singleton.mp w; decide +kernel
theorem TxOk.leaf (h : TxOk d found (init ++ [(x, false)]) m) : ∃ m', m' < m ∧ TxOk d (found ++ [txtS x]) init m' := by
  have s := h.sum
  have l := h.le
  have e := h.eq
  rw [msum_app] at s
  have e1 : msum [(x, false)] = 2 * cnt x + 0 := rfl
  have := cnt_pos x
  have hx := h.ok (x, false) (by simp) rfl
  rw [List.reverse_append, List.reverse_cons, List.reverse_nil, List.nil_append, List.cons_append, List.nil_append, List.flatMap_cons] at e
  refine ⟨msum init, by omega, rfl, by omega, fun p hp => h.ok p (List.mem_append_left _ hp), ?_, fun z hz => ?_, h.len⟩
  · rw [List.flatMap_append, List.flatMap_cons, List.flatMap_nil, List.append_nil, txtS_tl, List.append_assoc]
    exact e
  · rcases List.mem_append.mp hz with w | w
    · exact h.ne z w
    · cases List.mem_singleton.mp w
      have := (txt_len x 30 hx).2
      have e : (txtS x).cps.toList.length = (txtS x).length := Array.length_toList
      rw [txtS_tl] at e
      omega
theorem txts_flat : ∀ xs : List AV, (xs.map fun x => (x, false)).flatMap itx = txts xs
  | [] => rfl
  | x :: xs => by rw [List.map_cons, List.flatMap_cons, txts_flat xs]; rfl
theorem TxOk.tup (h : TxOk d found (init ++ [(.tup xs, false)]) m) : ∃ m', m' < m ∧ TxOk d (found ++ [("(" : Str)]) (init ++ [(.non, true)] ++ xs.reverse.map fun x => (x, false)) m' := by
  have s := h.sum
  have l := h.le
  have e := h.eq
  rw [msum_app] at s
  have e1 : msum [(AV.tup xs, false)] = 2 * (1 + cnts xs) + 0 := rfl
  have hx : (decide (30 ≠ 0) && isVals xs 29) = true := h.ok (.tup xs, false) (by simp) rfl
  rw [Bool.and_eq_true_iff, isVals_all, List.all_eq_true] at hx
  have c : ("(" : Str).cps.toList = [40] := by decide +kernel
  have sm : msum (init ++ [(AV.non, true)] ++ xs.reverse.map fun x => (x, false)) = msum init + 1 + 2 * cnts xs := by rw [msum_app, msum_app, msum_rev]; rfl
  rw [List.reverse_append, List.reverse_cons, List.reverse_nil, List.nil_append, List.cons_append, List.nil_append, List.flatMap_cons] at e
  refine ⟨_, by omega, sm, by omega, fun p hp hb => ?_, ?_, fun z hz => ?_, h.len⟩
  · rcases List.mem_append.mp hp with w | w
    · rcases List.mem_append.mp w with w | w
      · exact h.ok p (List.mem_append_left _ w) hb
      · cases List.mem_singleton.mp w; cases hb
    · obtain ⟨y, hy, rfl⟩ := List.mem_map.mp w
      exact val_up y 29 30 (by omega) (hx.2 y (List.mem_reverse.mp hy))
  · rw [List.flatMap_append, List.flatMap_cons, List.flatMap_nil, List.append_nil, c, List.reverse_append, List.reverse_append, List.flatMap_append, List.flatMap_append, ← List.map_reverse, List.reverse_reverse, txts_flat, ← e]
    show List.flatMap (fun x => x.cps.toList) found ++ [40] ++ (txts xs ++ ([41] ++ List.flatMap itx init.reverse)) = List.flatMap (fun x => x.cps.toList) found ++ (40 :: (txts xs ++ [41]) ++ List.flatMap itx init.reverse)
    simp
  · rcases List.mem_append.mp hz with w | w
    · exact h.ne z w
    · cases List.mem_singleton.mp w; decide +kernel
/-- the parts joined are the text -/
theorem TxOk.join {S : Store} {Q : AK} {y : AV} (h : TxOk d found [] m) (hy : seqA S y = some (found.map AV.str)) (q : Q (.str (txtS d)) S) : mJoin (.str (Str.ofString "")) [y] S Q := by
  have e0 : (Str.ofString "").length = 0 := by decide +kernel
  have em : (found.map AV.str).map strOf = found := by rw [List.map_map]; exact List.map_id' _
  have hl := (flat_len h.ne).2
  rw [h.fin] at hl
  have := h.len
  refine ⟨_, y, _, rfl, rfl, hy, by rw [List.all_map, List.all_eq_true]; intro _ _; rfl, ?_, ?_⟩
  · rw [em, e0, hl]; omega
  · rw [em, TL.join_eq]
    have e : Str.join (Str.ofString "") found = txtS d := by rw [str_eq, join_tl, txtS_tl]; exact h.fin
    rw [e]
    exact q
end
theorem foldl_mem {l : Array Nat} {c : Nat} : ∀ (n : Nat) (acc : Array Nat), c ∈ ((List.replicate n l).foldl (· ++ ·) acc).toList → c ∈ acc.toList ∨ c ∈ l.toList
  | 0, acc, h => .inl h
  | n + 1, acc, h => by
    rw [List.replicate_succ, List.foldl_cons] at h
    rcases foldl_mem n _ h with w | w
    · rw [Array.toList_append] at w
      exact (List.mem_append.mp w).elim .inl .inr
    · exact .inr w
theorem mul_sgn {z : Str} {n : Int} (h : ∀ c ∈ z.cps.toList, chB c = true) : ∀ c ∈ (Txt.mul z n).cps.toList, chB c = true := by
  intro c hc
  unfold Txt.mul at hc
  split at hc
  · cases hc
  · split at hc
    · exact h c hc
    · rcases foldl_mem _ _ hc with w | w
      · cases w
      · exact h c w
end Vm

set_option Elab.async false
set_option linter.all false
set_option maxRecDepth 100000
set_option maxHeartbeats 1000000
set_option autoImplicit false
/-! FvM: what the reader makes of the beginning of a text; first values. -/
namespace Vm
open PySem L2 L3 NumText
/-! ### what was read stays read when signs come behind -/
theorem figs_app {neg : Bool} {most : Int} {s : List Nat} : ∀ (rs found : List Nat), (figs neg most found rs).length < found.length + rs.length → figs neg most found (rs ++ s) = figs neg most found rs
  | [], found, h => by
    have : (figs neg most found []) = found := rfl
    rw [this, List.length_nil] at h
    omega
  | c :: rs, found, h => by
    rw [List.cons_append, figs_cons, figs_cons]
    rw [figs_cons] at h
    split
    · rename_i h1
      rw [if_pos h1] at h
      split
      · rfl
      · rename_i h2
        rw [if_neg h2] at h
        refine figs_app rs (found ++ [c]) ?_
        rw [List.length_append, List.length_singleton]
        rw [List.length_cons] at h
        omega
    · rfl
theorem numF_app {below : Bool} {most : Int} {e : Nat} {rs s : List Nat} {i : Int} {n : Nat} (h : numF below most e rs = (some i, n)) : numF below most e (rs ++ s) = (some i, n) := by
  have hh : (rs ++ s).head? = rs.head? := by
    cases rs with
    | nil =>
      rw [numF_eq rfl rfl rfl] at h
      have hf : figs (below && decide (([] : List Nat).head? = some 45)) most [] (([] : List Nat).drop (if (below && decide (([] : List Nat).head? = some 45)) = true then 1 else 0)) = [] := by rw [List.drop_nil]; rfl
      rw [if_pos hf] at h
      cases h
    | cons c rs => rfl
  rw [numF_eq (neg := below && decide (rs.head? = some 45)) rfl rfl rfl] at h
  generalize hn : (below && decide (rs.head? = some 45)) = neg at h
  generalize hk : (if neg = true then 1 else 0) = k at h
  have hk1 : k ≤ rs.length := by
    subst hk
    cases neg with
    | false => exact Nat.zero_le _
    | true =>
      rw [Bool.and_eq_true_iff, decide_eq_true_eq] at hn
      cases rs with
      | nil => cases hn.2
      | cons _ _ => show 1 ≤ _ + 1; omega
  split at h
  · cases h
  · rename_i hne
    split at h
    · rename_i hd
      have hlt : k + (figs neg most [] (rs.drop k)).length < rs.length := by
        have : rs.drop (k + (figs neg most [] (rs.drop k)).length) ≠ [] := by intro z; rw [z] at hd; cases hd
        exact Nat.lt_of_not_le (mt List.drop_eq_nil_of_le this)
      have ed : (rs ++ s).drop k = rs.drop k ++ s := List.drop_append_of_le_length hk1
      have ef : figs neg most [] ((rs ++ s).drop k) = figs neg most [] (rs.drop k) := by
        rw [ed]
        refine figs_app _ _ ?_
        rw [List.length_nil, List.length_drop]
        omega
      rw [numF_eq (neg := neg) (k := k) (f := figs neg most [] (rs.drop k)) (by rw [hh]; exact hn.symm) hk.symm ef.symm, if_neg hne]
      have ed2 : (rs ++ s).drop (k + (figs neg most [] (rs.drop k)).length) = rs.drop (k + (figs neg most [] (rs.drop k)).length) ++ s := List.drop_append_of_le_length (Nat.le_of_lt hlt)
      have eh : ((rs ++ s).drop (k + (figs neg most [] (rs.drop k)).length)).head? = some e := by
        rw [ed2]
        cases hx : rs.drop (k + (figs neg most [] (rs.drop k)).length) with
        | nil => rw [hx] at hd; cases hd
        | cons x xs => rw [hx] at hd; exact hd
      rw [if_pos eh]
      exact h
    · cases h
theorem strF_app {rs s l : List Nat} {n : Nat} (h : strF rs = (some l, n)) : strF (rs ++ s) = (some l, n) := by
  unfold strF at h ⊢
  rcases hN : numF false 100000 58 rs with ⟨o, k⟩
  rw [hN] at h
  cases o with
  | none => cases h
  | some m =>
    rw [numF_app hN]
    have hk := numF_le (below := false) (most := 100000) (e := 58) (rs := rs)
    rw [hN] at hk
    have hk : k ≤ rs.length := hk
    have h : (if (((rs.drop k).take m.toNat).filter chB).length < m.toNat then ((none, k + (((rs.drop k).take m.toNat).takeWhile chB).length) : Option (List Nat) × Nat) else (some ((rs.drop k).take m.toNat), k + m.toNat)) = (some l, n) := h
    show (if ((((rs ++ s).drop k).take m.toNat).filter chB).length < m.toNat then ((none, k + ((((rs ++ s).drop k).take m.toNat).takeWhile chB).length) : Option (List Nat) × Nat) else (some (((rs ++ s).drop k).take m.toNat), k + m.toNat)) = (some l, n)
    split at h
    · cases h
    · rename_i hf
      have hl := List.length_filter_le chB ((rs.drop k).take m.toNat)
      rw [List.length_take] at hl
      have e : ((rs ++ s).drop k).take m.toNat = (rs.drop k).take m.toNat := by
        rw [List.drop_append_of_le_length hk, List.take_append_of_le_length (by omega)]
      rw [e, if_neg hf]
      exact h
theorem strF_le {rs : List Nat} : (strF rs).2 ≤ rs.length := by
  have h := sngF_le (rs := 115 :: rs)
  have e : (sngF (115 :: rs)).2 = 1 + (strF rs).2 := rfl
  rw [e, List.length_cons] at h
  omega
theorem sngF_app {rs s : List Nat} {v : AV} {j : Nat} (h : sngF rs = (some v, j)) : sngF (rs ++ s) = (some v, j) := by
  cases rs with
  | nil => cases h
  | cons c rs =>
    unfold sngF at h ⊢
    have hh : ((c :: rs) ++ s).head? = (c :: rs).head? := rfl
    have hd : ((c :: rs) ++ s).drop 1 = (c :: rs).drop 1 ++ s := rfl
    rw [hh, hd]
    split at h
    · rename_i h1
      rw [if_pos h1]; exact h
    · rename_i h1
      rw [if_neg h1]
      split at h
      · rename_i h2
        rw [if_pos h2]
        rcases hN : numF true 1000000000000000000 59 ((c :: rs).drop 1) with ⟨o, k⟩
        rw [hN] at h
        cases o with
        | none => cases h
        | some i => rw [numF_app hN]; exact h
      · rename_i h2
        rw [if_neg h2]
        split at h
        · rename_i h3
          rw [if_pos h3]
          rcases hN : strF ((c :: rs).drop 1) with ⟨o, k⟩
          rw [hN] at h
          cases o with
          | none => cases h
          | some i => rw [strF_app hN]; exact h
        · cases h
theorem valF_app {s : List Nat} : ∀ (m m' : Nat) (st : List (List AV)) (rs : List Nat) (v : AV) (j : Nat), valF m st rs = (some v, j) → (rs ++ s).length < m' → valF m' st (rs ++ s) = (some v, j) ∧ j ≤ rs.length ∧ 1 ≤ j
  | 0, _, _, _, _, _, h, _ => by cases h
  | _ + 1, 0, _, _, _, _, _, hm => by omega
  | m + 1, m' + 1, st, rs, v, j, h, hm => by
    have hne : rs ≠ [] := by
      rintro rfl
      have ho : ¬ (st.length < 30 ∧ ([] : List Nat).head? = some 40) := fun z => by cases z.2
      cases st with
      | nil => rw [valF_nil ho] at h; cases h
      | cons top more => rw [valF_non ho (by simp) (j := 0) rfl] at h; cases h
    obtain ⟨c, rs', rfl⟩ : ∃ c rs', rs = c :: rs' := by
      cases rs with
      | nil => exact absurd rfl hne
      | cons c r => exact ⟨c, r, rfl⟩
    have hh : ((c :: rs') ++ s).head? = (c :: rs').head? := rfl
    have hd1 : ((c :: rs') ++ s).drop 1 = (c :: rs').drop 1 ++ s := rfl
    have hm1 : ((c :: rs').drop 1 ++ s).length < m' := by
      show (rs' ++ s).length < m'
      rw [List.cons_append, List.length_cons] at hm
      omega
    by_cases ho : st.length < 30 ∧ (c :: rs').head? = some 40
    · rw [valF_open ho] at h
      rw [valF_open (by rw [hh]; exact ho), hd1]
      rcases hr : valF m ([] :: st) ((c :: rs').drop 1) with ⟨o, k⟩
      rw [hr] at h
      cases o with
      | none => cases h
      | some v' =>
        cases h
        obtain ⟨a, b, _⟩ := valF_app m m' _ _ _ _ hr hm1
        rw [a]
        refine ⟨rfl, ?_, by omega⟩
        rw [List.drop_one, List.tail_cons] at b
        rw [List.length_cons]
        omega
    · have ho' : ¬ (st.length < 30 ∧ ((c :: rs') ++ s).head? = some 40) := ho
      cases st with
      | nil =>
        rw [valF_nil ho] at h
        rw [valF_nil ho']
        have sl := sngF_le (rs := c :: rs')
        rw [h] at sl
        exact ⟨sngF_app h, sl.1, sl.2 (by simp)⟩
      | cons top more =>
        by_cases h2 : (c :: rs').head? = some 41
        · have h2' : ((c :: rs') ++ s).head? = some 41 := h2
          cases more with
          | nil =>
            rw [valF_shut0 ho h2] at h
            rw [valF_shut0 ho' h2']
            cases h
            exact ⟨rfl, by rw [List.length_cons]; omega, Nat.le_refl 1⟩
          | cons up rest =>
            rw [valF_shut ho h2] at h
            rw [valF_shut ho' h2', hd1]
            rcases hr : valF m ((up ++ [.tup top]) :: rest) ((c :: rs').drop 1) with ⟨o, k⟩
            rw [hr] at h
            cases o with
            | none => cases h
            | some v' =>
              cases h
              obtain ⟨a, b, _⟩ := valF_app m m' _ _ _ _ hr hm1
              rw [a]
              refine ⟨rfl, ?_, by omega⟩
              rw [List.drop_one, List.tail_cons] at b
              rw [List.length_cons]
              omega
        · have h2' : ¬ ((c :: rs') ++ s).head? = some 41 := h2
          rcases hS : sngF (c :: rs') with ⟨so, k⟩
          have sl := sngF_le (rs := c :: rs')
          rw [hS] at sl
          cases so with
          | none => rw [valF_non ho h2 hS] at h; cases h
          | some v' =>
            have s1 : k ≤ (c :: rs').length := sl.1
            have s2 : 1 ≤ k := sl.2 (by simp)
            rw [valF_som ho h2 hS] at h
            rw [valF_som ho' h2' (sngF_app hS)]
            have hd2 : ((c :: rs') ++ s).drop k = (c :: rs').drop k ++ s := List.drop_append_of_le_length s1
            rw [hd2]
            rcases hr : valF m ((top ++ [v']) :: more) ((c :: rs').drop k) with ⟨o, i⟩
            rw [hr] at h
            cases o with
            | none => cases h
            | some w =>
              cases h
              have hl : ((c :: rs').drop k ++ s).length < m' := by
                rw [List.length_append, List.length_drop]
                rw [List.length_append] at hm
                omega
              obtain ⟨a, b, _⟩ := valF_app m m' _ _ _ _ hr hl
              rw [a]
              refine ⟨rfl, ?_, by omega⟩
              rw [List.length_drop] at b
              omega
theorem vR_app {rs s : List Nat} {v : AV} {j : Nat} (h : vR [] rs = (some v, j)) : vR [] (rs ++ s) = (some v, j) ∧ j ≤ rs.length ∧ 1 ≤ j := valF_app _ _ _ _ _ _ h (Nat.lt_succ_self _)
/-- a text that is cut off is stuck -/
theorem vR_cut {d : AV} {p q : List Nat} (hv : isVal d 30 = true) (e : txt d = p ++ q) (hq : q ≠ []) : (vR [] p).1 = none := by
  rcases h : vR [] p with ⟨o, j⟩
  cases o with
  | none => rfl
  | some v =>
    obtain ⟨a, b, _⟩ := vR_app (s := q) h
    obtain ⟨r, _⟩ := vR_all hv []
    rw [List.append_nil, e] at r
    rw [a] at r
    have := congrArg Prod.snd r
    have hj : j = (p ++ q).length := this
    rw [List.length_append] at hj
    have := List.length_pos_iff.mpr hq
    omega
/-! ### first values -/
inductive FV : List Nat → List AV → Nat → Prop
  | stuck {rs : List Nat} (h : (vR [] rs).1 = none) : FV rs [] 0
  | step {rs : List Nat} {v : AV} {vs : List AV} {k n : Nat} (h : vR [] rs = (some v, k)) (t : FV (rs.drop k) vs n) : FV rs (v :: vs) (k + n)
def vals30 (ds : List AV) : Prop := ∀ d ∈ ds, isVal d 30 = true
theorem fv_row : ∀ (ds : List AV) (tail : List Nat), vals30 ds → (vR [] tail).1 = none → FV (txts ds ++ tail) ds (txts ds).length
  | [], tail, _, h => .stuck h
  | d :: ds, tail, hv, h => by
    have r := (vR_all (hv d (List.mem_cons_self ..)) (txts ds ++ tail)).1
    have e : txts (d :: ds) ++ tail = txt d ++ (txts ds ++ tail) := by
      show (txt d ++ txts ds) ++ tail = _
      rw [List.append_assoc]
    have el : (txts (d :: ds)).length = (txt d).length + (txts ds).length := by
      show (txt d ++ txts ds).length = _
      rw [List.length_append]
    rw [e, el]
    refine .step r ?_
    rw [List.drop_left]
    exact fv_row ds tail (fun x hx => hv x (List.mem_cons_of_mem _ hx)) h
theorem txts_app (a b : List AV) : txts (a ++ b) = txts a ++ txts b := by
  induction a with
  | nil => rfl
  | cons x a ih =>
    show txt x ++ txts (a ++ b) = (txt x ++ txts a) ++ txts b
    rw [ih, List.append_assoc]
theorem fv_nil : (vR [] []).1 = none := rfl
/-- a cut behind m whole ones -/
theorem fv_cut {ds : List AV} {c m : Nat} (hv : vals30 ds) (h1 : (txts (ds.take m)).length ≤ c) (h2 : m < ds.length → ∀ d, ds[m]? = some d → c < (txts (ds.take m)).length + (txt d).length) (hm : m ≤ ds.length) :
    FV ((txts ds).take c) (ds.take m) (txts (ds.take m)).length := by
  have e : ds = ds.take m ++ ds.drop m := (List.take_append_drop ..).symm
  have et : txts ds = txts (ds.take m) ++ txts (ds.drop m) := by rw [← txts_app, ← e]
  have ec : (txts ds).take c = txts (ds.take m) ++ (txts (ds.drop m)).take (c - (txts (ds.take m)).length) := by
    rw [et, List.take_append, List.take_of_length_le h1]
  rw [ec]
  refine fv_row _ _ (fun x hx => hv x (List.mem_of_mem_take hx)) ?_
  cases hd : ds.drop m with
  | nil => rw [show txts ([] : List AV) = [] from rfl, List.take_nil]; exact fv_nil
  | cons d more =>
    have hlt : m < ds.length := by
      have : ds.drop m ≠ [] := by rw [hd]; simp
      exact Nat.lt_of_not_le (mt List.drop_eq_nil_of_le this)
    have hdm : ds[m]? = some d := by
      have := List.drop_eq_getElem_cons hlt
      rw [hd] at this
      rw [List.getElem?_eq_getElem hlt]
      exact congrArg some (List.cons.inj this).1.symm
    have hc := h2 hlt d hdm
    have ev : isVal d 30 = true := hv d (List.mem_of_getElem? hdm)
    have e2 : (txts (d :: more)).take (c - (txts (ds.take m)).length) = (txt d).take (c - (txts (ds.take m)).length) := by
      show (txt d ++ txts more).take _ = _
      rw [List.take_append_of_le_length (by omega)]
    rw [e2]
    refine vR_cut (q := (txt d).drop (c - (txts (ds.take m)).length)) ev (List.take_append_drop ..).symm fun z => ?_
    have := List.drop_eq_nil_iff.mp z
    omega
/-! ### places of bad signs -/
theorem wrong_head : ∀ (l : List Nat) (k : Nat), ((((l.mapIdx fun i c => (k + i, c)).filter fun x => !chB x.2).map fun x => AV.int ((x.1 : Nat) : Int)) ++ [AV.int ((k + l.length : Nat) : Int)]).head? = some (.int ((k + (l.takeWhile chB).length : Nat) : Int))
  | [], k => rfl
  | c :: l, k => by
    rw [List.mapIdx_cons, List.filter_cons]
    cases h : chB c with
    | false =>
      rw [if_pos (show (!false) = true from rfl), List.takeWhile_cons_of_neg (by rw [h]; simp)]
      rfl
    | true =>
      rw [if_neg (show ¬ (!true) = true by simp), List.takeWhile_cons_of_pos h, List.length_cons, List.length_cons]
      have e : (l.mapIdx fun i c => (k + (i + 1), c)) = l.mapIdx fun i c => (k + 1 + i, c) := by
        congr 1
        funext i c
        rw [Nat.add_assoc, Nat.add_comm 1 i]
      rw [e]
      have ih := wrong_head l (k + 1)
      rw [show k + (l.length + 1) = k + 1 + l.length by omega, show k + ((l.takeWhile chB).length + 1) = k + 1 + (l.takeWhile chB).length by omega]
      exact ih
theorem enum_sgn (z : Str) : enumA (signsA z) = (z.cps.toList.mapIdx fun i c => (0 + i, c)).map fun x => AV.tup [.int ((x.1 : Nat) : Int), .str ⟨#[x.2]⟩] := by
  unfold enumA signsA
  refine List.ext_getElem? fun i => ?_
  rw [List.getElem?_mapIdx, List.getElem?_map, List.getElem?_map, List.getElem?_mapIdx, Option.map_map, Option.map_map]
  congr 1
  funext c
  show AV.tup [.int ((i : Nat) : Int), _] = AV.tup [.int ((0 + i : Nat) : Int), _]
  rw [Nat.zero_add]
theorem aLcP_enumS {t : AA} {tt : AT} {te : AE} {j k : Nat} {vs : List Nat} {τ : ASt} {S : Store} {Q : AK} : aLcP (aiEnumS t) j k tt te vs τ S Q = t τ S fun ds S1 => ∃ z, ds = [.str z] ∧ LcGoP tt te j k vs τ Q (fun _ => True) (enumA (signsA z)) S1 := rfl
theorem ix_head {xs : List AV} {y : AV} (h : xs.head? = some y) (S : Store) : ixA (.lst xs) (.int 0) S = ⟨True, y⟩ := by
  cases xs with
  | nil => cases h
  | cons x xs =>
    cases h
    have e : atI (y :: xs) ((0 : Nat) : Int) = some y := atI_nat rfl
    show (⟨(atI (y :: xs) ((0 : Nat) : Int)).isSome = true, (atI (y :: xs) ((0 : Nat) : Int)).getD .non⟩ : Ans) = _
    rw [e]
    exact ans_tt rfl rfl
/-! ### rows of texts -/
def rowS (ds : List AV) : Str := ⟨(txts ds).toArray⟩
theorem rowS_tl (ds : List AV) : (rowS ds).cps.toList = txts ds := by unfold rowS; rw [List.toList_toArray]
theorem rowS_len (ds : List AV) : (rowS ds).length = (txts ds).length := by show (txts ds).toArray.size = _; rw [List.size_toArray]
theorem txtS_len (d : AV) : (txtS d).length = (txt d).length := by show (txt d).toArray.size = _; rw [List.size_toArray]
theorem row_len : ∀ ds : List AV, vals30 ds → (txts ds).length ≤ 24 * cnts ds ∧ ds.length ≤ (txts ds).length
  | [], _ => ⟨Nat.le_refl _, Nat.le_refl _⟩
  | d :: ds, h => by
    have a := txt_len d 30 (h d (List.mem_cons_self ..))
    have b := row_len ds fun x hx => h x (List.mem_cons_of_mem _ hx)
    show (txt d ++ txts ds).length ≤ 24 * (cnt d + cnts ds) ∧ ds.length + 1 ≤ (txt d ++ txts ds).length
    rw [List.length_append]
    omega
theorem row_sum : ∀ ds : List AV, (((ds.map fun d => AV.str (txtS d)).map strOf).map (·.length)).sum = (txts ds).length
  | [] => rfl
  | d :: ds => by
    show (txtS d).length + (((ds.map fun d => AV.str (txtS d)).map strOf).map (·.length)).sum = (txt d ++ txts ds).length
    rw [row_sum ds, List.length_append, txtS_len]
theorem row_flat : ∀ ds : List AV, ((ds.map fun d => AV.str (txtS d)).map strOf).flatMap (·.cps.toList) = txts ds
  | [] => rfl
  | d :: ds => by
    show (txtS d).cps.toList ++ ((ds.map fun d => AV.str (txtS d)).map strOf).flatMap (·.cps.toList) = txt d ++ txts ds
    rw [row_flat ds, txtS_tl]
theorem row_join {ds : List AV} {S : Store} {Q : AK} (h : (txts ds).length ≤ 16777216) (q : Q (.str (rowS ds)) S) : mJoin (.str (Str.ofString "")) [.lst (ds.map fun d => .str (txtS d))] S Q := by
  have e0 : (Str.ofString "").length = 0 := by decide +kernel
  refine ⟨_, _, _, rfl, rfl, rfl, ?_, ?_, ?_⟩
  · rw [List.all_map, List.all_eq_true]; intro _ _; rfl
  · rw [e0, row_sum]; omega
  · rw [TL.join_eq]
    have e : Str.join (Str.ofString "") ((ds.map fun d => AV.str (txtS d)).map strOf) = rowS ds := by rw [str_eq, join_tl, rowS_tl, row_flat]
    rw [e]
    exact q
theorem cutS_to (z : Str) (c : Nat) : cutS z none (some (c : Int)) = ⟨(z.cps.toList.take c).toArray⟩ := by
  have hl : z.length = z.cps.toList.length := (Array.length_toList).symm
  unfold cutS
  rw [HT.sIx_nat, HT.sIx_none, List.drop_zero, Nat.sub_zero, hl]
  congr 2
  by_cases h : c ≤ z.cps.toList.length
  · rw [Nat.min_eq_left h]
  · rw [Nat.min_eq_right (by omega), List.take_of_length_le (Nat.le_refl _), List.take_of_length_le (by omega)]
theorem cutL_to (xs : List AV) (c : Nat) : cutL xs none (some (c : Int)) = xs.take c := by
  unfold cutL
  rw [HT.sIx_nat, HT.sIx_none, List.drop_zero, Nat.sub_zero]
  by_cases h : c ≤ xs.length
  · rw [Nat.min_eq_left h]
  · rw [Nat.min_eq_right (by omega), List.take_of_length_le (Nat.le_refl _), List.take_of_length_le (by omega)]
theorem ixA_ref {l : Addr} {xs : List AV} {i : Int} {S : Store} (h : S l = some (.lst xs)) (h0 : 0 ≤ i) (h1 : i < xs.length) : ∃ y, y ∈ xs ∧ ixA (.ref l) (.int i) S = ⟨True, y⟩ := by
  show ∃ y, y ∈ xs ∧ ixL (lstA S (.ref l)) (.int i) = _
  rw [lstA_ref h]
  exact ixL_at h0 h1
def ansV (ds : List AV) (n : Nat) : AV := .tup [.tup ds, .int (n : Nat)]
theorem cnt_mem : ∀ {ds : List AV} {d : AV}, d ∈ ds → cnt d ≤ cnts ds
  | x :: xs, d, h => by
    show cnt d ≤ cnt x + cnts xs
    rcases List.mem_cons.mp h with rfl | h
    · omega
    · have := cnt_mem h
      omega
theorem cnts_take : ∀ (ds : List AV) (m : Nat), cnts (ds.take m) ≤ cnts ds
  | [], m => by rw [List.take_nil]; exact Nat.le_refl _
  | d :: ds, 0 => Nat.zero_le _
  | d :: ds, m + 1 => by
    have := cnts_take ds m
    show cnt d + cnts (ds.take m) ≤ cnt d + cnts ds
    omega
theorem ans_repr {ds : List AV} {n : Nat} (h : vals30 ds) (hc : cnts ds ≤ 400000) (hn : n ≤ 1000000000000000000) (S : Store) : reprA (.tup [.tup ds, .int (n : Nat)]) S = ⟨True, .str (toD (ansV ds n)).shown⟩ := by
  refine repr_v (d := ansV ds n) (k := 32) ?_ (by omega) ?_ S
  · show (decide (32 ≠ 0) && ((decide (31 ≠ 0) && isVals ds 30) && ((decide (-1000000000000000000 ≤ (n : Int)) && decide ((n : Int) ≤ 1000000000000000000)) && true))) = true
    rw [isVals_all, List.all_eq_true.mpr h, decide_eq_true (by omega : -1000000000000000000 ≤ (n : Int)), decide_eq_true (by omega : (n : Int) ≤ 1000000000000000000)]
    rfl
  · show 1 + ((1 + cnts ds) + (1 + 0)) ≤ 700000
    omega
theorem txts_take_succ {ds : List AV} {m : Nat} {d : AV} (h : ds[m]? = some d) : (txts (ds.take (m + 1))).length = (txts (ds.take m)).length + (txt d).length := by
  rw [List.take_add_one, h, txts_app, List.length_append]
  show _ + (txt d ++ []).length = _
  rw [List.append_nil]
theorem fold_rep {c : Nat} : ∀ (n : Nat) (acc : Array Nat), ((List.replicate n #[c]).foldl (· ++ ·) acc).toList = acc.toList ++ List.replicate n c
  | 0, acc => by simp
  | n + 1, acc => by
    rw [List.replicate_succ, List.foldl_cons, fold_rep n, Array.toList_append, List.replicate_succ, List.append_assoc]
    rfl
theorem mul_rep {c : Nat} {n : Int} (h : 2 ≤ n) : (Txt.mul ⟨#[c]⟩ n).cps.toList = List.replicate n.toNat c := by
  unfold Txt.mul
  rw [if_neg (by omega)]
  split
  · rename_i h1
    rw [Bool.or_eq_true_iff, beq_iff_eq, beq_iff_eq] at h1
    rcases h1 with z | z
    · omega
    · cases z
  · rw [fold_rep]
    rfl
theorem ix_map {f : AV → AV} {ds : List AV} {k : Nat} {d : AV} (h : ds[k]? = some d) (S : Store) : ixA (.lst (ds.map f)) (.int (k : Nat)) S = ⟨True, f d⟩ := by
  have e : atI (ds.map f) ((k : Nat) : Int) = some (f d) := atI_nat (by rw [List.getElem?_map, h]; rfl)
  show (⟨(atI (ds.map f) ((k : Nat) : Int)).isSome = true, (atI (ds.map f) ((k : Nat) : Int)).getD .non⟩ : Ans) = _
  rw [e]
  exact ans_tt rfl rfl
theorem str_len (z : Str) : z.length = z.cps.toList.length := (Array.length_toList).symm
/-- a text and one more behind it, or ahead of it and cut -/
theorem row_two (z : Str) : txtS (.str z) ++ ("n" : Str) = rowS [.str z, .non] := by
  have e : ("n" : Str).cps.toList = [110] := by decide +kernel
  rw [str_eq, app_tl, txtS_tl, rowS_tl, e]
  rfl
theorem row_cut (z : Str) : (("n" : Str) ++ cutS (txtS (.str z)) none (some ((txtS (.str z)).length - 1))).cps.toList = txts [.non] ++ (txt (.str z)).take ((txt (.str z)).length - 1) := by
  have e : ("n" : Str).cps.toList = [110] := by decide +kernel
  have h1 : 1 ≤ (txt (.str z)).length := by show 1 ≤ (_ :: _ : List Nat).length; rw [List.length_cons]; omega
  have ei : (((txtS (.str z)).length : Nat) : Int) - 1 = (((txt (.str z)).length - 1 : Nat) : Int) := by rw [txtS_len]; omega
  rw [app_tl, e, ei, cutS_to, List.toList_toArray, txtS_tl]
  rfl
theorem fv_two {z : Str} (h : isVal (.str z) 30 = true) : FV (rowS [.str z, .non]).cps.toList [.str z, .non] (txts [.str z, .non]).length := by
  have hv : vals30 [.str z, .non] := fun x hx => by
    rcases List.mem_cons.mp hx with rfl | hx
    · exact h
    · rw [List.mem_singleton.mp hx]; rfl
  have r := fv_row _ [] hv fv_nil
  rw [List.append_nil] at r
  rw [rowS_tl]
  exact r
theorem fv_one {z : Str} (h : isVal (.str z) 30 = true) : FV (("n" : Str) ++ cutS (txtS (.str z)) none (some ((txtS (.str z)).length - 1))).cps.toList [.non] 1 := by
  rw [row_cut]
  have h1 : 1 ≤ (txt (.str z)).length := by show 1 ≤ (_ :: _ : List Nat).length; rw [List.length_cons]; omega
  refine fv_row [.non] _ (fun x hx => by rw [List.mem_singleton.mp hx]; rfl) (vR_cut (q := (txt (.str z)).drop ((txt (.str z)).length - 1)) h (List.take_append_drop ..).symm fun z' => ?_)
  have := List.drop_eq_nil_iff.mp z'
  omega
theorem isi_dK {S : Store} {l : Addr} {kvs : List (Key × AV)} (h : S l = some (.dK kvs)) : isiA (.ref l) (.ty "str") S = ⟨True, .bl false⟩ := by
  have e : tyNm S (.ref l) = "dict" := by
    show (match S l with | some (.lst _) => "list" | some (.dK _) => "dict" | _ => _) = _
    rw [h]
  show (⟨(["NoneType", "bool", "int", "str", "tuple", "list", "dict"].contains (tyNm S (.ref l)) && ["bool", "int", "str", "tuple", "list", "dict"].contains "str") = true, .bl (isiB (tyNm S (.ref l)) "str")⟩ : Ans) = _
  rw [e]
  exact ans_tt (by decide +kernel) (congrArg AV.bl (by decide +kernel))
end Vm

set_option Elab.async false
set_option linter.all false
set_option maxRecDepth 100000
set_option maxHeartbeats 1000000
set_option autoImplicit false
/-! RtM: what the reader reads is the text of what it tells. -/
namespace Vm
open PySem L2 L3 NumText
theorem dgs_ten {m : Nat} (h : 10 ≤ m) : dgs m = dgs (m / 10) ++ dgs (m % 10) := by
  have hm : m % 10 < 10 := Nat.mod_lt _ (by omega)
  have t : Nat.toDigits 10 (m / 10) ++ Nat.toDigits 10 (m % 10) = Nat.toDigits 10 (10 * (m / 10) + m % 10) := Nat.toDigits_append_toDigits (by decide) (by omega) hm
  rw [Nat.div_add_mod] at t
  unfold dgs
  rw [← t, List.map_append]
theorem dgs_one {c : Nat} (h0 : 48 ≤ c) (h1 : c ≤ 57) : dgs (c - 48) = [c] := by
  have : c = 48 ∨ c = 49 ∨ c = 50 ∨ c = 51 ∨ c = 52 ∨ c = 53 ∨ c = 54 ∨ c = 55 ∨ c = 56 ∨ c = 57 := by omega
  rcases this with rfl | rfl | rfl | rfl | rfl | rfl | rfl | rfl | rfl | rfl <;> decide
theorem val_snoc (g : List Nat) (c : Nat) : digitsVal (g ++ [c]) = digitsVal g * 10 + (c - 48) := by
  unfold digitsVal
  rw [List.foldl_append]
  rfl
theorem val_pos {h : Nat} {t : List Nat} (hh : 49 ≤ h) : 1 ≤ digitsVal (h :: t) := by
  have l := val_low t (0 * 10 + (h - 48))
  have v : digitsVal (h :: t) = t.foldl (fun acc c => acc * 10 + (c - 48)) (0 * 10 + (h - 48)) := rfl
  have e : 1 ≤ 10 ^ t.length := Nat.pow_le_pow_right (by omega) (Nat.zero_le _)
  have : (0 * 10 + (h - 48)) * 1 ≤ (0 * 10 + (h - 48)) * 10 ^ t.length := Nat.mul_le_mul_left _ e
  omega
theorem canon : ∀ (n : Nat) (f : List Nat), f.length = n → (∀ c ∈ f, 48 ≤ c ∧ c ≤ 57) → (f = [48] ∨ ∃ h t, f = h :: t ∧ 49 ≤ h) → dgs (digitsVal f) = f := by
  intro n
  induction n with
  | zero =>
    intro f hf _ hh
    have := List.eq_nil_of_length_eq_zero hf
    subst this
    rcases hh with h | ⟨_, _, h, _⟩ <;> cases h
  | succ n ih =>
    intro f hf hd hh
    obtain ⟨g, c, rfl⟩ : ∃ g c, f = g ++ [c] := by
      rcases List.eq_nil_or_concat f with h | ⟨g, c, h⟩
      · subst h; cases hf
      · exact ⟨g, c, by rw [h, List.concat_eq_append]⟩
    have hc := hd c (by simp)
    rw [val_snoc]
    cases g with
    | nil =>
      show dgs (0 * 10 + (c - 48)) = [c]
      rw [Nat.zero_mul, Nat.zero_add]
      exact dgs_one hc.1 hc.2
    | cons x t =>
      have hx : 49 ≤ x := by
        rcases hh with h | ⟨y, s, h, hy⟩
        · have := congrArg List.length h
          simp at this
        · have := (List.cons.inj h).1
          omega
      have e := ih (x :: t) (by rw [List.length_append, List.length_singleton] at hf; omega) (fun d hd' => hd d (List.mem_append_left _ hd')) (.inr ⟨x, t, rfl, hx⟩)
      have vp := val_pos (t := t) hx
      rw [dgs_ten (by omega)]
      have e1 : (digitsVal (x :: t) * 10 + (c - 48)) / 10 = digitsVal (x :: t) := by omega
      have e2 : (digitsVal (x :: t) * 10 + (c - 48)) % 10 = c - 48 := by omega
      rw [e1, e2, e, dgs_one hc.1 hc.2]
theorem figs_pre {neg : Bool} {most : Int} : ∀ (rs found : List Nat), ∃ k, figs neg most found rs = found ++ rs.take k ∧ k ≤ rs.length
  | [], found => ⟨0, by rw [List.take_nil, List.append_nil]; rfl, Nat.zero_le _⟩
  | c :: rs, found => by
    rw [figs_cons]
    split
    · split
      · exact ⟨0, by simp, Nat.zero_le _⟩
      · obtain ⟨k, e, hk⟩ := figs_pre (neg := neg) (most := most) rs (found ++ [c])
        exact ⟨k + 1, by rw [e, List.take_succ_cons, List.append_assoc]; rfl, by rw [List.length_cons]; omega⟩
    · exact ⟨0, by simp, Nat.zero_le _⟩
theorem figs_val {neg : Bool} {most : Int} : ∀ (rs found : List Nat), (found = [] ∨ ((digitsVal found : Int) ≤ most ∧ ¬ (neg = true ∧ found = [48]))) → figs neg most found rs = [] ∨ ((digitsVal (figs neg most found rs) : Int) ≤ most ∧ ¬ (neg = true ∧ figs neg most found rs = [48]))
  | [], found, h => h
  | c :: rs, found, h => by
    rw [figs_cons]
    split
    · split
      · exact h
      · rename_i hno
        refine figs_val rs (found ++ [c]) (.inr ⟨?_, fun z => hno (.inr (.inl z))⟩)
        have : ¬ most < (digitsVal (found ++ [c]) : Int) := fun z => hno (.inr (.inr z))
        omega
    · exact h
theorem head_take {rs : List Nat} {n e : Nat} (h : (rs.drop n).head? = some e) : rs.take (n + 1) = rs.take n ++ [e] ∧ n < rs.length := by
  have hn : n < rs.length := by
    have : rs.drop n ≠ [] := by intro z; rw [z] at h; cases h
    exact Nat.lt_of_not_le (mt List.drop_eq_nil_of_le this)
  refine ⟨?_, hn⟩
  have e1 := List.drop_eq_getElem_cons hn
  rw [e1] at h
  have e2 : rs[n] = e := Option.some.inj h
  rw [List.take_add_one, List.getElem?_eq_getElem hn, e2]
  rfl
theorem numF_inv {below : Bool} {most : Int} {e : Nat} {rs : List Nat} {i : Int} {n : Nat} (hm : most ≤ 1000000000000000000) (hm0 : 0 ≤ most) (h : numF below most e rs = (some i, n)) :
    rs.take n = num i ++ [e] ∧ n ≤ rs.length ∧ -most ≤ i ∧ i ≤ most ∧ n = (num i).length + 1 := by
  rw [numF_eq rfl rfl rfl] at h
  generalize hn : (below && decide (rs.head? = some 45)) = neg at h
  generalize hk : (if neg = true then 1 else 0) = k at h
  generalize hf : figs neg most [] (rs.drop k) = f at h
  have ok : FigOk most f := by rw [← hf]; exact figs_ok hm _ _ .nil
  obtain ⟨q, eq, hq⟩ := figs_pre (neg := neg) (most := most) (rs.drop k) []
  rw [hf, List.nil_append] at eq
  have fv := figs_val (neg := neg) (most := most) (rs.drop k) [] (.inl rfl)
  rw [hf] at fv
  split at h
  · cases h
  · rename_i hne
    split at h
    · rename_i hd
      obtain ⟨t1, t2⟩ := head_take hd
      have fq : f = (rs.drop k).take f.length := by
        have hl : f.length ≤ q := by rw [eq, List.length_take]; omega
        have e1 : f.take f.length = f := List.take_length
        conv at e1 => lhs; arg 2; rw [eq]
        rw [List.take_take, Nat.min_eq_left hl] at e1
        exact e1.symm
      have hh := ok.head.resolve_left hne
      have cn := canon f.length f rfl ok.dig hh
      have fv := fv.resolve_left hne
      obtain ⟨h1, h2⟩ := Prod.mk.inj h
      have h1 := Option.some.inj h1
      cases hneg : neg with
      | false =>
        subst hneg
        subst hk
        rw [if_neg Bool.false_ne_true] at h1
        have fq : f = rs.take f.length := fq
        have t1 : rs.take (0 + f.length + 1) = rs.take (0 + f.length) ++ [e] := t1
        subst h1 h2
        rw [num_nat, cn]
        rw [Nat.zero_add, ← fq] at t1
        rw [if_neg Bool.false_ne_true, Nat.zero_add]
        rw [if_neg Bool.false_ne_true, Nat.zero_add] at t2
        exact ⟨t1, by omega, by omega, fv.1, rfl⟩
      | true =>
        subst hneg
        subst hk
        rw [if_pos rfl] at h1 h2
        rw [if_pos rfl] at t1 t2 fq
        rw [Bool.and_eq_true_iff, decide_eq_true_eq] at hn
        have h45 := hn.2
        obtain ⟨rs', rfl⟩ : ∃ rs', rs = 45 :: rs' := by
          cases rs with
          | nil => cases h45
          | cons x r => cases h45; exact ⟨r, rfl⟩
        have fq : f = rs'.take f.length := fq
        have n48 : f ≠ [48] := fun z => fv.2 ⟨rfl, z⟩
        obtain ⟨x, t, ex, hx⟩ := hh.resolve_left n48
        have vp := val_pos (t := t) hx
        rw [← ex] at vp
        obtain ⟨m, em⟩ : ∃ m, digitsVal f = m + 1 := ⟨digitsVal f - 1, by omega⟩
        have ei : i = Int.negSucc m := by rw [← h1, em]; omega
        subst h2
        rw [ei, num_neg, ← em, cn]
        rw [Nat.add_comm 1 f.length, List.take_succ_cons] at t1
        rw [List.take_succ_cons, ← fq] at t1
        refine ⟨?_, by omega, by omega, by omega, by rw [List.length_cons]; omega⟩
        rw [Nat.add_comm 1 f.length, List.take_succ_cons]
        exact t1
    · cases h
theorem strF_inv {rs l : List Nat} {n : Nat} (h : strF rs = (some l, n)) : rs.take n = num l.length ++ 58 :: l ∧ n ≤ rs.length ∧ l.length ≤ 100000 ∧ l.all chB = true := by
  unfold strF at h
  rcases hN : numF false 100000 58 rs with ⟨o, k⟩
  rw [hN] at h
  cases o with
  | none => cases h
  | some m =>
    have m0 := numF_nat hN
    obtain ⟨a, b, c, d, _⟩ := numF_inv (by omega) (by omega) hN
    have h : (if (((rs.drop k).take m.toNat).filter chB).length < m.toNat then ((none, k + (((rs.drop k).take m.toNat).takeWhile chB).length) : Option (List Nat) × Nat) else (some ((rs.drop k).take m.toNat), k + m.toNat)) = (some l, n) := h
    split at h
    · cases h
    · rename_i hf
      cases h
      have hl := List.length_filter_le chB ((rs.drop k).take m.toNat)
      have ht : ((rs.drop k).take m.toNat).length ≤ m.toNat := List.length_take_le ..
      have hlen : ((rs.drop k).take m.toNat).length = m.toNat := by omega
      have hfe : ((rs.drop k).take m.toNat).filter chB = (rs.drop k).take m.toNat := by
        refine List.filter_sublist.eq_of_length ?_
        omega
      refine ⟨?_, ?_, by omega, List.all_eq_true.mpr (List.filter_eq_self.mp hfe)⟩
      · rw [List.take_add, a, hlen]
        have : ((m.toNat : Nat) : Int) = m := by omega
        rw [this, List.append_assoc]
        rfl
      · rw [List.length_take, List.length_drop] at hlen
        omega
theorem sngF_inv {rs : List Nat} {v : AV} {k : Nat} (h : sngF rs = (some v, k)) : rs.take k = txt v ∧ isVal v 0 = true ∧ isTup v = false ∧ k ≤ rs.length := by
  have le := (sngF_le (rs := rs)).1
  rw [h] at le
  cases rs with
  | nil => cases h
  | cons c rs =>
    unfold sngF at h
    split at h
    · rename_i h1
      cases h
      cases h1
      exact ⟨rfl, rfl, rfl, le⟩
    · split at h
      · rename_i h2
        cases h2
        have hd : (105 :: rs).drop 1 = rs := rfl
        rw [hd] at h
        rcases hN : numF true 1000000000000000000 59 rs with ⟨o, j⟩
        rw [hN] at h
        cases o with
        | none => cases h
        | some i =>
          cases h
          obtain ⟨a, b, c, d, _⟩ := numF_inv (by omega) (by omega) hN
          refine ⟨?_, ?_, rfl, le⟩
          · rw [Nat.add_comm, List.take_succ_cons, a]; rfl
          · show (decide (-1000000000000000000 ≤ i) && decide (i ≤ 1000000000000000000)) = true
            rw [decide_eq_true c, decide_eq_true d]; rfl
      · split at h
        · rename_i h3
          cases h3
          have hd : (115 :: rs).drop 1 = rs := rfl
          rw [hd] at h
          rcases hN : strF rs with ⟨o, j⟩
          rw [hN] at h
          cases o with
          | none => cases h
          | some l =>
            cases h
            obtain ⟨a, b, c, d⟩ := strF_inv hN
            have el : (⟨l.toArray⟩ : Str).length = l.length := by show l.toArray.size = _; rw [List.size_toArray]
            refine ⟨?_, ?_, rfl, le⟩
            · rw [Nat.add_comm, List.take_succ_cons, a]
              show _ = 115 :: (num ((⟨l.toArray⟩ : Str).length : Nat) ++ 58 :: l.toArray.toList)
              rw [el]
            · show (decide ((⟨l.toArray⟩ : Str).length ≤ 100000) && l.toArray.toList.all chB) = true
              rw [el, decide_eq_true c]
              exact d
        · cases h
def pre (st : List (List AV)) : List Nat := st.reverse.flatMap fun xs => 40 :: txts xs
theorem pre_cons (xs : List AV) (st : List (List AV)) : pre (xs :: st) = pre st ++ (40 :: txts xs) := by
  unfold pre
  rw [List.reverse_cons, List.flatMap_append]
  simp
def stOk : List (List AV) → Prop
  | [] => True
  | xs :: st => st.length + 1 ≤ 30 ∧ isVals xs (30 - (st.length + 1)) = true ∧ stOk st
theorem isVals_snoc {xs : List AV} {v : AV} {k : Nat} (h : isVals xs k = true) (hv : isVal v k = true) : isVals (xs ++ [v]) k = true := by
  rw [isVals_app, h]
  show (true && (isVal v k && true)) = true
  rw [hv]; rfl
theorem valF_inv : ∀ (m : Nat) (st : List (List AV)) (rs : List Nat) (v : AV) (j : Nat), valF m st rs = (some v, j) → stOk st → txt v = pre st ++ rs.take j ∧ isVal v 30 = true
  | 0, _, _, _, _, h, _ => by cases h
  | m + 1, st, rs, v, j, h, ok => by
    by_cases ho : st.length < 30 ∧ rs.head? = some 40
    · rw [valF_open ho] at h
      rcases hr : valF m ([] :: st) (rs.drop 1) with ⟨o, k⟩
      rw [hr] at h
      cases o with
      | none => cases h
      | some v' =>
        cases h
        obtain ⟨rs', rfl⟩ : ∃ rs', rs = 40 :: rs' := by
          cases rs with
          | nil => cases ho.2
          | cons x r => cases ho.2; exact ⟨r, rfl⟩
        obtain ⟨a, b⟩ := valF_inv m _ _ _ _ hr ⟨by omega, by rfl, ok⟩
        refine ⟨?_, b⟩
        rw [a, pre_cons, Nat.add_comm, List.take_succ_cons, List.append_assoc]
        rfl
    · cases st with
      | nil =>
        rw [valF_nil ho] at h
        obtain ⟨a, b, _, _⟩ := sngF_inv h
        exact ⟨a.symm, val_up v 0 30 (by omega) b⟩
      | cons top more =>
        obtain ⟨o1, o2, o3⟩ := ok
        by_cases h2 : rs.head? = some 41
        · obtain ⟨rs', rfl⟩ : ∃ rs', rs = 41 :: rs' := by
            cases rs with
            | nil => cases h2
            | cons x r => cases h2; exact ⟨r, rfl⟩
          cases more with
          | nil =>
            rw [valF_shut0 ho h2] at h
            cases h
            refine ⟨?_, ?_⟩
            · rw [pre_cons]; rfl
            · show (decide (30 ≠ 0) && isVals top 29) = true
              rw [show isVals top 29 = true from o2]; rfl
          | cons up rest =>
            obtain ⟨p1, p2, p3⟩ := o3
            rw [valF_shut ho h2] at h
            rcases hr : valF m ((up ++ [.tup top]) :: rest) ((41 :: rs').drop 1) with ⟨o, k⟩
            rw [hr] at h
            cases o with
            | none => cases h
            | some v' =>
              cases h
              rw [List.length_cons] at o1 o2
              have hv : isVal (.tup top) (30 - (rest.length + 1)) = true := by
                show (decide (30 - (rest.length + 1) ≠ 0) && isVals top (30 - (rest.length + 1) - 1)) = true
                rw [decide_eq_true (by omega), show 30 - (rest.length + 1) - 1 = 30 - (rest.length + 1 + 1) by omega, o2]; rfl
              obtain ⟨a, b⟩ := valF_inv m _ _ _ _ hr ⟨p1, isVals_snoc p2 hv, p3⟩
              refine ⟨?_, b⟩
              rw [a, pre_cons, pre_cons, pre_cons, txts_app, Nat.add_comm, List.take_succ_cons]
              show _ ++ (40 :: (txts up ++ ((40 :: (txts top ++ [41])) ++ []))) ++ _ = _
              simp
        · rcases hS : sngF rs with ⟨so, k⟩
          cases so with
          | none => rw [valF_non ho h2 hS] at h; cases h
          | some w =>
            rw [valF_som ho h2 hS] at h
            rcases hr : valF m ((top ++ [w]) :: more) (rs.drop k) with ⟨o, i⟩
            rw [hr] at h
            cases o with
            | none => cases h
            | some v' =>
              cases h
              obtain ⟨s1, s2, _, s4⟩ := sngF_inv hS
              obtain ⟨a, b⟩ := valF_inv m _ _ _ _ hr ⟨o1, isVals_snoc o2 (val_up w 0 _ (Nat.zero_le _) s2), o3⟩
              refine ⟨?_, b⟩
              rw [a, pre_cons, pre_cons, txts_app, List.take_add, s1]
              show _ ++ (40 :: (txts top ++ (txt w ++ []))) ++ _ = _
              simp
theorem vR_inv {rs : List Nat} {v : AV} {k : Nat} (h : vR [] rs = (some v, k)) : txt v = rs.take k ∧ isVal v 30 = true := valF_inv _ _ _ _ _ h True.intro
/-! ### texts' lengths and signs -/
mutual
theorem cnt_txt : ∀ (d : AV) (k : Nat), isVal d k = true → cnt d ≤ (txt d).length
  | .non, _, _ => by decide
  | .int i, _, _ => by show 1 ≤ (105 :: (num i ++ [59])).length; rw [List.length_cons]; omega
  | .str z, _, _ => by
    show 1 + z.length ≤ (115 :: (num z.length ++ 58 :: z.cps.toList)).length
    have hl : z.cps.toList.length = z.length := Array.length_toList
    rw [List.length_cons, List.length_append, List.length_cons, hl]
    omega
  | .tup xs, k, h => by
    have h : (decide (k ≠ 0) && isVals xs (k - 1)) = true := h
    rw [Bool.and_eq_true_iff] at h
    have := cnts_txt xs (k - 1) h.2
    show 1 + cnts xs ≤ (40 :: (txts xs ++ [41])).length
    rw [List.length_cons, List.length_append, List.length_singleton]
    omega
  | .bl b, _, h => by cases h
  | .lst xs, _, h => by cases h
  | .rol xs, _, h => by cases h
  | .ref a, _, h => by cases h
  | .ty n, _, h => by cases h
theorem cnts_txt : ∀ (xs : List AV) (k : Nat), isVals xs k = true → cnts xs ≤ (txts xs).length
  | [], _, _ => Nat.le_refl _
  | x :: xs, k, h => by
    have h : (isVal x k && isVals xs k) = true := h
    rw [Bool.and_eq_true_iff] at h
    have a := cnt_txt x k h.1
    have b := cnts_txt xs k h.2
    show cnt x + cnts xs ≤ (txt x ++ txts xs).length
    rw [List.length_append]
    omega
end
theorem dig_chB {c : Nat} (h : 48 ≤ c ∧ c ≤ 57) : chB c = true := by
  have : c = 48 ∨ c = 49 ∨ c = 50 ∨ c = 51 ∨ c = 52 ∨ c = 53 ∨ c = 54 ∨ c = 55 ∨ c = 56 ∨ c = 57 := by omega
  rcases this with rfl | rfl | rfl | rfl | rfl | rfl | rfl | rfl | rfl | rfl <;> decide
theorem num_chB (i : Int) : ∀ c ∈ num i, chB c = true := by
  cases i with
  | ofNat m => intro c hc; rw [show num (Int.ofNat m) = dgs m from num_nat m] at hc; exact dig_chB (dgs_dig m c hc)
  | negSucc m =>
    intro c hc
    rw [num_neg] at hc
    rcases List.mem_cons.mp hc with rfl | hc
    · decide
    · exact dig_chB (dgs_dig _ c hc)
mutual
theorem txt_chB : ∀ (d : AV) (k : Nat), isVal d k = true → ∀ c ∈ txt d, chB c = true
  | .non, _, _ => fun c h => by rw [List.mem_singleton.mp h]; decide
  | .int i, _, _ => fun c h => by
    rcases List.mem_cons.mp h with rfl | h
    · decide
    · rcases List.mem_append.mp h with h | h
      · exact num_chB i c h
      · rw [List.mem_singleton.mp h]; decide
  | .str z, _, hv => fun c h => by
    have hv : (decide (z.length ≤ 100000) && z.cps.toList.all chB) = true := hv
    rw [Bool.and_eq_true_iff] at hv
    rcases List.mem_cons.mp h with rfl | h
    · decide
    · rcases List.mem_append.mp h with h | h
      · exact num_chB _ c h
      · rcases List.mem_cons.mp h with rfl | h
        · decide
        · exact List.all_eq_true.mp hv.2 c h
  | .tup xs, k, hv => fun c h => by
    have hv : (decide (k ≠ 0) && isVals xs (k - 1)) = true := hv
    rw [Bool.and_eq_true_iff] at hv
    rcases List.mem_cons.mp h with rfl | h
    · decide
    · rcases List.mem_append.mp h with h | h
      · exact txts_chB xs (k - 1) hv.2 c h
      · rw [List.mem_singleton.mp h]; decide
  | .bl b, _, h => by cases h
  | .lst xs, _, h => by cases h
  | .rol xs, _, h => by cases h
  | .ref a, _, h => by cases h
  | .ty n, _, h => by cases h
theorem txts_chB : ∀ (xs : List AV) (k : Nat), isVals xs k = true → ∀ c ∈ txts xs, chB c = true
  | [], _, _ => fun c h => by cases h
  | x :: xs, k, hv => fun c h => by
    have hv : (isVal x k && isVals xs k) = true := hv
    rw [Bool.and_eq_true_iff] at hv
    have h : c ∈ txt x ++ txts xs := h
    rcases List.mem_append.mp h with h | h
    · exact txt_chB x k hv.1 c h
    · exact txts_chB xs k hv.2 c h
end
theorem nought_test {most : Int} {found : List Nat} {c : Nat} {S : Store} {R P : Prop} (ok : FigOk most found) (hl : (⟨(found ++ [c]).toArray⟩ : Str).length = found.length + 1) (hR : found = [48] → R) (hP : ¬ found = [48] → P) :
    bc (decide (1 < (((⟨(found ++ [c]).toArray⟩ : Str).length : Nat) : Int))) ((ixA (AV.str ⟨(found ++ [c]).toArray⟩) (AV.int 0) S).ok ∧ (eqA (ixA (AV.str ⟨(found ++ [c]).toArray⟩) (AV.int 0) S).v (AV.str (Str.ofString "0")) S).ok ∧
      ∃ k, (eqA (ixA (AV.str ⟨(found ++ [c]).toArray⟩) (AV.int 0) S).v (AV.str (Str.ofString "0")) S).v = AV.bl k ∧ bc k R P) P := by
  have hn := ok.len
  rw [hl]
  cases found with
  | nil =>
    rw [decide_eq_false (by show ¬ (1 < ((0 + 1 : Nat) : Int)); omega)]
    exact hP (by simp)
  | cons h t =>
    rw [decide_eq_true (by rw [List.length_cons]; omega)]
    obtain ⟨d, rs, e1, _, e3⟩ := ix_str (S := S) (z := ⟨((h :: t) ++ [c]).toArray⟩) (k := 0) (le_sl (by rw [hl]; omega)) (by rw [hl]; omega)
    have ed : d = h := by
      have e1 : (h :: t) ++ [c] = d :: rs := by
        have := e1
        rw [List.drop_zero, List.toList_toArray] at this
        exact this
      exact (List.cons.inj e1).1.symm
    subst ed
    have e3 : ∀ S, ixA (AV.str ⟨((d :: t) ++ [c]).toArray⟩) (AV.int 0) S = ⟨True, .str ⟨#[d]⟩⟩ := e3
    rw [e3]
    have e48 : ("0" : Str).cps.toList = [48] := by decide +kernel
    have n0 : decide ((⟨#[d]⟩ : Str) = ("0" : Str)) = decide ([d] = [48]) := se1 (l := [d]) e48
    show True ∧ (eqA (.str ⟨#[d]⟩) (.str ("0" : Str)) S).ok ∧ _
    rw [eqA_ss, n0]
    refine ⟨trivial, trivial, decide ([d] = [48]), rfl, ?_⟩
    by_cases hd : d = 48
    · subst hd
      rw [decide_eq_true rfl]
      rcases ok.head with z | z | ⟨x, s, z, hx⟩
      · cases z
      · exact hR z
      · cases z; omega
    · rw [decide_eq_false (by intro z; exact hd (List.cons.inj z).1)]
      exact hP fun z => hd (List.cons.inj z).1
theorem beq_s (w : Str) (l m : List Nat) (h : w.cps.toList = m) : (w == (⟨l.toArray⟩ : Str)) = decide (l = m) := by
  rw [Bool.eq_iff_iff, beq_iff_eq, decide_eq_true_eq, str_eq, h]
  show m = l.toArray.toList ↔ _
  rw [List.toList_toArray]
  exact ⟨Eq.symm, Eq.symm⟩
theorem nin_is (l : List Nat) (S : Store) : ninA (.str ⟨l.toArray⟩) (.tup [.str (Str.ofString "i"), .str (Str.ofString "s")]) S = ⟨True, .bl (!(decide (l = [105]) || decide (l = [115])))⟩ := by
  refine ans_tt ⟨rfl, rfl⟩ (congrArg AV.bl ?_)
  show (!((Str.ofString "i" == (⟨l.toArray⟩ : Str)) || ((Str.ofString "s" == (⟨l.toArray⟩ : Str)) || false))) = _
  rw [Bool.or_false, beq_s _ l [105] (by decide +kernel), beq_s _ l [115] (by decide +kernel)]
theorem strF_good {rs : List Nat} (h : ∀ c ∈ rs, chB c = true) : strF rs = match numF false 100000 58 rs with
    | (none, n) => (none, n)
    | (some m, n) => (if n + m.toNat ≤ rs.length then some ((rs.drop n).take m.toNat) else none, min (n + m.toNat) rs.length) := by
  unfold strF
  have hl := numF_le (below := false) (most := 100000) (e := 58) (rs := rs)
  generalize numF false 100000 58 rs = pr at hl ⊢
  obtain ⟨o, n⟩ := pr
  cases o with
  | none => rfl
  | some m =>
    have hl : n ≤ rs.length := hl
    have hg : ∀ c ∈ (rs.drop n).take m.toNat, chB c = true := fun c hc => h c (List.mem_of_mem_drop (List.mem_of_mem_take hc))
    have hf : ((rs.drop n).take m.toNat).filter chB = (rs.drop n).take m.toNat := List.filter_eq_self.mpr hg
    have hw : ((rs.drop n).take m.toNat).takeWhile chB = (rs.drop n).take m.toNat := by
      generalize (rs.drop n).take m.toNat = l at hg
      induction l with
      | nil => rfl
      | cons x xs ih => rw [List.takeWhile_cons_of_pos (hg x (List.mem_cons_self ..)), ih fun c hc => hg c (List.mem_cons_of_mem _ hc)]
    show (if (((rs.drop n).take m.toNat).filter chB).length < m.toNat then ((none, n + (((rs.drop n).take m.toNat).takeWhile chB).length) : Option (List Nat) × Nat) else (some ((rs.drop n).take m.toNat), n + m.toNat)) = (if n + m.toNat ≤ rs.length then some ((rs.drop n).take m.toNat) else none, min (n + m.toNat) rs.length)
    rw [hf, hw, List.length_take, List.length_drop]
    by_cases h2 : n + m.toNat ≤ rs.length
    · rw [if_pos h2, if_neg (by omega), Nat.min_eq_left h2]
    · rw [if_neg h2, if_pos (by omega)]
      congr 1
      omega
theorem FigOk.all {most : Int} {f : List Nat} (ok : FigOk most f) (hn : f ≠ []) : PySem.intText? ⟨f.toArray⟩ = some ((digitsVal f : Nat) : Int) := by
  have hol := ok.len
  refine intText_digits (x := ⟨f.toArray⟩) (fun d hd => ?_) ?_ ?_
  · rw [List.toList_toArray] at hd; exact ok.dig d hd
  · show f.toArray.toList ≠ []
    rw [List.toList_toArray]; exact hn
  · show f.toArray.size ≤ 4300
    rw [List.size_toArray]; omega
/-! ### texts of signs that may stand -/
def okS (n : Nat) (z : Str) : Prop := z.length ≤ n ∧ ∀ c ∈ z.cps.toList, chB c = true
theorem okS.cut {n : Nat} {z : Str} (h : okS n z) (lo hi : Option Int) : okS n (cutS z lo hi) := by
  refine ⟨?_, fun c hc => ?_⟩
  · have hl := str_len z
    show (((z.cps.toList.drop _).take _).toArray).size ≤ n
    rw [List.size_toArray, List.length_take, List.length_drop]
    have := h.1
    omega
  · unfold cutS at hc
    rw [List.toList_toArray] at hc
    exact h.2 c (List.mem_of_mem_drop (List.mem_of_mem_take hc))
theorem okS.app {n m : Nat} {x y : Str} (h : okS n x) (h' : okS m y) : okS (n + m) (x ++ y) := by
  refine ⟨by rw [len_app]; exact Nat.add_le_add h.1 h'.1, fun c hc => ?_⟩
  rw [app_tl] at hc
  exact (List.mem_append.mp hc).elim (h.2 c) (h'.2 c)
theorem okS.up {n m : Nat} {x : Str} (h : okS n x) (hm : n ≤ m) : okS m x := ⟨Nat.le_trans h.1 hm, h.2⟩
theorem okS.txt {d : AV} {k m : Nat} (h : isVal d k = true) (hc : 24 * cnt d ≤ m) : okS m (txtS d) := by
  refine ⟨by rw [txtS_len]; exact Nat.le_trans (txt_len d k h).1 hc, fun c hc => ?_⟩
  rw [txtS_tl] at hc
  exact txt_chB d k h c hc
theorem okS.sg {c : Nat} (h : chB c = true) : okS 1 ⟨#[c]⟩ := ⟨Nat.le_refl 1, fun d hd => by
  have hd : d ∈ [c] := hd
  rw [List.mem_singleton.mp hd]; exact h⟩
theorem valF_le : ∀ (m : Nat) (st : List (List AV)) (rs : List Nat), (valF m st rs).2 ≤ rs.length
  | 0, _, _ => Nat.zero_le _
  | m + 1, st, rs => by
    by_cases ho : st.length < 30 ∧ rs.head? = some 40
    · rw [valF_open ho]
      have := valF_le m ([] :: st) (rs.drop 1)
      have hl := drop_lt ho.2 (Nat.le_refl 1)
      rw [List.length_drop] at this hl
      show 1 + _ ≤ _
      omega
    · have sl := sngF_le (rs := rs)
      cases st with
      | nil => rw [valF_nil ho]; exact sl.1
      | cons top more =>
        by_cases h2 : rs.head? = some 41
        · have hl := drop_lt h2 (Nat.le_refl 1)
          rw [List.length_drop] at hl
          cases more with
          | nil => rw [valF_shut0 ho h2]; show 1 ≤ _; omega
          | cons up rest =>
            rw [valF_shut ho h2]
            have := valF_le m ((up ++ [.tup top]) :: rest) (rs.drop 1)
            rw [List.length_drop] at this
            show 1 + _ ≤ _
            omega
        · rcases hS : sngF rs with ⟨so, j⟩
          rw [hS] at sl
          have sl1 : j ≤ rs.length := sl.1
          cases so with
          | none => rw [valF_non ho h2 hS]; exact sl1
          | some v =>
            rw [valF_som ho h2 hS]
            have := valF_le m ((top ++ [v]) :: more) (rs.drop j)
            rw [List.length_drop] at this
            show j + _ ≤ _
            omega
end Vm

set_option Elab.async false
set_option linter.all false
set_option maxRecDepth 100000
set_option maxHeartbeats 1000000
namespace G
open PySem L2 L3 PyProof.Rows
def top (i : Nat) : Stmt := PySem.Challenge.pw_lyinghouse_k01_texts_that_are_no_values.main.body.getD i (.Pass ⟨0, 0, 0, 0⟩)
def mth (i j : Nat) : Stmt := match top i with
  | .ClassDef _ _ _ body _ _ _ _ _ _ _ => body.getD j (.Pass ⟨0, 0, 0, 0⟩)
  | s => s
abbrev st_is_sign : Stmt := top 20
abbrev nm_is_sign : List Str := ["sign"]
theorem sc_is_sign : FnScope nm_is_sign ["sign"] (defScope st_is_sign) := ⟨rfl, rfl, rfl, by decide +kernel, rfl, by decide +kernel, by decide +kernel⟩
abbrev st_Reader___init__ : Stmt := mth 21 0
abbrev nm_Reader___init__ : List Str := ["self", "text", "at"]
theorem sc_Reader___init__ : FnScope nm_Reader___init__ ["self", "text", "at"] (defScope st_Reader___init__) := ⟨rfl, rfl, rfl, by decide +kernel, rfl, by decide +kernel, by decide +kernel⟩
abbrev st_Reader_is_next : Stmt := mth 21 1
abbrev nm_Reader_is_next : List Str := ["self", "sign", "is_there"]
theorem sc_Reader_is_next : FnScope nm_Reader_is_next ["self", "sign"] (defScope st_Reader_is_next) := ⟨rfl, rfl, rfl, by decide +kernel, rfl, by decide +kernel, by decide +kernel⟩
abbrev st_Reader_figures_on : Stmt := mth 21 2
abbrev nm_Reader_figures_on : List Str := ["self", "sign", "most", "found", "longer"]
theorem sc_Reader_figures_on : FnScope nm_Reader_figures_on ["self", "sign", "most"] (defScope st_Reader_figures_on) := ⟨rfl, rfl, rfl, by decide +kernel, rfl, by decide +kernel, by decide +kernel⟩
abbrev st_Reader_number : Stmt := mth 21 3
abbrev nm_Reader_number : List Str := ["self", "can_be_below", "most", "end", "sign", "found"]
theorem sc_Reader_number : FnScope nm_Reader_number ["self", "can_be_below", "most", "end"] (defScope st_Reader_number) := ⟨rfl, rfl, rfl, by decide +kernel, rfl, by decide +kernel, by decide +kernel⟩
abbrev st_Reader_string : Stmt := mth 21 4
abbrev nm_Reader_string : List Str := ["self", "many", "found", "good", "sign", "wrong", "at"]
theorem sc_Reader_string : FnScope nm_Reader_string ["self"] (defScope st_Reader_string) := ⟨rfl, rfl, rfl, by decide +kernel, rfl, by decide +kernel, by decide +kernel⟩
abbrev st_Reader_single : Stmt := mth 21 5
abbrev nm_Reader_single : List Str := ["self"]
theorem sc_Reader_single : FnScope nm_Reader_single ["self"] (defScope st_Reader_single) := ⟨rfl, rfl, rfl, by decide +kernel, rfl, by decide +kernel, by decide +kernel⟩
abbrev st_Reader_value : Stmt := mth 21 6
abbrev nm_Reader_value : List Str := ["self", "left", "found"]
theorem sc_Reader_value : FnScope nm_Reader_value ["self"] (defScope st_Reader_value) := ⟨rfl, rfl, rfl, by decide +kernel, rfl, by decide +kernel, by decide +kernel⟩
abbrev st_read_value : Stmt := top 22
abbrev nm_read_value : List Str := ["text", "reader", "found"]
theorem sc_read_value : FnScope nm_read_value ["text"] (defScope st_read_value) := ⟨rfl, rfl, rfl, by decide +kernel, rfl, by decide +kernel, by decide +kernel⟩
abbrev st__law_pot : Stmt := top 24
abbrev nm__law_pot : List Str := ["script", "place", "cell", "own", "small"]
theorem sc__law_pot : FnScope nm__law_pot ["script", "place"] (defScope st__law_pot) := ⟨rfl, rfl, rfl, by decide +kernel, rfl, by decide +kernel, by decide +kernel⟩
abbrev st__law_take : Stmt := top 25
abbrev nm__law_take : List Str := ["pot", "upto", "digit", "prime", "blend"]
theorem sc__law_take : FnScope nm__law_take ["pot", "upto"] (defScope st__law_take) := ⟨rfl, rfl, rfl, by decide +kernel, rfl, by decide +kernel, by decide +kernel⟩
abbrev st__law_of : Stmt := top 26
abbrev nm__law_of : List Str := ["pot", "some"]
theorem sc__law_of : FnScope nm__law_of ["pot", "some"] (defScope st__law_of) := ⟨rfl, rfl, rfl, by decide +kernel, rfl, by decide +kernel, by decide +kernel⟩
abbrev st__law_cells : Stmt := top 27
abbrev nm__law_cells : List Str := ["script", "most"]
theorem sc__law_cells : FnScope nm__law_cells ["script", "most"] (defScope st__law_cells) := ⟨rfl, rfl, rfl, by decide +kernel, rfl, by decide +kernel, by decide +kernel⟩
abbrev st__law_string : Stmt := top 28
abbrev nm__law_string : List Str := ["pot", "most", "signs", "lap"]
theorem sc__law_string : FnScope nm__law_string ["pot", "most"] (defScope st__law_string) := ⟨rfl, rfl, rfl, by decide +kernel, rfl, by decide +kernel, by decide +kernel⟩
abbrev st__law_plain_value : Stmt := top 29
abbrev nm__law_plain_value : List Str := ["pot", "way"]
theorem sc__law_plain_value : FnScope nm__law_plain_value ["pot"] (defScope st__law_plain_value) := ⟨rfl, rfl, rfl, by decide +kernel, rfl, by decide +kernel, by decide +kernel⟩
abbrev st__law_value : Stmt := top 30
abbrev nm__law_value : List Str := ["pot", "parts", "row", "lap", "many", "way"]
theorem sc__law_value : FnScope nm__law_value ["pot", "parts"] (defScope st__law_value) := ⟨rfl, rfl, rfl, by decide +kernel, rfl, by decide +kernel, by decide +kernel⟩
abbrev st__law_text_of : Stmt := top 31
abbrev nm__law_text_of : List Str := ["value", "found", "left", "one", "part"]
theorem sc__law_text_of : FnScope nm__law_text_of ["value"] (defScope st__law_text_of) := ⟨rfl, rfl, rfl, by decide +kernel, rfl, by decide +kernel, by decide +kernel⟩
abbrev st__law_figures_end : Stmt := top 32
abbrev nm__law_figures_end : List Str := ["text", "at", "is_below", "most", "begin", "figures"]
theorem sc__law_figures_end : FnScope nm__law_figures_end ["text", "at", "is_below", "most"] (defScope st__law_figures_end) := ⟨rfl, rfl, rfl, by decide +kernel, rfl, by decide +kernel, by decide +kernel⟩
abbrev st__law_single_end : Stmt := top 33
abbrev nm__law_single_end : List Str := ["text", "at", "is_string", "begin", "is_below", "end", "many"]
theorem sc__law_single_end : FnScope nm__law_single_end ["text", "at"] (defScope st__law_single_end) := ⟨rfl, rfl, rfl, by decide +kernel, rfl, by decide +kernel, by decide +kernel⟩
abbrev st__law_walk : Stmt := top 34
abbrev nm__law_walk : List Str := ["text", "at", "deep", "is_whole"]
theorem sc__law_walk : FnScope nm__law_walk ["text"] (defScope st__law_walk) := ⟨rfl, rfl, rfl, by decide +kernel, rfl, by decide +kernel, by decide +kernel⟩
abbrev st__law_spoilt : Stmt := top 35
abbrev nm__law_spoilt : List Str := ["pot", "text", "at", "way", "sign"]
theorem sc__law_spoilt : FnScope nm__law_spoilt ["pot"] (defScope st__law_spoilt) := ⟨rfl, rfl, rfl, by decide +kernel, rfl, by decide +kernel, by decide +kernel⟩
abbrev st__law_told : Stmt := top 36
abbrev nm__law_told : List Str := ["pot", "some"]
theorem sc__law_told : FnScope nm__law_told ["pot"] (defScope st__law_told) := ⟨rfl, rfl, rfl, by decide +kernel, rfl, by decide +kernel, by decide +kernel⟩
abbrev st__law_is_right : Stmt := top 37
abbrev nm__law_is_right : List Str := ["text", "is_fine", "place", "told", "error"]
theorem sc__law_is_right : FnScope nm__law_is_right ["text"] (defScope st__law_is_right) := ⟨rfl, rfl, rfl, by decide +kernel, rfl, by decide +kernel, by decide +kernel⟩
abbrev st__law_right : Stmt := top 38
abbrev nm__law_right : List Str := ["pot", "lap", "error"]
theorem sc__law_right : FnScope nm__law_right ["pot"] (defScope st__law_right) := ⟨rfl, rfl, rfl, by decide +kernel, rfl, by decide +kernel, by decide +kernel⟩
abbrev st_law : Stmt := top 39
abbrev nm_law : List Str := ["script", "place"]
theorem sc_law : FnScope nm_law ["script"] (defScope st_law) := ⟨rfl, rfl, rfl, by decide +kernel, rfl, by decide +kernel, by decide +kernel⟩
structure Txt (P : Program) (w : World) (K : PySem.W.Frag) (mg : Str → Option Value) (C_Reader : Addr) (C_HouseError : Addr) (f_HouseError : Addr) (C_BadText : Addr) : Prop where
  n_abs : mg "abs" = none
  n_all : mg "all" = none
  n_enumerate : mg "enumerate" = none
  n_int : mg "int" = none
  n_isinstance : mg "isinstance" = none
  n_len : mg "len" = none
  n_list : mg "list" = none
  n_max : mg "max" = none
  n_min : mg "min" = none
  n_range : mg "range" = none
  n_repr : mg "repr" = none
  n_str : mg "str" = none
  n_sum : mg "sum" = none
  n_tuple : mg "tuple" = none
  c_MOST_DEPTH : ∃ t, mg "MOST_DEPTH" = some (.int 30 t)
  c_MOST_INTEGER : ∃ t, mg "MOST_INTEGER" = some (.int 1000000000000000000 t)
  c_MOST_SIGNS : ∃ t, mg "MOST_SIGNS" = some (.int 100000 t)
  c_FIRST_SIGN : ∃ t, mg "FIRST_SIGN" = some (.str " " t)
  c_LAST_SIGN : ∃ t, mg "LAST_SIGN" = some (.str "~" t)
  c_FEED : ∃ t, mg "FEED" = some (.str "\n" t)
  c_NONE_SIGN : ∃ t, mg "NONE_SIGN" = some (.str "n" t)
  c_INTEGER_SIGN : ∃ t, mg "INTEGER_SIGN" = some (.str "i" t)
  c_INTEGER_END : ∃ t, mg "INTEGER_END" = some (.str ";" t)
  c_STRING_SIGN : ∃ t, mg "STRING_SIGN" = some (.str "s" t)
  c_STRING_END : ∃ t, mg "STRING_END" = some (.str ":" t)
  c_OPEN_SIGN : ∃ t, mg "OPEN_SIGN" = some (.str "(" t)
  c_SHUT_SIGN : ∃ t, mg "SHUT_SIGN" = some (.str ")" t)
  c_MINUS : ∃ t, mg "MINUS" = some (.str "-" t)
  c_NOUGHT : ∃ t, mg "NOUGHT" = some (.str "0" t)
  c_FIGURES : ∃ t, mg "FIGURES" = some (.str "0123456789" t)
  g_Reader : mg "Reader" = some (.ref C_Reader)
  cl_Reader : Cls K C_Reader
  mk_Reader : PySem.W.makesIn K C_Reader = true ∧ PySem.W.keepIn K (.ref C_Reader) = true
  nf_Reader_own_text : NoAttr K C_Reader "own_text"
  nf_Reader_own_at : NoAttr K C_Reader "own_at"
  nf_Reader_is_stuck : NoAttr K C_Reader "is_stuck"
  g_HouseError : mg "HouseError" = some (.ref C_HouseError)
  g_BadText : mg "BadText" = some (.ref C_BadText)
  ex_BadText : Exn P w K mg C_HouseError f_HouseError C_BadText
  xc_BadText : ExcC K C_BadText
  hi_HouseError : HInit P w K mg C_HouseError f_HouseError
  xm_BadText_BadText : PySem.W.exmOne K (.ref C_BadText) (.ref C_BadText) = some true
  xm_BadText_HouseError : PySem.W.exmOne K (.ref C_BadText) (.ref C_HouseError) = some true
  d_is_sign : Def K mg "is_sign" st_is_sign ["sign"]
  d_Reader___init__ : MethD K C_Reader "__init__" "Reader.__init__" st_Reader___init__ ["self", "text", "at"]
  d_Reader_is_next : MethD K C_Reader "is_next" "Reader.is_next" st_Reader_is_next ["self", "sign"]
  d_Reader_figures_on : MethD K C_Reader "figures_on" "Reader.figures_on" st_Reader_figures_on ["self", "sign", "most"]
  d_Reader_number : MethD K C_Reader "number" "Reader.number" st_Reader_number ["self", "can_be_below", "most", "end"]
  d_Reader_string : MethD K C_Reader "string" "Reader.string" st_Reader_string ["self"]
  d_Reader_single : MethD K C_Reader "single" "Reader.single" st_Reader_single ["self"]
  d_Reader_value : MethD K C_Reader "value" "Reader.value" st_Reader_value ["self"]
  d_read_value : Def K mg "read_value" st_read_value ["text"]
  d__law_pot : Def K mg "_law_pot" st__law_pot ["script", "place"]
  d__law_take : Def K mg "_law_take" st__law_take ["pot", "upto"]
  d__law_of : Def K mg "_law_of" st__law_of ["pot", "some"]
  d__law_cells : Def K mg "_law_cells" st__law_cells ["script", "most"]
  d__law_string : Def K mg "_law_string" st__law_string ["pot", "most"]
  d__law_plain_value : Def K mg "_law_plain_value" st__law_plain_value ["pot"]
  d__law_value : Def K mg "_law_value" st__law_value ["pot", "parts"]
  d__law_text_of : Def K mg "_law_text_of" st__law_text_of ["value"]
  d__law_figures_end : Def K mg "_law_figures_end" st__law_figures_end ["text", "at", "is_below", "most"]
  d__law_single_end : Def K mg "_law_single_end" st__law_single_end ["text", "at"]
  d__law_walk : Def K mg "_law_walk" st__law_walk ["text"]
  d__law_spoilt : Def K mg "_law_spoilt" st__law_spoilt ["pot"]
  d__law_told : Def K mg "_law_told" st__law_told ["pot"]
  d__law_is_right : Def K mg "_law_is_right" st__law_is_right ["text"]
  d__law_right : Def K mg "_law_right" st__law_right ["pot"]
  d_law : Def K mg "law" st_law ["script"]
local macro_rules | `(tactic| walk_at "rd") => `(tactic| simp only [↓ite_bc, bc_t, bc_f, aLc_rng, aFor_rng, aLc_lst, lstA_lst, lstA_rol, aLcS_rng, eqA_ii, eqA_ss, neA_ii, neA_ss, updS_same, updS_updS, startA, List.map_cons, List.map_nil, List.cons_append, List.nil_append, List.length_cons, List.length_nil, Nat.zero_add, Nat.add_zero, Nat.reduceAdd, Nat.reduceSub, List.replicate_succ, List.replicate_zero, List.replicate,
  aVar_z, aVar_s, aC, aNil, aCons, aTup, aLstV, aLst, aOp, aUn, aTru, aTst, aCmp, aChn, aChnT, aAnd, aOr, aNot, aIf, aAndV, aOrV, aNotV, aCB, aCall, aNext, aSeq, aBrk, aCnt, aRet, aRetN, aIfS, aNev,
  agName, agNil, agCons, agTup, aAsg, aPar, aDrop, aCallK, aCallKn, aM, aM0, aAddS, aYes, one1, one2, wipeA, aRevT, aRevL, agSub_def, aSl, aPart, aNoPart, cutAns_rol, cutAns_lst, cutAns_tup, cutAns_str, aLstRg, aRg1, ex_some, tupleA_lst, tupleA_tup, wstA_lst,
  List.set_cons_zero, List.set_cons_succ, List.set, ex_bl, ex_int, ex_str, ex_tup, ex_eq, ex_cons, ex_pair, ex_one1, ex_one_int, and_tt, truA_bl, truOk_bl, truA_int, truOk_int, truA_lst, truOk_lst, truA_tup, truOk_tup, truA_refU, truOk_refU, Bool.not_true, Bool.not_false,
  addA_ii, addA_ss, addA_tt, addA_ll, intA_ii, int2A_ii, subA_ii, mulA_ii, modA_ii, fdivA_ii, powA_ii, negA_i, ltA_ii, leA_ii, gtA_ii, geA_ii, ltA_ss, leA_ss, gtA_ss, geA_ss, isA, isntA, nonA, isiA_non, isiA_bl, isiA_int, isiA_str, isiA_tup, isiA_lst, isiA_rol, lenA_str, lenA_tup, lenA_lst, lenA_rol, absA_i, toIntA_i, toIntA_b, isIntA, isiB, String.reduceBEq, List.contains_cons, List.contains_nil, Bool.or_true, Bool.true_or, Bool.or_false, Bool.false_or, Bool.and_true, Bool.true_and, Bool.and_false, Bool.false_and, Bool.not_eq_true, if_true, if_false, decide_true, decide_false, Bool.false_eq_true, eq_self, reduceCtorEq, true_and, false_and, and_false, badA, exists_false, aFld, aPut, agFld, aPutAug, aMeth, aMake, mulX_ii, mulX_si, mulX_li, strA_i, strA_s, intXA_i, intXA_b, isBA_bb, isntBA_bb, aTryV, aRaise, aCallX, aMethX, aErr, aDct0, aStar, aPar3, ex_tri, aCallKX, aIsE])

def inB (d : AV) (a b : Int) : Bool := match d with
  | .int i => decide (a ≤ i) && decide (i ≤ b)
  | _ => false
def lenOk (d : AV) : Prop := match d with
  | .str z => z.length ≤ sizeLine
  | _ => True
theorem sg_lt {c k : Nat} : decide ([c] < [k]) = decide (c < k) := by
  refine decide_eq_decide.mpr ⟨fun h => ?_, fun h => List.Lex.rel h⟩
  cases h with
  | rel h => exact h
  | cons h => cases h
theorem sg_le1 {c : Nat} : (!decide ([c] < (" " : Str).cps.toList)) = decide (32 ≤ c) := by
  have e : (" " : Str).cps.toList = [32] := by decide +kernel
  rw [e]
  show (!decide ([c] < [32])) = _
  rw [sg_lt]
  by_cases h : c < 32
  · rw [decide_eq_true h, decide_eq_false (by omega)]; rfl
  · rw [decide_eq_false h, decide_eq_true (by omega)]; rfl
theorem sg_le2 {c : Nat} : (!decide (("~" : Str).cps.toList < [c])) = decide (c ≤ 126) := by
  have e : ("~" : Str).cps.toList = [126] := by decide +kernel
  rw [e]
  show (!decide ([126] < [c])) = _
  rw [sg_lt]
  by_cases h : 126 < c
  · rw [decide_eq_true h, decide_eq_false (by omega)]; rfl
  · rw [decide_eq_false h, decide_eq_true (by omega)]; rfl
theorem sg_eq {c : Nat} : decide ((⟨#[c]⟩ : Str) = ("\n" : Str)) = decide (c = 10) := by
  have e : ("\n" : Str) = ⟨#[10]⟩ := by decide +kernel
  rw [e]
  refine decide_eq_decide.mpr ⟨fun h => ?_, fun h => by rw [h]⟩
  have h : #[c] = #[10] := congrArg (fun z : Str => z.cps) h
  have h : [c] = [10] := congrArg (fun z : Array Nat => z.toList) h
  exact (List.cons.inj h).1
def single (d : AV) : Bool := match d with
  | .non => true
  | .int i => inB (.int i) (-1000000000000000000) 1000000000000000000
  | .str z => decide (z.length ≤ 100000) && z.cps.toList.all Vm.chB
  | _ => false
def pr (p : AV × Nat) : AV := .tup [p.1, .int p.2]
def wsum : List (AV × Nat) → Nat
  | [] => 0
  | p :: ps => Vm.cnt p.1 + wsum ps
theorem wsum_app : ∀ a b : List (AV × Nat), wsum (a ++ b) = wsum a + wsum b
  | [], b => (Nat.zero_add _).symm
  | p :: a, b => by rw [List.cons_append, wsum, wsum, wsum_app a b]; omega
theorem wsum_map (k : Nat) : ∀ xs : List AV, wsum (xs.map fun x => (x, k)) = Vm.cnts xs
  | [] => rfl
  | x :: xs => by rw [List.map_cons, wsum, wsum_map k xs]; rfl
theorem wsum_len : ∀ a : List (AV × Nat), a.length ≤ wsum a
  | [] => Nat.le_refl _
  | p :: a => by have := Vm.cnt_pos p.1; have := wsum_len a; rw [List.length_cons, wsum]; omega
theorem eq_nil_or_last {α : Type} (l : List α) : l = [] ∨ ∃ i x, l = i ++ [x] := by
  rcases h : l.reverse with _ | ⟨x, i⟩
  · exact .inl (List.reverse_eq_nil_iff.mp h)
  · exact .inr ⟨i.reverse, x, by rw [← List.reverse_reverse l, h, List.reverse_cons]⟩
theorem tyL {S : Store} {l : Addr} {xs : List AV} (h : S l = some (.lst xs)) : tyA "list" S (.ref l) := by
  show match S l with | some (.lst _) => "list" = "list" | some (.dK _) => "list" = "dict" | _ => False
  rw [h]
theorem seal_ne {xs : List AV} (h : xs.length ≠ 3) : Vm.sealB (.tup xs) = false := by
  rcases xs with _ | ⟨x, _ | ⟨y, _ | ⟨z, _ | ⟨w, xs⟩⟩⟩⟩ <;> first | rfl | exact absurd rfl h
theorem len3 {xs : List AV} (h : xs.length = 3) : ∃ x y z, xs = [x, y, z] := by
  rcases xs with _ | ⟨x, _ | ⟨y, _ | ⟨z, _ | ⟨w, xs⟩⟩⟩⟩
  · cases h
  · cases h
  · cases h
  · exact ⟨x, y, z, rfl⟩
  · simp only [List.length_cons] at h; omega
theorem lay_tup {x y z : AV} (h : Vm.lay (.tup [x, y, z]) = true) : Vm.lay x = true := by
  unfold Vm.lay at h ⊢
  rw [Bool.and_eq_true_iff, decide_eq_true_eq] at h ⊢
  have h1 : (PyData.canLay0 (toD x) && PyData.canLayAll0 (toDs [y, z])) = true := h.1
  have h2 : max (PyData.depth (toD x)) (PyData.depthAll (toDs [y, z])) + 1 ≤ 60 := h.2
  exact ⟨(Bool.and_eq_true_iff.mp h1).1, by omega⟩
theorem tame3 {x y z : AV} (h : Vm.tame (.tup [x, y, z]) = true) : Vm.tame x = true ∧ Vm.tame y = true := by
  have h : (Vm.tame x && (Vm.tame y && (Vm.tame z && true))) = true := h
  simp only [Bool.and_eq_true] at h
  exact ⟨h.1, h.2.1⟩
theorem cnt3 (x y z : AV) : Vm.cnt x + Vm.cnt y ≤ Vm.cnt (.tup [x, y, z]) := by
  show _ ≤ 1 + (Vm.cnt x + (Vm.cnt y + (Vm.cnt z + 0)))
  omega
theorem len_ok {d : AV} {n : Nat} (h : Vm.cnt d ≤ n) (hn : n ≤ 16777216) : lenOk d := by
  cases d <;> first | trivial | skip
  rename_i z
  have : Vm.cnt (.str z) = 1 + z.length := rfl
  exact le_sl (by omega)
theorem ix30 {x y z : AV} {S : Store} : ixA (.tup [x, y, z]) (.int 0) S = ⟨True, x⟩ := ans_tt rfl rfl
theorem ix31 {x y z : AV} {S : Store} : ixA (.tup [x, y, z]) (.int 1) S = ⟨True, y⟩ := ans_tt rfl rfl
theorem eq_w {d : AV} {S : Store} {w : Str} (h : Vm.tame d = true) (hs : Vm.lay d = true) (hw : SeqAt.shaped (.str w) = true := by decide +kernel) : eqA d (.str w) S = ⟨True, .bl (Vm.wordB w d)⟩ := by
  obtain ⟨a, b⟩ := eqA_s (S := S) (Vm.flat_tame d h) (Vm.lay_shaped hs) hw
  have : eqA d (.str w) S = ⟨(eqA d (.str w) S).ok, (eqA d (.str w) S).v⟩ := rfl
  rw [this, b, eq_true a]
  cases d <;> rfl
theorem cnts_app (a b : List AV) : Vm.cnts (a ++ b) = Vm.cnts a + Vm.cnts b := Vm.cnts_app a b
theorem cnts_rev : ∀ a : List AV, Vm.cnts a.reverse = Vm.cnts a
  | [] => rfl
  | p :: a => by rw [List.reverse_cons, cnts_app, cnts_rev a, Vm.cnts, Vm.cnts, Vm.cnts]; omega
theorem lay_mem {xs : List AV} (h : Vm.lay (.tup xs) = true) : ∀ x ∈ xs, Vm.lay x = true := by
  unfold Vm.lay at h ⊢
  rw [Bool.and_eq_true_iff, decide_eq_true_eq] at h
  have h1 : PyData.canLayAll0 (toDs xs) = true := h.1
  have h2 : PyData.depthAll (toDs xs) + 1 ≤ 60 := h.2
  clear h
  induction xs with
  | nil => intro x hx; cases hx
  | cons y ys ih =>
    intro x hx
    have h1 : (PyData.canLay0 (toD y) && PyData.canLayAll0 (toDs ys)) = true := h1
    have h2 : max (PyData.depth (toD y)) (PyData.depthAll (toDs ys)) + 1 ≤ 60 := h2
    rw [Bool.and_eq_true_iff] at h1
    rcases List.mem_cons.mp hx with rfl | hx
    · rw [Bool.and_eq_true_iff, decide_eq_true_eq]
      exact ⟨h1.1, by omega⟩
    · exact ih h1.2 (by omega) x hx
theorem tame_mem {xs : List AV} (h : Vm.tame (.tup xs) = true) : ∀ x ∈ xs, Vm.tame x = true := by
  have h : Vm.tames xs = true := h
  rw [Vm.tames_all, List.all_eq_true] at h
  exact h
theorem cnt_tup (xs : List AV) : Vm.cnt (.tup xs) = 1 + Vm.cnts xs := rfl
theorem sb_one (w : Bool) (xs : List AV) : Vm.sb w (.tup xs) = (bif Vm.sealB (.tup xs) then [.tup xs] else []) ++ (bif (w || !Vm.sealB (.tup xs)) then Vm.sbs w xs else []) := by
  rw [Vm.sb]
  cases Vm.sealB (.tup xs) <;> cases w <;> rfl
theorem sb_non {w : Bool} {d : AV} (h : isTup d = false) : Vm.sb w d = [] := by
  cases d <;> first | rfl | cases h
theorem isTup_ex {d : AV} (h : isTup d = true) : ∃ xs, d = .tup xs := by
  cases d <;> first | exact ⟨_, rfl⟩ | cases h
/-- what the walk over a stack of values keeps -/
structure StkOk (d : AV) (w : Bool) (found ls : List AV) (m : Nat) : Prop where
  sum : Vm.cnts ls = m
  le : m ≤ 10000000
  tame : ∀ x ∈ ls, Vm.tame x = true
  lay : ∀ x ∈ ls, Vm.lay x = true
  eq : found ++ Vm.sbs w ls.reverse = Vm.sb w d
  dc : Vm.cnt d ≤ 10000000
theorem StkOk.flen {d : AV} {w : Bool} {found ls : List AV} {m : Nat} (h : StkOk d w found ls m) : found.length ≤ 10000000 := by
  have h1 := Vm.sb_len w d
  have h2 := congrArg List.length h.eq
  have := h.dc
  rw [List.length_append] at h2
  omega
theorem StkOk.start {d : AV} {w : Bool} (h1 : Vm.tame d = true) (h2 : Vm.lay d = true) (h3 : Vm.cnt d ≤ 10000000) : StkOk d w [] [d] (Vm.cnt d) :=
  ⟨Nat.add_zero _, h3, fun x hx => by cases List.mem_singleton.mp hx; exact h1, fun x hx => by cases List.mem_singleton.mp hx; exact h2, by show Vm.sb w d ++ [] = _; rw [List.append_nil], h3⟩
theorem StkOk.last {d : AV} {w : Bool} {found init : List AV} {one : AV} {m : Nat} (h : StkOk d w found (init ++ [one]) m) : Vm.tame one = true ∧ Vm.lay one = true ∧ Vm.cnt one ≤ 10000000 := by
  refine ⟨h.tame one (by simp), h.lay one (by simp), ?_⟩
  have h1 := h.sum
  have h2 := h.le
  rw [cnts_app] at h1
  have e : Vm.cnts [one] = Vm.cnt one := Nat.add_zero _
  omega
theorem StkOk.pop {d : AV} {w : Bool} {found init : List AV} {one : AV} {m : Nat} (h : StkOk d w found (init ++ [one]) m) (e : Vm.sb w one = []) : ∃ m', m' < m ∧ StkOk d w found init m' := by
  have h1 := h.sum
  have h2 := h.le
  have h3 := h.eq
  have h4 := Vm.cnt_pos one
  rw [cnts_app] at h1
  have e1 : Vm.cnts [one] = Vm.cnt one := Nat.add_zero _
  rw [List.reverse_append, List.reverse_cons, List.reverse_nil, List.nil_append, List.cons_append, List.nil_append, Vm.sbs, e, List.nil_append] at h3
  exact ⟨_, by omega, rfl, by omega, fun x hx => h.tame x (List.mem_append_left _ hx), fun x hx => h.lay x (List.mem_append_left _ hx), h3, h.dc⟩
theorem StkOk.go {d : AV} {w : Bool} {found init xs : List AV} {m : Nat} (h : StkOk d w found (init ++ [.tup xs]) m) :
    ∃ m', m' < m ∧ StkOk d w (found ++ bif Vm.sealB (.tup xs) then [.tup xs] else []) (init ++ bif (w || !Vm.sealB (.tup xs)) then xs.reverse else []) m' := by
  have h1 := h.sum
  have h2 := h.le
  have h3 := h.eq
  rw [cnts_app] at h1
  have e1 : Vm.cnts [.tup xs] = Vm.cnt (.tup xs) := Nat.add_zero _
  rw [cnt_tup] at e1
  rw [List.reverse_append, List.reverse_cons, List.reverse_nil, List.nil_append, List.cons_append, List.nil_append, Vm.sbs, sb_one] at h3
  have tl := tame_mem (h.tame (.tup xs) (by simp))
  have ll := lay_mem (h.lay (.tup xs) (by simp))
  cases hb : (w || !Vm.sealB (.tup xs)) <;> rw [hb] at h3
  · refine ⟨Vm.cnts init, by omega, by simp only [cond_false, List.append_nil], by omega, fun x hx => ?_, fun x hx => ?_, ?_, h.dc⟩
    · simp only [cond_false, List.append_nil] at hx; exact h.tame x (List.mem_append_left _ hx)
    · simp only [cond_false, List.append_nil] at hx; exact h.lay x (List.mem_append_left _ hx)
    · rw [← h3]; simp only [cond_false, List.append_nil, List.append_assoc]
  · refine ⟨Vm.cnts init + Vm.cnts xs, by omega, by simp only [cond_true]; rw [cnts_app, cnts_rev], by omega, fun x hx => ?_, fun x hx => ?_, ?_, h.dc⟩
    · simp only [cond_true] at hx
      rcases List.mem_append.mp hx with hx | hx
      · exact h.tame x (List.mem_append_left _ hx)
      · exact tl x (List.mem_reverse.mp hx)
    · simp only [cond_true] at hx
      rcases List.mem_append.mp hx with hx | hx
      · exact h.lay x (List.mem_append_left _ hx)
      · exact ll x (List.mem_reverse.mp hx)
    · rw [← h3]; simp only [cond_true, List.reverse_append, List.reverse_reverse, Vm.sbs_app, List.append_assoc]
theorem two_same {S : Store} {l l1 : Addr} {a b : AO} (h : l ≠ l1) : updS (updS S l a) l1 b l = some a := by rw [updS_ne h, updS_same]
theorem two_upd {S : Store} {l l1 : Addr} {a b c : AO} (h : l ≠ l1) : updS (updS (updS S l a) l1 b) l c = updS (updS S l c) l1 b := by
  rw [updS_comm h, updS_updS, ← updS_comm h]
theorem neA_of {x y : AV} {S : Store} {b : Bool} (h : eqA x y S = ⟨True, .bl b⟩) : neA x y S = ⟨True, .bl (!b)⟩ := by
  have h1 : (eqA x y S).ok := by rw [h]; trivial
  have h2 : (eqA x y S).v = .bl b := by rw [h]
  have key : (neA x y S).ok ∧ (neA x y S).v = .bl (!b) := by
    cases x <;> cases y
    all_goals first
      | exact ⟨h1, by have h2 := AV.bl.inj h2; exact congrArg AV.bl (congrArg (fun c => !c) h2)⟩
      | exact ⟨trivial, by have h2 := AV.bl.inj h2; exact congrArg AV.bl (congrArg (fun c => !c) h2)⟩
  have : neA x y S = ⟨(neA x y S).ok, (neA x y S).v⟩ := rfl
  rw [this, key.2, eq_true key.1]
theorem ne_w {d : AV} {S : Store} {w : Str} (h : Vm.tame d = true) (hs : Vm.lay d = true) (hw : SeqAt.shaped (.str w) = true := by decide +kernel) : neA d (.str w) S = ⟨True, .bl (!Vm.wordB w d)⟩ := neA_of (eq_w h hs hw)
theorem flatAs_tame {xs : List AV} (h : ∀ x ∈ xs, Vm.tame x = true) : flatAs xs = true := by
  rw [Vm.flatAs_all, List.all_eq_true]
  exact fun x hx => Vm.flat_tame x (h x hx)
theorem lays_all : ∀ {xs : List AV}, (∀ x ∈ xs, Vm.lay x = true) → PyData.canLayAll0 (toDs xs) = true ∧ PyData.depthAll (toDs xs) ≤ 60
  | [], _ => ⟨rfl, Nat.zero_le _⟩
  | x :: xs, h => by
    have a := h x (List.mem_cons_self ..)
    unfold Vm.lay at a
    rw [Bool.and_eq_true_iff, decide_eq_true_eq] at a
    obtain ⟨b, c⟩ := lays_all fun y hy => h y (List.mem_cons_of_mem _ hy)
    refine ⟨?_, ?_⟩
    · show (PyData.canLay0 (toD x) && PyData.canLayAll0 (toDs xs)) = true
      rw [a.1, b]; rfl
    · show max (PyData.depth (toD x)) (PyData.depthAll (toDs xs)) ≤ 60
      omega
theorem ne_nil {S : Store} {l : Addr} {xs : List AV} (h : S l = some (.lst xs)) (ht : ∀ x ∈ xs, Vm.tame x = true) (hy : ∀ x ∈ xs, Vm.lay x = true) : neA (.ref l) (.lst []) S = ⟨True, .bl (!xs.isEmpty)⟩ := by
  have e : datA S (.ref l) = .list (toDs xs) := by unfold datA; rw [derefA_ref h]; rfl
  have e2 : datA S (.lst []) = .list [] := rfl
  obtain ⟨a, b⟩ := lays_all hy
  have ok : okD S (.ref l) := by
    refine ⟨by rw [derefA_ref h]; exact flatAs_tame ht, ?_⟩
    rw [e]
    unfold SeqAt.shaped
    rw [Bool.and_eq_true_iff, decide_eq_true_eq]
    refine ⟨a, ?_⟩
    show PyData.depthAll (toDs xs) + 1 ≤ 64
    omega
  have ok2 : okD S (.lst []) := ⟨rfl, by rw [e2]; decide +kernel⟩
  show (⟨okD S (.ref l) ∧ okD S (.lst []), .bl (!PyData.eqv (datA S (.ref l)) (datA S (.lst [])))⟩ : Ans) = _
  refine ans_tt ⟨ok, ok2⟩ ?_
  rw [e, e2]
  cases xs with
  | nil => rw [toDs]; unfold PyData.eqv; rfl
  | cons x xs => rw [toDs]; unfold PyData.eqv; rfl
theorem rt_two {S : Store} {l l1 : Addr} {a b : List AV} {Q : AK} (ne : l ≠ l1) (hl : S l = none) (hn1 : S l1 = none) (q : Q (.lst a) S) : RtW Q (.ref l) (updS (updS S l (.lst a)) l1 (.lst b)) :=
  rt_frz (two_same ne) (.new (.new .refl hl (by rw [hl]; simp) (by simp)) hn1 (by rw [updS_ne (Ne.symm ne), hn1]; simp) (by simp)) hl q
theorem rt_two' {S : Store} {l l1 : Addr} {a b : List AV} {d : AV} {Q : AK} (ne : l ≠ l1) (hl : S l = none) (hn1 : S l1 = none) (q : Q d S) : RtW Q d (updS (updS S l (.lst a)) l1 (.lst b)) :=
  rt_sub (.new (.new .refl hl (by rw [hl]; simp) (by simp)) hn1 (by rw [updS_ne (Ne.symm ne), hn1]; simp) (by simp)) q
def piA (p : AV × Bool) : AV := match p.2 with
  | true => .tup [.str ")", .bl true]
  | false => .tup [p.1, .bl false]
def piL (p : AV × Bool) : AV := match p.2 with
  | true => .lst [.str ")"]
  | false => p.1
def goodA (y : AV) : Prop := Vm.isVal y 30 = true ∧ Vm.cnt y ≤ 400000
theorem cnts_leM {m : Nat} : ∀ xs : List AV, (∀ s ∈ xs, Vm.cnt s ≤ m) → Vm.cnts xs ≤ xs.length * m
  | [], _ => Nat.zero_le _
  | x :: xs, h => by
    have a := h x (List.mem_cons_self ..)
    have b := cnts_leM xs fun s hs => h s (List.mem_cons_of_mem _ hs)
    rw [Vm.cnts, List.length_cons, Nat.succ_mul]
    omega
section
variable {P : Program} {w : World} {K : PySem.W.Frag} {mg : Str → Option Value} {base : Heap} {C_Reader : Addr} {C_HouseError : Addr} {f_HouseError : Addr} {C_BadText : Addr}
def sp_is_sign : ASp := fun ds S Q => ∃ c, ds = [.str ⟨#[c]⟩] ∧ Q (.bl (Vm.chB c)) S
set_option maxHeartbeats 4000000 in
theorem fn_is_sign (T : Txt P w K mg C_Reader C_HouseError f_HouseError C_BadText)  : FnX P w K mg base 1 "is_sign" st_is_sign ["sign"] sp_is_sign := by
  refine FnX.of T.d_is_sign fun f fd F => F.ok4 sc_is_sign (fun ds S Q h => by unfold sp_is_sign at h; first | (obtain ⟨_, rfl, _⟩ := h; rfl) | (obtain ⟨_, _, rfl, _⟩ := h; rfl) | (obtain ⟨_, _, _, rfl, _⟩ := h; rfl) | (obtain ⟨_, _, _, _, rfl, _⟩ := h; rfl) | (obtain ⟨_, _, _, _, _, rfl, _⟩ := h; rfl) | (obtain ⟨_, _, _, _, _, _, rfl, _⟩ := h; rfl) | (obtain ⟨_, _, _, _, _, _, _, rfl, _⟩ := h; rfl)) fun cdv A gd out s H E hr => ?_
  refine ⟨_, (s_one (s_ret (e_or (e_chn o_le o_le (e_gS T.c_FIRST_SIGN) (e_var 0) (e_gS T.c_LAST_SIGN)) (e_one (e_cmp (o_eq hr.units) (e_var 0) (e_gS T.c_FEED)))))), ?_⟩
  rintro _ S Q ⟨c, rfl, q⟩
  walk_at "rd"
  have q : Q (.bl ((decide (32 ≤ c) && decide (c ≤ 126)) || decide (c = 10))) S := q
  simp only [sg_le1, sg_le2]
  cases h1 : decide (32 ≤ c) <;> rw [h1] at q <;> cases h2 : decide (c ≤ 126) <;> rw [h2] at q <;> walk_at "rd"
  all_goals first | exact rt_same q | skip
  all_goals simp only [sg_eq]
  all_goals exact rt_same q
def sp_Reader___init__ (C_Reader : Addr) : ASp := fun ds S Q => ∃ a z i, ds = [.ref a, .str z, .int i] ∧ S a = some (.ins C_Reader []) ∧ Q .non (updS S a (.ins C_Reader (Vm.rdF z i false)))
set_option maxHeartbeats 4000000 in
theorem fn_Reader___init__ (T : Txt P w K mg C_Reader C_HouseError f_HouseError C_BadText)  : FnM P w K mg base 1 C_Reader "__init__" "Reader.__init__" st_Reader___init__ ["self", "text", "at"] (sp_Reader___init__ C_Reader) := by
  refine FnM.of T.d_Reader___init__ fun f fd F => F.ok4 sc_Reader___init__ (fun ds S Q h => by unfold sp_Reader___init__ at h; first | (obtain ⟨_, rfl, _⟩ := h; rfl) | (obtain ⟨_, _, rfl, _⟩ := h; rfl) | (obtain ⟨_, _, _, rfl, _⟩ := h; rfl) | (obtain ⟨_, _, _, _, rfl, _⟩ := h; rfl) | (obtain ⟨_, _, _, _, _, rfl, _⟩ := h; rfl) | (obtain ⟨_, _, _, _, _, _, rfl, _⟩ := h; rfl) | (obtain ⟨_, _, _, _, _, _, _, rfl, _⟩ := h; rfl)) fun cdv A gd out s H E hr => ?_
  refine ⟨_, (s_one (s_asg (e_tup (a_cons (e_var 1) (a_cons (e_var 2) (a_cons e_bl a_nil)))) (g_tup rfl (gs_cons (g_fld T.cl_Reader T.nf_Reader_own_text (e_var 0)) (gs_cons (g_fld T.cl_Reader T.nf_Reader_own_at (e_var 0)) (gs_cons (g_fld T.cl_Reader T.nf_Reader_is_stuck (e_var 0)) gs_nil)))))), ?_⟩
  rintro _ S Q ⟨a, z, i, rfl, hs, q⟩
  walk_at "rd"
  refine ⟨le_sl (by omega), rfl, ?_⟩
  exact Vm.rd_init hs (rt_same q)
def sp_Reader_is_next (C_Reader : Addr) : ASp := fun ds S Q => ∃ a z k st c, ds = [.ref a, .str ⟨#[c]⟩] ∧ S a = some (.ins C_Reader (Vm.rdF z (k : Nat) st)) ∧ k ≤ z.length ∧ z.length ≤ 10000000 ∧
  Q (.bl (decide ((z.cps.toList.drop k).head? = some c))) (updS S a (.ins C_Reader (Vm.rdF z ((k + if (z.cps.toList.drop k).head? = some c then 1 else 0 : Nat) : Int) st)))
set_option maxHeartbeats 4000000 in
theorem fn_Reader_is_next (T : Txt P w K mg C_Reader C_HouseError f_HouseError C_BadText)  : FnM P w K mg base 1 C_Reader "is_next" "Reader.is_next" st_Reader_is_next ["self", "sign"] (sp_Reader_is_next C_Reader) := by
  refine FnM.of T.d_Reader_is_next fun f fd F => F.ok4 sc_Reader_is_next (fun ds S Q h => by unfold sp_Reader_is_next at h; first | (obtain ⟨_, rfl, _⟩ := h; rfl) | (obtain ⟨_, _, rfl, _⟩ := h; rfl) | (obtain ⟨_, _, _, rfl, _⟩ := h; rfl) | (obtain ⟨_, _, _, _, rfl, _⟩ := h; rfl) | (obtain ⟨_, _, _, _, _, rfl, _⟩ := h; rfl) | (obtain ⟨_, _, _, _, _, _, rfl, _⟩ := h; rfl) | (obtain ⟨_, _, _, _, _, _, _, rfl, _⟩ := h; rfl)) fun cdv A gd out s H E hr => ?_
  refine ⟨_, (s_cons (s_set 2 sc_Reader_is_next.nd (e_cmp (o_eq hr.units) (e_sl (e_fld T.cl_Reader T.nf_Reader_own_text (e_var 0)) (o_some (e_fld T.cl_Reader T.nf_Reader_own_at (e_var 0))) (o_some (e_op o_add (e_fld T.cl_Reader T.nf_Reader_own_at (e_var 0)) e_int))) (e_var 1)))
    (s_cons (s_putAug T.cl_Reader T.nf_Reader_own_at (e_var 0) (e_if (t_tru (e_var 2)) e_int e_int) in_add)
    (s_one (s_ret (e_var 2))))), ?_⟩
  rintro _ S Q ⟨a, z, k, st, c, rfl, hs, hk, hz, q⟩
  simp only [↓ite_bc, bc_t, bc_f, aLc_rng, aFor_rng, aLc_lst, lstA_lst, lstA_rol, aLcS_rng, eqA_ii, eqA_ss, neA_ii, neA_ss, updS_same, updS_updS, startA, List.map_cons, List.map_nil, List.cons_append, List.nil_append, List.length_cons, List.length_nil, Nat.zero_add, Nat.add_zero, Nat.reduceAdd, Nat.reduceSub, List.replicate_succ, List.replicate_zero, List.replicate,  aVar_z, aVar_s, aC, aNil, aCons, aTup, aLstV, aLst, aOp, aUn, aTru, aTst, aCmp, aChn, aChnT, aAnd, aOr, aNot, aIf, aAndV, aOrV, aNotV, aCB, aCall, aNext, aSeq, aBrk, aCnt, aRet, aRetN, aIfS, aNev,  agName, agNil, agCons, agTup, aAsg, aPar, aDrop, aCallK, aCallKn, aM, aM0, aAddS, aYes, one1, one2, wipeA, aRevT, aRevL, agSub_def, aSl, aPart, aNoPart, cutAns_rol, cutAns_lst, cutAns_tup, cutAns_str, aLstRg, aRg1, ex_some, tupleA_lst, tupleA_tup, wstA_lst,  List.set_cons_zero, List.set_cons_succ, List.set, ex_bl, ex_int, ex_str, ex_tup, ex_eq, ex_cons, ex_pair, ex_one1, ex_one_int, and_tt, truA_bl, truOk_bl, truA_int, truOk_int, truA_lst, truOk_lst, truA_tup, truOk_tup, truA_refU, truOk_refU, Bool.not_true, Bool.not_false,  addA_ii, addA_ss, addA_tt, addA_ll, intA_ii, int2A_ii, subA_ii, mulA_ii, modA_ii, fdivA_ii, powA_ii, negA_i, ltA_ii, leA_ii, gtA_ii, geA_ii, ltA_ss, leA_ss, gtA_ss, geA_ss, isA, isntA, nonA, isiA_non, isiA_bl, isiA_int, isiA_str, isiA_tup, isiA_lst, isiA_rol, lenA_str, lenA_tup, lenA_lst, lenA_rol, absA_i, toIntA_i, toIntA_b, isIntA, isiB, String.reduceBEq, List.contains_cons, List.contains_nil, Bool.or_true, Bool.true_or, Bool.or_false, Bool.false_or, Bool.and_true, Bool.true_and, Bool.and_false, Bool.false_and, Bool.not_eq_true, if_true, if_false, decide_true, decide_false, Bool.false_eq_true, eq_self, reduceCtorEq, true_and, false_and, and_false, badA, exists_false, aFld, aPut, agFld, aPutAug, aMeth, aMake, mulX_ii, mulX_si, mulX_li, strA_i, strA_s, intXA_i, intXA_b, isBA_bb, isntBA_bb, aTryV, aRaise, aCallX, aMethX, aErr, aDct0, aStar, aPar3, ex_tri, aCallKX, aIsE, Vm.rd_text hs, Vm.rd_at hs, Vm.cut_one hk]
  refine ⟨le_sl (by omega), ?_⟩
  by_cases h : (z.cps.toList.drop k).head? = some c
  · rw [if_pos h] at q
    rw [decide_eq_true h] at q ⊢
    simp only [↓ite_bc, bc_t, bc_f, aLc_rng, aFor_rng, aLc_lst, lstA_lst, lstA_rol, aLcS_rng, eqA_ii, eqA_ss, neA_ii, neA_ss, updS_same, updS_updS, startA, List.map_cons, List.map_nil, List.cons_append, List.nil_append, List.length_cons, List.length_nil, Nat.zero_add, Nat.add_zero, Nat.reduceAdd, Nat.reduceSub, List.replicate_succ, List.replicate_zero, List.replicate,  aVar_z, aVar_s, aC, aNil, aCons, aTup, aLstV, aLst, aOp, aUn, aTru, aTst, aCmp, aChn, aChnT, aAnd, aOr, aNot, aIf, aAndV, aOrV, aNotV, aCB, aCall, aNext, aSeq, aBrk, aCnt, aRet, aRetN, aIfS, aNev,  agName, agNil, agCons, agTup, aAsg, aPar, aDrop, aCallK, aCallKn, aM, aM0, aAddS, aYes, one1, one2, wipeA, aRevT, aRevL, agSub_def, aSl, aPart, aNoPart, cutAns_rol, cutAns_lst, cutAns_tup, cutAns_str, aLstRg, aRg1, ex_some, tupleA_lst, tupleA_tup, wstA_lst,  List.set_cons_zero, List.set_cons_succ, List.set, ex_bl, ex_int, ex_str, ex_tup, ex_eq, ex_cons, ex_pair, ex_one1, ex_one_int, and_tt, truA_bl, truOk_bl, truA_int, truOk_int, truA_lst, truOk_lst, truA_tup, truOk_tup, truA_refU, truOk_refU, Bool.not_true, Bool.not_false,  addA_ii, addA_ss, addA_tt, addA_ll, intA_ii, int2A_ii, subA_ii, mulA_ii, modA_ii, fdivA_ii, powA_ii, negA_i, ltA_ii, leA_ii, gtA_ii, geA_ii, ltA_ss, leA_ss, gtA_ss, geA_ss, isA, isntA, nonA, isiA_non, isiA_bl, isiA_int, isiA_str, isiA_tup, isiA_lst, isiA_rol, lenA_str, lenA_tup, lenA_lst, lenA_rol, absA_i, toIntA_i, toIntA_b, isIntA, isiB, String.reduceBEq, List.contains_cons, List.contains_nil, Bool.or_true, Bool.true_or, Bool.or_false, Bool.false_or, Bool.and_true, Bool.true_and, Bool.and_false, Bool.false_and, Bool.not_eq_true, if_true, if_false, decide_true, decide_false, Bool.false_eq_true, eq_self, reduceCtorEq, true_and, false_and, and_false, badA, exists_false, aFld, aPut, agFld, aPutAug, aMeth, aMake, mulX_ii, mulX_si, mulX_li, strA_i, strA_s, intXA_i, intXA_b, isBA_bb, isntBA_bb, aTryV, aRaise, aCallX, aMethX, aErr, aDct0, aStar, aPar3, ex_tri, aCallKX, aIsE, Vm.rd_at hs, Vm.put_at hs]
    exact rt_same q
  · rw [if_neg h] at q
    rw [decide_eq_false h] at q ⊢
    simp only [↓ite_bc, bc_t, bc_f, aLc_rng, aFor_rng, aLc_lst, lstA_lst, lstA_rol, aLcS_rng, eqA_ii, eqA_ss, neA_ii, neA_ss, updS_same, updS_updS, startA, List.map_cons, List.map_nil, List.cons_append, List.nil_append, List.length_cons, List.length_nil, Nat.zero_add, Nat.add_zero, Nat.reduceAdd, Nat.reduceSub, List.replicate_succ, List.replicate_zero, List.replicate,  aVar_z, aVar_s, aC, aNil, aCons, aTup, aLstV, aLst, aOp, aUn, aTru, aTst, aCmp, aChn, aChnT, aAnd, aOr, aNot, aIf, aAndV, aOrV, aNotV, aCB, aCall, aNext, aSeq, aBrk, aCnt, aRet, aRetN, aIfS, aNev,  agName, agNil, agCons, agTup, aAsg, aPar, aDrop, aCallK, aCallKn, aM, aM0, aAddS, aYes, one1, one2, wipeA, aRevT, aRevL, agSub_def, aSl, aPart, aNoPart, cutAns_rol, cutAns_lst, cutAns_tup, cutAns_str, aLstRg, aRg1, ex_some, tupleA_lst, tupleA_tup, wstA_lst,  List.set_cons_zero, List.set_cons_succ, List.set, ex_bl, ex_int, ex_str, ex_tup, ex_eq, ex_cons, ex_pair, ex_one1, ex_one_int, and_tt, truA_bl, truOk_bl, truA_int, truOk_int, truA_lst, truOk_lst, truA_tup, truOk_tup, truA_refU, truOk_refU, Bool.not_true, Bool.not_false,  addA_ii, addA_ss, addA_tt, addA_ll, intA_ii, int2A_ii, subA_ii, mulA_ii, modA_ii, fdivA_ii, powA_ii, negA_i, ltA_ii, leA_ii, gtA_ii, geA_ii, ltA_ss, leA_ss, gtA_ss, geA_ss, isA, isntA, nonA, isiA_non, isiA_bl, isiA_int, isiA_str, isiA_tup, isiA_lst, isiA_rol, lenA_str, lenA_tup, lenA_lst, lenA_rol, absA_i, toIntA_i, toIntA_b, isIntA, isiB, String.reduceBEq, List.contains_cons, List.contains_nil, Bool.or_true, Bool.true_or, Bool.or_false, Bool.false_or, Bool.and_true, Bool.true_and, Bool.and_false, Bool.false_and, Bool.not_eq_true, if_true, if_false, decide_true, decide_false, Bool.false_eq_true, eq_self, reduceCtorEq, true_and, false_and, and_false, badA, exists_false, aFld, aPut, agFld, aPutAug, aMeth, aMake, mulX_ii, mulX_si, mulX_li, strA_i, strA_s, intXA_i, intXA_b, isBA_bb, isntBA_bb, aTryV, aRaise, aCallX, aMethX, aErr, aDct0, aStar, aPar3, ex_tri, aCallKX, aIsE, Vm.rd_at hs, Vm.put_at hs]
    exact rt_same q
def sp_Reader_figures_on (C_Reader : Addr) : ASp := fun ds S Q => ∃ a z k st sg neg most, ds = [.ref a, .str sg, .int most] ∧ S a = some (.ins C_Reader (Vm.rdF z (k : Nat) st)) ∧ k ≤ z.length ∧ z.length ≤ 10000000 ∧ sg = (if neg = true then ("-" : Str) else ("" : Str)) ∧ most ≤ 1000000000000000000 ∧
  Q (.str ⟨(Vm.figs neg most [] (z.cps.toList.drop k)).toArray⟩) (updS S a (.ins C_Reader (Vm.rdF z ((k + (Vm.figs neg most [] (z.cps.toList.drop k)).length : Nat) : Int) st)))
set_option maxHeartbeats 4000000 in
theorem fn_Reader_figures_on (T : Txt P w K mg C_Reader C_HouseError f_HouseError C_BadText)  : FnM P w K mg base 1 C_Reader "figures_on" "Reader.figures_on" st_Reader_figures_on ["self", "sign", "most"] (sp_Reader_figures_on C_Reader) := by
  refine FnM.of T.d_Reader_figures_on fun f fd F => F.ok4 sc_Reader_figures_on (fun ds S Q h => by unfold sp_Reader_figures_on at h; first | (obtain ⟨_, rfl, _⟩ := h; rfl) | (obtain ⟨_, _, rfl, _⟩ := h; rfl) | (obtain ⟨_, _, _, rfl, _⟩ := h; rfl) | (obtain ⟨_, _, _, _, rfl, _⟩ := h; rfl) | (obtain ⟨_, _, _, _, _, rfl, _⟩ := h; rfl) | (obtain ⟨_, _, _, _, _, _, rfl, _⟩ := h; rfl) | (obtain ⟨_, _, _, _, _, _, _, rfl, _⟩ := h; rfl)) fun cdv A gd out s H E hr => ?_
  refine ⟨_, (s_cons (s_set 3 sc_Reader_figures_on.nd e_str)
    (s_cons (s_while PassesOwn.never (w_and (t_cmp o_lt (e_fld T.cl_Reader T.nf_Reader_own_at (e_var 0)) (e_cb c_len T.n_len (by decide +kernel) (a_cons (e_fld T.cl_Reader T.nf_Reader_own_text (e_var 0)) a_nil))) (w_and1 (t_cmp o_inS (e_ix o_ix (e_fld T.cl_Reader T.nf_Reader_own_text (e_var 0)) (e_fld T.cl_Reader T.nf_Reader_own_at (e_var 0))) (e_gS T.c_FIGURES)))).pt (s_cons (s_set 4 sc_Reader_figures_on.nd (e_op o_add (e_var 3) (e_ix o_ix (e_fld T.cl_Reader T.nf_Reader_own_text (e_var 0)) (e_fld T.cl_Reader T.nf_Reader_own_at (e_var 0)))))
    (s_cons (s_if (w_or (t_cmp (o_eq hr.units) (e_var 3) (e_gS T.c_NOUGHT)) (w_or (t_cmp (o_eq hr.units) (e_op o_add (e_var 1) (e_var 4)) (e_op o_add (e_gS T.c_MINUS) (e_gS T.c_NOUGHT))) (w_or1 (t_cmp o_gt (e_ct c_intX T.n_int (by decide +kernel) (a_cons (e_var 4) a_nil)) (e_var 2))))).pt (s_one (s_ret (e_var 3))) s_nil)
    (s_cons (s_set 3 sc_Reader_figures_on.nd (e_var 4))
    (s_one (s_putAug T.cl_Reader T.nf_Reader_own_at (e_var 0) e_int in_add))))))
    (s_one (s_ret (e_var 3))))), ?_⟩
  rintro _ S Q ⟨a, z, k, st, sg, neg, most, rfl, hs, hk, hz, hsg, hm, q⟩
  walk_at "rd"
  refine ⟨fun m τ S' => ∃ (found : List Nat) (o4 : Option AV), τ = [some (.ref a), some (.str sg), some (.int most), some (.str ⟨found.toArray⟩), o4] ∧ S' = updS S a (.ins C_Reader (Vm.rdF z ((k + found.length : Nat) : Int) st)) ∧ k + found.length + m = z.length ∧
    Vm.figs neg most [] (z.cps.toList.drop k) = Vm.figs neg most found (z.cps.toList.drop (k + found.length)) ∧ Vm.FigOk most found, ⟨z.length - k, [], none, rfl, (updS_self hs).symm, by show k + 0 + _ = _; omega, rfl, .nil⟩, ?_⟩
  rintro m _ _ ⟨found, o4, rfl, rfl, hmm, hf, ok⟩
  have hl := ok.len
  simp only [↓ite_bc, bc_t, bc_f, aLc_rng, aFor_rng, aLc_lst, lstA_lst, lstA_rol, aLcS_rng, eqA_ii, eqA_ss, neA_ii, neA_ss, updS_same, updS_updS, startA, List.map_cons, List.map_nil, List.cons_append, List.nil_append, List.length_cons, List.length_nil, Nat.zero_add, Nat.add_zero, Nat.reduceAdd, Nat.reduceSub, List.replicate_succ, List.replicate_zero, List.replicate,  aVar_z, aVar_s, aC, aNil, aCons, aTup, aLstV, aLst, aOp, aUn, aTru, aTst, aCmp, aChn, aChnT, aAnd, aOr, aNot, aIf, aAndV, aOrV, aNotV, aCB, aCall, aNext, aSeq, aBrk, aCnt, aRet, aRetN, aIfS, aNev,  agName, agNil, agCons, agTup, aAsg, aPar, aDrop, aCallK, aCallKn, aM, aM0, aAddS, aYes, one1, one2, wipeA, aRevT, aRevL, agSub_def, aSl, aPart, aNoPart, cutAns_rol, cutAns_lst, cutAns_tup, cutAns_str, aLstRg, aRg1, ex_some, tupleA_lst, tupleA_tup, wstA_lst,  List.set_cons_zero, List.set_cons_succ, List.set, ex_bl, ex_int, ex_str, ex_tup, ex_eq, ex_cons, ex_pair, ex_one1, ex_one_int, and_tt, truA_bl, truOk_bl, truA_int, truOk_int, truA_lst, truOk_lst, truA_tup, truOk_tup, truA_refU, truOk_refU, Bool.not_true, Bool.not_false,  addA_ii, addA_ss, addA_tt, addA_ll, intA_ii, int2A_ii, subA_ii, mulA_ii, modA_ii, fdivA_ii, powA_ii, negA_i, ltA_ii, leA_ii, gtA_ii, geA_ii, ltA_ss, leA_ss, gtA_ss, geA_ss, isA, isntA, nonA, isiA_non, isiA_bl, isiA_int, isiA_str, isiA_tup, isiA_lst, isiA_rol, lenA_str, lenA_tup, lenA_lst, lenA_rol, absA_i, toIntA_i, toIntA_b, isIntA, isiB, String.reduceBEq, List.contains_cons, List.contains_nil, Bool.or_true, Bool.true_or, Bool.or_false, Bool.false_or, Bool.and_true, Bool.true_and, Bool.and_false, Bool.false_and, Bool.not_eq_true, if_true, if_false, decide_true, decide_false, Bool.false_eq_true, eq_self, reduceCtorEq, true_and, false_and, and_false, badA, exists_false, aFld, aPut, agFld, aPutAug, aMeth, aMake, mulX_ii, mulX_si, mulX_li, strA_i, strA_s, intXA_i, intXA_b, isBA_bb, isntBA_bb, aTryV, aRaise, aCallX, aMethX, aErr, aDct0, aStar, aPar3, ex_tri, aCallKX, aIsE, Vm.rd_text updS_same, Vm.rd_at updS_same]
  refine ⟨le_sl (by omega), ?_⟩
  by_cases hlt : k + found.length < z.length
  · obtain ⟨c, rs, e1, e2, e3⟩ := Vm.ix_str (S := S) (le_sl (by omega) : z.length ≤ sizeLine) hlt
    rw [decide_eq_true (by omega)]
    rw [e1, Vm.figs_cons] at hf
    have e48 : ("0" : Str).cps.toList = [48] := by decide +kernel
    have n0 : decide ((⟨found.toArray⟩ : Str) = ("0" : Str)) = decide (found = [48]) := Vm.se1 e48
    simp only [↓ite_bc, bc_t, bc_f, aLc_rng, aFor_rng, aLc_lst, lstA_lst, lstA_rol, aLcS_rng, eqA_ii, eqA_ss, neA_ii, neA_ss, updS_same, updS_updS, startA, List.map_cons, List.map_nil, List.cons_append, List.nil_append, List.length_cons, List.length_nil, Nat.zero_add, Nat.add_zero, Nat.reduceAdd, Nat.reduceSub, List.replicate_succ, List.replicate_zero, List.replicate,  aVar_z, aVar_s, aC, aNil, aCons, aTup, aLstV, aLst, aOp, aUn, aTru, aTst, aCmp, aChn, aChnT, aAnd, aOr, aNot, aIf, aAndV, aOrV, aNotV, aCB, aCall, aNext, aSeq, aBrk, aCnt, aRet, aRetN, aIfS, aNev,  agName, agNil, agCons, agTup, aAsg, aPar, aDrop, aCallK, aCallKn, aM, aM0, aAddS, aYes, one1, one2, wipeA, aRevT, aRevL, agSub_def, aSl, aPart, aNoPart, cutAns_rol, cutAns_lst, cutAns_tup, cutAns_str, aLstRg, aRg1, ex_some, tupleA_lst, tupleA_tup, wstA_lst,  List.set_cons_zero, List.set_cons_succ, List.set, ex_bl, ex_int, ex_str, ex_tup, ex_eq, ex_cons, ex_pair, ex_one1, ex_one_int, and_tt, truA_bl, truOk_bl, truA_int, truOk_int, truA_lst, truOk_lst, truA_tup, truOk_tup, truA_refU, truOk_refU, Bool.not_true, Bool.not_false,  addA_ii, addA_ss, addA_tt, addA_ll, intA_ii, int2A_ii, subA_ii, mulA_ii, modA_ii, fdivA_ii, powA_ii, negA_i, ltA_ii, leA_ii, gtA_ii, geA_ii, ltA_ss, leA_ss, gtA_ss, geA_ss, isA, isntA, nonA, isiA_non, isiA_bl, isiA_int, isiA_str, isiA_tup, isiA_lst, isiA_rol, lenA_str, lenA_tup, lenA_lst, lenA_rol, absA_i, toIntA_i, toIntA_b, isIntA, isiB, String.reduceBEq, List.contains_cons, List.contains_nil, Bool.or_true, Bool.true_or, Bool.or_false, Bool.false_or, Bool.and_true, Bool.true_and, Bool.and_false, Bool.false_and, Bool.not_eq_true, if_true, if_false, decide_true, decide_false, Bool.false_eq_true, eq_self, reduceCtorEq, true_and, false_and, and_false, badA, exists_false, aFld, aPut, agFld, aPutAug, aMeth, aMake, mulX_ii, mulX_si, mulX_li, strA_i, strA_s, intXA_i, intXA_b, isBA_bb, isntBA_bb, aTryV, aRaise, aCallX, aMethX, aErr, aDct0, aStar, aPar3, ex_tri, aCallKX, aIsE, Vm.rd_text updS_same, Vm.rd_at updS_same, e3, Vm.fig_inA, Vm.app1, n0]
    cases hc : Vm.dig c
    · rw [hc, if_neg Bool.false_ne_true] at hf
      rw [hf] at q
      walk_at "rd"
      exact rt_same q
    rw [hc, if_pos rfl] at hf
    have ht := ok.text hc
    have hl2 : (⟨(found ++ [c]).toArray⟩ : Str).length = found.length + 1 := by show (found ++ [c]).toArray.size = _; rw [List.size_toArray, List.length_append, List.length_singleton]
    have hl1 : (⟨found.toArray⟩ : Str).length = found.length := by show found.toArray.size = _; rw [List.size_toArray]
    have hc1 : (⟨#[c]⟩ : Str).length = 1 := rfl
    have hd2 : ∀ d ∈ found ++ [c], 48 ≤ d ∧ d ≤ 57 := fun d hd => by
      rcases List.mem_append.mp hd with z | z
      · exact ok.dig d z
      · cases List.mem_singleton.mp z
        simpa only [Vm.dig, Bool.and_eq_true, decide_eq_true_eq] using hc
    have hsl : sg.length ≤ 1 := by rw [hsg]; cases neg <;> decide +kernel
    subst hsg
    simp only [↓ite_bc, bc_t, bc_f, aLc_rng, aFor_rng, aLc_lst, lstA_lst, lstA_rol, aLcS_rng, eqA_ii, eqA_ss, neA_ii, neA_ss, updS_same, updS_updS, startA, List.map_cons, List.map_nil, List.cons_append, List.nil_append, List.length_cons, List.length_nil, Nat.zero_add, Nat.add_zero, Nat.reduceAdd, Nat.reduceSub, List.replicate_succ, List.replicate_zero, List.replicate,  aVar_z, aVar_s, aC, aNil, aCons, aTup, aLstV, aLst, aOp, aUn, aTru, aTst, aCmp, aChn, aChnT, aAnd, aOr, aNot, aIf, aAndV, aOrV, aNotV, aCB, aCall, aNext, aSeq, aBrk, aCnt, aRet, aRetN, aIfS, aNev,  agName, agNil, agCons, agTup, aAsg, aPar, aDrop, aCallK, aCallKn, aM, aM0, aAddS, aYes, one1, one2, wipeA, aRevT, aRevL, agSub_def, aSl, aPart, aNoPart, cutAns_rol, cutAns_lst, cutAns_tup, cutAns_str, aLstRg, aRg1, ex_some, tupleA_lst, tupleA_tup, wstA_lst,  List.set_cons_zero, List.set_cons_succ, List.set, ex_bl, ex_int, ex_str, ex_tup, ex_eq, ex_cons, ex_pair, ex_one1, ex_one_int, and_tt, truA_bl, truOk_bl, truA_int, truOk_int, truA_lst, truOk_lst, truA_tup, truOk_tup, truA_refU, truOk_refU, Bool.not_true, Bool.not_false,  addA_ii, addA_ss, addA_tt, addA_ll, intA_ii, int2A_ii, subA_ii, mulA_ii, modA_ii, fdivA_ii, powA_ii, negA_i, ltA_ii, leA_ii, gtA_ii, geA_ii, ltA_ss, leA_ss, gtA_ss, geA_ss, isA, isntA, nonA, isiA_non, isiA_bl, isiA_int, isiA_str, isiA_tup, isiA_lst, isiA_rol, lenA_str, lenA_tup, lenA_lst, lenA_rol, absA_i, toIntA_i, toIntA_b, isIntA, isiB, String.reduceBEq, List.contains_cons, List.contains_nil, Bool.or_true, Bool.true_or, Bool.or_false, Bool.false_or, Bool.and_true, Bool.true_and, Bool.and_false, Bool.false_and, Bool.not_eq_true, if_true, if_false, decide_true, decide_false, Bool.false_eq_true, eq_self, reduceCtorEq, true_and, false_and, and_false, badA, exists_false, aFld, aPut, agFld, aPutAug, aMeth, aMake, mulX_ii, mulX_si, mulX_li, strA_i, strA_s, intXA_i, intXA_b, isBA_bb, isntBA_bb, aTryV, aRaise, aCallX, aMethX, aErr, aDct0, aStar, aPar3, ex_tri, aCallKX, aIsE, Vm.sg_longer hd2, intXA_s ht]
    refine ⟨le_sl (by omega), ?_⟩
    by_cases c1 : found = [48]
    · rw [if_pos (.inl c1)] at hf
      rw [hf] at q
      rw [decide_eq_true c1]
      exact rt_same q
    rw [decide_eq_false c1]
    walk_at "rd"
    refine ⟨le_sl (by omega), le_sl (by decide +kernel), ?_⟩
    by_cases c2 : neg = true ∧ found ++ [c] = [48]
    · rw [if_pos (.inr (.inl c2))] at hf
      rw [hf] at q
      rw [decide_eq_true c2]
      exact rt_same q
    rw [decide_eq_false c2]
    walk_at "rd"
    refine ⟨by rw [hl2]; omega, ?_⟩
    by_cases c3 : most < (NumText.digitsVal (found ++ [c]) : Int)
    · rw [if_pos (.inr (.inr c3))] at hf
      rw [hf] at q
      rw [decide_eq_true c3]
      exact rt_same q
    rw [decide_eq_false c3]
    rw [if_neg (by rintro (z | z | z) <;> contradiction)] at hf
    simp only [↓ite_bc, bc_t, bc_f, aLc_rng, aFor_rng, aLc_lst, lstA_lst, lstA_rol, aLcS_rng, eqA_ii, eqA_ss, neA_ii, neA_ss, updS_same, updS_updS, startA, List.map_cons, List.map_nil, List.cons_append, List.nil_append, List.length_cons, List.length_nil, Nat.zero_add, Nat.add_zero, Nat.reduceAdd, Nat.reduceSub, List.replicate_succ, List.replicate_zero, List.replicate,  aVar_z, aVar_s, aC, aNil, aCons, aTup, aLstV, aLst, aOp, aUn, aTru, aTst, aCmp, aChn, aChnT, aAnd, aOr, aNot, aIf, aAndV, aOrV, aNotV, aCB, aCall, aNext, aSeq, aBrk, aCnt, aRet, aRetN, aIfS, aNev,  agName, agNil, agCons, agTup, aAsg, aPar, aDrop, aCallK, aCallKn, aM, aM0, aAddS, aYes, one1, one2, wipeA, aRevT, aRevL, agSub_def, aSl, aPart, aNoPart, cutAns_rol, cutAns_lst, cutAns_tup, cutAns_str, aLstRg, aRg1, ex_some, tupleA_lst, tupleA_tup, wstA_lst,  List.set_cons_zero, List.set_cons_succ, List.set, ex_bl, ex_int, ex_str, ex_tup, ex_eq, ex_cons, ex_pair, ex_one1, ex_one_int, and_tt, truA_bl, truOk_bl, truA_int, truOk_int, truA_lst, truOk_lst, truA_tup, truOk_tup, truA_refU, truOk_refU, Bool.not_true, Bool.not_false,  addA_ii, addA_ss, addA_tt, addA_ll, intA_ii, int2A_ii, subA_ii, mulA_ii, modA_ii, fdivA_ii, powA_ii, negA_i, ltA_ii, leA_ii, gtA_ii, geA_ii, ltA_ss, leA_ss, gtA_ss, geA_ss, isA, isntA, nonA, isiA_non, isiA_bl, isiA_int, isiA_str, isiA_tup, isiA_lst, isiA_rol, lenA_str, lenA_tup, lenA_lst, lenA_rol, absA_i, toIntA_i, toIntA_b, isIntA, isiB, String.reduceBEq, List.contains_cons, List.contains_nil, Bool.or_true, Bool.true_or, Bool.or_false, Bool.false_or, Bool.and_true, Bool.true_and, Bool.and_false, Bool.false_and, Bool.not_eq_true, if_true, if_false, decide_true, decide_false, Bool.false_eq_true, eq_self, reduceCtorEq, true_and, false_and, and_false, badA, exists_false, aFld, aPut, agFld, aPutAug, aMeth, aMake, mulX_ii, mulX_si, mulX_li, strA_i, strA_s, intXA_i, intXA_b, isBA_bb, isntBA_bb, aTryV, aRaise, aCallX, aMethX, aErr, aDct0, aStar, aPar3, ex_tri, aCallKX, aIsE, Vm.put_at updS_same]
    exact ⟨m - 1, by omega, found ++ [c], _, rfl, by rw [List.length_append, List.length_singleton]; rfl, by rw [List.length_append, List.length_singleton]; omega, by rw [hf, e2, List.length_append, List.length_singleton]; rfl, ok.step hc c1 c3 hm⟩
  · rw [decide_eq_false (by omega)]
    walk_at "rd"
    have e : z.cps.toList.drop (k + found.length) = [] := List.drop_eq_nil_of_le (by rw [Array.length_toList]; show z.length ≤ _; omega)
    rw [e] at hf
    rw [hf] at q
    exact rt_same q
def sp_Reader_number (C_Reader : Addr) : ASp := fun ds S Q => ∃ a z k st below most e, ds = [.ref a, .bl below, .int most, .str ⟨#[e]⟩] ∧ S a = some (.ins C_Reader (Vm.rdF z (k : Nat) st)) ∧ k ≤ z.length ∧ z.length ≤ 10000000 ∧ most ≤ 1000000000000000000 ∧
  Q (match (Vm.numF below most e (z.cps.toList.drop k)).1 with | some n => .int n | none => .non) (updS S a (.ins C_Reader (Vm.rdF z ((k + (Vm.numF below most e (z.cps.toList.drop k)).2 : Nat) : Int) (match (Vm.numF below most e (z.cps.toList.drop k)).1 with | some _ => st | none => true))))
set_option maxHeartbeats 4000000 in
theorem fn_Reader_number (T : Txt P w K mg C_Reader C_HouseError f_HouseError C_BadText)  (F_Reader_is_next : FnM P w K mg base 1 C_Reader "is_next" "Reader.is_next" st_Reader_is_next ["self", "sign"] (sp_Reader_is_next C_Reader)) (F_Reader_figures_on : FnM P w K mg base 1 C_Reader "figures_on" "Reader.figures_on" st_Reader_figures_on ["self", "sign", "most"] (sp_Reader_figures_on C_Reader)) : FnM P w K mg base 2 C_Reader "number" "Reader.number" st_Reader_number ["self", "can_be_below", "most", "end"] (sp_Reader_number C_Reader) := by
  refine FnM.of T.d_Reader_number fun f fd F => F.ok4 sc_Reader_number (fun ds S Q h => by unfold sp_Reader_number at h; first | (obtain ⟨_, rfl, _⟩ := h; rfl) | (obtain ⟨_, _, rfl, _⟩ := h; rfl) | (obtain ⟨_, _, _, rfl, _⟩ := h; rfl) | (obtain ⟨_, _, _, _, rfl, _⟩ := h; rfl) | (obtain ⟨_, _, _, _, _, rfl, _⟩ := h; rfl) | (obtain ⟨_, _, _, _, _, _, rfl, _⟩ := h; rfl) | (obtain ⟨_, _, _, _, _, _, _, rfl, _⟩ := h; rfl)) fun cdv A gd out s H E hr => ?_
  refine ⟨_, (s_cons (s_set 4 sc_Reader_number.nd (e_if (w_and (t_tru (e_var 1)) (w_and1 (t_tru (e_meth F_Reader_is_next T.cl_Reader gd (hr.mono (by decide)) (e_var 0) (a_cons (e_gS T.c_MINUS) a_nil))))).pt (e_gS T.c_MINUS) e_str))
    (s_cons (s_set 5 sc_Reader_number.nd (e_meth F_Reader_figures_on T.cl_Reader gd (hr.mono (by decide)) (e_var 0) (a_cons (e_var 4) (a_cons (e_var 2) a_nil))))
    (s_cons (s_if (w_or (t_cmp (o_eq hr.units) (e_var 5) e_str) (w_or1 (t_not (t_tru (e_meth F_Reader_is_next T.cl_Reader gd (hr.mono (by decide)) (e_var 0) (a_cons (e_var 3) a_nil)))))).pt (s_cons (s_put T.cl_Reader T.nf_Reader_is_stuck (e_var 0) e_bl)
    (s_one (s_ret e_non))) s_nil)
    (s_one (s_ret (e_ct c_intX T.n_int (by decide +kernel) (a_cons (e_op o_add (e_var 4) (e_var 5)) a_nil))))))), ?_⟩
  rintro _ S Q ⟨a, z, k, st, below, most, e, rfl, hs, hk, hz, hm, q⟩
  have hlen : z.cps.toList.length = z.length := Array.length_toList
  generalize hrs : z.cps.toList.drop k = rs at q
  have hrl : rs.length = z.length - k := by rw [← hrs, List.length_drop, hlen]
  obtain ⟨neg, hneg⟩ : ∃ neg, neg = (below && decide (rs.head? = some 45)) := ⟨_, rfl⟩
  obtain ⟨j, hj⟩ : ∃ j, j = if neg = true then 1 else 0 := ⟨_, rfl⟩
  have em : ("-" : Str) = ⟨#[45]⟩ := by decide +kernel
  have hj1 : k + j ≤ z.length := by
    subst hj
    cases neg with
    | false => show k + 0 ≤ _; omega
    | true =>
      have h := (Bool.and_eq_true_iff.mp hneg.symm).2
      rw [decide_eq_true_eq] at h
      cases rs with
      | nil => cases h
      | cons _ _ => rw [List.length_cons] at hrl; show k + 1 ≤ _; omega
  refine seq_mid (fun τ S' => τ = [some (.ref a), some (.bl below), some (.int most), some (.str ⟨#[e]⟩), some (.str (if neg = true then ("-" : Str) else ("" : Str))), none] ∧ S' = updS S a (.ins C_Reader (Vm.rdF z ((k + j : Nat) : Int) st))) (fun D' hD' _ => ?_) (fun τ S' ⟨eτ, eS⟩ => ?_)
  · cases below with
    | false =>
      obtain rfl : neg = false := hneg
      subst hj
      walk_at "rd"
      exact hD' _ _ ⟨rfl, (updS_self hs).symm⟩
    | true =>
      have hneg : neg = decide (rs.head? = some 45) := hneg
      simp only [↓ite_bc, bc_t, bc_f, aLc_rng, aFor_rng, aLc_lst, lstA_lst, lstA_rol, aLcS_rng, eqA_ii, eqA_ss, neA_ii, neA_ss, updS_same, updS_updS, startA, List.map_cons, List.map_nil, List.cons_append, List.nil_append, List.length_cons, List.length_nil, Nat.zero_add, Nat.add_zero, Nat.reduceAdd, Nat.reduceSub, List.replicate_succ, List.replicate_zero, List.replicate,  aVar_z, aVar_s, aC, aNil, aCons, aTup, aLstV, aLst, aOp, aUn, aTru, aTst, aCmp, aChn, aChnT, aAnd, aOr, aNot, aIf, aAndV, aOrV, aNotV, aCB, aCall, aNext, aSeq, aBrk, aCnt, aRet, aRetN, aIfS, aNev,  agName, agNil, agCons, agTup, aAsg, aPar, aDrop, aCallK, aCallKn, aM, aM0, aAddS, aYes, one1, one2, wipeA, aRevT, aRevL, agSub_def, aSl, aPart, aNoPart, cutAns_rol, cutAns_lst, cutAns_tup, cutAns_str, aLstRg, aRg1, ex_some, tupleA_lst, tupleA_tup, wstA_lst,  List.set_cons_zero, List.set_cons_succ, List.set, ex_bl, ex_int, ex_str, ex_tup, ex_eq, ex_cons, ex_pair, ex_one1, ex_one_int, and_tt, truA_bl, truOk_bl, truA_int, truOk_int, truA_lst, truOk_lst, truA_tup, truOk_tup, truA_refU, truOk_refU, Bool.not_true, Bool.not_false,  addA_ii, addA_ss, addA_tt, addA_ll, intA_ii, int2A_ii, subA_ii, mulA_ii, modA_ii, fdivA_ii, powA_ii, negA_i, ltA_ii, leA_ii, gtA_ii, geA_ii, ltA_ss, leA_ss, gtA_ss, geA_ss, isA, isntA, nonA, isiA_non, isiA_bl, isiA_int, isiA_str, isiA_tup, isiA_lst, isiA_rol, lenA_str, lenA_tup, lenA_lst, lenA_rol, absA_i, toIntA_i, toIntA_b, isIntA, isiB, String.reduceBEq, List.contains_cons, List.contains_nil, Bool.or_true, Bool.true_or, Bool.or_false, Bool.false_or, Bool.and_true, Bool.true_and, Bool.and_false, Bool.false_and, Bool.not_eq_true, if_true, if_false, decide_true, decide_false, Bool.false_eq_true, eq_self, reduceCtorEq, true_and, false_and, and_false, badA, exists_false, aFld, aPut, agFld, aPutAug, aMeth, aMake, mulX_ii, mulX_si, mulX_li, strA_i, strA_s, intXA_i, intXA_b, isBA_bb, isntBA_bb, aTryV, aRaise, aCallX, aMethX, aErr, aDct0, aStar, aPar3, ex_tri, aCallKX, aIsE, ]
      refine ⟨a, _, rfl, hs, Vm.no_attr, a, z, k, st, 45, by rw [← em], hs, hk, hz, ?_⟩
      rw [hrs]
      by_cases h : rs.head? = some 45
      · rw [decide_eq_true h] at hneg ⊢
        subst hneg hj
        rw [if_pos h]
        walk_at "rd"
        exact hD' _ _ ⟨rfl, rfl⟩
      · rw [decide_eq_false h] at hneg ⊢
        subst hneg hj
        rw [if_neg h]
        walk_at "rd"
        exact hD' _ _ ⟨rfl, rfl⟩
  · subst eτ eS
    have en : ("" : Str).cps.toList = [] := by decide +kernel
    obtain ⟨f, hf⟩ : ∃ f, f = Vm.figs neg most [] (rs.drop j) := ⟨_, rfl⟩
    have hfl := (Vm.figs_len (neg := neg) (most := most) (rs.drop j) []).2
    rw [← hf, List.length_drop, List.length_nil] at hfl
    have hok : Vm.FigOk most f := by rw [hf]; exact Vm.figs_ok hm _ _ .nil
    have hol := hok.len
    rw [Vm.numF_eq hneg hj hf] at q
    simp only [↓ite_bc, bc_t, bc_f, aLc_rng, aFor_rng, aLc_lst, lstA_lst, lstA_rol, aLcS_rng, eqA_ii, eqA_ss, neA_ii, neA_ss, updS_same, updS_updS, startA, List.map_cons, List.map_nil, List.cons_append, List.nil_append, List.length_cons, List.length_nil, Nat.zero_add, Nat.add_zero, Nat.reduceAdd, Nat.reduceSub, List.replicate_succ, List.replicate_zero, List.replicate,  aVar_z, aVar_s, aC, aNil, aCons, aTup, aLstV, aLst, aOp, aUn, aTru, aTst, aCmp, aChn, aChnT, aAnd, aOr, aNot, aIf, aAndV, aOrV, aNotV, aCB, aCall, aNext, aSeq, aBrk, aCnt, aRet, aRetN, aIfS, aNev,  agName, agNil, agCons, agTup, aAsg, aPar, aDrop, aCallK, aCallKn, aM, aM0, aAddS, aYes, one1, one2, wipeA, aRevT, aRevL, agSub_def, aSl, aPart, aNoPart, cutAns_rol, cutAns_lst, cutAns_tup, cutAns_str, aLstRg, aRg1, ex_some, tupleA_lst, tupleA_tup, wstA_lst,  List.set_cons_zero, List.set_cons_succ, List.set, ex_bl, ex_int, ex_str, ex_tup, ex_eq, ex_cons, ex_pair, ex_one1, ex_one_int, and_tt, truA_bl, truOk_bl, truA_int, truOk_int, truA_lst, truOk_lst, truA_tup, truOk_tup, truA_refU, truOk_refU, Bool.not_true, Bool.not_false,  addA_ii, addA_ss, addA_tt, addA_ll, intA_ii, int2A_ii, subA_ii, mulA_ii, modA_ii, fdivA_ii, powA_ii, negA_i, ltA_ii, leA_ii, gtA_ii, geA_ii, ltA_ss, leA_ss, gtA_ss, geA_ss, isA, isntA, nonA, isiA_non, isiA_bl, isiA_int, isiA_str, isiA_tup, isiA_lst, isiA_rol, lenA_str, lenA_tup, lenA_lst, lenA_rol, absA_i, toIntA_i, toIntA_b, isIntA, isiB, String.reduceBEq, List.contains_cons, List.contains_nil, Bool.or_true, Bool.true_or, Bool.or_false, Bool.false_or, Bool.and_true, Bool.true_and, Bool.and_false, Bool.false_and, Bool.not_eq_true, if_true, if_false, decide_true, decide_false, Bool.false_eq_true, eq_self, reduceCtorEq, true_and, false_and, and_false, badA, exists_false, aFld, aPut, agFld, aPutAug, aMeth, aMake, mulX_ii, mulX_si, mulX_li, strA_i, strA_s, intXA_i, intXA_b, isBA_bb, isntBA_bb, aTryV, aRaise, aCallX, aMethX, aErr, aDct0, aStar, aPar3, ex_tri, aCallKX, aIsE, ]
    refine ⟨a, _, rfl, updS_same, Vm.no_attr, a, z, k + j, st, _, neg, most, rfl, updS_same, hj1, hz, rfl, hm, ?_⟩
    rw [← List.drop_drop, hrs, ← hf]
    have e0 : decide ((⟨f.toArray⟩ : Str) = ("" : Str)) = decide (f = []) := Vm.se1 en
    simp only [↓ite_bc, bc_t, bc_f, aLc_rng, aFor_rng, aLc_lst, lstA_lst, lstA_rol, aLcS_rng, eqA_ii, eqA_ss, neA_ii, neA_ss, updS_same, updS_updS, startA, List.map_cons, List.map_nil, List.cons_append, List.nil_append, List.length_cons, List.length_nil, Nat.zero_add, Nat.add_zero, Nat.reduceAdd, Nat.reduceSub, List.replicate_succ, List.replicate_zero, List.replicate,  aVar_z, aVar_s, aC, aNil, aCons, aTup, aLstV, aLst, aOp, aUn, aTru, aTst, aCmp, aChn, aChnT, aAnd, aOr, aNot, aIf, aAndV, aOrV, aNotV, aCB, aCall, aNext, aSeq, aBrk, aCnt, aRet, aRetN, aIfS, aNev,  agName, agNil, agCons, agTup, aAsg, aPar, aDrop, aCallK, aCallKn, aM, aM0, aAddS, aYes, one1, one2, wipeA, aRevT, aRevL, agSub_def, aSl, aPart, aNoPart, cutAns_rol, cutAns_lst, cutAns_tup, cutAns_str, aLstRg, aRg1, ex_some, tupleA_lst, tupleA_tup, wstA_lst,  List.set_cons_zero, List.set_cons_succ, List.set, ex_bl, ex_int, ex_str, ex_tup, ex_eq, ex_cons, ex_pair, ex_one1, ex_one_int, and_tt, truA_bl, truOk_bl, truA_int, truOk_int, truA_lst, truOk_lst, truA_tup, truOk_tup, truA_refU, truOk_refU, Bool.not_true, Bool.not_false,  addA_ii, addA_ss, addA_tt, addA_ll, intA_ii, int2A_ii, subA_ii, mulA_ii, modA_ii, fdivA_ii, powA_ii, negA_i, ltA_ii, leA_ii, gtA_ii, geA_ii, ltA_ss, leA_ss, gtA_ss, geA_ss, isA, isntA, nonA, isiA_non, isiA_bl, isiA_int, isiA_str, isiA_tup, isiA_lst, isiA_rol, lenA_str, lenA_tup, lenA_lst, lenA_rol, absA_i, toIntA_i, toIntA_b, isIntA, isiB, String.reduceBEq, List.contains_cons, List.contains_nil, Bool.or_true, Bool.true_or, Bool.or_false, Bool.false_or, Bool.and_true, Bool.true_and, Bool.and_false, Bool.false_and, Bool.not_eq_true, if_true, if_false, decide_true, decide_false, Bool.false_eq_true, eq_self, reduceCtorEq, true_and, false_and, and_false, badA, exists_false, aFld, aPut, agFld, aPutAug, aMeth, aMake, mulX_ii, mulX_si, mulX_li, strA_i, strA_s, intXA_i, intXA_b, isBA_bb, isntBA_bb, aTryV, aRaise, aCallX, aMethX, aErr, aDct0, aStar, aPar3, ex_tri, aCallKX, aIsE, e0]
    by_cases hn : f = []
    · rw [if_pos hn] at q
      rw [decide_eq_true hn]
      simp only [↓ite_bc, bc_t, bc_f, aLc_rng, aFor_rng, aLc_lst, lstA_lst, lstA_rol, aLcS_rng, eqA_ii, eqA_ss, neA_ii, neA_ss, updS_same, updS_updS, startA, List.map_cons, List.map_nil, List.cons_append, List.nil_append, List.length_cons, List.length_nil, Nat.zero_add, Nat.add_zero, Nat.reduceAdd, Nat.reduceSub, List.replicate_succ, List.replicate_zero, List.replicate,  aVar_z, aVar_s, aC, aNil, aCons, aTup, aLstV, aLst, aOp, aUn, aTru, aTst, aCmp, aChn, aChnT, aAnd, aOr, aNot, aIf, aAndV, aOrV, aNotV, aCB, aCall, aNext, aSeq, aBrk, aCnt, aRet, aRetN, aIfS, aNev,  agName, agNil, agCons, agTup, aAsg, aPar, aDrop, aCallK, aCallKn, aM, aM0, aAddS, aYes, one1, one2, wipeA, aRevT, aRevL, agSub_def, aSl, aPart, aNoPart, cutAns_rol, cutAns_lst, cutAns_tup, cutAns_str, aLstRg, aRg1, ex_some, tupleA_lst, tupleA_tup, wstA_lst,  List.set_cons_zero, List.set_cons_succ, List.set, ex_bl, ex_int, ex_str, ex_tup, ex_eq, ex_cons, ex_pair, ex_one1, ex_one_int, and_tt, truA_bl, truOk_bl, truA_int, truOk_int, truA_lst, truOk_lst, truA_tup, truOk_tup, truA_refU, truOk_refU, Bool.not_true, Bool.not_false,  addA_ii, addA_ss, addA_tt, addA_ll, intA_ii, int2A_ii, subA_ii, mulA_ii, modA_ii, fdivA_ii, powA_ii, negA_i, ltA_ii, leA_ii, gtA_ii, geA_ii, ltA_ss, leA_ss, gtA_ss, geA_ss, isA, isntA, nonA, isiA_non, isiA_bl, isiA_int, isiA_str, isiA_tup, isiA_lst, isiA_rol, lenA_str, lenA_tup, lenA_lst, lenA_rol, absA_i, toIntA_i, toIntA_b, isIntA, isiB, String.reduceBEq, List.contains_cons, List.contains_nil, Bool.or_true, Bool.true_or, Bool.or_false, Bool.false_or, Bool.and_true, Bool.true_and, Bool.and_false, Bool.false_and, Bool.not_eq_true, if_true, if_false, decide_true, decide_false, Bool.false_eq_true, eq_self, reduceCtorEq, true_and, false_and, and_false, badA, exists_false, aFld, aPut, agFld, aPutAug, aMeth, aMake, mulX_ii, mulX_si, mulX_li, strA_i, strA_s, intXA_i, intXA_b, isBA_bb, isntBA_bb, aTryV, aRaise, aCallX, aMethX, aErr, aDct0, aStar, aPar3, ex_tri, aCallKX, aIsE, Vm.put_st updS_same]
      rw [hn]
      exact rt_same q
    · rw [if_neg hn] at q
      rw [decide_eq_false hn]
      walk_at "rd"
      refine ⟨a, _, rfl, updS_same, Vm.no_attr, a, z, k + j + f.length, st, e, rfl, updS_same, by omega, hz, ?_⟩
      have ed : z.cps.toList.drop (k + j + f.length) = rs.drop (j + f.length) := by rw [← hrs, List.drop_drop, Nat.add_assoc]
      rw [ed]
      by_cases hh : (rs.drop (j + f.length)).head? = some e
      · rw [if_pos hh] at q
        rw [decide_eq_true hh, if_pos hh]
        have hi := Vm.int_of (neg := neg) hok hn
        have hl1 : (⟨f.toArray⟩ : Str).length = f.length := by show f.toArray.size = _; rw [List.size_toArray]
        have hls : (if neg = true then ("-" : Str) else ("" : Str)).length ≤ 1 := by cases neg <;> decide +kernel
        have hla : ((if neg = true then ("-" : Str) else ("" : Str)) ++ (⟨f.toArray⟩ : Str)).length ≤ 20 := by
          rw [Vm.len_app]
          omega
        simp only [↓ite_bc, bc_t, bc_f, aLc_rng, aFor_rng, aLc_lst, lstA_lst, lstA_rol, aLcS_rng, eqA_ii, eqA_ss, neA_ii, neA_ss, updS_same, updS_updS, startA, List.map_cons, List.map_nil, List.cons_append, List.nil_append, List.length_cons, List.length_nil, Nat.zero_add, Nat.add_zero, Nat.reduceAdd, Nat.reduceSub, List.replicate_succ, List.replicate_zero, List.replicate,  aVar_z, aVar_s, aC, aNil, aCons, aTup, aLstV, aLst, aOp, aUn, aTru, aTst, aCmp, aChn, aChnT, aAnd, aOr, aNot, aIf, aAndV, aOrV, aNotV, aCB, aCall, aNext, aSeq, aBrk, aCnt, aRet, aRetN, aIfS, aNev,  agName, agNil, agCons, agTup, aAsg, aPar, aDrop, aCallK, aCallKn, aM, aM0, aAddS, aYes, one1, one2, wipeA, aRevT, aRevL, agSub_def, aSl, aPart, aNoPart, cutAns_rol, cutAns_lst, cutAns_tup, cutAns_str, aLstRg, aRg1, ex_some, tupleA_lst, tupleA_tup, wstA_lst,  List.set_cons_zero, List.set_cons_succ, List.set, ex_bl, ex_int, ex_str, ex_tup, ex_eq, ex_cons, ex_pair, ex_one1, ex_one_int, and_tt, truA_bl, truOk_bl, truA_int, truOk_int, truA_lst, truOk_lst, truA_tup, truOk_tup, truA_refU, truOk_refU, Bool.not_true, Bool.not_false,  addA_ii, addA_ss, addA_tt, addA_ll, intA_ii, int2A_ii, subA_ii, mulA_ii, modA_ii, fdivA_ii, powA_ii, negA_i, ltA_ii, leA_ii, gtA_ii, geA_ii, ltA_ss, leA_ss, gtA_ss, geA_ss, isA, isntA, nonA, isiA_non, isiA_bl, isiA_int, isiA_str, isiA_tup, isiA_lst, isiA_rol, lenA_str, lenA_tup, lenA_lst, lenA_rol, absA_i, toIntA_i, toIntA_b, isIntA, isiB, String.reduceBEq, List.contains_cons, List.contains_nil, Bool.or_true, Bool.true_or, Bool.or_false, Bool.false_or, Bool.and_true, Bool.true_and, Bool.and_false, Bool.false_and, Bool.not_eq_true, if_true, if_false, decide_true, decide_false, Bool.false_eq_true, eq_self, reduceCtorEq, true_and, false_and, and_false, badA, exists_false, aFld, aPut, agFld, aPutAug, aMeth, aMake, mulX_ii, mulX_si, mulX_li, strA_i, strA_s, intXA_i, intXA_b, isBA_bb, isntBA_bb, aTryV, aRaise, aCallX, aMethX, aErr, aDct0, aStar, aPar3, ex_tri, aCallKX, aIsE, intXA_s hi]
        refine ⟨le_sl (by omega), by omega, rt_same ?_⟩
        rw [show k + (j + f.length + 1) = k + j + f.length + 1 by omega] at q
        exact q
      · rw [if_neg hh] at q
        rw [decide_eq_false hh, if_neg hh]
        simp only [↓ite_bc, bc_t, bc_f, aLc_rng, aFor_rng, aLc_lst, lstA_lst, lstA_rol, aLcS_rng, eqA_ii, eqA_ss, neA_ii, neA_ss, updS_same, updS_updS, startA, List.map_cons, List.map_nil, List.cons_append, List.nil_append, List.length_cons, List.length_nil, Nat.zero_add, Nat.add_zero, Nat.reduceAdd, Nat.reduceSub, List.replicate_succ, List.replicate_zero, List.replicate,  aVar_z, aVar_s, aC, aNil, aCons, aTup, aLstV, aLst, aOp, aUn, aTru, aTst, aCmp, aChn, aChnT, aAnd, aOr, aNot, aIf, aAndV, aOrV, aNotV, aCB, aCall, aNext, aSeq, aBrk, aCnt, aRet, aRetN, aIfS, aNev,  agName, agNil, agCons, agTup, aAsg, aPar, aDrop, aCallK, aCallKn, aM, aM0, aAddS, aYes, one1, one2, wipeA, aRevT, aRevL, agSub_def, aSl, aPart, aNoPart, cutAns_rol, cutAns_lst, cutAns_tup, cutAns_str, aLstRg, aRg1, ex_some, tupleA_lst, tupleA_tup, wstA_lst,  List.set_cons_zero, List.set_cons_succ, List.set, ex_bl, ex_int, ex_str, ex_tup, ex_eq, ex_cons, ex_pair, ex_one1, ex_one_int, and_tt, truA_bl, truOk_bl, truA_int, truOk_int, truA_lst, truOk_lst, truA_tup, truOk_tup, truA_refU, truOk_refU, Bool.not_true, Bool.not_false,  addA_ii, addA_ss, addA_tt, addA_ll, intA_ii, int2A_ii, subA_ii, mulA_ii, modA_ii, fdivA_ii, powA_ii, negA_i, ltA_ii, leA_ii, gtA_ii, geA_ii, ltA_ss, leA_ss, gtA_ss, geA_ss, isA, isntA, nonA, isiA_non, isiA_bl, isiA_int, isiA_str, isiA_tup, isiA_lst, isiA_rol, lenA_str, lenA_tup, lenA_lst, lenA_rol, absA_i, toIntA_i, toIntA_b, isIntA, isiB, String.reduceBEq, List.contains_cons, List.contains_nil, Bool.or_true, Bool.true_or, Bool.or_false, Bool.false_or, Bool.and_true, Bool.true_and, Bool.and_false, Bool.false_and, Bool.not_eq_true, if_true, if_false, decide_true, decide_false, Bool.false_eq_true, eq_self, reduceCtorEq, true_and, false_and, and_false, badA, exists_false, aFld, aPut, agFld, aPutAug, aMeth, aMake, mulX_ii, mulX_si, mulX_li, strA_i, strA_s, intXA_i, intXA_b, isBA_bb, isntBA_bb, aTryV, aRaise, aCallX, aMethX, aErr, aDct0, aStar, aPar3, ex_tri, aCallKX, aIsE, Vm.put_st updS_same]
        rw [show k + (j + f.length) = k + j + f.length + 0 by omega] at q
        exact rt_same q
def sp_Reader_string (C_Reader : Addr) : ASp := fun ds S Q => ∃ a z k, ds = [.ref a] ∧ S a = some (.ins C_Reader (Vm.rdF z (k : Nat) false)) ∧ k ≤ z.length ∧ z.length ≤ 10000000 ∧
  Q (match (Vm.strF (z.cps.toList.drop k)).1 with | some l => .str ⟨l.toArray⟩ | none => .non) (updS S a (.ins C_Reader (Vm.rdF z ((k + (Vm.strF (z.cps.toList.drop k)).2 : Nat) : Int) (match (Vm.strF (z.cps.toList.drop k)).1 with | some _ => false | none => true))))
set_option maxHeartbeats 4000000 in
theorem fn_Reader_string (T : Txt P w K mg C_Reader C_HouseError f_HouseError C_BadText) (F_is_sign : Fn4 P w K mg base 1 "is_sign" ["sign"] sp_is_sign) (F_Reader_number : FnM P w K mg base 2 C_Reader "number" "Reader.number" st_Reader_number ["self", "can_be_below", "most", "end"] (sp_Reader_number C_Reader)) : FnM P w K mg base 3 C_Reader "string" "Reader.string" st_Reader_string ["self"] (sp_Reader_string C_Reader) := by
  refine FnM.of T.d_Reader_string fun f fd F => F.ok4 sc_Reader_string (fun ds S Q h => by unfold sp_Reader_string at h; first | (obtain ⟨_, rfl, _⟩ := h; rfl) | (obtain ⟨_, _, rfl, _⟩ := h; rfl) | (obtain ⟨_, _, _, rfl, _⟩ := h; rfl) | (obtain ⟨_, _, _, _, rfl, _⟩ := h; rfl) | (obtain ⟨_, _, _, _, _, rfl, _⟩ := h; rfl) | (obtain ⟨_, _, _, _, _, _, rfl, _⟩ := h; rfl) | (obtain ⟨_, _, _, _, _, _, _, rfl, _⟩ := h; rfl)) fun cdv A gd out s H E hr => ?_
  refine ⟨_, (s_cons (s_set 1 sc_Reader_string.nd (e_meth F_Reader_number T.cl_Reader gd (hr.mono (by decide)) (e_var 0) (a_cons e_bl (a_cons (e_gI T.c_MOST_SIGNS) (a_cons (e_gS T.c_STRING_END) a_nil)))))
    (s_cons (s_if (t_tru (e_fld T.cl_Reader T.nf_Reader_is_stuck (e_var 0))) (s_one (s_ret e_non)) s_nil)
    (s_cons (s_set 2 sc_Reader_string.nd (e_sl (e_fld T.cl_Reader T.nf_Reader_own_text (e_var 0)) (o_some (e_fld T.cl_Reader T.nf_Reader_own_at (e_var 0))) (o_some (e_op o_add (e_fld T.cl_Reader T.nf_Reader_own_at (e_var 0)) (e_var 1)))))
    (s_cons (s_setLc 3 4 [("sign", 4)] rfl sc_Reader_string.nd (i_str (e_var 2)) (blkOk_by (N := nm_Reader_string) (sc := defScope st_Reader_string) (by decide +kernel)) (fun _ _ _ _ _ => pg_name sc_Reader_string.nd rfl (Or.inl rfl)) (fun _ _ _ _ _ => (ts_one (t_tru (f_call F_is_sign gd (hr.mono (by decide)) (a_cons (e_var 4) a_nil))))) (fun _ _ _ _ _ => (e_var 4)))
    (s_cons (s_if (t_cmp o_lt (e_cb c_len T.n_len (by decide +kernel) (a_cons (e_var 3) a_nil)) (e_var 1)) (s_cons (s_setLcP 5 6 4 [("at", 6), ("sign", 4)] rfl sc_Reader_string.nd (i_enumS T.n_enumerate (a_cons (e_var 2) a_nil)) (blkOk_by (N := nm_Reader_string) (sc := defScope st_Reader_string) (by decide +kernel)) (fun _ _ _ _ _ => pg_tup rfl (pgs_cons (pg_name sc_Reader_string.nd rfl (Or.inl rfl)) (pgs_cons (pg_name sc_Reader_string.nd rfl (Or.inl rfl)) pgs_nil))) (fun _ _ _ _ _ => (ts_one (t_not (t_tru (f_call F_is_sign gd (hr.mono (by decide)) (a_cons (e_var 4) a_nil)))))) (fun _ _ _ _ _ => (e_var 6)))
    (s_cons (s_putAug T.cl_Reader T.nf_Reader_own_at (e_var 0) (e_ix o_ix (e_lstV (a_star (e_var 5) (a_cons (e_cb c_len T.n_len (by decide +kernel) (a_cons (e_var 2) a_nil)) a_nil))) e_int) in_add)
    (s_cons (s_put T.cl_Reader T.nf_Reader_is_stuck (e_var 0) e_bl)
    (s_one (s_ret e_non))))) s_nil)
    (s_cons (s_putAug T.cl_Reader T.nf_Reader_own_at (e_var 0) (e_var 1) in_add)
    (s_one (s_ret (e_var 2))))))))), ?_⟩
  rintro _ S Q ⟨a, z, k, rfl, hs, hk, hz, q⟩
  have hlen : z.cps.toList.length = z.length := Array.length_toList
  generalize hrs : z.cps.toList.drop k = rs at q
  have hrl : rs.length = z.length - k := by rw [← hrs, List.length_drop, hlen]
  have em : (":" : Str) = ⟨#[58]⟩ := by decide +kernel
  have hnl := Vm.numF_le (below := false) (most := 100000) (e := 58) (rs := rs)
  walk_at "rd"
  refine ⟨a, _, rfl, hs, Vm.no_attr, a, z, k, false, false, 100000, 58, by rw [← em], hs, hk, hz, by omega, ?_⟩
  rw [hrs]
  unfold Vm.strF at q
  rcases hN : Vm.numF false 100000 58 rs with ⟨o, n⟩
  rw [hN] at q hnl
  cases o with
  | none =>
    simp only [↓ite_bc, bc_t, bc_f, aLc_rng, aFor_rng, aLc_lst, lstA_lst, lstA_rol, aLcS_rng, eqA_ii, eqA_ss, neA_ii, neA_ss, updS_same, updS_updS, startA, List.map_cons, List.map_nil, List.cons_append, List.nil_append, List.length_cons, List.length_nil, Nat.zero_add, Nat.add_zero, Nat.reduceAdd, Nat.reduceSub, List.replicate_succ, List.replicate_zero, List.replicate,  aVar_z, aVar_s, aC, aNil, aCons, aTup, aLstV, aLst, aOp, aUn, aTru, aTst, aCmp, aChn, aChnT, aAnd, aOr, aNot, aIf, aAndV, aOrV, aNotV, aCB, aCall, aNext, aSeq, aBrk, aCnt, aRet, aRetN, aIfS, aNev,  agName, agNil, agCons, agTup, aAsg, aPar, aDrop, aCallK, aCallKn, aM, aM0, aAddS, aYes, one1, one2, wipeA, aRevT, aRevL, agSub_def, aSl, aPart, aNoPart, cutAns_rol, cutAns_lst, cutAns_tup, cutAns_str, aLstRg, aRg1, ex_some, tupleA_lst, tupleA_tup, wstA_lst,  List.set_cons_zero, List.set_cons_succ, List.set, ex_bl, ex_int, ex_str, ex_tup, ex_eq, ex_cons, ex_pair, ex_one1, ex_one_int, and_tt, truA_bl, truOk_bl, truA_int, truOk_int, truA_lst, truOk_lst, truA_tup, truOk_tup, truA_refU, truOk_refU, Bool.not_true, Bool.not_false,  addA_ii, addA_ss, addA_tt, addA_ll, intA_ii, int2A_ii, subA_ii, mulA_ii, modA_ii, fdivA_ii, powA_ii, negA_i, ltA_ii, leA_ii, gtA_ii, geA_ii, ltA_ss, leA_ss, gtA_ss, geA_ss, isA, isntA, nonA, isiA_non, isiA_bl, isiA_int, isiA_str, isiA_tup, isiA_lst, isiA_rol, lenA_str, lenA_tup, lenA_lst, lenA_rol, absA_i, toIntA_i, toIntA_b, isIntA, isiB, String.reduceBEq, List.contains_cons, List.contains_nil, Bool.or_true, Bool.true_or, Bool.or_false, Bool.false_or, Bool.and_true, Bool.true_and, Bool.and_false, Bool.false_and, Bool.not_eq_true, if_true, if_false, decide_true, decide_false, Bool.false_eq_true, eq_self, reduceCtorEq, true_and, false_and, and_false, badA, exists_false, aFld, aPut, agFld, aPutAug, aMeth, aMake, mulX_ii, mulX_si, mulX_li, strA_i, strA_s, intXA_i, intXA_b, isBA_bb, isntBA_bb, aTryV, aRaise, aCallX, aMethX, aErr, aDct0, aStar, aPar3, ex_tri, aCallKX, aIsE, Vm.rd_st updS_same]
    exact rt_same q
  | some m =>
    have hm0 := Vm.numF_nat hN
    obtain ⟨w, rfl⟩ : ∃ w : Nat, m = (w : Int) := ⟨m.toNat, by omega⟩
    have q : Q (match (if (((rs.drop n).take w).filter Vm.chB).length < w then (none, n + (((rs.drop n).take w).takeWhile Vm.chB).length) else (some ((rs.drop n).take w), n + w) : Option (List Nat) × Nat).1 with | some l => .str ⟨l.toArray⟩ | none => .non) (updS S a (.ins C_Reader (Vm.rdF z ((k + (if (((rs.drop n).take w).filter Vm.chB).length < w then (none, n + (((rs.drop n).take w).takeWhile Vm.chB).length) else (some ((rs.drop n).take w), n + w) : Option (List Nat) × Nat).2 : Nat) : Int) (match (if (((rs.drop n).take w).filter Vm.chB).length < w then (none, n + (((rs.drop n).take w).takeWhile Vm.chB).length) else (some ((rs.drop n).take w), n + w) : Option (List Nat) × Nat).1 with | some _ => false | none => true)))) := q
    have eadd : ((k + n : Nat) : Int) + (w : Int) = ((k + n + w : Nat) : Int) := by omega
    have hnl : n ≤ rs.length := hnl
    have ecut : cutS z (some ((k + n : Nat) : Int)) (some ((k + n + w : Nat) : Int)) = ⟨((rs.drop n).take w).toArray⟩ := by
      rw [Vm.cut_mid (by omega) (by omega), ← hrs, List.drop_drop, show k + n + w - (k + n) = w by omega]
    simp only [↓ite_bc, bc_t, bc_f, aLc_rng, aFor_rng, aLc_lst, lstA_lst, lstA_rol, aLcS_rng, eqA_ii, eqA_ss, neA_ii, neA_ss, updS_same, updS_updS, startA, List.map_cons, List.map_nil, List.cons_append, List.nil_append, List.length_cons, List.length_nil, Nat.zero_add, Nat.add_zero, Nat.reduceAdd, Nat.reduceSub, List.replicate_succ, List.replicate_zero, List.replicate,  aVar_z, aVar_s, aC, aNil, aCons, aTup, aLstV, aLst, aOp, aUn, aTru, aTst, aCmp, aChn, aChnT, aAnd, aOr, aNot, aIf, aAndV, aOrV, aNotV, aCB, aCall, aNext, aSeq, aBrk, aCnt, aRet, aRetN, aIfS, aNev,  agName, agNil, agCons, agTup, aAsg, aPar, aDrop, aCallK, aCallKn, aM, aM0, aAddS, aYes, one1, one2, wipeA, aRevT, aRevL, agSub_def, aSl, aPart, aNoPart, cutAns_rol, cutAns_lst, cutAns_tup, cutAns_str, aLstRg, aRg1, ex_some, tupleA_lst, tupleA_tup, wstA_lst,  List.set_cons_zero, List.set_cons_succ, List.set, ex_bl, ex_int, ex_str, ex_tup, ex_eq, ex_cons, ex_pair, ex_one1, ex_one_int, and_tt, truA_bl, truOk_bl, truA_int, truOk_int, truA_lst, truOk_lst, truA_tup, truOk_tup, truA_refU, truOk_refU, Bool.not_true, Bool.not_false,  addA_ii, addA_ss, addA_tt, addA_ll, intA_ii, int2A_ii, subA_ii, mulA_ii, modA_ii, fdivA_ii, powA_ii, negA_i, ltA_ii, leA_ii, gtA_ii, geA_ii, ltA_ss, leA_ss, gtA_ss, geA_ss, isA, isntA, nonA, isiA_non, isiA_bl, isiA_int, isiA_str, isiA_tup, isiA_lst, isiA_rol, lenA_str, lenA_tup, lenA_lst, lenA_rol, absA_i, toIntA_i, toIntA_b, isIntA, isiB, String.reduceBEq, List.contains_cons, List.contains_nil, Bool.or_true, Bool.true_or, Bool.or_false, Bool.false_or, Bool.and_true, Bool.true_and, Bool.and_false, Bool.false_and, Bool.not_eq_true, if_true, if_false, decide_true, decide_false, Bool.false_eq_true, eq_self, reduceCtorEq, true_and, false_and, and_false, badA, exists_false, aFld, aPut, agFld, aPutAug, aMeth, aMake, mulX_ii, mulX_si, mulX_li, strA_i, strA_s, intXA_i, intXA_b, isBA_bb, isntBA_bb, aTryV, aRaise, aCallX, aMethX, aErr, aDct0, aStar, aPar3, ex_tri, aCallKX, aIsE, Vm.rd_st updS_same, Vm.rd_text updS_same, Vm.rd_at updS_same, eadd, ecut]
    refine ⟨le_sl (by omega), ?_⟩
    have hl1 : (⟨((rs.drop n).take w).toArray⟩ : Str).length ≤ w := by show ((rs.drop n).take w).toArray.size ≤ w; rw [List.size_toArray, List.length_take]; omega
    have hl2 : (⟨((rs.drop n).take w).toArray⟩ : Str).length ≤ rs.length := by show ((rs.drop n).take w).toArray.size ≤ _; rw [List.size_toArray, List.length_take, List.length_drop]; omega
    generalize hF : (rs.drop n).take w = F at q hl1 hl2 ecut ⊢
    have hFl : F.length ≤ w := by rw [← hF, List.length_take]; omega
    refine Vm.lc_flt Vm.chB (by rfl) (le_sl (by omega)) (fun c S2 Qb _ h => ?_) (fun c S2 Qe _ h => ?_) ?_
    · simp only [↓ite_bc, bc_t, bc_f, aLc_rng, aFor_rng, aLc_lst, lstA_lst, lstA_rol, aLcS_rng, eqA_ii, eqA_ss, neA_ii, neA_ss, updS_same, updS_updS, startA, List.map_cons, List.map_nil, List.cons_append, List.nil_append, List.length_cons, List.length_nil, Nat.zero_add, Nat.add_zero, Nat.reduceAdd, Nat.reduceSub, List.replicate_succ, List.replicate_zero, List.replicate,  aVar_z, aVar_s, aC, aNil, aCons, aTup, aLstV, aLst, aOp, aUn, aTru, aTst, aCmp, aChn, aChnT, aAnd, aOr, aNot, aIf, aAndV, aOrV, aNotV, aCB, aCall, aNext, aSeq, aBrk, aCnt, aRet, aRetN, aIfS, aNev,  agName, agNil, agCons, agTup, aAsg, aPar, aDrop, aCallK, aCallKn, aM, aM0, aAddS, aYes, one1, one2, wipeA, aRevT, aRevL, agSub_def, aSl, aPart, aNoPart, cutAns_rol, cutAns_lst, cutAns_tup, cutAns_str, aLstRg, aRg1, ex_some, tupleA_lst, tupleA_tup, wstA_lst,  List.set_cons_zero, List.set_cons_succ, List.set, ex_bl, ex_int, ex_str, ex_tup, ex_eq, ex_cons, ex_pair, ex_one1, ex_one_int, and_tt, truA_bl, truOk_bl, truA_int, truOk_int, truA_lst, truOk_lst, truA_tup, truOk_tup, truA_refU, truOk_refU, Bool.not_true, Bool.not_false,  addA_ii, addA_ss, addA_tt, addA_ll, intA_ii, int2A_ii, subA_ii, mulA_ii, modA_ii, fdivA_ii, powA_ii, negA_i, ltA_ii, leA_ii, gtA_ii, geA_ii, ltA_ss, leA_ss, gtA_ss, geA_ss, isA, isntA, nonA, isiA_non, isiA_bl, isiA_int, isiA_str, isiA_tup, isiA_lst, isiA_rol, lenA_str, lenA_tup, lenA_lst, lenA_rol, absA_i, toIntA_i, toIntA_b, isIntA, isiB, String.reduceBEq, List.contains_cons, List.contains_nil, Bool.or_true, Bool.true_or, Bool.or_false, Bool.false_or, Bool.and_true, Bool.true_and, Bool.and_false, Bool.false_and, Bool.not_eq_true, if_true, if_false, decide_true, decide_false, Bool.false_eq_true, eq_self, reduceCtorEq, true_and, false_and, and_false, badA, exists_false, aFld, aPut, agFld, aPutAug, aMeth, aMake, mulX_ii, mulX_si, mulX_li, strA_i, strA_s, intXA_i, intXA_b, isBA_bb, isntBA_bb, aTryV, aRaise, aCallX, aMethX, aErr, aDct0, aStar, aPar3, ex_tri, aCallKX, aIsE, ]
      exact ⟨c, rfl, trivial, h⟩
    · simp only [↓ite_bc, bc_t, bc_f, aLc_rng, aFor_rng, aLc_lst, lstA_lst, lstA_rol, aLcS_rng, eqA_ii, eqA_ss, neA_ii, neA_ss, updS_same, updS_updS, startA, List.map_cons, List.map_nil, List.cons_append, List.nil_append, List.length_cons, List.length_nil, Nat.zero_add, Nat.add_zero, Nat.reduceAdd, Nat.reduceSub, List.replicate_succ, List.replicate_zero, List.replicate,  aVar_z, aVar_s, aC, aNil, aCons, aTup, aLstV, aLst, aOp, aUn, aTru, aTst, aCmp, aChn, aChnT, aAnd, aOr, aNot, aIf, aAndV, aOrV, aNotV, aCB, aCall, aNext, aSeq, aBrk, aCnt, aRet, aRetN, aIfS, aNev,  agName, agNil, agCons, agTup, aAsg, aPar, aDrop, aCallK, aCallKn, aM, aM0, aAddS, aYes, one1, one2, wipeA, aRevT, aRevL, agSub_def, aSl, aPart, aNoPart, cutAns_rol, cutAns_lst, cutAns_tup, cutAns_str, aLstRg, aRg1, ex_some, tupleA_lst, tupleA_tup, wstA_lst,  List.set_cons_zero, List.set_cons_succ, List.set, ex_bl, ex_int, ex_str, ex_tup, ex_eq, ex_cons, ex_pair, ex_one1, ex_one_int, and_tt, truA_bl, truOk_bl, truA_int, truOk_int, truA_lst, truOk_lst, truA_tup, truOk_tup, truA_refU, truOk_refU, Bool.not_true, Bool.not_false,  addA_ii, addA_ss, addA_tt, addA_ll, intA_ii, int2A_ii, subA_ii, mulA_ii, modA_ii, fdivA_ii, powA_ii, negA_i, ltA_ii, leA_ii, gtA_ii, geA_ii, ltA_ss, leA_ss, gtA_ss, geA_ss, isA, isntA, nonA, isiA_non, isiA_bl, isiA_int, isiA_str, isiA_tup, isiA_lst, isiA_rol, lenA_str, lenA_tup, lenA_lst, lenA_rol, absA_i, toIntA_i, toIntA_b, isIntA, isiB, String.reduceBEq, List.contains_cons, List.contains_nil, Bool.or_true, Bool.true_or, Bool.or_false, Bool.false_or, Bool.and_true, Bool.true_and, Bool.and_false, Bool.false_and, Bool.not_eq_true, if_true, if_false, decide_true, decide_false, Bool.false_eq_true, eq_self, reduceCtorEq, true_and, false_and, and_false, badA, exists_false, aFld, aPut, agFld, aPutAug, aMeth, aMake, mulX_ii, mulX_si, mulX_li, strA_i, strA_s, intXA_i, intXA_b, isBA_bb, isntBA_bb, aTryV, aRaise, aCallX, aMethX, aErr, aDct0, aStar, aPar3, ex_tri, aCallKX, aIsE, ]
      exact h
    · simp only [↓ite_bc, bc_t, bc_f, aLc_rng, aFor_rng, aLc_lst, lstA_lst, lstA_rol, aLcS_rng, eqA_ii, eqA_ss, neA_ii, neA_ss, updS_same, updS_updS, startA, List.map_cons, List.map_nil, List.cons_append, List.nil_append, List.length_cons, List.length_nil, Nat.zero_add, Nat.add_zero, Nat.reduceAdd, Nat.reduceSub, List.replicate_succ, List.replicate_zero, List.replicate,  aVar_z, aVar_s, aC, aNil, aCons, aTup, aLstV, aLst, aOp, aUn, aTru, aTst, aCmp, aChn, aChnT, aAnd, aOr, aNot, aIf, aAndV, aOrV, aNotV, aCB, aCall, aNext, aSeq, aBrk, aCnt, aRet, aRetN, aIfS, aNev,  agName, agNil, agCons, agTup, aAsg, aPar, aDrop, aCallK, aCallKn, aM, aM0, aAddS, aYes, one1, one2, wipeA, aRevT, aRevL, agSub_def, aSl, aPart, aNoPart, cutAns_rol, cutAns_lst, cutAns_tup, cutAns_str, aLstRg, aRg1, ex_some, tupleA_lst, tupleA_tup, wstA_lst,  List.set_cons_zero, List.set_cons_succ, List.set, ex_bl, ex_int, ex_str, ex_tup, ex_eq, ex_cons, ex_pair, ex_one1, ex_one_int, and_tt, truA_bl, truOk_bl, truA_int, truOk_int, truA_lst, truOk_lst, truA_tup, truOk_tup, truA_refU, truOk_refU, Bool.not_true, Bool.not_false,  addA_ii, addA_ss, addA_tt, addA_ll, intA_ii, int2A_ii, subA_ii, mulA_ii, modA_ii, fdivA_ii, powA_ii, negA_i, ltA_ii, leA_ii, gtA_ii, geA_ii, ltA_ss, leA_ss, gtA_ss, geA_ss, isA, isntA, nonA, isiA_non, isiA_bl, isiA_int, isiA_str, isiA_tup, isiA_lst, isiA_rol, lenA_str, lenA_tup, lenA_lst, lenA_rol, absA_i, toIntA_i, toIntA_b, isIntA, isiB, String.reduceBEq, List.contains_cons, List.contains_nil, Bool.or_true, Bool.true_or, Bool.or_false, Bool.false_or, Bool.and_true, Bool.true_and, Bool.and_false, Bool.false_and, Bool.not_eq_true, if_true, if_false, decide_true, decide_false, Bool.false_eq_true, eq_self, reduceCtorEq, true_and, false_and, and_false, badA, exists_false, aFld, aPut, agFld, aPutAug, aMeth, aMake, mulX_ii, mulX_si, mulX_li, strA_i, strA_s, intXA_i, intXA_b, isBA_bb, isntBA_bb, aTryV, aRaise, aCallX, aMethX, aErr, aDct0, aStar, aPar3, ex_tri, aCallKX, aIsE, List.length_map]
      by_cases hfl : (F.filter Vm.chB).length < w
      · rw [if_pos hfl] at q
        rw [decide_eq_true (show ((((⟨F.toArray⟩ : Str).cps.toList.filter Vm.chB).length : Nat) : Int) < (w : Int) by rw [List.toList_toArray]; omega)]
        simp only [↓ite_bc, bc_t, bc_f, aLc_rng, aFor_rng, aLc_lst, lstA_lst, lstA_rol, aLcS_rng, eqA_ii, eqA_ss, neA_ii, neA_ss, updS_same, updS_updS, startA, List.map_cons, List.map_nil, List.cons_append, List.nil_append, List.length_cons, List.length_nil, Nat.zero_add, Nat.add_zero, Nat.reduceAdd, Nat.reduceSub, List.replicate_succ, List.replicate_zero, List.replicate,  aVar_z, aVar_s, aC, aNil, aCons, aTup, aLstV, aLst, aOp, aUn, aTru, aTst, aCmp, aChn, aChnT, aAnd, aOr, aNot, aIf, aAndV, aOrV, aNotV, aCB, aCall, aNext, aSeq, aBrk, aCnt, aRet, aRetN, aIfS, aNev,  agName, agNil, agCons, agTup, aAsg, aPar, aDrop, aCallK, aCallKn, aM, aM0, aAddS, aYes, one1, one2, wipeA, aRevT, aRevL, agSub_def, aSl, aPart, aNoPart, cutAns_rol, cutAns_lst, cutAns_tup, cutAns_str, aLstRg, aRg1, ex_some, tupleA_lst, tupleA_tup, wstA_lst,  List.set_cons_zero, List.set_cons_succ, List.set, ex_bl, ex_int, ex_str, ex_tup, ex_eq, ex_cons, ex_pair, ex_one1, ex_one_int, and_tt, truA_bl, truOk_bl, truA_int, truOk_int, truA_lst, truOk_lst, truA_tup, truOk_tup, truA_refU, truOk_refU, Bool.not_true, Bool.not_false,  addA_ii, addA_ss, addA_tt, addA_ll, intA_ii, int2A_ii, subA_ii, mulA_ii, modA_ii, fdivA_ii, powA_ii, negA_i, ltA_ii, leA_ii, gtA_ii, geA_ii, ltA_ss, leA_ss, gtA_ss, geA_ss, isA, isntA, nonA, isiA_non, isiA_bl, isiA_int, isiA_str, isiA_tup, isiA_lst, isiA_rol, lenA_str, lenA_tup, lenA_lst, lenA_rol, absA_i, toIntA_i, toIntA_b, isIntA, isiB, String.reduceBEq, List.contains_cons, List.contains_nil, Bool.or_true, Bool.true_or, Bool.or_false, Bool.false_or, Bool.and_true, Bool.true_and, Bool.and_false, Bool.false_and, Bool.not_eq_true, if_true, if_false, decide_true, decide_false, Bool.false_eq_true, eq_self, reduceCtorEq, true_and, false_and, and_false, badA, exists_false, aFld, aPut, agFld, aPutAug, aMeth, aMake, mulX_ii, mulX_si, mulX_li, strA_i, strA_s, intXA_i, intXA_b, isBA_bb, isntBA_bb, aTryV, aRaise, aCallX, aMethX, aErr, aDct0, aStar, aPar3, ex_tri, aCallKX, aIsE, Vm.aLcP_enumS]
        have hFs : (⟨F.toArray⟩ : Str).length = F.length := by show F.toArray.size = _; rw [List.size_toArray]
        have hFl2 : F.length ≤ 10000000 := by omega
        refine ⟨_, rfl, ?_⟩
        rw [Vm.enum_sgn, List.toList_toArray]
        refine lcP_pure (fun x : Nat × Nat => .int ((x.1 : Nat) : Int)) (fun x => .str ⟨#[x.2]⟩) (fun x => !Vm.chB x.2) (fun x => .int ((x.1 : Nat) : Int)) (by rw [List.length_mapIdx]; exact le_sl (by omega)) (fun _ _ => trivial) (fun x _ S2 Qb h => ?_) (fun x _ _ S2 Qe h => ?_) ?_
        · simp only [↓ite_bc, bc_t, bc_f, aLc_rng, aFor_rng, aLc_lst, lstA_lst, lstA_rol, aLcS_rng, eqA_ii, eqA_ss, neA_ii, neA_ss, updS_same, updS_updS, startA, List.map_cons, List.map_nil, List.cons_append, List.nil_append, List.length_cons, List.length_nil, Nat.zero_add, Nat.add_zero, Nat.reduceAdd, Nat.reduceSub, List.replicate_succ, List.replicate_zero, List.replicate,  aVar_z, aVar_s, aC, aNil, aCons, aTup, aLstV, aLst, aOp, aUn, aTru, aTst, aCmp, aChn, aChnT, aAnd, aOr, aNot, aIf, aAndV, aOrV, aNotV, aCB, aCall, aNext, aSeq, aBrk, aCnt, aRet, aRetN, aIfS, aNev,  agName, agNil, agCons, agTup, aAsg, aPar, aDrop, aCallK, aCallKn, aM, aM0, aAddS, aYes, one1, one2, wipeA, aRevT, aRevL, agSub_def, aSl, aPart, aNoPart, cutAns_rol, cutAns_lst, cutAns_tup, cutAns_str, aLstRg, aRg1, ex_some, tupleA_lst, tupleA_tup, wstA_lst,  List.set_cons_zero, List.set_cons_succ, List.set, ex_bl, ex_int, ex_str, ex_tup, ex_eq, ex_cons, ex_pair, ex_one1, ex_one_int, and_tt, truA_bl, truOk_bl, truA_int, truOk_int, truA_lst, truOk_lst, truA_tup, truOk_tup, truA_refU, truOk_refU, Bool.not_true, Bool.not_false,  addA_ii, addA_ss, addA_tt, addA_ll, intA_ii, int2A_ii, subA_ii, mulA_ii, modA_ii, fdivA_ii, powA_ii, negA_i, ltA_ii, leA_ii, gtA_ii, geA_ii, ltA_ss, leA_ss, gtA_ss, geA_ss, isA, isntA, nonA, isiA_non, isiA_bl, isiA_int, isiA_str, isiA_tup, isiA_lst, isiA_rol, lenA_str, lenA_tup, lenA_lst, lenA_rol, absA_i, toIntA_i, toIntA_b, isIntA, isiB, String.reduceBEq, List.contains_cons, List.contains_nil, Bool.or_true, Bool.true_or, Bool.or_false, Bool.false_or, Bool.and_true, Bool.true_and, Bool.and_false, Bool.false_and, Bool.not_eq_true, if_true, if_false, decide_true, decide_false, Bool.false_eq_true, eq_self, reduceCtorEq, true_and, false_and, and_false, badA, exists_false, aFld, aPut, agFld, aPutAug, aMeth, aMake, mulX_ii, mulX_si, mulX_li, strA_i, strA_s, intXA_i, intXA_b, isBA_bb, isntBA_bb, aTryV, aRaise, aCallX, aMethX, aErr, aDct0, aStar, aPar3, ex_tri, aCallKX, aIsE, ]
          exact ⟨x.2, rfl, trivial, h⟩
        · simp only [↓ite_bc, bc_t, bc_f, aLc_rng, aFor_rng, aLc_lst, lstA_lst, lstA_rol, aLcS_rng, eqA_ii, eqA_ss, neA_ii, neA_ss, updS_same, updS_updS, startA, List.map_cons, List.map_nil, List.cons_append, List.nil_append, List.length_cons, List.length_nil, Nat.zero_add, Nat.add_zero, Nat.reduceAdd, Nat.reduceSub, List.replicate_succ, List.replicate_zero, List.replicate,  aVar_z, aVar_s, aC, aNil, aCons, aTup, aLstV, aLst, aOp, aUn, aTru, aTst, aCmp, aChn, aChnT, aAnd, aOr, aNot, aIf, aAndV, aOrV, aNotV, aCB, aCall, aNext, aSeq, aBrk, aCnt, aRet, aRetN, aIfS, aNev,  agName, agNil, agCons, agTup, aAsg, aPar, aDrop, aCallK, aCallKn, aM, aM0, aAddS, aYes, one1, one2, wipeA, aRevT, aRevL, agSub_def, aSl, aPart, aNoPart, cutAns_rol, cutAns_lst, cutAns_tup, cutAns_str, aLstRg, aRg1, ex_some, tupleA_lst, tupleA_tup, wstA_lst,  List.set_cons_zero, List.set_cons_succ, List.set, ex_bl, ex_int, ex_str, ex_tup, ex_eq, ex_cons, ex_pair, ex_one1, ex_one_int, and_tt, truA_bl, truOk_bl, truA_int, truOk_int, truA_lst, truOk_lst, truA_tup, truOk_tup, truA_refU, truOk_refU, Bool.not_true, Bool.not_false,  addA_ii, addA_ss, addA_tt, addA_ll, intA_ii, int2A_ii, subA_ii, mulA_ii, modA_ii, fdivA_ii, powA_ii, negA_i, ltA_ii, leA_ii, gtA_ii, geA_ii, ltA_ss, leA_ss, gtA_ss, geA_ss, isA, isntA, nonA, isiA_non, isiA_bl, isiA_int, isiA_str, isiA_tup, isiA_lst, isiA_rol, lenA_str, lenA_tup, lenA_lst, lenA_rol, absA_i, toIntA_i, toIntA_b, isIntA, isiB, String.reduceBEq, List.contains_cons, List.contains_nil, Bool.or_true, Bool.true_or, Bool.or_false, Bool.false_or, Bool.and_true, Bool.true_and, Bool.and_false, Bool.false_and, Bool.not_eq_true, if_true, if_false, decide_true, decide_false, Bool.false_eq_true, eq_self, reduceCtorEq, true_and, false_and, and_false, badA, exists_false, aFld, aPut, agFld, aPutAug, aMeth, aMake, mulX_ii, mulX_si, mulX_li, strA_i, strA_s, intXA_i, intXA_b, isBA_bb, isntBA_bb, aTryV, aRaise, aCallX, aMethX, aErr, aDct0, aStar, aPar3, ex_tri, aCallKX, aIsE, ]
          exact h
        have wh := Vm.wrong_head F 0
        have hW : (((F.mapIdx fun i c => (0 + i, c)).filter fun x => !Vm.chB x.2).map fun x => AV.int ((x.1 : Nat) : Int)).length ≤ F.length := by
          rw [List.length_map]
          exact Nat.le_trans (List.length_filter_le ..) (by rw [List.length_mapIdx]; exact Nat.le_refl _)
        simp only [Nat.zero_add] at wh hW
        have eadd2 : ((k + n : Nat) : Int) + (((F.takeWhile Vm.chB).length : Nat) : Int) = ((k + n + (F.takeWhile Vm.chB).length : Nat) : Int) := by omega
        simp only [↓ite_bc, bc_t, bc_f, aLc_rng, aFor_rng, aLc_lst, lstA_lst, lstA_rol, aLcS_rng, eqA_ii, eqA_ss, neA_ii, neA_ss, updS_same, updS_updS, startA, List.map_cons, List.map_nil, List.cons_append, List.nil_append, List.length_cons, List.length_nil, Nat.zero_add, Nat.add_zero, Nat.reduceAdd, Nat.reduceSub, List.replicate_succ, List.replicate_zero, List.replicate,  aVar_z, aVar_s, aC, aNil, aCons, aTup, aLstV, aLst, aOp, aUn, aTru, aTst, aCmp, aChn, aChnT, aAnd, aOr, aNot, aIf, aAndV, aOrV, aNotV, aCB, aCall, aNext, aSeq, aBrk, aCnt, aRet, aRetN, aIfS, aNev,  agName, agNil, agCons, agTup, aAsg, aPar, aDrop, aCallK, aCallKn, aM, aM0, aAddS, aYes, one1, one2, wipeA, aRevT, aRevL, agSub_def, aSl, aPart, aNoPart, cutAns_rol, cutAns_lst, cutAns_tup, cutAns_str, aLstRg, aRg1, ex_some, tupleA_lst, tupleA_tup, wstA_lst,  List.set_cons_zero, List.set_cons_succ, List.set, ex_bl, ex_int, ex_str, ex_tup, ex_eq, ex_cons, ex_pair, ex_one1, ex_one_int, and_tt, truA_bl, truOk_bl, truA_int, truOk_int, truA_lst, truOk_lst, truA_tup, truOk_tup, truA_refU, truOk_refU, Bool.not_true, Bool.not_false,  addA_ii, addA_ss, addA_tt, addA_ll, intA_ii, int2A_ii, subA_ii, mulA_ii, modA_ii, fdivA_ii, powA_ii, negA_i, ltA_ii, leA_ii, gtA_ii, geA_ii, ltA_ss, leA_ss, gtA_ss, geA_ss, isA, isntA, nonA, isiA_non, isiA_bl, isiA_int, isiA_str, isiA_tup, isiA_lst, isiA_rol, lenA_str, lenA_tup, lenA_lst, lenA_rol, absA_i, toIntA_i, toIntA_b, isIntA, isiB, String.reduceBEq, List.contains_cons, List.contains_nil, Bool.or_true, Bool.true_or, Bool.or_false, Bool.false_or, Bool.and_true, Bool.true_and, Bool.and_false, Bool.false_and, Bool.not_eq_true, if_true, if_false, decide_true, decide_false, Bool.false_eq_true, eq_self, reduceCtorEq, true_and, false_and, and_false, badA, exists_false, aFld, aPut, agFld, aPutAug, aMeth, aMake, mulX_ii, mulX_si, mulX_li, strA_i, strA_s, intXA_i, intXA_b, isBA_bb, isntBA_bb, aTryV, aRaise, aCallX, aMethX, aErr, aDct0, aStar, aPar3, ex_tri, aCallKX, aIsE, Vm.rd_at updS_same]
        refine ⟨_, rfl, le_sl (by omega), le_sl (by rw [List.length_append, List.length_singleton]; omega), ?_⟩
        simp only [↓ite_bc, bc_t, bc_f, aLc_rng, aFor_rng, aLc_lst, lstA_lst, lstA_rol, aLcS_rng, eqA_ii, eqA_ss, neA_ii, neA_ss, updS_same, updS_updS, startA, List.map_cons, List.map_nil, List.cons_append, List.nil_append, List.length_cons, List.length_nil, Nat.zero_add, Nat.add_zero, Nat.reduceAdd, Nat.reduceSub, List.replicate_succ, List.replicate_zero, List.replicate,  aVar_z, aVar_s, aC, aNil, aCons, aTup, aLstV, aLst, aOp, aUn, aTru, aTst, aCmp, aChn, aChnT, aAnd, aOr, aNot, aIf, aAndV, aOrV, aNotV, aCB, aCall, aNext, aSeq, aBrk, aCnt, aRet, aRetN, aIfS, aNev,  agName, agNil, agCons, agTup, aAsg, aPar, aDrop, aCallK, aCallKn, aM, aM0, aAddS, aYes, one1, one2, wipeA, aRevT, aRevL, agSub_def, aSl, aPart, aNoPart, cutAns_rol, cutAns_lst, cutAns_tup, cutAns_str, aLstRg, aRg1, ex_some, tupleA_lst, tupleA_tup, wstA_lst,  List.set_cons_zero, List.set_cons_succ, List.set, ex_bl, ex_int, ex_str, ex_tup, ex_eq, ex_cons, ex_pair, ex_one1, ex_one_int, and_tt, truA_bl, truOk_bl, truA_int, truOk_int, truA_lst, truOk_lst, truA_tup, truOk_tup, truA_refU, truOk_refU, Bool.not_true, Bool.not_false,  addA_ii, addA_ss, addA_tt, addA_ll, intA_ii, int2A_ii, subA_ii, mulA_ii, modA_ii, fdivA_ii, powA_ii, negA_i, ltA_ii, leA_ii, gtA_ii, geA_ii, ltA_ss, leA_ss, gtA_ss, geA_ss, isA, isntA, nonA, isiA_non, isiA_bl, isiA_int, isiA_str, isiA_tup, isiA_lst, isiA_rol, lenA_str, lenA_tup, lenA_lst, lenA_rol, absA_i, toIntA_i, toIntA_b, isIntA, isiB, String.reduceBEq, List.contains_cons, List.contains_nil, Bool.or_true, Bool.true_or, Bool.or_false, Bool.false_or, Bool.and_true, Bool.true_and, Bool.and_false, Bool.false_and, Bool.not_eq_true, if_true, if_false, decide_true, decide_false, Bool.false_eq_true, eq_self, reduceCtorEq, true_and, false_and, and_false, badA, exists_false, aFld, aPut, agFld, aPutAug, aMeth, aMake, mulX_ii, mulX_si, mulX_li, strA_i, strA_s, intXA_i, intXA_b, isBA_bb, isntBA_bb, aTryV, aRaise, aCallX, aMethX, aErr, aDct0, aStar, aPar3, ex_tri, aCallKX, aIsE, hFs, Vm.ix_head wh, eadd2, Vm.put_at updS_same, Vm.put_st updS_same]
        rw [show k + (n + (F.takeWhile Vm.chB).length) = k + n + (F.takeWhile Vm.chB).length by omega] at q
        exact rt_same q
      · rw [if_neg hfl] at q
        have hfe : F.length = w := by have := List.length_filter_le Vm.chB F; omega
        rw [decide_eq_false (show ¬ ((((⟨F.toArray⟩ : Str).cps.toList.filter Vm.chB).length : Nat) : Int) < (w : Int) by rw [List.toList_toArray]; omega)]
        simp only [↓ite_bc, bc_t, bc_f, aLc_rng, aFor_rng, aLc_lst, lstA_lst, lstA_rol, aLcS_rng, eqA_ii, eqA_ss, neA_ii, neA_ss, updS_same, updS_updS, startA, List.map_cons, List.map_nil, List.cons_append, List.nil_append, List.length_cons, List.length_nil, Nat.zero_add, Nat.add_zero, Nat.reduceAdd, Nat.reduceSub, List.replicate_succ, List.replicate_zero, List.replicate,  aVar_z, aVar_s, aC, aNil, aCons, aTup, aLstV, aLst, aOp, aUn, aTru, aTst, aCmp, aChn, aChnT, aAnd, aOr, aNot, aIf, aAndV, aOrV, aNotV, aCB, aCall, aNext, aSeq, aBrk, aCnt, aRet, aRetN, aIfS, aNev,  agName, agNil, agCons, agTup, aAsg, aPar, aDrop, aCallK, aCallKn, aM, aM0, aAddS, aYes, one1, one2, wipeA, aRevT, aRevL, agSub_def, aSl, aPart, aNoPart, cutAns_rol, cutAns_lst, cutAns_tup, cutAns_str, aLstRg, aRg1, ex_some, tupleA_lst, tupleA_tup, wstA_lst,  List.set_cons_zero, List.set_cons_succ, List.set, ex_bl, ex_int, ex_str, ex_tup, ex_eq, ex_cons, ex_pair, ex_one1, ex_one_int, and_tt, truA_bl, truOk_bl, truA_int, truOk_int, truA_lst, truOk_lst, truA_tup, truOk_tup, truA_refU, truOk_refU, Bool.not_true, Bool.not_false,  addA_ii, addA_ss, addA_tt, addA_ll, intA_ii, int2A_ii, subA_ii, mulA_ii, modA_ii, fdivA_ii, powA_ii, negA_i, ltA_ii, leA_ii, gtA_ii, geA_ii, ltA_ss, leA_ss, gtA_ss, geA_ss, isA, isntA, nonA, isiA_non, isiA_bl, isiA_int, isiA_str, isiA_tup, isiA_lst, isiA_rol, lenA_str, lenA_tup, lenA_lst, lenA_rol, absA_i, toIntA_i, toIntA_b, isIntA, isiB, String.reduceBEq, List.contains_cons, List.contains_nil, Bool.or_true, Bool.true_or, Bool.or_false, Bool.false_or, Bool.and_true, Bool.true_and, Bool.and_false, Bool.false_and, Bool.not_eq_true, if_true, if_false, decide_true, decide_false, Bool.false_eq_true, eq_self, reduceCtorEq, true_and, false_and, and_false, badA, exists_false, aFld, aPut, agFld, aPutAug, aMeth, aMake, mulX_ii, mulX_si, mulX_li, strA_i, strA_s, intXA_i, intXA_b, isBA_bb, isntBA_bb, aTryV, aRaise, aCallX, aMethX, aErr, aDct0, aStar, aPar3, ex_tri, aCallKX, aIsE, Vm.rd_at updS_same, Vm.put_at updS_same, eadd]
        rw [show k + n + w = k + (n + w) by omega]
        exact rt_same q
def sp_Reader_single (C_Reader : Addr) : ASp := fun ds S Q => ∃ a z k, ds = [.ref a] ∧ S a = some (.ins C_Reader (Vm.rdF z (k : Nat) false)) ∧ k ≤ z.length ∧ z.length ≤ 10000000 ∧
  Q ((Vm.sngF (z.cps.toList.drop k)).1.getD .non) (updS S a (.ins C_Reader (Vm.rdF z ((k + (Vm.sngF (z.cps.toList.drop k)).2 : Nat) : Int) (Vm.sngF (z.cps.toList.drop k)).1.isNone)))
set_option maxHeartbeats 4000000 in
theorem fn_Reader_single (T : Txt P w K mg C_Reader C_HouseError f_HouseError C_BadText)  (F_Reader_is_next : FnM P w K mg base 1 C_Reader "is_next" "Reader.is_next" st_Reader_is_next ["self", "sign"] (sp_Reader_is_next C_Reader)) (F_Reader_number : FnM P w K mg base 2 C_Reader "number" "Reader.number" st_Reader_number ["self", "can_be_below", "most", "end"] (sp_Reader_number C_Reader)) (F_Reader_string : FnM P w K mg base 3 C_Reader "string" "Reader.string" st_Reader_string ["self"] (sp_Reader_string C_Reader)) : FnM P w K mg base 4 C_Reader "single" "Reader.single" st_Reader_single ["self"] (sp_Reader_single C_Reader) := by
  refine FnM.of T.d_Reader_single fun f fd F => F.ok4 sc_Reader_single (fun ds S Q h => by unfold sp_Reader_single at h; first | (obtain ⟨_, rfl, _⟩ := h; rfl) | (obtain ⟨_, _, rfl, _⟩ := h; rfl) | (obtain ⟨_, _, _, rfl, _⟩ := h; rfl) | (obtain ⟨_, _, _, _, rfl, _⟩ := h; rfl) | (obtain ⟨_, _, _, _, _, rfl, _⟩ := h; rfl) | (obtain ⟨_, _, _, _, _, _, rfl, _⟩ := h; rfl) | (obtain ⟨_, _, _, _, _, _, _, rfl, _⟩ := h; rfl)) fun cdv A gd out s H E hr => ?_
  refine ⟨_, (s_cons (s_if (t_tru (e_meth F_Reader_is_next T.cl_Reader gd (hr.mono (by decide)) (e_var 0) (a_cons (e_gS T.c_NONE_SIGN) a_nil))) (s_one (s_ret e_non)) s_nil)
    (s_cons (s_if (t_tru (e_meth F_Reader_is_next T.cl_Reader gd (hr.mono (by decide)) (e_var 0) (a_cons (e_gS T.c_INTEGER_SIGN) a_nil))) (s_one (s_ret (e_meth F_Reader_number T.cl_Reader gd (hr.mono (by decide)) (e_var 0) (a_cons e_bl (a_cons (e_gI T.c_MOST_INTEGER) (a_cons (e_gS T.c_INTEGER_END) a_nil)))))) s_nil)
    (s_cons (s_if (t_tru (e_meth F_Reader_is_next T.cl_Reader gd (hr.mono (by decide)) (e_var 0) (a_cons (e_gS T.c_STRING_SIGN) a_nil))) (s_one (s_ret (e_meth0 F_Reader_string T.cl_Reader gd (hr.mono (by decide)) (e_var 0)))) s_nil)
    (s_cons (s_put T.cl_Reader T.nf_Reader_is_stuck (e_var 0) e_bl)
    (s_one (s_ret e_non)))))), ?_⟩
  rintro _ S Q ⟨a, z, k, rfl, hs, hk, hz, q⟩
  have hlen : z.cps.toList.length = z.length := Array.length_toList
  have cn : ("n" : Str) = ⟨#[110]⟩ := by decide +kernel
  have ci : ("i" : Str) = ⟨#[105]⟩ := by decide +kernel
  have cs : ("s" : Str) = ⟨#[115]⟩ := by decide +kernel
  have ce : (";" : Str) = ⟨#[59]⟩ := by decide +kernel
  have e1 : z.cps.toList.drop (k + 1) = (z.cps.toList.drop k).drop 1 := by rw [List.drop_drop]
  generalize hrs : z.cps.toList.drop k = rs at q e1
  have hrl : rs.length = z.length - k := by rw [← hrs, List.length_drop, hlen]
  have hd : ∀ c : Nat, rs.head? = some c → k + 1 ≤ z.length := fun c h => by
    cases rs with
    | nil => cases h
    | cons x xs => rw [List.length_cons] at hrl; omega
  unfold Vm.sngF at q
  walk_at "rd"
  refine ⟨a, _, rfl, hs, Vm.no_attr, a, z, k, false, 110, by rw [← cn], hs, hk, hz, ?_⟩
  rw [hrs]
  by_cases h1 : rs.head? = some 110
  · rw [if_pos h1] at q
    rw [decide_eq_true h1, if_pos h1]
    exact ⟨trivial, rt_same q⟩
  rw [if_neg h1] at q
  rw [decide_eq_false h1, if_neg h1]
  walk_at "rd"
  refine ⟨a, _, rfl, updS_same, Vm.no_attr, a, z, k + 0, false, 105, by rw [← ci], updS_same, hk, hz, ?_⟩
  rw [Nat.add_zero, hrs, updS_updS]
  by_cases h2 : rs.head? = some 105
  · rw [if_pos h2] at q
    rw [decide_eq_true h2, if_pos h2]
    have hk1 := hd _ h2
    walk_at "rd"
    refine ⟨a, _, rfl, updS_same, Vm.no_attr, a, z, k + 1, false, true, 1000000000000000000, 59, by rw [← ce], updS_same, hk1, hz, by omega, ?_⟩
    rw [e1, updS_updS]
    rw [← Nat.add_assoc] at q
    cases hN : (Vm.numF true 1000000000000000000 59 (rs.drop 1)).1 <;> rw [hN] at q <;> exact rt_same q
  rw [if_neg h2] at q
  rw [decide_eq_false h2, if_neg h2]
  walk_at "rd"
  refine ⟨a, _, rfl, updS_same, Vm.no_attr, a, z, k + 0, false, 115, by rw [← cs], updS_same, hk, hz, ?_⟩
  rw [Nat.add_zero, hrs, updS_updS]
  by_cases h3 : rs.head? = some 115
  · rw [if_pos h3] at q
    rw [decide_eq_true h3, if_pos h3]
    have hk1 := hd _ h3
    walk_at "rd"
    refine ⟨a, _, rfl, updS_same, Vm.no_attr, a, z, k + 1, rfl, updS_same, hk1, hz, ?_⟩
    rw [e1, updS_updS]
    rw [← Nat.add_assoc] at q
    cases hN : (Vm.strF (rs.drop 1)).1 <;> rw [hN] at q <;> exact rt_same q
  rw [if_neg h3] at q
  rw [decide_eq_false h3, if_neg h3]
  simp only [↓ite_bc, bc_t, bc_f, aLc_rng, aFor_rng, aLc_lst, lstA_lst, lstA_rol, aLcS_rng, eqA_ii, eqA_ss, neA_ii, neA_ss, updS_same, updS_updS, startA, List.map_cons, List.map_nil, List.cons_append, List.nil_append, List.length_cons, List.length_nil, Nat.zero_add, Nat.add_zero, Nat.reduceAdd, Nat.reduceSub, List.replicate_succ, List.replicate_zero, List.replicate,  aVar_z, aVar_s, aC, aNil, aCons, aTup, aLstV, aLst, aOp, aUn, aTru, aTst, aCmp, aChn, aChnT, aAnd, aOr, aNot, aIf, aAndV, aOrV, aNotV, aCB, aCall, aNext, aSeq, aBrk, aCnt, aRet, aRetN, aIfS, aNev,  agName, agNil, agCons, agTup, aAsg, aPar, aDrop, aCallK, aCallKn, aM, aM0, aAddS, aYes, one1, one2, wipeA, aRevT, aRevL, agSub_def, aSl, aPart, aNoPart, cutAns_rol, cutAns_lst, cutAns_tup, cutAns_str, aLstRg, aRg1, ex_some, tupleA_lst, tupleA_tup, wstA_lst,  List.set_cons_zero, List.set_cons_succ, List.set, ex_bl, ex_int, ex_str, ex_tup, ex_eq, ex_cons, ex_pair, ex_one1, ex_one_int, and_tt, truA_bl, truOk_bl, truA_int, truOk_int, truA_lst, truOk_lst, truA_tup, truOk_tup, truA_refU, truOk_refU, Bool.not_true, Bool.not_false,  addA_ii, addA_ss, addA_tt, addA_ll, intA_ii, int2A_ii, subA_ii, mulA_ii, modA_ii, fdivA_ii, powA_ii, negA_i, ltA_ii, leA_ii, gtA_ii, geA_ii, ltA_ss, leA_ss, gtA_ss, geA_ss, isA, isntA, nonA, isiA_non, isiA_bl, isiA_int, isiA_str, isiA_tup, isiA_lst, isiA_rol, lenA_str, lenA_tup, lenA_lst, lenA_rol, absA_i, toIntA_i, toIntA_b, isIntA, isiB, String.reduceBEq, List.contains_cons, List.contains_nil, Bool.or_true, Bool.true_or, Bool.or_false, Bool.false_or, Bool.and_true, Bool.true_and, Bool.and_false, Bool.false_and, Bool.not_eq_true, if_true, if_false, decide_true, decide_false, Bool.false_eq_true, eq_self, reduceCtorEq, true_and, false_and, and_false, badA, exists_false, aFld, aPut, agFld, aPutAug, aMeth, aMake, mulX_ii, mulX_si, mulX_li, strA_i, strA_s, intXA_i, intXA_b, isBA_bb, isntBA_bb, aTryV, aRaise, aCallX, aMethX, aErr, aDct0, aStar, aPar3, ex_tri, aCallKX, aIsE, Vm.put_st updS_same]
  exact rt_same q
def sp_Reader_value (C_Reader : Addr) : ASp := fun ds S Q => ∃ a z k, ds = [.ref a] ∧ S a = some (.ins C_Reader (Vm.rdF z (k : Nat) false)) ∧ k ≤ z.length ∧ z.length ≤ 10000000 ∧
  Q ((Vm.valF (z.length - k + 1) [] (z.cps.toList.drop k)).1.getD .non) (updS S a (.ins C_Reader (Vm.rdF z ((k + (Vm.valF (z.length - k + 1) [] (z.cps.toList.drop k)).2 : Nat) : Int) (Vm.valF (z.length - k + 1) [] (z.cps.toList.drop k)).1.isNone)))
set_option maxHeartbeats 4000000 in
theorem fn_Reader_value (T : Txt P w K mg C_Reader C_HouseError f_HouseError C_BadText)  (F_Reader_is_next : FnM P w K mg base 1 C_Reader "is_next" "Reader.is_next" st_Reader_is_next ["self", "sign"] (sp_Reader_is_next C_Reader)) (F_Reader_single : FnM P w K mg base 4 C_Reader "single" "Reader.single" st_Reader_single ["self"] (sp_Reader_single C_Reader)) : FnM P w K mg base 5 C_Reader "value" "Reader.value" st_Reader_value ["self"] (sp_Reader_value C_Reader) := by
  refine FnM.of T.d_Reader_value fun f fd F => F.ok4 sc_Reader_value (fun ds S Q h => by unfold sp_Reader_value at h; first | (obtain ⟨_, rfl, _⟩ := h; rfl) | (obtain ⟨_, _, rfl, _⟩ := h; rfl) | (obtain ⟨_, _, _, rfl, _⟩ := h; rfl) | (obtain ⟨_, _, _, _, rfl, _⟩ := h; rfl) | (obtain ⟨_, _, _, _, _, rfl, _⟩ := h; rfl) | (obtain ⟨_, _, _, _, _, _, rfl, _⟩ := h; rfl) | (obtain ⟨_, _, _, _, _, _, _, rfl, _⟩ := h; rfl)) fun cdv A gd out s H E hr => ?_
  refine ⟨_, (s_cons (s_set 1 sc_Reader_value.nd (e_lst a_nil))
    (s_cons (s_while PassesOwn.never (t_not (t_tru (e_fld T.cl_Reader T.nf_Reader_is_stuck (e_var 0)))) (s_cons (s_if (w_and (t_cmp o_lt (e_cb c_len T.n_len (by decide +kernel) (a_cons (e_var 1) a_nil)) (e_gI T.c_MOST_DEPTH)) (w_and1 (t_tru (e_meth F_Reader_is_next T.cl_Reader gd (hr.mono (by decide)) (e_var 0) (a_cons (e_gS T.c_OPEN_SIGN) a_nil))))).pt (s_cons (s_expr (e_bm PySem.F.plainAttrs_list PySem.F.slot_list_append PySem.F.type_list_append m_append (e_var 1) (a_cons (e_lst a_nil) a_nil)))
    (s_one s_cnt)) s_nil)
    (s_cons (s_set 2 sc_Reader_value.nd (e_if (w_and (t_tru (e_var 1)) (w_and1 (t_tru (e_meth F_Reader_is_next T.cl_Reader gd (hr.mono (by decide)) (e_var 0) (a_cons (e_gS T.c_SHUT_SIGN) a_nil))))).pt (e_ct c_tuple T.n_tuple (by decide +kernel) (a_cons (e_bm0 PySem.F.plainAttrs_list PySem.F.slot_list_pop PySem.F.type_list_pop m_pop (e_var 1)) a_nil)) (e_meth0 F_Reader_single T.cl_Reader gd (hr.mono (by decide)) (e_var 0))))
    (s_cons (s_if (t_tru (e_fld T.cl_Reader T.nf_Reader_is_stuck (e_var 0))) (s_one (s_ret e_non)) s_nil)
    (s_cons (s_if (t_not (t_tru (e_var 1))) (s_one (s_ret (e_var 2))) s_nil)
    (s_one (s_expr (e_bm PySem.F.plainAttrs_list PySem.F.slot_list_append PySem.F.type_list_append m_append (e_ix o_ix (e_var 1) (e_un o_neg e_int)) (a_cons (e_var 2) a_nil)))))))))
    (s_one (s_ret e_non)))), ?_⟩
  rintro _ S Q ⟨a, z, k, rfl, hs, hk, hz, q⟩
  have hlen : z.cps.toList.length = z.length := Array.length_toList
  have c40 : ("(" : Str) = ⟨#[40]⟩ := by decide +kernel
  have c41 : (")" : Str) = ⟨#[41]⟩ := by decide +kernel
  have hsl : sizeLine = 16777216 := by decide +kernel
  walk_at "rd"
  refine ⟨le_sl (by omega), fun l hl => ?_⟩
  have nla : l ≠ a := by rintro rfl; rw [hs] at hl; cases hl
  refine ⟨fun m τ S' => ∃ (st : List (List AV)) (refs : List Addr) (n : Nat) (o : Option AV), τ = [some (.ref a), some (.ref l), o] ∧ Vm.StkS (updS S a (.ins C_Reader (Vm.rdF z ((k + n : Nat) : Int) false))) S' l refs st ∧ k + n ≤ z.length ∧ z.length - (k + n) < m ∧
      Vm.valF (z.length - k + 1) [] (z.cps.toList.drop k) = ((Vm.valF m st (z.cps.toList.drop (k + n))).1, n + (Vm.valF m st (z.cps.toList.drop (k + n))).2) ∧ st.length ≤ 30 ∧ ∀ xs ∈ st, xs.length ≤ n,
    ⟨z.length - k + 1, [], [], 0, none, rfl, ?_, hk, by omega, by rw [Nat.zero_add]; rfl, by simp, fun xs h => by cases h⟩, ?_⟩
  · rw [show updS S a (.ins C_Reader (Vm.rdF z ((k + 0 : Nat) : Int) false)) = S from updS_self hs]
    exact ⟨.new .refl hl (by rw [hl]; simp) (by simp), updS_same, hl, rfl, (fun i r xs h => by cases h), List.nodup_nil, (fun r h => by cases h)⟩
  rintro m _ S' ⟨st, refs, n, o, rfl, stk, hkn, hm, hval, hst, hxs⟩
  obtain ⟨m', rfl⟩ : ∃ m', m = m' + 1 := ⟨m - 1, by omega⟩
  have hs' := stk.sub.le a _ updS_same
  have hrl : (refs.reverse.map AV.ref).length = st.length := by rw [List.length_map, List.length_reverse, stk.len]
  have e1 : z.cps.toList.drop (k + n + 1) = (z.cps.toList.drop (k + n)).drop 1 := by rw [List.drop_drop]
  generalize hrs : z.cps.toList.drop (k + n) = rs at hval e1
  have hrl2 : rs.length = z.length - (k + n) := by rw [← hrs, List.length_drop, hlen]
  have hd : ∀ c : Nat, rs.head? = some c → k + n + 1 ≤ z.length := fun c h => by
    cases rs with
    | nil => cases h
    | cons x xs => rw [List.length_cons] at hrl2; omega
  simp only [aNot, aTru, aFld, aVar_z, Vm.rd_st hs', truOk_bl, truA_bl, Bool.not_false, if_true, true_and]
  refine seq_cut (fun τ S'' => τ = [some (.ref a), some (.ref l), o] ∧ S'' = S' ∧ ¬ (st.length < 30 ∧ rs.head? = some 40)) (fun D' hD' hrt hct hbk => ?_) (fun τ S'' ⟨eτ, eS, hno⟩ => ?_)
  · simp only [↓ite_bc, bc_t, bc_f, aLc_rng, aFor_rng, aLc_lst, lstA_lst, lstA_rol, aLcS_rng, eqA_ii, eqA_ss, neA_ii, neA_ss, updS_same, updS_updS, startA, List.map_cons, List.map_nil, List.cons_append, List.nil_append, List.length_cons, List.length_nil, Nat.zero_add, Nat.add_zero, Nat.reduceAdd, Nat.reduceSub, List.replicate_succ, List.replicate_zero, List.replicate,  aVar_z, aVar_s, aC, aNil, aCons, aTup, aLstV, aLst, aOp, aUn, aTru, aTst, aCmp, aChn, aChnT, aAnd, aOr, aNot, aIf, aAndV, aOrV, aNotV, aCB, aCall, aNext, aSeq, aBrk, aCnt, aRet, aRetN, aIfS, aNev,  agName, agNil, agCons, agTup, aAsg, aPar, aDrop, aCallK, aCallKn, aM, aM0, aAddS, aYes, one1, one2, wipeA, aRevT, aRevL, agSub_def, aSl, aPart, aNoPart, cutAns_rol, cutAns_lst, cutAns_tup, cutAns_str, aLstRg, aRg1, ex_some, tupleA_lst, tupleA_tup, wstA_lst,  List.set_cons_zero, List.set_cons_succ, List.set, ex_bl, ex_int, ex_str, ex_tup, ex_eq, ex_cons, ex_pair, ex_one1, ex_one_int, and_tt, truA_bl, truOk_bl, truA_int, truOk_int, truA_lst, truOk_lst, truA_tup, truOk_tup, truA_refU, truOk_refU, Bool.not_true, Bool.not_false,  addA_ii, addA_ss, addA_tt, addA_ll, intA_ii, int2A_ii, subA_ii, mulA_ii, modA_ii, fdivA_ii, powA_ii, negA_i, ltA_ii, leA_ii, gtA_ii, geA_ii, ltA_ss, leA_ss, gtA_ss, geA_ss, isA, isntA, nonA, isiA_non, isiA_bl, isiA_int, isiA_str, isiA_tup, isiA_lst, isiA_rol, lenA_str, lenA_tup, lenA_lst, lenA_rol, absA_i, toIntA_i, toIntA_b, isIntA, isiB, String.reduceBEq, List.contains_cons, List.contains_nil, Bool.or_true, Bool.true_or, Bool.or_false, Bool.false_or, Bool.and_true, Bool.true_and, Bool.and_false, Bool.false_and, Bool.not_eq_true, if_true, if_false, decide_true, decide_false, Bool.false_eq_true, eq_self, reduceCtorEq, true_and, false_and, and_false, badA, exists_false, aFld, aPut, agFld, aPutAug, aMeth, aMake, mulX_ii, mulX_si, mulX_li, strA_i, strA_s, intXA_i, intXA_b, isBA_bb, isntBA_bb, aTryV, aRaise, aCallX, aMethX, aErr, aDct0, aStar, aPar3, ex_tri, aCallKX, aIsE, lenA_ref stk.hl, hrl]
    by_cases h30 : st.length < 30
    · rw [decide_eq_true (by omega)]
      walk_at "rd"
      refine ⟨a, _, rfl, hs', Vm.no_attr, a, z, k + n, false, 40, by rw [← c40], hs', hkn, hz, ?_⟩
      rw [hrs]
      by_cases hh : rs.head? = some 40
      · rw [decide_eq_true hh, if_pos hh]
        have stk1 := stk.self (o2 := .ins C_Reader (Vm.rdF z ((k + n + 1 : Nat) : Int) false)) updS_same
        rw [updS_updS] at stk1
        simp only [↓ite_bc, bc_t, bc_f, aLc_rng, aFor_rng, aLc_lst, lstA_lst, lstA_rol, aLcS_rng, eqA_ii, eqA_ss, neA_ii, neA_ss, updS_same, updS_updS, startA, List.map_cons, List.map_nil, List.cons_append, List.nil_append, List.length_cons, List.length_nil, Nat.zero_add, Nat.add_zero, Nat.reduceAdd, Nat.reduceSub, List.replicate_succ, List.replicate_zero, List.replicate,  aVar_z, aVar_s, aC, aNil, aCons, aTup, aLstV, aLst, aOp, aUn, aTru, aTst, aCmp, aChn, aChnT, aAnd, aOr, aNot, aIf, aAndV, aOrV, aNotV, aCB, aCall, aNext, aSeq, aBrk, aCnt, aRet, aRetN, aIfS, aNev,  agName, agNil, agCons, agTup, aAsg, aPar, aDrop, aCallK, aCallKn, aM, aM0, aAddS, aYes, one1, one2, wipeA, aRevT, aRevL, agSub_def, aSl, aPart, aNoPart, cutAns_rol, cutAns_lst, cutAns_tup, cutAns_str, aLstRg, aRg1, ex_some, tupleA_lst, tupleA_tup, wstA_lst,  List.set_cons_zero, List.set_cons_succ, List.set, ex_bl, ex_int, ex_str, ex_tup, ex_eq, ex_cons, ex_pair, ex_one1, ex_one_int, and_tt, truA_bl, truOk_bl, truA_int, truOk_int, truA_lst, truOk_lst, truA_tup, truOk_tup, truA_refU, truOk_refU, Bool.not_true, Bool.not_false,  addA_ii, addA_ss, addA_tt, addA_ll, intA_ii, int2A_ii, subA_ii, mulA_ii, modA_ii, fdivA_ii, powA_ii, negA_i, ltA_ii, leA_ii, gtA_ii, geA_ii, ltA_ss, leA_ss, gtA_ss, geA_ss, isA, isntA, nonA, isiA_non, isiA_bl, isiA_int, isiA_str, isiA_tup, isiA_lst, isiA_rol, lenA_str, lenA_tup, lenA_lst, lenA_rol, absA_i, toIntA_i, toIntA_b, isIntA, isiB, String.reduceBEq, List.contains_cons, List.contains_nil, Bool.or_true, Bool.true_or, Bool.or_false, Bool.false_or, Bool.and_true, Bool.true_and, Bool.and_false, Bool.false_and, Bool.not_eq_true, if_true, if_false, decide_true, decide_false, Bool.false_eq_true, eq_self, reduceCtorEq, true_and, false_and, and_false, badA, exists_false, aFld, aPut, agFld, aPutAug, aMeth, aMake, mulX_ii, mulX_si, mulX_li, strA_i, strA_s, intXA_i, intXA_b, isBA_bb, isntBA_bb, aTryV, aRaise, aCallX, aMethX, aErr, aDct0, aStar, aPar3, ex_tri, aCallKX, aIsE, ]
        refine ⟨tyL stk1.hl, le_sl (by omega), fun r hr => ?_⟩
        have nlr : l ≠ r := by rintro rfl; rw [stk1.hl] at hr; cases hr
        have hd1 := hd _ hh
        have stk2 := stk1.push hr
        have er : (r :: refs).reverse.map AV.ref = refs.reverse.map AV.ref ++ [.ref r] := by rw [List.reverse_cons, List.map_append]; rfl
        rw [er] at stk2
        refine ⟨l, _, _, rfl, rfl, by rw [updS_ne nlr]; exact stk1.hl, by omega, hct _ _ ⟨m', by omega, [] :: st, r :: refs, n + 1, o, rfl, stk2, hd _ hh, by omega, ?_, by rw [List.length_cons]; omega, fun xs hx => ?_⟩⟩
        · rw [← Nat.add_assoc, e1, hval, Vm.valF_open ⟨h30, hh⟩, ← Nat.add_assoc]
        · rcases List.mem_cons.mp hx with rfl | hx
          · exact Nat.zero_le _
          · have := hxs xs hx; omega
      · rw [decide_eq_false hh, if_neg hh, Nat.add_zero, updS_self hs']
        walk_at "rd"
        exact hD' _ _ ⟨rfl, rfl, fun h => hh h.2⟩
    · rw [decide_eq_false (by omega)]
      walk_at "rd"
      exact hD' _ _ ⟨rfl, rfl, fun h => h30 h.1⟩
  subst eτ eS
  refine seq_cut (fun τ S2 => ∃ (st2 : List (List AV)) (refs2 : List Addr) (j : Nat) (b : Bool) (v : AV), τ = [some (.ref a), some (.ref l), some v] ∧ Vm.StkS (updS S a (.ins C_Reader (Vm.rdF z ((k + n + j : Nat) : Int) b))) S2 l refs2 st2 ∧ k + n + j ≤ z.length ∧ st2.length ≤ 30 ∧ (∀ xs ∈ st2, xs.length ≤ n) ∧
      (b = true → v = .non ∧ Vm.valF (m' + 1) st rs = (none, j)) ∧ (b = false → 1 ≤ j ∧ match st2 with
        | [] => Vm.valF (m' + 1) st rs = (some v, j)
        | top :: more => Vm.valF (m' + 1) st rs = ((Vm.valF m' ((top ++ [v]) :: more) (rs.drop j)).1, j + (Vm.valF m' ((top ++ [v]) :: more) (rs.drop j)).2)))
    (fun D' hD' hrt hct hbk => ?_) (fun τ S2 ⟨st2, refs2, j, b, v, eτ, stk2, hj, hl2, hx2, hT, hF⟩ => ?_)
  · have sl := Vm.sngF_le (rs := rs)
    cases st with
    | nil =>
      obtain rfl : refs = [] := List.eq_nil_of_length_eq_zero (by rw [stk.len]; rfl)
      simp only [↓ite_bc, bc_t, bc_f, aLc_rng, aFor_rng, aLc_lst, lstA_lst, lstA_rol, aLcS_rng, eqA_ii, eqA_ss, neA_ii, neA_ss, updS_same, updS_updS, startA, List.map_cons, List.map_nil, List.cons_append, List.nil_append, List.length_cons, List.length_nil, Nat.zero_add, Nat.add_zero, Nat.reduceAdd, Nat.reduceSub, List.replicate_succ, List.replicate_zero, List.replicate,  aVar_z, aVar_s, aC, aNil, aCons, aTup, aLstV, aLst, aOp, aUn, aTru, aTst, aCmp, aChn, aChnT, aAnd, aOr, aNot, aIf, aAndV, aOrV, aNotV, aCB, aCall, aNext, aSeq, aBrk, aCnt, aRet, aRetN, aIfS, aNev,  agName, agNil, agCons, agTup, aAsg, aPar, aDrop, aCallK, aCallKn, aM, aM0, aAddS, aYes, one1, one2, wipeA, aRevT, aRevL, agSub_def, aSl, aPart, aNoPart, cutAns_rol, cutAns_lst, cutAns_tup, cutAns_str, aLstRg, aRg1, ex_some, tupleA_lst, tupleA_tup, wstA_lst,  List.set_cons_zero, List.set_cons_succ, List.set, ex_bl, ex_int, ex_str, ex_tup, ex_eq, ex_cons, ex_pair, ex_one1, ex_one_int, and_tt, truA_bl, truOk_bl, truA_int, truOk_int, truA_lst, truOk_lst, truA_tup, truOk_tup, truA_refU, truOk_refU, Bool.not_true, Bool.not_false,  addA_ii, addA_ss, addA_tt, addA_ll, intA_ii, int2A_ii, subA_ii, mulA_ii, modA_ii, fdivA_ii, powA_ii, negA_i, ltA_ii, leA_ii, gtA_ii, geA_ii, ltA_ss, leA_ss, gtA_ss, geA_ss, isA, isntA, nonA, isiA_non, isiA_bl, isiA_int, isiA_str, isiA_tup, isiA_lst, isiA_rol, lenA_str, lenA_tup, lenA_lst, lenA_rol, absA_i, toIntA_i, toIntA_b, isIntA, isiB, String.reduceBEq, List.contains_cons, List.contains_nil, Bool.or_true, Bool.true_or, Bool.or_false, Bool.false_or, Bool.and_true, Bool.true_and, Bool.and_false, Bool.false_and, Bool.not_eq_true, if_true, if_false, decide_true, decide_false, Bool.false_eq_true, eq_self, reduceCtorEq, true_and, false_and, and_false, badA, exists_false, aFld, aPut, agFld, aPutAug, aMeth, aMake, mulX_ii, mulX_si, mulX_li, strA_i, strA_s, intXA_i, intXA_b, isBA_bb, isntBA_bb, aTryV, aRaise, aCallX, aMethX, aErr, aDct0, aStar, aPar3, ex_tri, aCallKX, aIsE, truOk_ref stk.hl, truA_ref stk.hl]
      refine ⟨a, _, rfl, hs', Vm.no_attr, a, z, k + n, rfl, hs', hkn, hz, ?_⟩
      rw [hrs]
      have stk1 := stk.self (o2 := .ins C_Reader (Vm.rdF z ((k + n + (Vm.sngF rs).2 : Nat) : Int) (Vm.sngF rs).1.isNone)) updS_same
      rw [updS_updS] at stk1
      rcases hS : Vm.sngF rs with ⟨so, j⟩
      rw [hS] at stk1 sl
      cases so with
      | none => exact hD' _ _ ⟨[], [], j, true, .non, rfl, stk1, by have := sl.1; omega, by simp, hxs, fun _ => ⟨rfl, by rw [Vm.valF_nil hno, hS]⟩, fun h => by cases h⟩
      | some v => exact hD' _ _ ⟨[], [], j, false, v, rfl, stk1, by have := sl.1; omega, by simp, hxs, (fun h => by cases h), fun _ => ⟨sl.2 (by simp), by show _ = _; rw [Vm.valF_nil hno, hS]⟩⟩
    | cons top more =>
      obtain ⟨r, refs', rfl⟩ : ∃ r refs', refs = r :: refs' := by
        cases refs with
        | nil => have := stk.len; cases this
        | cons r refs' => exact ⟨r, refs', rfl⟩
      obtain ⟨pl, pr1, prl, pst⟩ := stk.pop
      have hne : ((r :: refs').reverse.map AV.ref).isEmpty = false := by simp
      simp only [↓ite_bc, bc_t, bc_f, aLc_rng, aFor_rng, aLc_lst, lstA_lst, lstA_rol, aLcS_rng, eqA_ii, eqA_ss, neA_ii, neA_ss, updS_same, updS_updS, startA, List.map_cons, List.map_nil, List.cons_append, List.nil_append, List.length_cons, List.length_nil, Nat.zero_add, Nat.add_zero, Nat.reduceAdd, Nat.reduceSub, List.replicate_succ, List.replicate_zero, List.replicate,  aVar_z, aVar_s, aC, aNil, aCons, aTup, aLstV, aLst, aOp, aUn, aTru, aTst, aCmp, aChn, aChnT, aAnd, aOr, aNot, aIf, aAndV, aOrV, aNotV, aCB, aCall, aNext, aSeq, aBrk, aCnt, aRet, aRetN, aIfS, aNev,  agName, agNil, agCons, agTup, aAsg, aPar, aDrop, aCallK, aCallKn, aM, aM0, aAddS, aYes, one1, one2, wipeA, aRevT, aRevL, agSub_def, aSl, aPart, aNoPart, cutAns_rol, cutAns_lst, cutAns_tup, cutAns_str, aLstRg, aRg1, ex_some, tupleA_lst, tupleA_tup, wstA_lst,  List.set_cons_zero, List.set_cons_succ, List.set, ex_bl, ex_int, ex_str, ex_tup, ex_eq, ex_cons, ex_pair, ex_one1, ex_one_int, and_tt, truA_bl, truOk_bl, truA_int, truOk_int, truA_lst, truOk_lst, truA_tup, truOk_tup, truA_refU, truOk_refU, Bool.not_true, Bool.not_false,  addA_ii, addA_ss, addA_tt, addA_ll, intA_ii, int2A_ii, subA_ii, mulA_ii, modA_ii, fdivA_ii, powA_ii, negA_i, ltA_ii, leA_ii, gtA_ii, geA_ii, ltA_ss, leA_ss, gtA_ss, geA_ss, isA, isntA, nonA, isiA_non, isiA_bl, isiA_int, isiA_str, isiA_tup, isiA_lst, isiA_rol, lenA_str, lenA_tup, lenA_lst, lenA_rol, absA_i, toIntA_i, toIntA_b, isIntA, isiB, String.reduceBEq, List.contains_cons, List.contains_nil, Bool.or_true, Bool.true_or, Bool.or_false, Bool.false_or, Bool.and_true, Bool.true_and, Bool.and_false, Bool.false_and, Bool.not_eq_true, if_true, if_false, decide_true, decide_false, Bool.false_eq_true, eq_self, reduceCtorEq, true_and, false_and, and_false, badA, exists_false, aFld, aPut, agFld, aPutAug, aMeth, aMake, mulX_ii, mulX_si, mulX_li, strA_i, strA_s, intXA_i, intXA_b, isBA_bb, isntBA_bb, aTryV, aRaise, aCallX, aMethX, aErr, aDct0, aStar, aPar3, ex_tri, aCallKX, aIsE, truOk_ref stk.hl, truA_ref stk.hl, hne]
      refine ⟨a, _, rfl, hs', Vm.no_attr, a, z, k + n, false, 41, by rw [← c41], hs', hkn, hz, ?_⟩
      rw [hrs]
      by_cases hh : rs.head? = some 41
      · rw [decide_eq_true hh, if_pos hh]
        have stk1 := stk.self (o2 := .ins C_Reader (Vm.rdF z ((k + n + 1 : Nat) : Int) false)) updS_same
        rw [updS_updS] at stk1
        obtain ⟨pl1, pr2, prl2, pst1⟩ := stk1.pop
        simp only [↓ite_bc, bc_t, bc_f, aLc_rng, aFor_rng, aLc_lst, lstA_lst, lstA_rol, aLcS_rng, eqA_ii, eqA_ss, neA_ii, neA_ss, updS_same, updS_updS, startA, List.map_cons, List.map_nil, List.cons_append, List.nil_append, List.length_cons, List.length_nil, Nat.zero_add, Nat.add_zero, Nat.reduceAdd, Nat.reduceSub, List.replicate_succ, List.replicate_zero, List.replicate,  aVar_z, aVar_s, aC, aNil, aCons, aTup, aLstV, aLst, aOp, aUn, aTru, aTst, aCmp, aChn, aChnT, aAnd, aOr, aNot, aIf, aAndV, aOrV, aNotV, aCB, aCall, aNext, aSeq, aBrk, aCnt, aRet, aRetN, aIfS, aNev,  agName, agNil, agCons, agTup, aAsg, aPar, aDrop, aCallK, aCallKn, aM, aM0, aAddS, aYes, one1, one2, wipeA, aRevT, aRevL, agSub_def, aSl, aPart, aNoPart, cutAns_rol, cutAns_lst, cutAns_tup, cutAns_str, aLstRg, aRg1, ex_some, tupleA_lst, tupleA_tup, wstA_lst,  List.set_cons_zero, List.set_cons_succ, List.set, ex_bl, ex_int, ex_str, ex_tup, ex_eq, ex_cons, ex_pair, ex_one1, ex_one_int, and_tt, truA_bl, truOk_bl, truA_int, truOk_int, truA_lst, truOk_lst, truA_tup, truOk_tup, truA_refU, truOk_refU, Bool.not_true, Bool.not_false,  addA_ii, addA_ss, addA_tt, addA_ll, intA_ii, int2A_ii, subA_ii, mulA_ii, modA_ii, fdivA_ii, powA_ii, negA_i, ltA_ii, leA_ii, gtA_ii, geA_ii, ltA_ss, leA_ss, gtA_ss, geA_ss, isA, isntA, nonA, isiA_non, isiA_bl, isiA_int, isiA_str, isiA_tup, isiA_lst, isiA_rol, lenA_str, lenA_tup, lenA_lst, lenA_rol, absA_i, toIntA_i, toIntA_b, isIntA, isiB, String.reduceBEq, List.contains_cons, List.contains_nil, Bool.or_true, Bool.true_or, Bool.or_false, Bool.false_or, Bool.and_true, Bool.true_and, Bool.and_false, Bool.false_and, Bool.not_eq_true, if_true, if_false, decide_true, decide_false, Bool.false_eq_true, eq_self, reduceCtorEq, true_and, false_and, and_false, badA, exists_false, aFld, aPut, agFld, aPutAug, aMeth, aMake, mulX_ii, mulX_si, mulX_li, strA_i, strA_s, intXA_i, intXA_b, isBA_bb, isntBA_bb, aTryV, aRaise, aCallX, aMethX, aErr, aDct0, aStar, aPar3, ex_tri, aCallKX, aIsE, ]
        refine ⟨tyL stk1.hl, l, _, .ref r, rfl, rfl, pl1, ?_⟩
        dsimp only
        rw [tupleA_ref (xs := top) (by rw [updS_ne prl2]; exact pr2)]
        refine ⟨trivial, hD' _ _ ⟨more, refs', 1, false, .tup top, rfl, pst1, hd _ hh, by rw [List.length_cons] at hst; omega, fun xs hx => hxs xs (List.mem_cons_of_mem _ hx), (fun h => by cases h), fun _ => ⟨Nat.le_refl _, ?_⟩⟩⟩
        cases more with
        | nil => exact Vm.valF_shut0 hno hh
        | cons up rest => exact Vm.valF_shut hno hh
      · rw [decide_eq_false hh, if_neg hh, Nat.add_zero, updS_self hs']
        walk_at "rd"
        refine ⟨a, _, rfl, hs', Vm.no_attr, a, z, k + n, rfl, hs', hkn, hz, ?_⟩
        rw [hrs]
        have stk1 := stk.self (o2 := .ins C_Reader (Vm.rdF z ((k + n + (Vm.sngF rs).2 : Nat) : Int) (Vm.sngF rs).1.isNone)) updS_same
        rw [updS_updS] at stk1
        rcases hS : Vm.sngF rs with ⟨so, j⟩
        rw [hS] at stk1 sl
        cases so with
        | none => exact hD' _ _ ⟨top :: more, r :: refs', j, true, .non, rfl, stk1, by have := sl.1; omega, hst, hxs, fun _ => ⟨rfl, Vm.valF_non hno hh hS⟩, fun h => by cases h⟩
        | some v => exact hD' _ _ ⟨top :: more, r :: refs', j, false, v, rfl, stk1, by have := sl.1; omega, hst, hxs, (fun h => by cases h), fun _ => ⟨sl.2 (by simp), Vm.valF_som hno hh hS⟩⟩
  · subst eτ
    have hs2 := stk2.sub.le a _ updS_same
    cases b with
    | true =>
      obtain ⟨hv, e⟩ := hT rfl
      simp only [↓ite_bc, bc_t, bc_f, aLc_rng, aFor_rng, aLc_lst, lstA_lst, lstA_rol, aLcS_rng, eqA_ii, eqA_ss, neA_ii, neA_ss, updS_same, updS_updS, startA, List.map_cons, List.map_nil, List.cons_append, List.nil_append, List.length_cons, List.length_nil, Nat.zero_add, Nat.add_zero, Nat.reduceAdd, Nat.reduceSub, List.replicate_succ, List.replicate_zero, List.replicate,  aVar_z, aVar_s, aC, aNil, aCons, aTup, aLstV, aLst, aOp, aUn, aTru, aTst, aCmp, aChn, aChnT, aAnd, aOr, aNot, aIf, aAndV, aOrV, aNotV, aCB, aCall, aNext, aSeq, aBrk, aCnt, aRet, aRetN, aIfS, aNev,  agName, agNil, agCons, agTup, aAsg, aPar, aDrop, aCallK, aCallKn, aM, aM0, aAddS, aYes, one1, one2, wipeA, aRevT, aRevL, agSub_def, aSl, aPart, aNoPart, cutAns_rol, cutAns_lst, cutAns_tup, cutAns_str, aLstRg, aRg1, ex_some, tupleA_lst, tupleA_tup, wstA_lst,  List.set_cons_zero, List.set_cons_succ, List.set, ex_bl, ex_int, ex_str, ex_tup, ex_eq, ex_cons, ex_pair, ex_one1, ex_one_int, and_tt, truA_bl, truOk_bl, truA_int, truOk_int, truA_lst, truOk_lst, truA_tup, truOk_tup, truA_refU, truOk_refU, Bool.not_true, Bool.not_false,  addA_ii, addA_ss, addA_tt, addA_ll, intA_ii, int2A_ii, subA_ii, mulA_ii, modA_ii, fdivA_ii, powA_ii, negA_i, ltA_ii, leA_ii, gtA_ii, geA_ii, ltA_ss, leA_ss, gtA_ss, geA_ss, isA, isntA, nonA, isiA_non, isiA_bl, isiA_int, isiA_str, isiA_tup, isiA_lst, isiA_rol, lenA_str, lenA_tup, lenA_lst, lenA_rol, absA_i, toIntA_i, toIntA_b, isIntA, isiB, String.reduceBEq, List.contains_cons, List.contains_nil, Bool.or_true, Bool.true_or, Bool.or_false, Bool.false_or, Bool.and_true, Bool.true_and, Bool.and_false, Bool.false_and, Bool.not_eq_true, if_true, if_false, decide_true, decide_false, Bool.false_eq_true, eq_self, reduceCtorEq, true_and, false_and, and_false, badA, exists_false, aFld, aPut, agFld, aPutAug, aMeth, aMake, mulX_ii, mulX_si, mulX_li, strA_i, strA_s, intXA_i, intXA_b, isBA_bb, isntBA_bb, aTryV, aRaise, aCallX, aMethX, aErr, aDct0, aStar, aPar3, ex_tri, aCallKX, aIsE, Vm.rd_st hs2]
      rw [hval, e] at q
      refine rt_sub stk2.sub ?_
      rw [show k + (n + j) = k + n + j by omega] at q
      exact q
    | false =>
      obtain ⟨hj1, hF⟩ := hF rfl
      cases st2 with
      | nil =>
        have e : Vm.valF (m' + 1) st rs = (some v, j) := hF
        obtain rfl : refs2 = [] := List.eq_nil_of_length_eq_zero (by rw [stk2.len]; rfl)
        simp only [↓ite_bc, bc_t, bc_f, aLc_rng, aFor_rng, aLc_lst, lstA_lst, lstA_rol, aLcS_rng, eqA_ii, eqA_ss, neA_ii, neA_ss, updS_same, updS_updS, startA, List.map_cons, List.map_nil, List.cons_append, List.nil_append, List.length_cons, List.length_nil, Nat.zero_add, Nat.add_zero, Nat.reduceAdd, Nat.reduceSub, List.replicate_succ, List.replicate_zero, List.replicate,  aVar_z, aVar_s, aC, aNil, aCons, aTup, aLstV, aLst, aOp, aUn, aTru, aTst, aCmp, aChn, aChnT, aAnd, aOr, aNot, aIf, aAndV, aOrV, aNotV, aCB, aCall, aNext, aSeq, aBrk, aCnt, aRet, aRetN, aIfS, aNev,  agName, agNil, agCons, agTup, aAsg, aPar, aDrop, aCallK, aCallKn, aM, aM0, aAddS, aYes, one1, one2, wipeA, aRevT, aRevL, agSub_def, aSl, aPart, aNoPart, cutAns_rol, cutAns_lst, cutAns_tup, cutAns_str, aLstRg, aRg1, ex_some, tupleA_lst, tupleA_tup, wstA_lst,  List.set_cons_zero, List.set_cons_succ, List.set, ex_bl, ex_int, ex_str, ex_tup, ex_eq, ex_cons, ex_pair, ex_one1, ex_one_int, and_tt, truA_bl, truOk_bl, truA_int, truOk_int, truA_lst, truOk_lst, truA_tup, truOk_tup, truA_refU, truOk_refU, Bool.not_true, Bool.not_false,  addA_ii, addA_ss, addA_tt, addA_ll, intA_ii, int2A_ii, subA_ii, mulA_ii, modA_ii, fdivA_ii, powA_ii, negA_i, ltA_ii, leA_ii, gtA_ii, geA_ii, ltA_ss, leA_ss, gtA_ss, geA_ss, isA, isntA, nonA, isiA_non, isiA_bl, isiA_int, isiA_str, isiA_tup, isiA_lst, isiA_rol, lenA_str, lenA_tup, lenA_lst, lenA_rol, absA_i, toIntA_i, toIntA_b, isIntA, isiB, String.reduceBEq, List.contains_cons, List.contains_nil, Bool.or_true, Bool.true_or, Bool.or_false, Bool.false_or, Bool.and_true, Bool.true_and, Bool.and_false, Bool.false_and, Bool.not_eq_true, if_true, if_false, decide_true, decide_false, Bool.false_eq_true, eq_self, reduceCtorEq, true_and, false_and, and_false, badA, exists_false, aFld, aPut, agFld, aPutAug, aMeth, aMake, mulX_ii, mulX_si, mulX_li, strA_i, strA_s, intXA_i, intXA_b, isBA_bb, isntBA_bb, aTryV, aRaise, aCallX, aMethX, aErr, aDct0, aStar, aPar3, ex_tri, aCallKX, aIsE, Vm.rd_st hs2, truOk_ref stk2.hl, truA_ref stk2.hl]
        rw [hval, e] at q
        refine rt_sub stk2.sub ?_
        rw [show k + (n + j) = k + n + j by omega] at q
        exact q
      | cons top more =>
        have e := hF
        obtain ⟨r, refs', rfl⟩ : ∃ r refs', refs2 = r :: refs' := by
          cases refs2 with
          | nil => have := stk2.len; cases this
          | cons r refs' => exact ⟨r, refs', rfl⟩
        obtain ⟨pl, pr1, prl, pst⟩ := stk2.pop
        have hne : ((r :: refs').reverse.map AV.ref).isEmpty = false := by simp
        simp only [↓ite_bc, bc_t, bc_f, aLc_rng, aFor_rng, aLc_lst, lstA_lst, lstA_rol, aLcS_rng, eqA_ii, eqA_ss, neA_ii, neA_ss, updS_same, updS_updS, startA, List.map_cons, List.map_nil, List.cons_append, List.nil_append, List.length_cons, List.length_nil, Nat.zero_add, Nat.add_zero, Nat.reduceAdd, Nat.reduceSub, List.replicate_succ, List.replicate_zero, List.replicate,  aVar_z, aVar_s, aC, aNil, aCons, aTup, aLstV, aLst, aOp, aUn, aTru, aTst, aCmp, aChn, aChnT, aAnd, aOr, aNot, aIf, aAndV, aOrV, aNotV, aCB, aCall, aNext, aSeq, aBrk, aCnt, aRet, aRetN, aIfS, aNev,  agName, agNil, agCons, agTup, aAsg, aPar, aDrop, aCallK, aCallKn, aM, aM0, aAddS, aYes, one1, one2, wipeA, aRevT, aRevL, agSub_def, aSl, aPart, aNoPart, cutAns_rol, cutAns_lst, cutAns_tup, cutAns_str, aLstRg, aRg1, ex_some, tupleA_lst, tupleA_tup, wstA_lst,  List.set_cons_zero, List.set_cons_succ, List.set, ex_bl, ex_int, ex_str, ex_tup, ex_eq, ex_cons, ex_pair, ex_one1, ex_one_int, and_tt, truA_bl, truOk_bl, truA_int, truOk_int, truA_lst, truOk_lst, truA_tup, truOk_tup, truA_refU, truOk_refU, Bool.not_true, Bool.not_false,  addA_ii, addA_ss, addA_tt, addA_ll, intA_ii, int2A_ii, subA_ii, mulA_ii, modA_ii, fdivA_ii, powA_ii, negA_i, ltA_ii, leA_ii, gtA_ii, geA_ii, ltA_ss, leA_ss, gtA_ss, geA_ss, isA, isntA, nonA, isiA_non, isiA_bl, isiA_int, isiA_str, isiA_tup, isiA_lst, isiA_rol, lenA_str, lenA_tup, lenA_lst, lenA_rol, absA_i, toIntA_i, toIntA_b, isIntA, isiB, String.reduceBEq, List.contains_cons, List.contains_nil, Bool.or_true, Bool.true_or, Bool.or_false, Bool.false_or, Bool.and_true, Bool.true_and, Bool.and_false, Bool.false_and, Bool.not_eq_true, if_true, if_false, decide_true, decide_false, Bool.false_eq_true, eq_self, reduceCtorEq, true_and, false_and, and_false, badA, exists_false, aFld, aPut, agFld, aPutAug, aMeth, aMake, mulX_ii, mulX_si, mulX_li, strA_i, strA_s, intXA_i, intXA_b, isBA_bb, isntBA_bb, aTryV, aRaise, aCallX, aMethX, aErr, aDct0, aStar, aPar3, ex_tri, aCallKX, aIsE, Vm.rd_st hs2, truOk_ref stk2.hl, truA_ref stk2.hl, hne, Vm.ix_last pl]
        have htop := hx2 top (List.mem_cons_self ..)
        refine ⟨tyL pr1, r, top, v, rfl, rfl, pr1, by omega, m', by omega, (top ++ [v]) :: more, r :: refs', n + j, some v, rfl, ?_, by omega, by omega, ?_, hl2, fun xs hx => ?_⟩
        · rw [← Nat.add_assoc]
          exact stk2.app
        · rw [← Nat.add_assoc, ← List.drop_drop, hrs, hval, e, ← Nat.add_assoc]
        · rcases List.mem_cons.mp hx with rfl | hx
          · rw [List.length_append, List.length_singleton]; omega
          · have := hx2 xs (List.mem_cons_of_mem _ hx); omega
def sp_read_value_atX (C_BadText : Addr) : ASpX := fun ds S Q EX => (∃ d, ds = [d] ∧ (isiA d (.ty "str") S).ok ∧ (isiA d (.ty "str") S).v = .bl false ∧ EX C_BadText .non S) ∨
  (∃ z, ds = [.str z] ∧ z.length ≤ 10000000 ∧ ((Vm.vR [] z.cps.toList).1.isNone = true ∨ (Vm.vR [] z.cps.toList).2 < z.length → ∀ S', Sub S S' → EX C_BadText (.int ((Vm.vR [] z.cps.toList).2 : Nat)) S') ∧
    (∀ v, Vm.vR [] z.cps.toList = (some v, z.length) → Q v S))
set_option maxHeartbeats 4000000 in
theorem fn_read_value_atX (T : Txt P w K mg C_Reader C_HouseError f_HouseError C_BadText)  (F_Reader___init__ : FnM P w K mg base 1 C_Reader "__init__" "Reader.__init__" st_Reader___init__ ["self", "text", "at"] (sp_Reader___init__ C_Reader)) (F_Reader_value : FnM P w K mg base 5 C_Reader "value" "Reader.value" st_Reader_value ["self"] (sp_Reader_value C_Reader)) : FnXX P w K mg base 6 "read_value" st_read_value ["text"] (sp_read_value_atX C_BadText) := by
  refine FnXX.of T.d_read_value fun f fd F => F.ok4X sc_read_value (fun ds S Q EX h => by rcases h with ⟨_, rfl, _⟩ | ⟨_, rfl, _⟩ <;> rfl) fun cdv A gd out s H E S0 EX hr tk po => ?_
  refine ⟨_, (s_cons (s_if (t_not (t_tru (e_cb c_isi T.n_isinstance (by decide +kernel) (a_cons (e_var 0) (a_cons (e_bty (n := "str") T.n_str (by decide +kernel)) a_nil))))) (s_one (s_raise T.hi_HouseError T.ex_BadText T.g_BadText (hr.mono (by decide)) tk e_non)) s_nil)
    (s_cons (s_set 1 sc_read_value.nd (e_mk F_Reader___init__ T.mk_Reader T.g_Reader gd (hr.mono (by decide)) (a_cons (e_var 0) (a_cons e_int a_nil))))
    (s_cons (s_set 2 sc_read_value.nd (e_meth0 F_Reader_value T.cl_Reader gd (hr.mono (by decide)) (e_var 1)))
    (s_cons (s_if (w_or (t_tru (e_fld T.cl_Reader T.nf_Reader_is_stuck (e_var 1))) (w_or1 (t_cmp o_lt (e_fld T.cl_Reader T.nf_Reader_own_at (e_var 1)) (e_cb c_len T.n_len (by decide +kernel) (a_cons (e_var 0) a_nil))))).pt (s_one (s_raise T.hi_HouseError T.ex_BadText T.g_BadText (hr.mono (by decide)) tk (e_fld T.cl_Reader T.nf_Reader_own_at (e_var 1)))) s_nil)
    (s_one (s_ret (e_var 2))))))), ?_⟩
  rintro _ Q EX' h hE
  rcases h with ⟨d, rfl, h1, h2, h⟩ | ⟨z, rfl, hz, hbad, hgood⟩
  · simp only [↓ite_bc, bc_t, bc_f, aLc_rng, aFor_rng, aLc_lst, lstA_lst, lstA_rol, aLcS_rng, eqA_ii, eqA_ss, neA_ii, neA_ss, updS_same, updS_updS, startA, List.map_cons, List.map_nil, List.cons_append, List.nil_append, List.length_cons, List.length_nil, Nat.zero_add, Nat.add_zero, Nat.reduceAdd, Nat.reduceSub, List.replicate_succ, List.replicate_zero, List.replicate,  aVar_z, aVar_s, aC, aNil, aCons, aTup, aLstV, aLst, aOp, aUn, aTru, aTst, aCmp, aChn, aChnT, aAnd, aOr, aNot, aIf, aAndV, aOrV, aNotV, aCB, aCall, aNext, aSeq, aBrk, aCnt, aRet, aRetN, aIfS, aNev,  agName, agNil, agCons, agTup, aAsg, aPar, aDrop, aCallK, aCallKn, aM, aM0, aAddS, aYes, one1, one2, wipeA, aRevT, aRevL, agSub_def, aSl, aPart, aNoPart, cutAns_rol, cutAns_lst, cutAns_tup, cutAns_str, aLstRg, aRg1, ex_some, tupleA_lst, tupleA_tup, wstA_lst,  List.set_cons_zero, List.set_cons_succ, List.set, ex_bl, ex_int, ex_str, ex_tup, ex_eq, ex_cons, ex_pair, ex_one1, ex_one_int, and_tt, truA_bl, truOk_bl, truA_int, truOk_int, truA_lst, truOk_lst, truA_tup, truOk_tup, truA_refU, truOk_refU, Bool.not_true, Bool.not_false,  addA_ii, addA_ss, addA_tt, addA_ll, intA_ii, int2A_ii, subA_ii, mulA_ii, modA_ii, fdivA_ii, powA_ii, negA_i, ltA_ii, leA_ii, gtA_ii, geA_ii, ltA_ss, leA_ss, gtA_ss, geA_ss, isA, isntA, nonA, isiA_non, isiA_bl, isiA_int, isiA_str, isiA_tup, isiA_lst, isiA_rol, lenA_str, lenA_tup, lenA_lst, lenA_rol, absA_i, toIntA_i, toIntA_b, isIntA, isiB, String.reduceBEq, List.contains_cons, List.contains_nil, Bool.or_true, Bool.true_or, Bool.or_false, Bool.false_or, Bool.and_true, Bool.true_and, Bool.and_false, Bool.false_and, Bool.not_eq_true, if_true, if_false, decide_true, decide_false, Bool.false_eq_true, eq_self, reduceCtorEq, true_and, false_and, and_false, badA, exists_false, aFld, aPut, agFld, aPutAug, aMeth, aMake, mulX_ii, mulX_si, mulX_li, strA_i, strA_s, intXA_i, intXA_b, isBA_bb, isntBA_bb, aTryV, aRaise, aCallX, aMethX, aErr, aDct0, aStar, aPar3, ex_tri, aCallKX, aIsE, ]
    refine ⟨h1, ?_⟩
    rw [h2]
    simp only [↓ite_bc, bc_t, bc_f, aLc_rng, aFor_rng, aLc_lst, lstA_lst, lstA_rol, aLcS_rng, eqA_ii, eqA_ss, neA_ii, neA_ss, updS_same, updS_updS, startA, List.map_cons, List.map_nil, List.cons_append, List.nil_append, List.length_cons, List.length_nil, Nat.zero_add, Nat.add_zero, Nat.reduceAdd, Nat.reduceSub, List.replicate_succ, List.replicate_zero, List.replicate,  aVar_z, aVar_s, aC, aNil, aCons, aTup, aLstV, aLst, aOp, aUn, aTru, aTst, aCmp, aChn, aChnT, aAnd, aOr, aNot, aIf, aAndV, aOrV, aNotV, aCB, aCall, aNext, aSeq, aBrk, aCnt, aRet, aRetN, aIfS, aNev,  agName, agNil, agCons, agTup, aAsg, aPar, aDrop, aCallK, aCallKn, aM, aM0, aAddS, aYes, one1, one2, wipeA, aRevT, aRevL, agSub_def, aSl, aPart, aNoPart, cutAns_rol, cutAns_lst, cutAns_tup, cutAns_str, aLstRg, aRg1, ex_some, tupleA_lst, tupleA_tup, wstA_lst,  List.set_cons_zero, List.set_cons_succ, List.set, ex_bl, ex_int, ex_str, ex_tup, ex_eq, ex_cons, ex_pair, ex_one1, ex_one_int, and_tt, truA_bl, truOk_bl, truA_int, truOk_int, truA_lst, truOk_lst, truA_tup, truOk_tup, truA_refU, truOk_refU, Bool.not_true, Bool.not_false,  addA_ii, addA_ss, addA_tt, addA_ll, intA_ii, int2A_ii, subA_ii, mulA_ii, modA_ii, fdivA_ii, powA_ii, negA_i, ltA_ii, leA_ii, gtA_ii, geA_ii, ltA_ss, leA_ss, gtA_ss, geA_ss, isA, isntA, nonA, isiA_non, isiA_bl, isiA_int, isiA_str, isiA_tup, isiA_lst, isiA_rol, lenA_str, lenA_tup, lenA_lst, lenA_rol, absA_i, toIntA_i, toIntA_b, isIntA, isiB, String.reduceBEq, List.contains_cons, List.contains_nil, Bool.or_true, Bool.true_or, Bool.or_false, Bool.false_or, Bool.and_true, Bool.true_and, Bool.and_false, Bool.false_and, Bool.not_eq_true, if_true, if_false, decide_true, decide_false, Bool.false_eq_true, eq_self, reduceCtorEq, true_and, false_and, and_false, badA, exists_false, aFld, aPut, agFld, aPutAug, aMeth, aMake, mulX_ii, mulX_si, mulX_li, strA_i, strA_s, intXA_i, intXA_b, isBA_bb, isntBA_bb, aTryV, aRaise, aCallX, aMethX, aErr, aDct0, aStar, aPar3, ex_tri, aCallKX, aIsE, ]
    exact hE _ _ _ _ h
  have hlen : z.cps.toList.length = z.length := Array.length_toList
  walk_at "rd"
  intro a ha
  refine ⟨a, z, 0, rfl, updS_same, rfl, ?_⟩
  rw [updS_updS]
  refine ⟨a, _, rfl, updS_same, Vm.no_attr, a, z, 0, rfl, updS_same, Nat.zero_le _, by omega, ?_⟩
  have e0 : Vm.valF (z.length - 0 + 1) [] (z.cps.toList.drop 0) = Vm.vR [] z.cps.toList := Vm.vR_of (by rw [List.drop_zero]; omega)
  rw [e0, updS_updS]
  have sub : ∀ fs, Sub S0 (updS S0 a (.ins C_Reader fs)) := fun fs => .new .refl ha (by rw [ha]; simp) (by simp)
  rcases hv : Vm.vR [] z.cps.toList with ⟨ov, k⟩
  rw [hv] at hbad hgood
  cases ov with
  | none =>
    simp only [↓ite_bc, bc_t, bc_f, aLc_rng, aFor_rng, aLc_lst, lstA_lst, lstA_rol, aLcS_rng, eqA_ii, eqA_ss, neA_ii, neA_ss, updS_same, updS_updS, startA, List.map_cons, List.map_nil, List.cons_append, List.nil_append, List.length_cons, List.length_nil, Nat.zero_add, Nat.add_zero, Nat.reduceAdd, Nat.reduceSub, List.replicate_succ, List.replicate_zero, List.replicate,  aVar_z, aVar_s, aC, aNil, aCons, aTup, aLstV, aLst, aOp, aUn, aTru, aTst, aCmp, aChn, aChnT, aAnd, aOr, aNot, aIf, aAndV, aOrV, aNotV, aCB, aCall, aNext, aSeq, aBrk, aCnt, aRet, aRetN, aIfS, aNev,  agName, agNil, agCons, agTup, aAsg, aPar, aDrop, aCallK, aCallKn, aM, aM0, aAddS, aYes, one1, one2, wipeA, aRevT, aRevL, agSub_def, aSl, aPart, aNoPart, cutAns_rol, cutAns_lst, cutAns_tup, cutAns_str, aLstRg, aRg1, ex_some, tupleA_lst, tupleA_tup, wstA_lst,  List.set_cons_zero, List.set_cons_succ, List.set, ex_bl, ex_int, ex_str, ex_tup, ex_eq, ex_cons, ex_pair, ex_one1, ex_one_int, and_tt, truA_bl, truOk_bl, truA_int, truOk_int, truA_lst, truOk_lst, truA_tup, truOk_tup, truA_refU, truOk_refU, Bool.not_true, Bool.not_false,  addA_ii, addA_ss, addA_tt, addA_ll, intA_ii, int2A_ii, subA_ii, mulA_ii, modA_ii, fdivA_ii, powA_ii, negA_i, ltA_ii, leA_ii, gtA_ii, geA_ii, ltA_ss, leA_ss, gtA_ss, geA_ss, isA, isntA, nonA, isiA_non, isiA_bl, isiA_int, isiA_str, isiA_tup, isiA_lst, isiA_rol, lenA_str, lenA_tup, lenA_lst, lenA_rol, absA_i, toIntA_i, toIntA_b, isIntA, isiB, String.reduceBEq, List.contains_cons, List.contains_nil, Bool.or_true, Bool.true_or, Bool.or_false, Bool.false_or, Bool.and_true, Bool.true_and, Bool.and_false, Bool.false_and, Bool.not_eq_true, if_true, if_false, decide_true, decide_false, Bool.false_eq_true, eq_self, reduceCtorEq, true_and, false_and, and_false, badA, exists_false, aFld, aPut, agFld, aPutAug, aMeth, aMake, mulX_ii, mulX_si, mulX_li, strA_i, strA_s, intXA_i, intXA_b, isBA_bb, isntBA_bb, aTryV, aRaise, aCallX, aMethX, aErr, aDct0, aStar, aPar3, ex_tri, aCallKX, aIsE, Vm.rd_st updS_same, Vm.rd_at updS_same, Option.isNone_none]
    exact hE _ _ _ _ (hbad (.inl rfl) _ (sub _))
  | some v =>
    have kl : k ≤ z.length := by have := (Vm.vR_app (s := []) hv).2.1; omega
    simp only [↓ite_bc, bc_t, bc_f, aLc_rng, aFor_rng, aLc_lst, lstA_lst, lstA_rol, aLcS_rng, eqA_ii, eqA_ss, neA_ii, neA_ss, updS_same, updS_updS, startA, List.map_cons, List.map_nil, List.cons_append, List.nil_append, List.length_cons, List.length_nil, Nat.zero_add, Nat.add_zero, Nat.reduceAdd, Nat.reduceSub, List.replicate_succ, List.replicate_zero, List.replicate,  aVar_z, aVar_s, aC, aNil, aCons, aTup, aLstV, aLst, aOp, aUn, aTru, aTst, aCmp, aChn, aChnT, aAnd, aOr, aNot, aIf, aAndV, aOrV, aNotV, aCB, aCall, aNext, aSeq, aBrk, aCnt, aRet, aRetN, aIfS, aNev,  agName, agNil, agCons, agTup, aAsg, aPar, aDrop, aCallK, aCallKn, aM, aM0, aAddS, aYes, one1, one2, wipeA, aRevT, aRevL, agSub_def, aSl, aPart, aNoPart, cutAns_rol, cutAns_lst, cutAns_tup, cutAns_str, aLstRg, aRg1, ex_some, tupleA_lst, tupleA_tup, wstA_lst,  List.set_cons_zero, List.set_cons_succ, List.set, ex_bl, ex_int, ex_str, ex_tup, ex_eq, ex_cons, ex_pair, ex_one1, ex_one_int, and_tt, truA_bl, truOk_bl, truA_int, truOk_int, truA_lst, truOk_lst, truA_tup, truOk_tup, truA_refU, truOk_refU, Bool.not_true, Bool.not_false,  addA_ii, addA_ss, addA_tt, addA_ll, intA_ii, int2A_ii, subA_ii, mulA_ii, modA_ii, fdivA_ii, powA_ii, negA_i, ltA_ii, leA_ii, gtA_ii, geA_ii, ltA_ss, leA_ss, gtA_ss, geA_ss, isA, isntA, nonA, isiA_non, isiA_bl, isiA_int, isiA_str, isiA_tup, isiA_lst, isiA_rol, lenA_str, lenA_tup, lenA_lst, lenA_rol, absA_i, toIntA_i, toIntA_b, isIntA, isiB, String.reduceBEq, List.contains_cons, List.contains_nil, Bool.or_true, Bool.true_or, Bool.or_false, Bool.false_or, Bool.and_true, Bool.true_and, Bool.and_false, Bool.false_and, Bool.not_eq_true, if_true, if_false, decide_true, decide_false, Bool.false_eq_true, eq_self, reduceCtorEq, true_and, false_and, and_false, badA, exists_false, aFld, aPut, agFld, aPutAug, aMeth, aMake, mulX_ii, mulX_si, mulX_li, strA_i, strA_s, intXA_i, intXA_b, isBA_bb, isntBA_bb, aTryV, aRaise, aCallX, aMethX, aErr, aDct0, aStar, aPar3, ex_tri, aCallKX, aIsE, Vm.rd_st updS_same, Vm.rd_at updS_same, Option.isNone_some]
    refine ⟨le_sl (by omega), ?_⟩
    by_cases h : k < z.length
    · rw [decide_eq_true (by omega)]
      simp only [↓ite_bc, bc_t, bc_f, aLc_rng, aFor_rng, aLc_lst, lstA_lst, lstA_rol, aLcS_rng, eqA_ii, eqA_ss, neA_ii, neA_ss, updS_same, updS_updS, startA, List.map_cons, List.map_nil, List.cons_append, List.nil_append, List.length_cons, List.length_nil, Nat.zero_add, Nat.add_zero, Nat.reduceAdd, Nat.reduceSub, List.replicate_succ, List.replicate_zero, List.replicate,  aVar_z, aVar_s, aC, aNil, aCons, aTup, aLstV, aLst, aOp, aUn, aTru, aTst, aCmp, aChn, aChnT, aAnd, aOr, aNot, aIf, aAndV, aOrV, aNotV, aCB, aCall, aNext, aSeq, aBrk, aCnt, aRet, aRetN, aIfS, aNev,  agName, agNil, agCons, agTup, aAsg, aPar, aDrop, aCallK, aCallKn, aM, aM0, aAddS, aYes, one1, one2, wipeA, aRevT, aRevL, agSub_def, aSl, aPart, aNoPart, cutAns_rol, cutAns_lst, cutAns_tup, cutAns_str, aLstRg, aRg1, ex_some, tupleA_lst, tupleA_tup, wstA_lst,  List.set_cons_zero, List.set_cons_succ, List.set, ex_bl, ex_int, ex_str, ex_tup, ex_eq, ex_cons, ex_pair, ex_one1, ex_one_int, and_tt, truA_bl, truOk_bl, truA_int, truOk_int, truA_lst, truOk_lst, truA_tup, truOk_tup, truA_refU, truOk_refU, Bool.not_true, Bool.not_false,  addA_ii, addA_ss, addA_tt, addA_ll, intA_ii, int2A_ii, subA_ii, mulA_ii, modA_ii, fdivA_ii, powA_ii, negA_i, ltA_ii, leA_ii, gtA_ii, geA_ii, ltA_ss, leA_ss, gtA_ss, geA_ss, isA, isntA, nonA, isiA_non, isiA_bl, isiA_int, isiA_str, isiA_tup, isiA_lst, isiA_rol, lenA_str, lenA_tup, lenA_lst, lenA_rol, absA_i, toIntA_i, toIntA_b, isIntA, isiB, String.reduceBEq, List.contains_cons, List.contains_nil, Bool.or_true, Bool.true_or, Bool.or_false, Bool.false_or, Bool.and_true, Bool.true_and, Bool.and_false, Bool.false_and, Bool.not_eq_true, if_true, if_false, decide_true, decide_false, Bool.false_eq_true, eq_self, reduceCtorEq, true_and, false_and, and_false, badA, exists_false, aFld, aPut, agFld, aPutAug, aMeth, aMake, mulX_ii, mulX_si, mulX_li, strA_i, strA_s, intXA_i, intXA_b, isBA_bb, isntBA_bb, aTryV, aRaise, aCallX, aMethX, aErr, aDct0, aStar, aPar3, ex_tri, aCallKX, aIsE, Vm.rd_at updS_same]
      exact hE _ _ _ _ (hbad (.inr h) _ (sub _))
    · rw [decide_eq_false (by omega)]
      have e : k = z.length := by omega
      subst e
      exact rt_sub (sub _) (hgood v rfl)
def sp__law_pot : ASp := fun ds S Q => ∃ (ns : List Int) (k : Nat), ds = [.rol (ns.map .int), .int k] ∧ k < 1000 ∧ ∀ l t, S l = none → okP 0 t → Q (.ref l) (updS S l (potO t))
set_option maxHeartbeats 4000000 in
theorem fn__law_pot (T : Txt P w K mg C_Reader C_HouseError f_HouseError C_BadText)  : FnX P w K mg base 1 "_law_pot" st__law_pot ["script", "place"] sp__law_pot := by
  refine FnX.of T.d__law_pot fun f fd F => F.ok4 sc__law_pot (fun ds S Q h => by unfold sp__law_pot at h; first | (obtain ⟨_, rfl, _⟩ := h; rfl) | (obtain ⟨_, _, rfl, _⟩ := h; rfl) | (obtain ⟨_, _, _, rfl, _⟩ := h; rfl) | (obtain ⟨_, _, _, _, rfl, _⟩ := h; rfl) | (obtain ⟨_, _, _, _, _, rfl, _⟩ := h; rfl) | (obtain ⟨_, _, _, _, _, _, rfl, _⟩ := h; rfl) | (obtain ⟨_, _, _, _, _, _, _, rfl, _⟩ := h; rfl)) fun cdv A gd out s H E hr => ?_
  refine ⟨_, (s_cons (s_set 2 sc__law_pot.nd (e_if (t_cmp o_lt (e_var 1) (e_cb c_len T.n_len (by decide +kernel) (a_cons (e_var 0) a_nil))) (e_ix o_ix (e_var 0) (e_var 1)) (e_op o_add (e_op o_add (e_op o_mod (e_cb (c_sum rfl) T.n_sum (by decide +kernel) (a_cons (e_sl (e_var 0) o_none (o_some e_int)) a_nil)) e_int) (e_op o_mul e_int (e_var 1))) e_int)))
    (s_cons (s_set 3 sc__law_pot.nd (e_op o_mul (e_op o_mod (e_ct c_int T.n_int (by decide +kernel) (a_cons (e_cb c_abs T.n_abs (by decide +kernel) (a_cons (e_var 2) a_nil)) a_nil)) (e_op o_pow (e_op o_pow e_int e_int) e_int)) (e_ct c_int T.n_int (by decide +kernel) (a_cons (e_cmp o_ge (e_cb c_abs T.n_abs (by decide +kernel) (a_cons (e_var 2) a_nil)) (e_op o_pow e_int e_int)) a_nil))))
    (s_cons (s_set 4 sc__law_pot.nd (e_op o_mod (e_ct c_int T.n_int (by decide +kernel) (a_cons (e_var 2) a_nil)) e_int))
    (s_one (s_ret (e_lst (a_cons (e_var 3) (a_cons (e_op o_mod (e_ct c_int T.n_int (by decide +kernel) (a_cons (e_op o_add (e_op o_add (e_op o_mul (e_var 4) e_int) (e_op o_mul (e_op o_mul e_int (e_var 1)) (e_var 1))) e_int) a_nil)) e_int) (a_cons e_int a_nil))))))))), ?_⟩
  rintro _ S Q ⟨ns, k, rfl, hk, q⟩
  have big : CPowB 10 60 ∧ CPowB (10 ^ Int.toNat 60) 5 ∧ CPowB 10 18 := ⟨powS (by omega) (by omega) (by omega) (by omega), powS (by decide +kernel) (by decide +kernel) (by omega) (by omega), powS (by omega) (by omega) (by omega) (by omega)⟩
  have bigp : (0 : Int) < (10 ^ Int.toNat 60) ^ Int.toNat 5 := by decide +kernel
  have fin : ∀ (i : Int) (own : Int), 0 ≤ own → ∀ l, S l = none → RtW Q (.ref l) (updS S l (.lst [.int own, .int (i % 2305843009213693921), .int 0])) := fun i own ho l hl =>
    rt_same (q l (own, i % 2305843009213693921, 0) hl ⟨ho, Int.emod_nonneg _ (by omega), by have := Int.emod_lt_of_pos i (b := 2305843009213693921) (by omega); show i % 2305843009213693921 < 2305843009213693951; omega, Int.le_refl _, Int.le_refl _⟩)
  have owns : ∀ (x : Int) (g : Bool), 0 ≤ x % ((10 ^ Int.toNat 60) ^ Int.toNat 5) * (if g = true then 1 else 0) := fun x g => Int.mul_nonneg (Int.emod_nonneg _ (by omega)) (by cases g <;> decide)
  have bR : ∀ (x : Int) (g : Bool), CMulB x (if g = true then 1 else 0) := fun x g => mulR (by cases g <;> decide) (by cases g <;> decide)
  walk_at "rd"
  rw [List.length_map]
  by_cases hkn : k < ns.length
  · obtain ⟨y, hy, he⟩ := ixA_rol (xs := ns.map .int) (i := (k : Int)) (S := S) (by omega) (by rw [List.length_map]; omega)
    obtain ⟨i, _, rfl⟩ := List.mem_map.mp hy
    rw [decide_eq_true (by omega)]
    simp only [↓ite_bc, bc_t, bc_f, aLc_rng, aFor_rng, aLc_lst, lstA_lst, lstA_rol, aLcS_rng, eqA_ii, eqA_ss, neA_ii, neA_ss, updS_same, updS_updS, startA, List.map_cons, List.map_nil, List.cons_append, List.nil_append, List.length_cons, List.length_nil, Nat.zero_add, Nat.add_zero, Nat.reduceAdd, Nat.reduceSub, List.replicate_succ, List.replicate_zero, List.replicate,  aVar_z, aVar_s, aC, aNil, aCons, aTup, aLstV, aLst, aOp, aUn, aTru, aTst, aCmp, aChn, aChnT, aAnd, aOr, aNot, aIf, aAndV, aOrV, aNotV, aCB, aCall, aNext, aSeq, aBrk, aCnt, aRet, aRetN, aIfS, aNev,  agName, agNil, agCons, agTup, aAsg, aPar, aDrop, aCallK, aCallKn, aM, aM0, aAddS, aYes, one1, one2, wipeA, aRevT, aRevL, agSub_def, aSl, aPart, aNoPart, cutAns_rol, cutAns_lst, cutAns_tup, cutAns_str, aLstRg, aRg1, ex_some, tupleA_lst, tupleA_tup, wstA_lst,  List.set_cons_zero, List.set_cons_succ, List.set, ex_bl, ex_int, ex_str, ex_tup, ex_eq, ex_cons, ex_pair, ex_one1, ex_one_int, and_tt, truA_bl, truOk_bl, truA_int, truOk_int, truA_lst, truOk_lst, truA_tup, truOk_tup, truA_refU, truOk_refU, Bool.not_true, Bool.not_false,  addA_ii, addA_ss, addA_tt, addA_ll, intA_ii, int2A_ii, subA_ii, mulA_ii, modA_ii, fdivA_ii, powA_ii, negA_i, ltA_ii, leA_ii, gtA_ii, geA_ii, ltA_ss, leA_ss, gtA_ss, geA_ss, isA, isntA, nonA, isiA_non, isiA_bl, isiA_int, isiA_str, isiA_tup, isiA_lst, isiA_rol, lenA_str, lenA_tup, lenA_lst, lenA_rol, absA_i, toIntA_i, toIntA_b, isIntA, isiB, String.reduceBEq, List.contains_cons, List.contains_nil, Bool.or_true, Bool.true_or, Bool.or_false, Bool.false_or, Bool.and_true, Bool.true_and, Bool.and_false, Bool.false_and, Bool.not_eq_true, if_true, if_false, decide_true, decide_false, Bool.false_eq_true, eq_self, reduceCtorEq, true_and, false_and, and_false, badA, exists_false, aFld, aPut, agFld, aPutAug, aMeth, aMake, mulX_ii, mulX_si, mulX_li, strA_i, strA_s, intXA_i, intXA_b, isBA_bb, isntBA_bb, aTryV, aRaise, aCallX, aMethX, aErr, aDct0, aStar, aPar3, ex_tri, aCallKX, aIsE, he]
    refine ⟨big.1, big.2.1, bigp, big.2.2, bR _ _, by omega, mulR (by omega) (by omega), mulR (by omega) (by omega), mulR (by omega) (by omega), by omega, le_sl (by omega), ?_⟩
    exact fin _ _ (owns _ _)
  · rw [decide_eq_false (by omega)]
    obtain ⟨s, hs⟩ := sum_cut ns none (some 1)
    simp only [↓ite_bc, bc_t, bc_f, aLc_rng, aFor_rng, aLc_lst, lstA_lst, lstA_rol, aLcS_rng, eqA_ii, eqA_ss, neA_ii, neA_ss, updS_same, updS_updS, startA, List.map_cons, List.map_nil, List.cons_append, List.nil_append, List.length_cons, List.length_nil, Nat.zero_add, Nat.add_zero, Nat.reduceAdd, Nat.reduceSub, List.replicate_succ, List.replicate_zero, List.replicate,  aVar_z, aVar_s, aC, aNil, aCons, aTup, aLstV, aLst, aOp, aUn, aTru, aTst, aCmp, aChn, aChnT, aAnd, aOr, aNot, aIf, aAndV, aOrV, aNotV, aCB, aCall, aNext, aSeq, aBrk, aCnt, aRet, aRetN, aIfS, aNev,  agName, agNil, agCons, agTup, aAsg, aPar, aDrop, aCallK, aCallKn, aM, aM0, aAddS, aYes, one1, one2, wipeA, aRevT, aRevL, agSub_def, aSl, aPart, aNoPart, cutAns_rol, cutAns_lst, cutAns_tup, cutAns_str, aLstRg, aRg1, ex_some, tupleA_lst, tupleA_tup, wstA_lst,  List.set_cons_zero, List.set_cons_succ, List.set, ex_bl, ex_int, ex_str, ex_tup, ex_eq, ex_cons, ex_pair, ex_one1, ex_one_int, and_tt, truA_bl, truOk_bl, truA_int, truOk_int, truA_lst, truOk_lst, truA_tup, truOk_tup, truA_refU, truOk_refU, Bool.not_true, Bool.not_false,  addA_ii, addA_ss, addA_tt, addA_ll, intA_ii, int2A_ii, subA_ii, mulA_ii, modA_ii, fdivA_ii, powA_ii, negA_i, ltA_ii, leA_ii, gtA_ii, geA_ii, ltA_ss, leA_ss, gtA_ss, geA_ss, isA, isntA, nonA, isiA_non, isiA_bl, isiA_int, isiA_str, isiA_tup, isiA_lst, isiA_rol, lenA_str, lenA_tup, lenA_lst, lenA_rol, absA_i, toIntA_i, toIntA_b, isIntA, isiB, String.reduceBEq, List.contains_cons, List.contains_nil, Bool.or_true, Bool.true_or, Bool.or_false, Bool.false_or, Bool.and_true, Bool.true_and, Bool.and_false, Bool.false_and, Bool.not_eq_true, if_true, if_false, decide_true, decide_false, Bool.false_eq_true, eq_self, reduceCtorEq, true_and, false_and, and_false, badA, exists_false, aFld, aPut, agFld, aPutAug, aMeth, aMake, mulX_ii, mulX_si, mulX_li, strA_i, strA_s, intXA_i, intXA_b, isBA_bb, isntBA_bb, aTryV, aRaise, aCallX, aMethX, aErr, aDct0, aStar, aPar3, ex_tri, aCallKX, aIsE, hs]
    refine ⟨by omega, mulR (by omega) (by omega), big.1, big.2.1, bigp, big.2.2, bR _ _, by omega, mulR (by omega) (by omega), mulR (by omega) (by omega), mulR (by omega) (by omega), by omega, le_sl (by omega), ?_⟩
    exact fin _ _ (owns _ _)
abbrev sp__law_take : ASp := spTake
set_option maxHeartbeats 4000000 in
theorem fn__law_take (T : Txt P w K mg C_Reader C_HouseError f_HouseError C_BadText)  : FnX P w K mg base 1 "_law_take" st__law_take ["pot", "upto"] sp__law_take := by
  refine FnX.of T.d__law_take fun f fd F => F.ok4 sc__law_take (fun ds S Q h => by obtain ⟨_, _, _, _, rfl, _⟩ := h; rfl) fun cdv A gd out s H E hr => ?_
  refine ⟨_, (s_cons (s_if (t_cmp o_gt (e_ix o_ix (e_var 0) e_int) e_int) (s_cons (s_set 2 sc__law_take.nd (e_op o_mod (e_ct c_int T.n_int (by decide +kernel) (a_cons (e_ix o_ix (e_var 0) e_int) a_nil)) (e_var 1)))
    (s_cons (s_asg (e_op o_fdiv (e_ix o_ix (e_var 0) e_int) (e_var 1)) (g_sub (e_var 0) e_int))
    (s_one (s_ret (e_var 2))))) s_nil)
    (s_cons (s_asg (e_op o_add (e_ix o_ix (e_var 0) e_int) e_int) (g_sub (e_var 0) e_int))
    (s_cons (s_set 3 sc__law_take.nd (e_ix o_ix (e_lstV (a_cons e_int (a_cons e_int (a_cons e_int (a_cons e_int (a_cons e_int a_nil)))))) (e_op o_mod (e_ct c_int T.n_int (by decide +kernel) (a_cons (e_ix o_ix (e_var 0) e_int) a_nil)) e_int)))
    (s_cons (s_set 4 sc__law_take.nd (e_op o_mod (e_ct c_int T.n_int (by decide +kernel) (a_cons (e_op o_pow (e_ct c_int T.n_int (by decide +kernel) (a_cons (e_op o_add (e_op o_add (e_ix o_ix (e_var 0) e_int) (e_op o_mul (e_op o_mul e_int (e_ix o_ix (e_var 0) e_int)) (e_ix o_ix (e_var 0) e_int))) e_int) a_nil)) e_int) a_nil)) (e_var 3)))
    (s_cons (s_set 4 sc__law_take.nd (e_op o_mod (e_ct c_int T.n_int (by decide +kernel) (a_cons (e_op o_mul (e_var 4) (e_op o_add (e_op o_mod (e_ct c_int T.n_int (by decide +kernel) (a_cons (e_var 4) a_nil)) e_int) (e_op o_mul e_int (e_ix o_ix (e_var 0) e_int)))) a_nil)) e_int))
    (s_one (s_ret (e_op o_mod (e_ct c_int T.n_int (by decide +kernel) (a_cons (e_op o_fdiv (e_var 4) e_int) a_nil)) (e_var 1))))))))), ?_⟩
  rintro _ S Q ⟨p, ⟨a, b, c⟩, n, N, rfl, hn0, hn1, hp, ok, hN, q⟩
  obtain ⟨h1, h2, h3, h4, h5⟩ := ok
  have hp : S p = some (.lst [.int a, .int b, .int c]) := hp
  simp only [↓ite_bc, bc_t, bc_f, aLc_rng, aFor_rng, aLc_lst, lstA_lst, lstA_rol, aLcS_rng, eqA_ii, eqA_ss, neA_ii, neA_ss, updS_same, updS_updS, startA, List.map_cons, List.map_nil, List.cons_append, List.nil_append, List.length_cons, List.length_nil, Nat.zero_add, Nat.add_zero, Nat.reduceAdd, Nat.reduceSub, List.replicate_succ, List.replicate_zero, List.replicate,  aVar_z, aVar_s, aC, aNil, aCons, aTup, aLstV, aLst, aOp, aUn, aTru, aTst, aCmp, aChn, aChnT, aAnd, aOr, aNot, aIf, aAndV, aOrV, aNotV, aCB, aCall, aNext, aSeq, aBrk, aCnt, aRet, aRetN, aIfS, aNev,  agName, agNil, agCons, agTup, aAsg, aPar, aDrop, aCallK, aCallKn, aM, aM0, aAddS, aYes, one1, one2, wipeA, aRevT, aRevL, agSub_def, aSl, aPart, aNoPart, cutAns_rol, cutAns_lst, cutAns_tup, cutAns_str, aLstRg, aRg1, ex_some, tupleA_lst, tupleA_tup, wstA_lst,  List.set_cons_zero, List.set_cons_succ, List.set, ex_bl, ex_int, ex_str, ex_tup, ex_eq, ex_cons, ex_pair, ex_one1, ex_one_int, and_tt, truA_bl, truOk_bl, truA_int, truOk_int, truA_lst, truOk_lst, truA_tup, truOk_tup, truA_refU, truOk_refU, Bool.not_true, Bool.not_false,  addA_ii, addA_ss, addA_tt, addA_ll, intA_ii, int2A_ii, subA_ii, mulA_ii, modA_ii, fdivA_ii, powA_ii, negA_i, ltA_ii, leA_ii, gtA_ii, geA_ii, ltA_ss, leA_ss, gtA_ss, geA_ss, isA, isntA, nonA, isiA_non, isiA_bl, isiA_int, isiA_str, isiA_tup, isiA_lst, isiA_rol, lenA_str, lenA_tup, lenA_lst, lenA_rol, absA_i, toIntA_i, toIntA_b, isIntA, isiB, String.reduceBEq, List.contains_cons, List.contains_nil, Bool.or_true, Bool.true_or, Bool.or_false, Bool.false_or, Bool.and_true, Bool.true_and, Bool.and_false, Bool.false_and, Bool.not_eq_true, if_true, if_false, decide_true, decide_false, Bool.false_eq_true, eq_self, reduceCtorEq, true_and, false_and, and_false, badA, exists_false, aFld, aPut, agFld, aPutAug, aMeth, aMake, mulX_ii, mulX_si, mulX_li, strA_i, strA_s, intXA_i, intXA_b, isBA_bb, isntBA_bb, aTryV, aRaise, aCallX, aMethX, aErr, aDct0, aStar, aPar3, ex_tri, aCallKX, aIsE, ix3_0 hp, ix3_1 hp, ix3_2 hp]
  by_cases ha : 0 < a
  · rw [decide_eq_true ha]
    simp only [↓ite_bc, bc_t, bc_f, aLc_rng, aFor_rng, aLc_lst, lstA_lst, lstA_rol, aLcS_rng, eqA_ii, eqA_ss, neA_ii, neA_ss, updS_same, updS_updS, startA, List.map_cons, List.map_nil, List.cons_append, List.nil_append, List.length_cons, List.length_nil, Nat.zero_add, Nat.add_zero, Nat.reduceAdd, Nat.reduceSub, List.replicate_succ, List.replicate_zero, List.replicate,  aVar_z, aVar_s, aC, aNil, aCons, aTup, aLstV, aLst, aOp, aUn, aTru, aTst, aCmp, aChn, aChnT, aAnd, aOr, aNot, aIf, aAndV, aOrV, aNotV, aCB, aCall, aNext, aSeq, aBrk, aCnt, aRet, aRetN, aIfS, aNev,  agName, agNil, agCons, agTup, aAsg, aPar, aDrop, aCallK, aCallKn, aM, aM0, aAddS, aYes, one1, one2, wipeA, aRevT, aRevL, agSub_def, aSl, aPart, aNoPart, cutAns_rol, cutAns_lst, cutAns_tup, cutAns_str, aLstRg, aRg1, ex_some, tupleA_lst, tupleA_tup, wstA_lst,  List.set_cons_zero, List.set_cons_succ, List.set, ex_bl, ex_int, ex_str, ex_tup, ex_eq, ex_cons, ex_pair, ex_one1, ex_one_int, and_tt, truA_bl, truOk_bl, truA_int, truOk_int, truA_lst, truOk_lst, truA_tup, truOk_tup, truA_refU, truOk_refU, Bool.not_true, Bool.not_false,  addA_ii, addA_ss, addA_tt, addA_ll, intA_ii, int2A_ii, subA_ii, mulA_ii, modA_ii, fdivA_ii, powA_ii, negA_i, ltA_ii, leA_ii, gtA_ii, geA_ii, ltA_ss, leA_ss, gtA_ss, geA_ss, isA, isntA, nonA, isiA_non, isiA_bl, isiA_int, isiA_str, isiA_tup, isiA_lst, isiA_rol, lenA_str, lenA_tup, lenA_lst, lenA_rol, absA_i, toIntA_i, toIntA_b, isIntA, isiB, String.reduceBEq, List.contains_cons, List.contains_nil, Bool.or_true, Bool.true_or, Bool.or_false, Bool.false_or, Bool.and_true, Bool.true_and, Bool.and_false, Bool.false_and, Bool.not_eq_true, if_true, if_false, decide_true, decide_false, Bool.false_eq_true, eq_self, reduceCtorEq, true_and, false_and, and_false, badA, exists_false, aFld, aPut, agFld, aPutAug, aMeth, aMake, mulX_ii, mulX_si, mulX_li, strA_i, strA_s, intXA_i, intXA_b, isBA_bb, isntBA_bb, aTryV, aRaise, aCallX, aMethX, aErr, aDct0, aStar, aPar3, ex_tri, aCallKX, aIsE, ix3_0 hp]
    refine ⟨hn0, divS hn0 (by omega), SubAt3_0 hp ?_⟩
    simp only [↓ite_bc, bc_t, bc_f, aLc_rng, aFor_rng, aLc_lst, lstA_lst, lstA_rol, aLcS_rng, eqA_ii, eqA_ss, neA_ii, neA_ss, updS_same, updS_updS, startA, List.map_cons, List.map_nil, List.cons_append, List.nil_append, List.length_cons, List.length_nil, Nat.zero_add, Nat.add_zero, Nat.reduceAdd, Nat.reduceSub, List.replicate_succ, List.replicate_zero, List.replicate,  aVar_z, aVar_s, aC, aNil, aCons, aTup, aLstV, aLst, aOp, aUn, aTru, aTst, aCmp, aChn, aChnT, aAnd, aOr, aNot, aIf, aAndV, aOrV, aNotV, aCB, aCall, aNext, aSeq, aBrk, aCnt, aRet, aRetN, aIfS, aNev,  agName, agNil, agCons, agTup, aAsg, aPar, aDrop, aCallK, aCallKn, aM, aM0, aAddS, aYes, one1, one2, wipeA, aRevT, aRevL, agSub_def, aSl, aPart, aNoPart, cutAns_rol, cutAns_lst, cutAns_tup, cutAns_str, aLstRg, aRg1, ex_some, tupleA_lst, tupleA_tup, wstA_lst,  List.set_cons_zero, List.set_cons_succ, List.set, ex_bl, ex_int, ex_str, ex_tup, ex_eq, ex_cons, ex_pair, ex_one1, ex_one_int, and_tt, truA_bl, truOk_bl, truA_int, truOk_int, truA_lst, truOk_lst, truA_tup, truOk_tup, truA_refU, truOk_refU, Bool.not_true, Bool.not_false,  addA_ii, addA_ss, addA_tt, addA_ll, intA_ii, int2A_ii, subA_ii, mulA_ii, modA_ii, fdivA_ii, powA_ii, negA_i, ltA_ii, leA_ii, gtA_ii, geA_ii, ltA_ss, leA_ss, gtA_ss, geA_ss, isA, isntA, nonA, isiA_non, isiA_bl, isiA_int, isiA_str, isiA_tup, isiA_lst, isiA_rol, lenA_str, lenA_tup, lenA_lst, lenA_rol, absA_i, toIntA_i, toIntA_b, isIntA, isiB, String.reduceBEq, List.contains_cons, List.contains_nil, Bool.or_true, Bool.true_or, Bool.or_false, Bool.false_or, Bool.and_true, Bool.true_and, Bool.and_false, Bool.false_and, Bool.not_eq_true, if_true, if_false, decide_true, decide_false, Bool.false_eq_true, eq_self, reduceCtorEq, true_and, false_and, and_false, badA, exists_false, aFld, aPut, agFld, aPutAug, aMeth, aMake, mulX_ii, mulX_si, mulX_li, strA_i, strA_s, intXA_i, intXA_b, isBA_bb, isntBA_bb, aTryV, aRaise, aCallX, aMethX, aErr, aDct0, aStar, aPar3, ex_tri, aCallKX, aIsE, ]
    exact rt_same (q (a / n, b, c) (a % n) ⟨Int.ediv_nonneg h1 (by omega), h2, h3, h4, by show c ≤ ((N + 1 : Nat) : Int); have : c ≤ N := h5; omega⟩ (Int.emod_nonneg _ (by omega)) (Int.emod_lt_of_pos _ hn0))
  · rw [decide_eq_false ha]
    simp only [↓ite_bc, bc_t, bc_f, aLc_rng, aFor_rng, aLc_lst, lstA_lst, lstA_rol, aLcS_rng, eqA_ii, eqA_ss, neA_ii, neA_ss, updS_same, updS_updS, startA, List.map_cons, List.map_nil, List.cons_append, List.nil_append, List.length_cons, List.length_nil, Nat.zero_add, Nat.add_zero, Nat.reduceAdd, Nat.reduceSub, List.replicate_succ, List.replicate_zero, List.replicate,  aVar_z, aVar_s, aC, aNil, aCons, aTup, aLstV, aLst, aOp, aUn, aTru, aTst, aCmp, aChn, aChnT, aAnd, aOr, aNot, aIf, aAndV, aOrV, aNotV, aCB, aCall, aNext, aSeq, aBrk, aCnt, aRet, aRetN, aIfS, aNev,  agName, agNil, agCons, agTup, aAsg, aPar, aDrop, aCallK, aCallKn, aM, aM0, aAddS, aYes, one1, one2, wipeA, aRevT, aRevL, agSub_def, aSl, aPart, aNoPart, cutAns_rol, cutAns_lst, cutAns_tup, cutAns_str, aLstRg, aRg1, ex_some, tupleA_lst, tupleA_tup, wstA_lst,  List.set_cons_zero, List.set_cons_succ, List.set, ex_bl, ex_int, ex_str, ex_tup, ex_eq, ex_cons, ex_pair, ex_one1, ex_one_int, and_tt, truA_bl, truOk_bl, truA_int, truOk_int, truA_lst, truOk_lst, truA_tup, truOk_tup, truA_refU, truOk_refU, Bool.not_true, Bool.not_false,  addA_ii, addA_ss, addA_tt, addA_ll, intA_ii, int2A_ii, subA_ii, mulA_ii, modA_ii, fdivA_ii, powA_ii, negA_i, ltA_ii, leA_ii, gtA_ii, geA_ii, ltA_ss, leA_ss, gtA_ss, geA_ss, isA, isntA, nonA, isiA_non, isiA_bl, isiA_int, isiA_str, isiA_tup, isiA_lst, isiA_rol, lenA_str, lenA_tup, lenA_lst, lenA_rol, absA_i, toIntA_i, toIntA_b, isIntA, isiB, String.reduceBEq, List.contains_cons, List.contains_nil, Bool.or_true, Bool.true_or, Bool.or_false, Bool.false_or, Bool.and_true, Bool.true_and, Bool.and_false, Bool.false_and, Bool.not_eq_true, if_true, if_false, decide_true, decide_false, Bool.false_eq_true, eq_self, reduceCtorEq, true_and, false_and, and_false, badA, exists_false, aFld, aPut, agFld, aPutAug, aMeth, aMake, mulX_ii, mulX_si, mulX_li, strA_i, strA_s, intXA_i, intXA_b, isBA_bb, isntBA_bb, aTryV, aRaise, aCallX, aMethX, aErr, aDct0, aStar, aPar3, ex_tri, aCallKX, aIsE, ix3_2 hp]
    refine SubAt3_2 hp ?_
    obtain ⟨v, hv0, hv1, hv⟩ := prime_ix (i := (c + 1) % 5) (by omega) (by omega)
    simp only [↓ite_bc, bc_t, bc_f, aLc_rng, aFor_rng, aLc_lst, lstA_lst, lstA_rol, aLcS_rng, eqA_ii, eqA_ss, neA_ii, neA_ss, updS_same, updS_updS, startA, List.map_cons, List.map_nil, List.cons_append, List.nil_append, List.length_cons, List.length_nil, Nat.zero_add, Nat.add_zero, Nat.reduceAdd, Nat.reduceSub, List.replicate_succ, List.replicate_zero, List.replicate,  aVar_z, aVar_s, aC, aNil, aCons, aTup, aLstV, aLst, aOp, aUn, aTru, aTst, aCmp, aChn, aChnT, aAnd, aOr, aNot, aIf, aAndV, aOrV, aNotV, aCB, aCall, aNext, aSeq, aBrk, aCnt, aRet, aRetN, aIfS, aNev,  agName, agNil, agCons, agTup, aAsg, aPar, aDrop, aCallK, aCallKn, aM, aM0, aAddS, aYes, one1, one2, wipeA, aRevT, aRevL, agSub_def, aSl, aPart, aNoPart, cutAns_rol, cutAns_lst, cutAns_tup, cutAns_str, aLstRg, aRg1, ex_some, tupleA_lst, tupleA_tup, wstA_lst,  List.set_cons_zero, List.set_cons_succ, List.set, ex_bl, ex_int, ex_str, ex_tup, ex_eq, ex_cons, ex_pair, ex_one1, ex_one_int, and_tt, truA_bl, truOk_bl, truA_int, truOk_int, truA_lst, truOk_lst, truA_tup, truOk_tup, truA_refU, truOk_refU, Bool.not_true, Bool.not_false,  addA_ii, addA_ss, addA_tt, addA_ll, intA_ii, int2A_ii, subA_ii, mulA_ii, modA_ii, fdivA_ii, powA_ii, negA_i, ltA_ii, leA_ii, gtA_ii, geA_ii, ltA_ss, leA_ss, gtA_ss, geA_ss, isA, isntA, nonA, isiA_non, isiA_bl, isiA_int, isiA_str, isiA_tup, isiA_lst, isiA_rol, lenA_str, lenA_tup, lenA_lst, lenA_rol, absA_i, toIntA_i, toIntA_b, isIntA, isiB, String.reduceBEq, List.contains_cons, List.contains_nil, Bool.or_true, Bool.true_or, Bool.or_false, Bool.false_or, Bool.and_true, Bool.true_and, Bool.and_false, Bool.false_and, Bool.not_eq_true, if_true, if_false, decide_true, decide_false, Bool.false_eq_true, eq_self, reduceCtorEq, true_and, false_and, and_false, badA, exists_false, aFld, aPut, agFld, aPutAug, aMeth, aMake, mulX_ii, mulX_si, mulX_li, strA_i, strA_s, intXA_i, intXA_b, isBA_bb, isntBA_bb, aTryV, aRaise, aCallX, aMethX, aErr, aDct0, aStar, aPar3, ex_tri, aCallKX, aIsE, ixU_0, ixU_1, ixU_2, hv]
    have h4' : 0 ≤ c := h4
    have h5' : c ≤ N := h5
    obtain ⟨k1, k2⟩ := cube_okG (A := 99005) (B := 707) (b := b) (c := c + 1) (by omega) (by omega) (by omega) (by omega) h2 h3 (by omega) (by omega)
    generalize b + 99005 * (c + 1) * (c + 1) + 707 = w at k1 k2 ⊢
    have m1 : 0 ≤ w ^ Int.toNat 3 % v := Int.emod_nonneg _ (by omega)
    have m2 : w ^ Int.toNat 3 % v < v := Int.emod_lt_of_pos _ hv0
    generalize w ^ Int.toNat 3 % v = e at m1 m2 ⊢
    refine ⟨le_sl (by omega), by omega, mulL (by omega) (by omega), mulR (by omega) (by omega), powS k1 k2 (by omega) (by omega), hv0, by omega, mulL (by omega) (by omega), mulL (by omega) (by omega), by omega, divS (by omega) (by omega), hn0, ?_⟩
    exact rt_same (q (a, b, c + 1) _ ⟨h1, h2, h3, by show 0 ≤ c + 1; omega, by show c + 1 ≤ ((N + 1 : Nat) : Int); omega⟩ (Int.emod_nonneg _ (by omega)) (Int.emod_lt_of_pos _ hn0))
abbrev sp__law_of : ASp := spOne
set_option maxHeartbeats 4000000 in
theorem fn__law_of (T : Txt P w K mg C_Reader C_HouseError f_HouseError C_BadText) (F__law_take : Fn4 P w K mg base 1 "_law_take" ["pot", "upto"] sp__law_take) : FnX P w K mg base 2 "_law_of" st__law_of ["pot", "some"] sp__law_of := by
  refine FnX.of T.d__law_of fun f fd F => F.ok4 sc__law_of (fun ds S Q h => by obtain ⟨_, _, _, _, _, rfl, _⟩ := h; rfl) fun cdv A gd out s H E hr => ?_
  refine ⟨_, (s_one (s_ret (e_ix o_ix (e_var 1) (f_call F__law_take gd (hr.mono (by decide)) (a_cons (e_var 0) (a_cons (e_cb c_len T.n_len (by decide +kernel) (a_cons (e_var 1) a_nil)) a_nil)))))), ?_⟩
  rintro _ S Q ⟨p, t, x, xs, N, rfl, hx, hne, hl, hp, ok, hN, q⟩
  walk_at "rd"
  cases x with
  | str z =>
    have hx : (if z.length ≤ sizeLine then some (signsA z) else none) = some xs := hx
    split at hx
    · rename_i hz
      cases hx
      have hl0 : (signsA z).length = z.length := by unfold signsA; rw [List.length_map, Array.length_toList]; rfl
      have hz0 : 0 < (signsA z).length := List.length_pos_iff.mpr hne
      simp only [↓ite_bc, bc_t, bc_f, aLc_rng, aFor_rng, aLc_lst, lstA_lst, lstA_rol, aLcS_rng, eqA_ii, eqA_ss, neA_ii, neA_ss, updS_same, updS_updS, startA, List.map_cons, List.map_nil, List.cons_append, List.nil_append, List.length_cons, List.length_nil, Nat.zero_add, Nat.add_zero, Nat.reduceAdd, Nat.reduceSub, List.replicate_succ, List.replicate_zero, List.replicate,  aVar_z, aVar_s, aC, aNil, aCons, aTup, aLstV, aLst, aOp, aUn, aTru, aTst, aCmp, aChn, aChnT, aAnd, aOr, aNot, aIf, aAndV, aOrV, aNotV, aCB, aCall, aNext, aSeq, aBrk, aCnt, aRet, aRetN, aIfS, aNev,  agName, agNil, agCons, agTup, aAsg, aPar, aDrop, aCallK, aCallKn, aM, aM0, aAddS, aYes, one1, one2, wipeA, aRevT, aRevL, agSub_def, aSl, aPart, aNoPart, cutAns_rol, cutAns_lst, cutAns_tup, cutAns_str, aLstRg, aRg1, ex_some, tupleA_lst, tupleA_tup, wstA_lst,  List.set_cons_zero, List.set_cons_succ, List.set, ex_bl, ex_int, ex_str, ex_tup, ex_eq, ex_cons, ex_pair, ex_one1, ex_one_int, and_tt, truA_bl, truOk_bl, truA_int, truOk_int, truA_lst, truOk_lst, truA_tup, truOk_tup, truA_refU, truOk_refU, Bool.not_true, Bool.not_false,  addA_ii, addA_ss, addA_tt, addA_ll, intA_ii, int2A_ii, subA_ii, mulA_ii, modA_ii, fdivA_ii, powA_ii, negA_i, ltA_ii, leA_ii, gtA_ii, geA_ii, ltA_ss, leA_ss, gtA_ss, geA_ss, isA, isntA, nonA, isiA_non, isiA_bl, isiA_int, isiA_str, isiA_tup, isiA_lst, isiA_rol, lenA_str, lenA_tup, lenA_lst, lenA_rol, absA_i, toIntA_i, toIntA_b, isIntA, isiB, String.reduceBEq, List.contains_cons, List.contains_nil, Bool.or_true, Bool.true_or, Bool.or_false, Bool.false_or, Bool.and_true, Bool.true_and, Bool.and_false, Bool.false_and, Bool.not_eq_true, if_true, if_false, decide_true, decide_false, Bool.false_eq_true, eq_self, reduceCtorEq, true_and, false_and, and_false, badA, exists_false, aFld, aPut, agFld, aPutAug, aMeth, aMake, mulX_ii, mulX_si, mulX_li, strA_i, strA_s, intXA_i, intXA_b, isBA_bb, isntBA_bb, aTryV, aRaise, aCallX, aMethX, aErr, aDct0, aStar, aPar3, ex_tri, aCallKX, aIsE, ]
      refine ⟨hz, p, t, _, N, rfl, by omega, by omega, hp, ok, hN, fun t' r ok' h0 h1 => ?_⟩
      obtain ⟨c, hc, he⟩ := ixA_str (S := updS S p (potO t')) hz h0 h1
      rw [he]
      exact ⟨trivial, rt_same (q t' _ ok' (List.mem_map.mpr ⟨c, hc, rfl⟩))⟩
    · cases hx
  | lst ys =>
    cases hx
    have hz0 : 0 < xs.length := List.length_pos_iff.mpr hne
    simp only [↓ite_bc, bc_t, bc_f, aLc_rng, aFor_rng, aLc_lst, lstA_lst, lstA_rol, aLcS_rng, eqA_ii, eqA_ss, neA_ii, neA_ss, updS_same, updS_updS, startA, List.map_cons, List.map_nil, List.cons_append, List.nil_append, List.length_cons, List.length_nil, Nat.zero_add, Nat.add_zero, Nat.reduceAdd, Nat.reduceSub, List.replicate_succ, List.replicate_zero, List.replicate,  aVar_z, aVar_s, aC, aNil, aCons, aTup, aLstV, aLst, aOp, aUn, aTru, aTst, aCmp, aChn, aChnT, aAnd, aOr, aNot, aIf, aAndV, aOrV, aNotV, aCB, aCall, aNext, aSeq, aBrk, aCnt, aRet, aRetN, aIfS, aNev,  agName, agNil, agCons, agTup, aAsg, aPar, aDrop, aCallK, aCallKn, aM, aM0, aAddS, aYes, one1, one2, wipeA, aRevT, aRevL, agSub_def, aSl, aPart, aNoPart, cutAns_rol, cutAns_lst, cutAns_tup, cutAns_str, aLstRg, aRg1, ex_some, tupleA_lst, tupleA_tup, wstA_lst,  List.set_cons_zero, List.set_cons_succ, List.set, ex_bl, ex_int, ex_str, ex_tup, ex_eq, ex_cons, ex_pair, ex_one1, ex_one_int, and_tt, truA_bl, truOk_bl, truA_int, truOk_int, truA_lst, truOk_lst, truA_tup, truOk_tup, truA_refU, truOk_refU, Bool.not_true, Bool.not_false,  addA_ii, addA_ss, addA_tt, addA_ll, intA_ii, int2A_ii, subA_ii, mulA_ii, modA_ii, fdivA_ii, powA_ii, negA_i, ltA_ii, leA_ii, gtA_ii, geA_ii, ltA_ss, leA_ss, gtA_ss, geA_ss, isA, isntA, nonA, isiA_non, isiA_bl, isiA_int, isiA_str, isiA_tup, isiA_lst, isiA_rol, lenA_str, lenA_tup, lenA_lst, lenA_rol, absA_i, toIntA_i, toIntA_b, isIntA, isiB, String.reduceBEq, List.contains_cons, List.contains_nil, Bool.or_true, Bool.true_or, Bool.or_false, Bool.false_or, Bool.and_true, Bool.true_and, Bool.and_false, Bool.false_and, Bool.not_eq_true, if_true, if_false, decide_true, decide_false, Bool.false_eq_true, eq_self, reduceCtorEq, true_and, false_and, and_false, badA, exists_false, aFld, aPut, agFld, aPutAug, aMeth, aMake, mulX_ii, mulX_si, mulX_li, strA_i, strA_s, intXA_i, intXA_b, isBA_bb, isntBA_bb, aTryV, aRaise, aCallX, aMethX, aErr, aDct0, aStar, aPar3, ex_tri, aCallKX, aIsE, ]
    refine ⟨p, t, _, N, rfl, by omega, by omega, hp, ok, hN, fun t' r ok' h0 h1 => ?_⟩
    obtain ⟨y, hy, he⟩ := ixA_lst (S := updS S p (potO t')) h0 h1
    rw [he]
    exact ⟨trivial, rt_same (q t' _ ok' hy)⟩
  | tup ys =>
    cases hx
    have hz0 : 0 < xs.length := List.length_pos_iff.mpr hne
    simp only [↓ite_bc, bc_t, bc_f, aLc_rng, aFor_rng, aLc_lst, lstA_lst, lstA_rol, aLcS_rng, eqA_ii, eqA_ss, neA_ii, neA_ss, updS_same, updS_updS, startA, List.map_cons, List.map_nil, List.cons_append, List.nil_append, List.length_cons, List.length_nil, Nat.zero_add, Nat.add_zero, Nat.reduceAdd, Nat.reduceSub, List.replicate_succ, List.replicate_zero, List.replicate,  aVar_z, aVar_s, aC, aNil, aCons, aTup, aLstV, aLst, aOp, aUn, aTru, aTst, aCmp, aChn, aChnT, aAnd, aOr, aNot, aIf, aAndV, aOrV, aNotV, aCB, aCall, aNext, aSeq, aBrk, aCnt, aRet, aRetN, aIfS, aNev,  agName, agNil, agCons, agTup, aAsg, aPar, aDrop, aCallK, aCallKn, aM, aM0, aAddS, aYes, one1, one2, wipeA, aRevT, aRevL, agSub_def, aSl, aPart, aNoPart, cutAns_rol, cutAns_lst, cutAns_tup, cutAns_str, aLstRg, aRg1, ex_some, tupleA_lst, tupleA_tup, wstA_lst,  List.set_cons_zero, List.set_cons_succ, List.set, ex_bl, ex_int, ex_str, ex_tup, ex_eq, ex_cons, ex_pair, ex_one1, ex_one_int, and_tt, truA_bl, truOk_bl, truA_int, truOk_int, truA_lst, truOk_lst, truA_tup, truOk_tup, truA_refU, truOk_refU, Bool.not_true, Bool.not_false,  addA_ii, addA_ss, addA_tt, addA_ll, intA_ii, int2A_ii, subA_ii, mulA_ii, modA_ii, fdivA_ii, powA_ii, negA_i, ltA_ii, leA_ii, gtA_ii, geA_ii, ltA_ss, leA_ss, gtA_ss, geA_ss, isA, isntA, nonA, isiA_non, isiA_bl, isiA_int, isiA_str, isiA_tup, isiA_lst, isiA_rol, lenA_str, lenA_tup, lenA_lst, lenA_rol, absA_i, toIntA_i, toIntA_b, isIntA, isiB, String.reduceBEq, List.contains_cons, List.contains_nil, Bool.or_true, Bool.true_or, Bool.or_false, Bool.false_or, Bool.and_true, Bool.true_and, Bool.and_false, Bool.false_and, Bool.not_eq_true, if_true, if_false, decide_true, decide_false, Bool.false_eq_true, eq_self, reduceCtorEq, true_and, false_and, and_false, badA, exists_false, aFld, aPut, agFld, aPutAug, aMeth, aMake, mulX_ii, mulX_si, mulX_li, strA_i, strA_s, intXA_i, intXA_b, isBA_bb, isntBA_bb, aTryV, aRaise, aCallX, aMethX, aErr, aDct0, aStar, aPar3, ex_tri, aCallKX, aIsE, ]
    refine ⟨p, t, _, N, rfl, by omega, by omega, hp, ok, hN, fun t' r ok' h0 h1 => ?_⟩
    obtain ⟨y, hy, he⟩ := ixA_tup (S := updS S p (potO t')) h0 h1
    rw [he]
    exact ⟨trivial, rt_same (q t' _ ok' hy)⟩
  | _ => cases hx
def sp__law_of_atR : ASp := fun ds S Q => ∃ p t l xs N, ds = [.ref p, .ref l] ∧ S l = some (.lst xs) ∧ l ≠ p ∧ xs ≠ [] ∧ xs.length < 2 ^ 40 ∧ S p = some (potO t) ∧ okP N t ∧ N < 2 ^ 40 ∧ ∀ t' y, okP (N + 1) t' → y ∈ xs → Q y (updS S p (potO t'))
set_option maxHeartbeats 4000000 in
theorem fn__law_of_atR (T : Txt P w K mg C_Reader C_HouseError f_HouseError C_BadText) (F__law_take : Fn4 P w K mg base 1 "_law_take" ["pot", "upto"] sp__law_take) : FnX P w K mg base 2 "_law_of" st__law_of ["pot", "some"] sp__law_of_atR := by
  refine FnX.of T.d__law_of fun f fd F => F.ok4 sc__law_of (fun ds S Q h => by unfold sp__law_of_atR at h; first | (obtain ⟨_, rfl, _⟩ := h; rfl) | (obtain ⟨_, _, rfl, _⟩ := h; rfl) | (obtain ⟨_, _, _, rfl, _⟩ := h; rfl) | (obtain ⟨_, _, _, _, rfl, _⟩ := h; rfl) | (obtain ⟨_, _, _, _, _, rfl, _⟩ := h; rfl) | (obtain ⟨_, _, _, _, _, _, rfl, _⟩ := h; rfl) | (obtain ⟨_, _, _, _, _, _, _, rfl, _⟩ := h; rfl)) fun cdv A gd out s H E hr => ?_
  refine ⟨_, (s_one (s_ret (e_ix o_ix (e_var 1) (f_call F__law_take gd (hr.mono (by decide)) (a_cons (e_var 0) (a_cons (e_cb c_len T.n_len (by decide +kernel) (a_cons (e_var 1) a_nil)) a_nil)))))), ?_⟩
  rintro _ S Q ⟨p, t, l, xs, N, rfl, hl, ne, hne, hlen, hp, ok, hN, q⟩
  have hz0 : 0 < xs.length := List.length_pos_iff.mpr hne
  simp only [↓ite_bc, bc_t, bc_f, aLc_rng, aFor_rng, aLc_lst, lstA_lst, lstA_rol, aLcS_rng, eqA_ii, eqA_ss, neA_ii, neA_ss, updS_same, updS_updS, startA, List.map_cons, List.map_nil, List.cons_append, List.nil_append, List.length_cons, List.length_nil, Nat.zero_add, Nat.add_zero, Nat.reduceAdd, Nat.reduceSub, List.replicate_succ, List.replicate_zero, List.replicate,  aVar_z, aVar_s, aC, aNil, aCons, aTup, aLstV, aLst, aOp, aUn, aTru, aTst, aCmp, aChn, aChnT, aAnd, aOr, aNot, aIf, aAndV, aOrV, aNotV, aCB, aCall, aNext, aSeq, aBrk, aCnt, aRet, aRetN, aIfS, aNev,  agName, agNil, agCons, agTup, aAsg, aPar, aDrop, aCallK, aCallKn, aM, aM0, aAddS, aYes, one1, one2, wipeA, aRevT, aRevL, agSub_def, aSl, aPart, aNoPart, cutAns_rol, cutAns_lst, cutAns_tup, cutAns_str, aLstRg, aRg1, ex_some, tupleA_lst, tupleA_tup, wstA_lst,  List.set_cons_zero, List.set_cons_succ, List.set, ex_bl, ex_int, ex_str, ex_tup, ex_eq, ex_cons, ex_pair, ex_one1, ex_one_int, and_tt, truA_bl, truOk_bl, truA_int, truOk_int, truA_lst, truOk_lst, truA_tup, truOk_tup, truA_refU, truOk_refU, Bool.not_true, Bool.not_false,  addA_ii, addA_ss, addA_tt, addA_ll, intA_ii, int2A_ii, subA_ii, mulA_ii, modA_ii, fdivA_ii, powA_ii, negA_i, ltA_ii, leA_ii, gtA_ii, geA_ii, ltA_ss, leA_ss, gtA_ss, geA_ss, isA, isntA, nonA, isiA_non, isiA_bl, isiA_int, isiA_str, isiA_tup, isiA_lst, isiA_rol, lenA_str, lenA_tup, lenA_lst, lenA_rol, absA_i, toIntA_i, toIntA_b, isIntA, isiB, String.reduceBEq, List.contains_cons, List.contains_nil, Bool.or_true, Bool.true_or, Bool.or_false, Bool.false_or, Bool.and_true, Bool.true_and, Bool.and_false, Bool.false_and, Bool.not_eq_true, if_true, if_false, decide_true, decide_false, Bool.false_eq_true, eq_self, reduceCtorEq, true_and, false_and, and_false, badA, exists_false, aFld, aPut, agFld, aPutAug, aMeth, aMake, mulX_ii, mulX_si, mulX_li, strA_i, strA_s, intXA_i, intXA_b, isBA_bb, isntBA_bb, aTryV, aRaise, aCallX, aMethX, aErr, aDct0, aStar, aPar3, ex_tri, aCallKX, aIsE, lenA_ref hl]
  refine ⟨p, t, _, N, rfl, by omega, by omega, hp, ok, hN, fun t' r ok' h0 h1 => ?_⟩
  have hl2 : updS S p (potO t') l = some (.lst xs) := (updS_ne ne).trans hl
  obtain ⟨y, hy, he⟩ := Vm.ixA_ref (S := updS S p (potO t')) hl2 h0 h1
  dsimp only
  rw [he]
  exact ⟨trivial, rt_same (q t' _ ok' hy)⟩
def sp__law_cells : ASp := fun ds S Q => ∃ (ns : List Int) (m : Nat), ds = [.rol (ns.map .int), .int m] ∧ 0 < m ∧ m < 1000 ∧ ns.length ≤ 63 ∧ ∀ n : Nat, 0 < n → n ≤ m → Q (.lst (rngA 0 n)) S
set_option maxHeartbeats 4000000 in
theorem fn__law_cells (T : Txt P w K mg C_Reader C_HouseError f_HouseError C_BadText)  : FnX P w K mg base 1 "_law_cells" st__law_cells ["script", "most"] sp__law_cells := by
  refine FnX.of T.d__law_cells fun f fd F => F.ok4 sc__law_cells (fun ds S Q h => by unfold sp__law_cells at h; first | (obtain ⟨_, rfl, _⟩ := h; rfl) | (obtain ⟨_, _, rfl, _⟩ := h; rfl) | (obtain ⟨_, _, _, rfl, _⟩ := h; rfl) | (obtain ⟨_, _, _, _, rfl, _⟩ := h; rfl) | (obtain ⟨_, _, _, _, _, rfl, _⟩ := h; rfl) | (obtain ⟨_, _, _, _, _, _, rfl, _⟩ := h; rfl) | (obtain ⟨_, _, _, _, _, _, _, rfl, _⟩ := h; rfl)) fun cdv A gd out s H E hr => ?_
  refine ⟨_, (s_one (s_ret (e_lstRg1 rfl T.n_list T.n_range (e_cb (c_max2 rfl) T.n_max (by decide +kernel) (a_cons e_int (a_cons (e_cb (c_min2 rfl) T.n_min (by decide +kernel) (a_cons (e_var 1) (a_cons (e_cb c_len T.n_len (by decide +kernel) (a_cons (e_var 0) a_nil)) a_nil))) a_nil)))))), ?_⟩
  rintro _ S Q ⟨ns, m, rfl, hm, hm2, hl, q⟩
  walk_at "rd"
  rw [List.length_map]
  have e : ∃ n : Nat, 0 < n ∧ n ≤ m ∧ (if (if (ns.length : Int) < (m : Int) then (ns.length : Int) else (m : Int)) > 1 then (if (ns.length : Int) < (m : Int) then (ns.length : Int) else (m : Int)) else 1) = (n : Int) := by
    by_cases h1 : (ns.length : Int) < m
    · rw [if_pos h1]
      by_cases h2 : (ns.length : Int) > 1
      · exact ⟨ns.length, by omega, by omega, by rw [if_pos h2]⟩
      · exact ⟨1, by omega, by omega, by rw [if_neg h2]; rfl⟩
    · rw [if_neg h1]
      by_cases h2 : (m : Int) > 1
      · exact ⟨m, by omega, by omega, by rw [if_pos h2]⟩
      · exact ⟨1, by omega, by omega, by rw [if_neg h2]; rfl⟩
  obtain ⟨n, hn0, hn1, he⟩ := e
  rw [he]
  have e2 : ((n : Int) - 0).toNat = n := by omega
  rw [e2]
  exact ⟨by unfold RgOk; omega, rt_same (q n hn0 hn1)⟩
def sp__law_string : ASp := fun ds S Q => ∃ (p : Addr) (t : Pt) (m N : Nat), ds = [.ref p, .int m] ∧ m ≤ 100 ∧ S p = some (potO t) ∧ okP N t ∧ N < 2 ^ 30 ∧ ∀ t' z, okP (N + m + 3) t' → z.length ≤ m → (∀ c ∈ z.cps.toList, Vm.chB c = true) → Q (.str z) (updS S p (potO t'))
set_option maxHeartbeats 4000000 in
theorem fn__law_string (T : Txt P w K mg C_Reader C_HouseError f_HouseError C_BadText) (F__law_take : Fn4 P w K mg base 1 "_law_take" ["pot", "upto"] sp__law_take) (F__law_of : Fn4 P w K mg base 2 "_law_of" ["pot", "some"] sp__law_of) : FnX P w K mg base 3 "_law_string" st__law_string ["pot", "most"] sp__law_string := by
  refine FnX.of T.d__law_string fun f fd F => F.ok4 sc__law_string (fun ds S Q h => by unfold sp__law_string at h; first | (obtain ⟨_, rfl, _⟩ := h; rfl) | (obtain ⟨_, _, rfl, _⟩ := h; rfl) | (obtain ⟨_, _, _, rfl, _⟩ := h; rfl) | (obtain ⟨_, _, _, _, rfl, _⟩ := h; rfl) | (obtain ⟨_, _, _, _, _, rfl, _⟩ := h; rfl) | (obtain ⟨_, _, _, _, _, _, rfl, _⟩ := h; rfl) | (obtain ⟨_, _, _, _, _, _, _, rfl, _⟩ := h; rfl)) fun cdv A gd out s H E hr => ?_
  refine ⟨_, (s_cons (s_set 2 sc__law_string.nd e_str)
    (s_one (s_ret (e_bm PySem.F.plainAttrs_str PySem.F.slot_str_join PySem.F.type_str_join m_join e_str (a_cons (e_lc 3 [("lap", 3)] rfl sc__law_string.nd (i_rng1 T.n_range (a_cons (f_call F__law_take gd (hr.mono (by decide)) (a_cons (e_var 0) (a_cons (e_op o_add (e_var 1) e_int) a_nil))) a_nil)) (blkOk_by (N := nm__law_string) (sc := defScope st__law_string) (by decide +kernel)) (fun _ _ _ _ _ => pg_name sc__law_string.nd rfl (Or.inl rfl)) (fun _ _ _ _ _ => ts_nil) (fun _ _ _ _ _ => (f_call F__law_of gd (hr.mono (by decide)) (a_cons (e_var 0) (a_cons (e_var 2) a_nil))))) a_nil))))), ?_⟩
  rintro _ S Q ⟨p, t, m, N, rfl, hm, hp, ok, hN, q⟩
  walk_at "rd"
  refine ⟨rfl, take_of (by omega) (by omega) hp ok (by omega) fun t1 r ok1 r0 r1 => ?_⟩
  simp only [↓ite_bc, bc_t, bc_f, aLc_rng, aFor_rng, aLc_lst, lstA_lst, lstA_rol, aLcS_rng, eqA_ii, eqA_ss, neA_ii, neA_ss, updS_same, updS_updS, startA, List.map_cons, List.map_nil, List.cons_append, List.nil_append, List.length_cons, List.length_nil, Nat.zero_add, Nat.add_zero, Nat.reduceAdd, Nat.reduceSub, List.replicate_succ, List.replicate_zero, List.replicate,  aVar_z, aVar_s, aC, aNil, aCons, aTup, aLstV, aLst, aOp, aUn, aTru, aTst, aCmp, aChn, aChnT, aAnd, aOr, aNot, aIf, aAndV, aOrV, aNotV, aCB, aCall, aNext, aSeq, aBrk, aCnt, aRet, aRetN, aIfS, aNev,  agName, agNil, agCons, agTup, aAsg, aPar, aDrop, aCallK, aCallKn, aM, aM0, aAddS, aYes, one1, one2, wipeA, aRevT, aRevL, agSub_def, aSl, aPart, aNoPart, cutAns_rol, cutAns_lst, cutAns_tup, cutAns_str, aLstRg, aRg1, ex_some, tupleA_lst, tupleA_tup, wstA_lst,  List.set_cons_zero, List.set_cons_succ, List.set, ex_bl, ex_int, ex_str, ex_tup, ex_eq, ex_cons, ex_pair, ex_one1, ex_one_int, and_tt, truA_bl, truOk_bl, truA_int, truOk_int, truA_lst, truOk_lst, truA_tup, truOk_tup, truA_refU, truOk_refU, Bool.not_true, Bool.not_false,  addA_ii, addA_ss, addA_tt, addA_ll, intA_ii, int2A_ii, subA_ii, mulA_ii, modA_ii, fdivA_ii, powA_ii, negA_i, ltA_ii, leA_ii, gtA_ii, geA_ii, ltA_ss, leA_ss, gtA_ss, geA_ss, isA, isntA, nonA, isiA_non, isiA_bl, isiA_int, isiA_str, isiA_tup, isiA_lst, isiA_rol, lenA_str, lenA_tup, lenA_lst, lenA_rol, absA_i, toIntA_i, toIntA_b, isIntA, isiB, String.reduceBEq, List.contains_cons, List.contains_nil, Bool.or_true, Bool.true_or, Bool.or_false, Bool.false_or, Bool.and_true, Bool.true_and, Bool.and_false, Bool.false_and, Bool.not_eq_true, if_true, if_false, decide_true, decide_false, Bool.false_eq_true, eq_self, reduceCtorEq, true_and, false_and, and_false, badA, exists_false, aFld, aPut, agFld, aPutAug, aMeth, aMake, mulX_ii, mulX_si, mulX_li, strA_i, strA_s, intXA_i, intXA_b, isBA_bb, isntBA_bb, aTryV, aRaise, aCallX, aMethX, aErr, aDct0, aStar, aPar3, ex_tri, aCallKX, aIsE, ]
  refine ⟨by omega, by omega, ?_⟩
  refine lc_pot potO (fun k pt => okP (N + 1 + k) pt) updS_same ok1 Sgn (by rw [rngA_len]; exact le_sl (by omega)) (fun k x pt' Sx Qe hx hk hI hp' h => ?_) (fun acc pt' hl ha hI => ?_)
  · simp only [↓ite_bc, bc_t, bc_f, aLc_rng, aFor_rng, aLc_lst, lstA_lst, lstA_rol, aLcS_rng, eqA_ii, eqA_ss, neA_ii, neA_ss, updS_same, updS_updS, startA, List.map_cons, List.map_nil, List.cons_append, List.nil_append, List.length_cons, List.length_nil, Nat.zero_add, Nat.add_zero, Nat.reduceAdd, Nat.reduceSub, List.replicate_succ, List.replicate_zero, List.replicate,  aVar_z, aVar_s, aC, aNil, aCons, aTup, aLstV, aLst, aOp, aUn, aTru, aTst, aCmp, aChn, aChnT, aAnd, aOr, aNot, aIf, aAndV, aOrV, aNotV, aCB, aCall, aNext, aSeq, aBrk, aCnt, aRet, aRetN, aIfS, aNev,  agName, agNil, agCons, agTup, aAsg, aPar, aDrop, aCallK, aCallKn, aM, aM0, aAddS, aYes, one1, one2, wipeA, aRevT, aRevL, agSub_def, aSl, aPart, aNoPart, cutAns_rol, cutAns_lst, cutAns_tup, cutAns_str, aLstRg, aRg1, ex_some, tupleA_lst, tupleA_tup, wstA_lst,  List.set_cons_zero, List.set_cons_succ, List.set, ex_bl, ex_int, ex_str, ex_tup, ex_eq, ex_cons, ex_pair, ex_one1, ex_one_int, and_tt, truA_bl, truOk_bl, truA_int, truOk_int, truA_lst, truOk_lst, truA_tup, truOk_tup, truA_refU, truOk_refU, Bool.not_true, Bool.not_false,  addA_ii, addA_ss, addA_tt, addA_ll, intA_ii, int2A_ii, subA_ii, mulA_ii, modA_ii, fdivA_ii, powA_ii, negA_i, ltA_ii, leA_ii, gtA_ii, geA_ii, ltA_ss, leA_ss, gtA_ss, geA_ss, isA, isntA, nonA, isiA_non, isiA_bl, isiA_int, isiA_str, isiA_tup, isiA_lst, isiA_rol, lenA_str, lenA_tup, lenA_lst, lenA_rol, absA_i, toIntA_i, toIntA_b, isIntA, isiB, String.reduceBEq, List.contains_cons, List.contains_nil, Bool.or_true, Bool.true_or, Bool.or_false, Bool.false_or, Bool.and_true, Bool.true_and, Bool.and_false, Bool.false_and, Bool.not_eq_true, if_true, if_false, decide_true, decide_false, Bool.false_eq_true, eq_self, reduceCtorEq, true_and, false_and, and_false, badA, exists_false, aFld, aPut, agFld, aPutAug, aMeth, aMake, mulX_ii, mulX_si, mulX_li, strA_i, strA_s, intXA_i, intXA_b, isBA_bb, isntBA_bb, aTryV, aRaise, aCallX, aMethX, aErr, aDct0, aStar, aPar3, ex_tri, aCallKX, aIsE, ]
    rw [rngA_len] at hk
    have w3 : ("abcxyz 019._-/():;\n'\"\\~," : Str).cps.toList.all Vm.chB = true := by decide +kernel
    exact one_str (by decide +kernel) (by decide +kernel) hp' hI (by omega) fun t' c ok' hc => h _ _ ⟨c, rfl, List.all_eq_true.mp w3 c hc⟩ ok'
  · rw [rngA_len] at hl hI
    refine sgn_join ha (by omega) fun z hz hc => ?_
    rw [updS_updS]
    exact rt_same (q pt' _ (hI.up (by omega)) (by omega) hc)
def sp__law_plain_value : ASp := fun ds S Q => ∃ (p : Addr) (t : Pt) (N : Nat), ds = [.ref p] ∧ S p = some (potO t) ∧ okP N t ∧ N < 2 ^ 29 ∧ ∀ t' d, okP (N + 20) t' → Vm.isVal d 0 = true → Vm.cnt d ≤ 910 → Q d (updS S p (potO t'))
set_option maxHeartbeats 4000000 in
theorem fn__law_plain_value (T : Txt P w K mg C_Reader C_HouseError f_HouseError C_BadText) (F__law_take : Fn4 P w K mg base 1 "_law_take" ["pot", "upto"] sp__law_take) (F__law_of : Fn4 P w K mg base 2 "_law_of" ["pot", "some"] sp__law_of) (F__law_string : Fn4 P w K mg base 3 "_law_string" ["pot", "most"] sp__law_string) : FnX P w K mg base 4 "_law_plain_value" st__law_plain_value ["pot"] sp__law_plain_value := by
  refine FnX.of T.d__law_plain_value fun f fd F => F.ok4 sc__law_plain_value (fun ds S Q h => by unfold sp__law_plain_value at h; first | (obtain ⟨_, rfl, _⟩ := h; rfl) | (obtain ⟨_, _, rfl, _⟩ := h; rfl) | (obtain ⟨_, _, _, rfl, _⟩ := h; rfl) | (obtain ⟨_, _, _, _, rfl, _⟩ := h; rfl) | (obtain ⟨_, _, _, _, _, rfl, _⟩ := h; rfl) | (obtain ⟨_, _, _, _, _, _, rfl, _⟩ := h; rfl) | (obtain ⟨_, _, _, _, _, _, _, rfl, _⟩ := h; rfl)) fun cdv A gd out s H E hr => ?_
  refine ⟨_, (s_cons (s_set 1 sc__law_plain_value.nd (f_call F__law_take gd (hr.mono (by decide)) (a_cons (e_var 0) (a_cons e_int a_nil))))
    (s_cons (s_if (t_cmp (o_eq hr.units) (e_var 1) e_int) (s_one (s_ret e_non)) s_nil)
    (s_cons (s_if (t_cmp o_lt (e_var 1) e_int) (s_one (s_ret (e_ct c_int T.n_int (by decide +kernel) (a_cons (f_call F__law_of gd (hr.mono (by decide)) (a_cons (e_var 0) (a_cons (e_lstV (a_cons e_int (a_cons e_int (a_cons (e_un o_neg e_int) (a_cons e_int (a_cons e_int (a_cons (e_un o_neg e_int) (a_cons (e_op o_pow e_int e_int) (a_cons (e_un o_neg (e_op o_pow e_int e_int)) (a_cons (e_op o_add e_int (f_call F__law_take gd (hr.mono (by decide)) (a_cons (e_var 0) (a_cons e_int a_nil)))) a_nil)))))))))) a_nil))) a_nil)))) s_nil)
    (s_one (s_ret (f_call F__law_of gd (hr.mono (by decide)) (a_cons (e_var 0) (a_cons (e_lstV (a_cons e_str (a_cons e_str (a_cons e_str (a_cons e_str (a_cons e_str (a_cons e_str (a_cons e_str (a_cons (f_call F__law_string gd (hr.mono (by decide)) (a_cons (e_var 0) (a_cons e_int a_nil))) a_nil))))))))) a_nil)))))))), ?_⟩
  rintro _ S Q ⟨p, t, N, rfl, hp, ok, hN, q⟩
  have e18 : (10 : Int) ^ Int.toNat 18 = 1000000000000000000 := by decide +kernel
  have pw : CPowB 10 18 := powS (by omega) (by omega) (by omega) (by omega)
  walk_at "rd"
  refine take_of (by omega) (by omega) hp ok (by omega) fun t1 r ok1 r0 r1 => ?_
  simp only [↓ite_bc, bc_t, bc_f, aLc_rng, aFor_rng, aLc_lst, lstA_lst, lstA_rol, aLcS_rng, eqA_ii, eqA_ss, neA_ii, neA_ss, updS_same, updS_updS, startA, List.map_cons, List.map_nil, List.cons_append, List.nil_append, List.length_cons, List.length_nil, Nat.zero_add, Nat.add_zero, Nat.reduceAdd, Nat.reduceSub, List.replicate_succ, List.replicate_zero, List.replicate,  aVar_z, aVar_s, aC, aNil, aCons, aTup, aLstV, aLst, aOp, aUn, aTru, aTst, aCmp, aChn, aChnT, aAnd, aOr, aNot, aIf, aAndV, aOrV, aNotV, aCB, aCall, aNext, aSeq, aBrk, aCnt, aRet, aRetN, aIfS, aNev,  agName, agNil, agCons, agTup, aAsg, aPar, aDrop, aCallK, aCallKn, aM, aM0, aAddS, aYes, one1, one2, wipeA, aRevT, aRevL, agSub_def, aSl, aPart, aNoPart, cutAns_rol, cutAns_lst, cutAns_tup, cutAns_str, aLstRg, aRg1, ex_some, tupleA_lst, tupleA_tup, wstA_lst,  List.set_cons_zero, List.set_cons_succ, List.set, ex_bl, ex_int, ex_str, ex_tup, ex_eq, ex_cons, ex_pair, ex_one1, ex_one_int, and_tt, truA_bl, truOk_bl, truA_int, truOk_int, truA_lst, truOk_lst, truA_tup, truOk_tup, truA_refU, truOk_refU, Bool.not_true, Bool.not_false,  addA_ii, addA_ss, addA_tt, addA_ll, intA_ii, int2A_ii, subA_ii, mulA_ii, modA_ii, fdivA_ii, powA_ii, negA_i, ltA_ii, leA_ii, gtA_ii, geA_ii, ltA_ss, leA_ss, gtA_ss, geA_ss, isA, isntA, nonA, isiA_non, isiA_bl, isiA_int, isiA_str, isiA_tup, isiA_lst, isiA_rol, lenA_str, lenA_tup, lenA_lst, lenA_rol, absA_i, toIntA_i, toIntA_b, isIntA, isiB, String.reduceBEq, List.contains_cons, List.contains_nil, Bool.or_true, Bool.true_or, Bool.or_false, Bool.false_or, Bool.and_true, Bool.true_and, Bool.and_false, Bool.false_and, Bool.not_eq_true, if_true, if_false, decide_true, decide_false, Bool.false_eq_true, eq_self, reduceCtorEq, true_and, false_and, and_false, badA, exists_false, aFld, aPut, agFld, aPutAug, aMeth, aMake, mulX_ii, mulX_si, mulX_li, strA_i, strA_s, intXA_i, intXA_b, isBA_bb, isntBA_bb, aTryV, aRaise, aCallX, aMethX, aErr, aDct0, aStar, aPar3, ex_tri, aCallKX, aIsE, ]
  cases h0 : decide (r = 0)
  · cases h3 : decide (r < 3)
    · simp only [↓ite_bc, bc_t, bc_f, aLc_rng, aFor_rng, aLc_lst, lstA_lst, lstA_rol, aLcS_rng, eqA_ii, eqA_ss, neA_ii, neA_ss, updS_same, updS_updS, startA, List.map_cons, List.map_nil, List.cons_append, List.nil_append, List.length_cons, List.length_nil, Nat.zero_add, Nat.add_zero, Nat.reduceAdd, Nat.reduceSub, List.replicate_succ, List.replicate_zero, List.replicate,  aVar_z, aVar_s, aC, aNil, aCons, aTup, aLstV, aLst, aOp, aUn, aTru, aTst, aCmp, aChn, aChnT, aAnd, aOr, aNot, aIf, aAndV, aOrV, aNotV, aCB, aCall, aNext, aSeq, aBrk, aCnt, aRet, aRetN, aIfS, aNev,  agName, agNil, agCons, agTup, aAsg, aPar, aDrop, aCallK, aCallKn, aM, aM0, aAddS, aYes, one1, one2, wipeA, aRevT, aRevL, agSub_def, aSl, aPart, aNoPart, cutAns_rol, cutAns_lst, cutAns_tup, cutAns_str, aLstRg, aRg1, ex_some, tupleA_lst, tupleA_tup, wstA_lst,  List.set_cons_zero, List.set_cons_succ, List.set, ex_bl, ex_int, ex_str, ex_tup, ex_eq, ex_cons, ex_pair, ex_one1, ex_one_int, and_tt, truA_bl, truOk_bl, truA_int, truOk_int, truA_lst, truOk_lst, truA_tup, truOk_tup, truA_refU, truOk_refU, Bool.not_true, Bool.not_false,  addA_ii, addA_ss, addA_tt, addA_ll, intA_ii, int2A_ii, subA_ii, mulA_ii, modA_ii, fdivA_ii, powA_ii, negA_i, ltA_ii, leA_ii, gtA_ii, geA_ii, ltA_ss, leA_ss, gtA_ss, geA_ss, isA, isntA, nonA, isiA_non, isiA_bl, isiA_int, isiA_str, isiA_tup, isiA_lst, isiA_rol, lenA_str, lenA_tup, lenA_lst, lenA_rol, absA_i, toIntA_i, toIntA_b, isIntA, isiB, String.reduceBEq, List.contains_cons, List.contains_nil, Bool.or_true, Bool.true_or, Bool.or_false, Bool.false_or, Bool.and_true, Bool.true_and, Bool.and_false, Bool.false_and, Bool.not_eq_true, if_true, if_false, decide_true, decide_false, Bool.false_eq_true, eq_self, reduceCtorEq, true_and, false_and, and_false, badA, exists_false, aFld, aPut, agFld, aPutAug, aMeth, aMake, mulX_ii, mulX_si, mulX_li, strA_i, strA_s, intXA_i, intXA_b, isBA_bb, isntBA_bb, aTryV, aRaise, aCallX, aMethX, aErr, aDct0, aStar, aPar3, ex_tri, aCallKX, aIsE, ]
      refine ⟨p, t1, 9, N + 1, rfl, by omega, updS_same, ok1, by omega, fun t2 z ok2 hz hc => ?_⟩
      refine ⟨le_sl (by omega), one_lst (show 0 < 8 by omega) (show 8 < 2 ^ 40 by omega) updS_same ok2 (by omega) fun t3 y ok3 hy => ?_⟩
      rw [updS_updS, updS_updS]
      have h : Vm.isVal y 0 = true ∧ Vm.cnt y ≤ 910 := by
        simp only [List.mem_cons, List.not_mem_nil, or_false] at hy
        rcases hy with rfl | rfl | rfl | rfl | rfl | rfl | rfl | rfl
        · exact ⟨by decide +kernel, by decide +kernel⟩
        · exact ⟨by decide +kernel, by decide +kernel⟩
        · exact ⟨by decide +kernel, by decide +kernel⟩
        · exact ⟨by decide +kernel, by decide +kernel⟩
        · exact ⟨by decide +kernel, by decide +kernel⟩
        · exact ⟨by decide +kernel, by decide +kernel⟩
        · exact ⟨by decide +kernel, by decide +kernel⟩
        · have hz2 : z.length ≤ 909 := by omega
          exact sgn_val hz2 (by omega) hc
      exact rt_same (q t3 y (ok3.up (by omega)) h.1 h.2)
    · simp only [↓ite_bc, bc_t, bc_f, aLc_rng, aFor_rng, aLc_lst, lstA_lst, lstA_rol, aLcS_rng, eqA_ii, eqA_ss, neA_ii, neA_ss, updS_same, updS_updS, startA, List.map_cons, List.map_nil, List.cons_append, List.nil_append, List.length_cons, List.length_nil, Nat.zero_add, Nat.add_zero, Nat.reduceAdd, Nat.reduceSub, List.replicate_succ, List.replicate_zero, List.replicate,  aVar_z, aVar_s, aC, aNil, aCons, aTup, aLstV, aLst, aOp, aUn, aTru, aTst, aCmp, aChn, aChnT, aAnd, aOr, aNot, aIf, aAndV, aOrV, aNotV, aCB, aCall, aNext, aSeq, aBrk, aCnt, aRet, aRetN, aIfS, aNev,  agName, agNil, agCons, agTup, aAsg, aPar, aDrop, aCallK, aCallKn, aM, aM0, aAddS, aYes, one1, one2, wipeA, aRevT, aRevL, agSub_def, aSl, aPart, aNoPart, cutAns_rol, cutAns_lst, cutAns_tup, cutAns_str, aLstRg, aRg1, ex_some, tupleA_lst, tupleA_tup, wstA_lst,  List.set_cons_zero, List.set_cons_succ, List.set, ex_bl, ex_int, ex_str, ex_tup, ex_eq, ex_cons, ex_pair, ex_one1, ex_one_int, and_tt, truA_bl, truOk_bl, truA_int, truOk_int, truA_lst, truOk_lst, truA_tup, truOk_tup, truA_refU, truOk_refU, Bool.not_true, Bool.not_false,  addA_ii, addA_ss, addA_tt, addA_ll, intA_ii, int2A_ii, subA_ii, mulA_ii, modA_ii, fdivA_ii, powA_ii, negA_i, ltA_ii, leA_ii, gtA_ii, geA_ii, ltA_ss, leA_ss, gtA_ss, geA_ss, isA, isntA, nonA, isiA_non, isiA_bl, isiA_int, isiA_str, isiA_tup, isiA_lst, isiA_rol, lenA_str, lenA_tup, lenA_lst, lenA_rol, absA_i, toIntA_i, toIntA_b, isIntA, isiB, String.reduceBEq, List.contains_cons, List.contains_nil, Bool.or_true, Bool.true_or, Bool.or_false, Bool.false_or, Bool.and_true, Bool.true_and, Bool.and_false, Bool.false_and, Bool.not_eq_true, if_true, if_false, decide_true, decide_false, Bool.false_eq_true, eq_self, reduceCtorEq, true_and, false_and, and_false, badA, exists_false, aFld, aPut, agFld, aPutAug, aMeth, aMake, mulX_ii, mulX_si, mulX_li, strA_i, strA_s, intXA_i, intXA_b, isBA_bb, isntBA_bb, aTryV, aRaise, aCallX, aMethX, aErr, aDct0, aStar, aPar3, ex_tri, aCallKX, aIsE, ]
      rw [e18]
      refine ⟨pw, pw, take_of (by omega) (by omega) updS_same ok1 (by omega) fun t2 r2 ok2 a0 a1 => ?_⟩
      simp only [↓ite_bc, bc_t, bc_f, aLc_rng, aFor_rng, aLc_lst, lstA_lst, lstA_rol, aLcS_rng, eqA_ii, eqA_ss, neA_ii, neA_ss, updS_same, updS_updS, startA, List.map_cons, List.map_nil, List.cons_append, List.nil_append, List.length_cons, List.length_nil, Nat.zero_add, Nat.add_zero, Nat.reduceAdd, Nat.reduceSub, List.replicate_succ, List.replicate_zero, List.replicate,  aVar_z, aVar_s, aC, aNil, aCons, aTup, aLstV, aLst, aOp, aUn, aTru, aTst, aCmp, aChn, aChnT, aAnd, aOr, aNot, aIf, aAndV, aOrV, aNotV, aCB, aCall, aNext, aSeq, aBrk, aCnt, aRet, aRetN, aIfS, aNev,  agName, agNil, agCons, agTup, aAsg, aPar, aDrop, aCallK, aCallKn, aM, aM0, aAddS, aYes, one1, one2, wipeA, aRevT, aRevL, agSub_def, aSl, aPart, aNoPart, cutAns_rol, cutAns_lst, cutAns_tup, cutAns_str, aLstRg, aRg1, ex_some, tupleA_lst, tupleA_tup, wstA_lst,  List.set_cons_zero, List.set_cons_succ, List.set, ex_bl, ex_int, ex_str, ex_tup, ex_eq, ex_cons, ex_pair, ex_one1, ex_one_int, and_tt, truA_bl, truOk_bl, truA_int, truOk_int, truA_lst, truOk_lst, truA_tup, truOk_tup, truA_refU, truOk_refU, Bool.not_true, Bool.not_false,  addA_ii, addA_ss, addA_tt, addA_ll, intA_ii, int2A_ii, subA_ii, mulA_ii, modA_ii, fdivA_ii, powA_ii, negA_i, ltA_ii, leA_ii, gtA_ii, geA_ii, ltA_ss, leA_ss, gtA_ss, geA_ss, isA, isntA, nonA, isiA_non, isiA_bl, isiA_int, isiA_str, isiA_tup, isiA_lst, isiA_rol, lenA_str, lenA_tup, lenA_lst, lenA_rol, absA_i, toIntA_i, toIntA_b, isIntA, isiB, String.reduceBEq, List.contains_cons, List.contains_nil, Bool.or_true, Bool.true_or, Bool.or_false, Bool.false_or, Bool.and_true, Bool.true_and, Bool.and_false, Bool.false_and, Bool.not_eq_true, if_true, if_false, decide_true, decide_false, Bool.false_eq_true, eq_self, reduceCtorEq, true_and, false_and, and_false, badA, exists_false, aFld, aPut, agFld, aPutAug, aMeth, aMake, mulX_ii, mulX_si, mulX_li, strA_i, strA_s, intXA_i, intXA_b, isBA_bb, isntBA_bb, aTryV, aRaise, aCallX, aMethX, aErr, aDct0, aStar, aPar3, ex_tri, aCallKX, aIsE, ]
      refine ⟨le_sl (by omega), one_lst (show 0 < 9 by omega) (show 9 < 2 ^ 40 by omega) updS_same ok2 (by omega) fun t3 y ok3 hy => ?_⟩
      obtain ⟨i, rfl, i0, i1⟩ : ∃ i : Int, y = .int i ∧ -1000000000000000000 ≤ i ∧ i ≤ 1000000000000000000 := by
        simp only [List.mem_cons, List.not_mem_nil, or_false] at hy
        rcases hy with rfl | rfl | rfl | rfl | rfl | rfl | rfl | rfl | rfl <;> exact ⟨_, rfl, by omega, by omega⟩
      simp only [↓ite_bc, bc_t, bc_f, aLc_rng, aFor_rng, aLc_lst, lstA_lst, lstA_rol, aLcS_rng, eqA_ii, eqA_ss, neA_ii, neA_ss, updS_same, updS_updS, startA, List.map_cons, List.map_nil, List.cons_append, List.nil_append, List.length_cons, List.length_nil, Nat.zero_add, Nat.add_zero, Nat.reduceAdd, Nat.reduceSub, List.replicate_succ, List.replicate_zero, List.replicate,  aVar_z, aVar_s, aC, aNil, aCons, aTup, aLstV, aLst, aOp, aUn, aTru, aTst, aCmp, aChn, aChnT, aAnd, aOr, aNot, aIf, aAndV, aOrV, aNotV, aCB, aCall, aNext, aSeq, aBrk, aCnt, aRet, aRetN, aIfS, aNev,  agName, agNil, agCons, agTup, aAsg, aPar, aDrop, aCallK, aCallKn, aM, aM0, aAddS, aYes, one1, one2, wipeA, aRevT, aRevL, agSub_def, aSl, aPart, aNoPart, cutAns_rol, cutAns_lst, cutAns_tup, cutAns_str, aLstRg, aRg1, ex_some, tupleA_lst, tupleA_tup, wstA_lst,  List.set_cons_zero, List.set_cons_succ, List.set, ex_bl, ex_int, ex_str, ex_tup, ex_eq, ex_cons, ex_pair, ex_one1, ex_one_int, and_tt, truA_bl, truOk_bl, truA_int, truOk_int, truA_lst, truOk_lst, truA_tup, truOk_tup, truA_refU, truOk_refU, Bool.not_true, Bool.not_false,  addA_ii, addA_ss, addA_tt, addA_ll, intA_ii, int2A_ii, subA_ii, mulA_ii, modA_ii, fdivA_ii, powA_ii, negA_i, ltA_ii, leA_ii, gtA_ii, geA_ii, ltA_ss, leA_ss, gtA_ss, geA_ss, isA, isntA, nonA, isiA_non, isiA_bl, isiA_int, isiA_str, isiA_tup, isiA_lst, isiA_rol, lenA_str, lenA_tup, lenA_lst, lenA_rol, absA_i, toIntA_i, toIntA_b, isIntA, isiB, String.reduceBEq, List.contains_cons, List.contains_nil, Bool.or_true, Bool.true_or, Bool.or_false, Bool.false_or, Bool.and_true, Bool.true_and, Bool.and_false, Bool.false_and, Bool.not_eq_true, if_true, if_false, decide_true, decide_false, Bool.false_eq_true, eq_self, reduceCtorEq, true_and, false_and, and_false, badA, exists_false, aFld, aPut, agFld, aPutAug, aMeth, aMake, mulX_ii, mulX_si, mulX_li, strA_i, strA_s, intXA_i, intXA_b, isBA_bb, isntBA_bb, aTryV, aRaise, aCallX, aMethX, aErr, aDct0, aStar, aPar3, ex_tri, aCallKX, aIsE, ]
      exact rt_same (q t3 _ (ok3.up (by omega)) (by show (decide _ && decide _) = true; rw [decide_eq_true i0, decide_eq_true i1]; rfl) (by show 1 ≤ 910; omega))
  · simp only [↓ite_bc, bc_t, bc_f, aLc_rng, aFor_rng, aLc_lst, lstA_lst, lstA_rol, aLcS_rng, eqA_ii, eqA_ss, neA_ii, neA_ss, updS_same, updS_updS, startA, List.map_cons, List.map_nil, List.cons_append, List.nil_append, List.length_cons, List.length_nil, Nat.zero_add, Nat.add_zero, Nat.reduceAdd, Nat.reduceSub, List.replicate_succ, List.replicate_zero, List.replicate,  aVar_z, aVar_s, aC, aNil, aCons, aTup, aLstV, aLst, aOp, aUn, aTru, aTst, aCmp, aChn, aChnT, aAnd, aOr, aNot, aIf, aAndV, aOrV, aNotV, aCB, aCall, aNext, aSeq, aBrk, aCnt, aRet, aRetN, aIfS, aNev,  agName, agNil, agCons, agTup, aAsg, aPar, aDrop, aCallK, aCallKn, aM, aM0, aAddS, aYes, one1, one2, wipeA, aRevT, aRevL, agSub_def, aSl, aPart, aNoPart, cutAns_rol, cutAns_lst, cutAns_tup, cutAns_str, aLstRg, aRg1, ex_some, tupleA_lst, tupleA_tup, wstA_lst,  List.set_cons_zero, List.set_cons_succ, List.set, ex_bl, ex_int, ex_str, ex_tup, ex_eq, ex_cons, ex_pair, ex_one1, ex_one_int, and_tt, truA_bl, truOk_bl, truA_int, truOk_int, truA_lst, truOk_lst, truA_tup, truOk_tup, truA_refU, truOk_refU, Bool.not_true, Bool.not_false,  addA_ii, addA_ss, addA_tt, addA_ll, intA_ii, int2A_ii, subA_ii, mulA_ii, modA_ii, fdivA_ii, powA_ii, negA_i, ltA_ii, leA_ii, gtA_ii, geA_ii, ltA_ss, leA_ss, gtA_ss, geA_ss, isA, isntA, nonA, isiA_non, isiA_bl, isiA_int, isiA_str, isiA_tup, isiA_lst, isiA_rol, lenA_str, lenA_tup, lenA_lst, lenA_rol, absA_i, toIntA_i, toIntA_b, isIntA, isiB, String.reduceBEq, List.contains_cons, List.contains_nil, Bool.or_true, Bool.true_or, Bool.or_false, Bool.false_or, Bool.and_true, Bool.true_and, Bool.and_false, Bool.false_and, Bool.not_eq_true, if_true, if_false, decide_true, decide_false, Bool.false_eq_true, eq_self, reduceCtorEq, true_and, false_and, and_false, badA, exists_false, aFld, aPut, agFld, aPutAug, aMeth, aMake, mulX_ii, mulX_si, mulX_li, strA_i, strA_s, intXA_i, intXA_b, isBA_bb, isntBA_bb, aTryV, aRaise, aCallX, aMethX, aErr, aDct0, aStar, aPar3, ex_tri, aCallKX, aIsE, ]
    exact rt_same (q t1 .non (ok1.up (by omega)) rfl (by decide))
def sp__law_value : ASp := fun ds S Q => ∃ (p : Addr) (t : Pt) (m N : Nat), ds = [.ref p, .int m] ∧ 0 < m ∧ m ≤ 20 ∧ S p = some (potO t) ∧ okP N t ∧ N < 2 ^ 28 ∧ ∀ t' d, okP (N + 500) t' → Vm.isVal d 20 = true → Vm.cnt d ≤ 910 * m + 110 → Q d (updS S p (potO t'))
set_option maxHeartbeats 4000000 in
theorem fn__law_value (T : Txt P w K mg C_Reader C_HouseError f_HouseError C_BadText) (F__law_take : Fn4 P w K mg base 1 "_law_take" ["pot", "upto"] sp__law_take) (F__law_plain_value : Fn4 P w K mg base 4 "_law_plain_value" ["pot"] sp__law_plain_value) (F__law_of : Fn4 P w K mg base 2 "_law_of" ["pot", "some"] sp__law_of) : FnX P w K mg base 5 "_law_value" st__law_value ["pot", "parts"] sp__law_value := by
  refine FnX.of T.d__law_value fun f fd F => F.ok4 sc__law_value (fun ds S Q h => by unfold sp__law_value at h; first | (obtain ⟨_, rfl, _⟩ := h; rfl) | (obtain ⟨_, _, rfl, _⟩ := h; rfl) | (obtain ⟨_, _, _, rfl, _⟩ := h; rfl) | (obtain ⟨_, _, _, _, rfl, _⟩ := h; rfl) | (obtain ⟨_, _, _, _, _, rfl, _⟩ := h; rfl) | (obtain ⟨_, _, _, _, _, _, rfl, _⟩ := h; rfl) | (obtain ⟨_, _, _, _, _, _, _, rfl, _⟩ := h; rfl)) fun cdv A gd out s H E hr => ?_
  refine ⟨_, (s_cons (s_setLcS 2 3 [("lap", 3)] rfl sc__law_value.nd (i_rng1 T.n_range (a_cons (e_op o_add e_int (f_call F__law_take gd (hr.mono (by decide)) (a_cons (e_var 0) (a_cons (e_var 1) a_nil)))) a_nil)) (blkOk_by (N := nm__law_value) (sc := defScope st__law_value) (by decide +kernel)) (fun _ _ _ _ _ => pg_name sc__law_value.nd rfl (Or.inl rfl)) (fun _ _ _ _ _ => ts_nil) (fun _ _ _ _ _ => (f_call F__law_plain_value gd (hr.mono (by decide)) (a_cons (e_var 0) a_nil))))
    (s_cons (s_for PassesOwn.never rfl (i_rng1 T.n_range (a_cons (f_call F__law_take gd (hr.mono (by decide)) (a_cons (e_var 0) (a_cons (e_cb (c_min2 rfl) T.n_min (by decide +kernel) (a_cons (e_op o_mul e_int (e_cb c_len T.n_len (by decide +kernel) (a_cons (e_var 2) a_nil))) (a_cons e_int a_nil))) a_nil))) a_nil)) (g_name 3 sc__law_value.nd) (s_cons (s_set 4 sc__law_value.nd (e_cb (c_min2 rfl) T.n_min (by decide +kernel) (a_cons (e_cb c_len T.n_len (by decide +kernel) (a_cons (e_var 2) a_nil)) (a_cons (f_call F__law_take gd (hr.mono (by decide)) (a_cons (e_var 0) (a_cons e_int a_nil))) a_nil))))
    (s_cons (s_set 5 sc__law_value.nd (f_call F__law_take gd (hr.mono (by decide)) (a_cons (e_var 0) (a_cons e_int a_nil))))
    (s_one (s_if (w_and (t_cmp (o_eq hr.units) (e_var 5) e_int) (w_and1 (t_cmp o_gt (e_var 4) e_int))).pt (s_one (s_asg (e_lstV (a_cons (e_tup (a_cons e_str (a_cons (f_call F__law_of gd (hr.mono (by decide)) (a_cons (e_var 0) (a_cons (e_lstV (a_cons e_str (a_cons e_str (a_cons e_str a_nil)))) a_nil))) (a_cons (e_ct c_tuple T.n_tuple (by decide +kernel) (a_cons (e_sl (e_var 2) (o_some (e_un o_neg (e_var 4))) o_none) a_nil)) a_nil)))) a_nil)) (g_cut (e_var 2) (e_un o_neg (e_var 4))))) (s_one (s_set 2 sc__law_value.nd (e_addS (e_sl (e_var 2) o_none (o_some (e_op o_sub (e_cb c_len T.n_len (by decide +kernel) (a_cons (e_var 2) a_nil)) (e_var 4)))) (e_lstV (a_cons (e_ct c_tuple T.n_tuple (by decide +kernel) (a_cons (e_sl (e_var 2) (o_some (e_op o_sub (e_cb c_len T.n_len (by decide +kernel) (a_cons (e_var 2) a_nil)) (e_var 4))) o_none) a_nil)) a_nil))))))))))
    (s_one (s_ret (e_if (t_cmp (o_eq hr.units) (e_cb c_len T.n_len (by decide +kernel) (a_cons (e_var 2) a_nil)) e_int) (e_ix o_ix (e_var 2) e_int) (e_ct c_tuple T.n_tuple (by decide +kernel) (a_cons (e_var 2) a_nil))))))), ?_⟩
  rintro _ S Q ⟨p, t, m, N, rfl, hm, hm2, hp, ok, hN, q⟩
  walk_at "rd"
  refine take_of (by omega) (by omega) hp ok (by omega) fun t1 r ok1 r0 r1 => ?_
  simp only [↓ite_bc, bc_t, bc_f, aLc_rng, aFor_rng, aLc_lst, lstA_lst, lstA_rol, aLcS_rng, eqA_ii, eqA_ss, neA_ii, neA_ss, updS_same, updS_updS, startA, List.map_cons, List.map_nil, List.cons_append, List.nil_append, List.length_cons, List.length_nil, Nat.zero_add, Nat.add_zero, Nat.reduceAdd, Nat.reduceSub, List.replicate_succ, List.replicate_zero, List.replicate,  aVar_z, aVar_s, aC, aNil, aCons, aTup, aLstV, aLst, aOp, aUn, aTru, aTst, aCmp, aChn, aChnT, aAnd, aOr, aNot, aIf, aAndV, aOrV, aNotV, aCB, aCall, aNext, aSeq, aBrk, aCnt, aRet, aRetN, aIfS, aNev,  agName, agNil, agCons, agTup, aAsg, aPar, aDrop, aCallK, aCallKn, aM, aM0, aAddS, aYes, one1, one2, wipeA, aRevT, aRevL, agSub_def, aSl, aPart, aNoPart, cutAns_rol, cutAns_lst, cutAns_tup, cutAns_str, aLstRg, aRg1, ex_some, tupleA_lst, tupleA_tup, wstA_lst,  List.set_cons_zero, List.set_cons_succ, List.set, ex_bl, ex_int, ex_str, ex_tup, ex_eq, ex_cons, ex_pair, ex_one1, ex_one_int, and_tt, truA_bl, truOk_bl, truA_int, truOk_int, truA_lst, truOk_lst, truA_tup, truOk_tup, truA_refU, truOk_refU, Bool.not_true, Bool.not_false,  addA_ii, addA_ss, addA_tt, addA_ll, intA_ii, int2A_ii, subA_ii, mulA_ii, modA_ii, fdivA_ii, powA_ii, negA_i, ltA_ii, leA_ii, gtA_ii, geA_ii, ltA_ss, leA_ss, gtA_ss, geA_ss, isA, isntA, nonA, isiA_non, isiA_bl, isiA_int, isiA_str, isiA_tup, isiA_lst, isiA_rol, lenA_str, lenA_tup, lenA_lst, lenA_rol, absA_i, toIntA_i, toIntA_b, isIntA, isiB, String.reduceBEq, List.contains_cons, List.contains_nil, Bool.or_true, Bool.true_or, Bool.or_false, Bool.false_or, Bool.and_true, Bool.true_and, Bool.and_false, Bool.false_and, Bool.not_eq_true, if_true, if_false, decide_true, decide_false, Bool.false_eq_true, eq_self, reduceCtorEq, true_and, false_and, and_false, badA, exists_false, aFld, aPut, agFld, aPutAug, aMeth, aMake, mulX_ii, mulX_si, mulX_li, strA_i, strA_s, intXA_i, intXA_b, isBA_bb, isntBA_bb, aTryV, aRaise, aCallX, aMethX, aErr, aDct0, aStar, aPar3, ex_tri, aCallKX, aIsE, ]
  refine ⟨by omega, by omega, ?_⟩
  refine lcS_pot potO (fun k pt => okP (N + 1 + 20 * k) pt) updS_same ok1 (fun y => Vm.isVal y 0 = true ∧ Vm.cnt y ≤ 910) (by rw [rngA_len]; exact le_sl (by omega)) (fun k x pt' Sx Qe hx hk hI hp' h => ?_) (fun acc pt' l hl hlen ha hI => ?_)
  · simp only [↓ite_bc, bc_t, bc_f, aLc_rng, aFor_rng, aLc_lst, lstA_lst, lstA_rol, aLcS_rng, eqA_ii, eqA_ss, neA_ii, neA_ss, updS_same, updS_updS, startA, List.map_cons, List.map_nil, List.cons_append, List.nil_append, List.length_cons, List.length_nil, Nat.zero_add, Nat.add_zero, Nat.reduceAdd, Nat.reduceSub, List.replicate_succ, List.replicate_zero, List.replicate,  aVar_z, aVar_s, aC, aNil, aCons, aTup, aLstV, aLst, aOp, aUn, aTru, aTst, aCmp, aChn, aChnT, aAnd, aOr, aNot, aIf, aAndV, aOrV, aNotV, aCB, aCall, aNext, aSeq, aBrk, aCnt, aRet, aRetN, aIfS, aNev,  agName, agNil, agCons, agTup, aAsg, aPar, aDrop, aCallK, aCallKn, aM, aM0, aAddS, aYes, one1, one2, wipeA, aRevT, aRevL, agSub_def, aSl, aPart, aNoPart, cutAns_rol, cutAns_lst, cutAns_tup, cutAns_str, aLstRg, aRg1, ex_some, tupleA_lst, tupleA_tup, wstA_lst,  List.set_cons_zero, List.set_cons_succ, List.set, ex_bl, ex_int, ex_str, ex_tup, ex_eq, ex_cons, ex_pair, ex_one1, ex_one_int, and_tt, truA_bl, truOk_bl, truA_int, truOk_int, truA_lst, truOk_lst, truA_tup, truOk_tup, truA_refU, truOk_refU, Bool.not_true, Bool.not_false,  addA_ii, addA_ss, addA_tt, addA_ll, intA_ii, int2A_ii, subA_ii, mulA_ii, modA_ii, fdivA_ii, powA_ii, negA_i, ltA_ii, leA_ii, gtA_ii, geA_ii, ltA_ss, leA_ss, gtA_ss, geA_ss, isA, isntA, nonA, isiA_non, isiA_bl, isiA_int, isiA_str, isiA_tup, isiA_lst, isiA_rol, lenA_str, lenA_tup, lenA_lst, lenA_rol, absA_i, toIntA_i, toIntA_b, isIntA, isiB, String.reduceBEq, List.contains_cons, List.contains_nil, Bool.or_true, Bool.true_or, Bool.or_false, Bool.false_or, Bool.and_true, Bool.true_and, Bool.and_false, Bool.false_and, Bool.not_eq_true, if_true, if_false, decide_true, decide_false, Bool.false_eq_true, eq_self, reduceCtorEq, true_and, false_and, and_false, badA, exists_false, aFld, aPut, agFld, aPutAug, aMeth, aMake, mulX_ii, mulX_si, mulX_li, strA_i, strA_s, intXA_i, intXA_b, isBA_bb, isntBA_bb, aTryV, aRaise, aCallX, aMethX, aErr, aDct0, aStar, aPar3, ex_tri, aCallKX, aIsE, ]
    rw [rngA_len] at hk
    exact ⟨p, pt', _, rfl, hp', hI, by omega, fun t' d ok' h1 h2 => h d t' ⟨h1, h2⟩ (ok'.up (by omega))⟩
  rw [rngA_len] at hlen hI
  rw [updS_updS]
  have ne : p ≠ l := neS updS_same hl
  have hnl : S l = none := by rw [updS_ne (Ne.symm ne)] at hl; exact hl
  have row0 : RowG (910 * m) 0 acc := .start (by omega) (by omega) hm2 rfl ha
  simp only [↓ite_bc, bc_t, bc_f, aLc_rng, aFor_rng, aLc_lst, lstA_lst, lstA_rol, aLcS_rng, eqA_ii, eqA_ss, neA_ii, neA_ss, updS_same, updS_updS, startA, List.map_cons, List.map_nil, List.cons_append, List.nil_append, List.length_cons, List.length_nil, Nat.zero_add, Nat.add_zero, Nat.reduceAdd, Nat.reduceSub, List.replicate_succ, List.replicate_zero, List.replicate,  aVar_z, aVar_s, aC, aNil, aCons, aTup, aLstV, aLst, aOp, aUn, aTru, aTst, aCmp, aChn, aChnT, aAnd, aOr, aNot, aIf, aAndV, aOrV, aNotV, aCB, aCall, aNext, aSeq, aBrk, aCnt, aRet, aRetN, aIfS, aNev,  agName, agNil, agCons, agTup, aAsg, aPar, aDrop, aCallK, aCallKn, aM, aM0, aAddS, aYes, one1, one2, wipeA, aRevT, aRevL, agSub_def, aSl, aPart, aNoPart, cutAns_rol, cutAns_lst, cutAns_tup, cutAns_str, aLstRg, aRg1, ex_some, tupleA_lst, tupleA_tup, wstA_lst,  List.set_cons_zero, List.set_cons_succ, List.set, ex_bl, ex_int, ex_str, ex_tup, ex_eq, ex_cons, ex_pair, ex_one1, ex_one_int, and_tt, truA_bl, truOk_bl, truA_int, truOk_int, truA_lst, truOk_lst, truA_tup, truOk_tup, truA_refU, truOk_refU, Bool.not_true, Bool.not_false,  addA_ii, addA_ss, addA_tt, addA_ll, intA_ii, int2A_ii, subA_ii, mulA_ii, modA_ii, fdivA_ii, powA_ii, negA_i, ltA_ii, leA_ii, gtA_ii, geA_ii, ltA_ss, leA_ss, gtA_ss, geA_ss, isA, isntA, nonA, isiA_non, isiA_bl, isiA_int, isiA_str, isiA_tup, isiA_lst, isiA_rol, lenA_str, lenA_tup, lenA_lst, lenA_rol, absA_i, toIntA_i, toIntA_b, isIntA, isiB, String.reduceBEq, List.contains_cons, List.contains_nil, Bool.or_true, Bool.true_or, Bool.or_false, Bool.false_or, Bool.and_true, Bool.true_and, Bool.and_false, Bool.false_and, Bool.not_eq_true, if_true, if_false, decide_true, decide_false, Bool.false_eq_true, eq_self, reduceCtorEq, true_and, false_and, and_false, badA, exists_false, aFld, aPut, agFld, aPutAug, aMeth, aMake, mulX_ii, mulX_si, mulX_li, strA_i, strA_s, intXA_i, intXA_b, isBA_bb, isntBA_bb, aTryV, aRaise, aCallX, aMethX, aErr, aDct0, aStar, aPar3, ex_tri, aCallKX, aIsE, lenA_ref updS_same]
  refine ⟨mulL (by omega) (by omega), ?_⟩
  have e9 : ∃ n : Nat, 0 < n ∧ n ≤ 9 ∧ (if (9 : Int) < 2 * (acc.length : Int) then (9 : Int) else 2 * (acc.length : Int)) = (n : Int) := by
    have := row0.ne
    by_cases h : (9 : Int) < 2 * (acc.length : Int)
    · exact ⟨9, by omega, by omega, by rw [if_pos h]; rfl⟩
    · exact ⟨2 * acc.length, by omega, by omega, by rw [if_neg h]; omega⟩
  obtain ⟨n9, n0, n1, he9⟩ := e9
  rw [he9]
  refine take_of (by omega) (by omega) (by rw [updS_ne ne, updS_same]) hI (by omega) fun t2 r2 ok2 q0 q1 => ?_
  simp only [↓ite_bc, bc_t, bc_f, aLc_rng, aFor_rng, aLc_lst, lstA_lst, lstA_rol, aLcS_rng, eqA_ii, eqA_ss, neA_ii, neA_ss, updS_same, updS_updS, startA, List.map_cons, List.map_nil, List.cons_append, List.nil_append, List.length_cons, List.length_nil, Nat.zero_add, Nat.add_zero, Nat.reduceAdd, Nat.reduceSub, List.replicate_succ, List.replicate_zero, List.replicate,  aVar_z, aVar_s, aC, aNil, aCons, aTup, aLstV, aLst, aOp, aUn, aTru, aTst, aCmp, aChn, aChnT, aAnd, aOr, aNot, aIf, aAndV, aOrV, aNotV, aCB, aCall, aNext, aSeq, aBrk, aCnt, aRet, aRetN, aIfS, aNev,  agName, agNil, agCons, agTup, aAsg, aPar, aDrop, aCallK, aCallKn, aM, aM0, aAddS, aYes, one1, one2, wipeA, aRevT, aRevL, agSub_def, aSl, aPart, aNoPart, cutAns_rol, cutAns_lst, cutAns_tup, cutAns_str, aLstRg, aRg1, ex_some, tupleA_lst, tupleA_tup, wstA_lst,  List.set_cons_zero, List.set_cons_succ, List.set, ex_bl, ex_int, ex_str, ex_tup, ex_eq, ex_cons, ex_pair, ex_one1, ex_one_int, and_tt, truA_bl, truOk_bl, truA_int, truOk_int, truA_lst, truOk_lst, truA_tup, truOk_tup, truA_refU, truOk_refU, Bool.not_true, Bool.not_false,  addA_ii, addA_ss, addA_tt, addA_ll, intA_ii, int2A_ii, subA_ii, mulA_ii, modA_ii, fdivA_ii, powA_ii, negA_i, ltA_ii, leA_ii, gtA_ii, geA_ii, ltA_ss, leA_ss, gtA_ss, geA_ss, isA, isntA, nonA, isiA_non, isiA_bl, isiA_int, isiA_str, isiA_tup, isiA_lst, isiA_rol, lenA_str, lenA_tup, lenA_lst, lenA_rol, absA_i, toIntA_i, toIntA_b, isIntA, isiB, String.reduceBEq, List.contains_cons, List.contains_nil, Bool.or_true, Bool.true_or, Bool.or_false, Bool.false_or, Bool.and_true, Bool.true_and, Bool.and_false, Bool.false_and, Bool.not_eq_true, if_true, if_false, decide_true, decide_false, Bool.false_eq_true, eq_self, reduceCtorEq, true_and, false_and, and_false, badA, exists_false, aFld, aPut, agFld, aPutAug, aMeth, aMake, mulX_ii, mulX_si, mulX_li, strA_i, strA_s, intXA_i, intXA_b, isBA_bb, isntBA_bb, aTryV, aRaise, aCallX, aMethX, aErr, aDct0, aStar, aPar3, ex_tri, aCallKX, aIsE, ]
  refine ⟨by omega, by omega, ?_⟩
  rw [updS_comm (Ne.symm ne), updS_updS]
  refine ForGo.of (fun i τ S' => ∃ (o3 o4 o5 : Option AV) (l : Addr) (ds : List AV) (pt : Pt), τ = [some (.ref p), some (.int m), some (.ref l), o3, o4, o5] ∧ Sub (updS S p (potO pt)) S' ∧ S' l = some (.lst ds) ∧ updS S p (potO pt) l = none ∧ okP (N + 450 + 3 * i) pt ∧ RowG (910 * m) i ds)
    ⟨none, none, none, l, acc, t2, rfl, .new .refl (by rw [updS_ne (Ne.symm ne)]; exact hnl) (by rw [updS_ne (Ne.symm ne), hnl]; simp) (by simp), updS_same, by rw [updS_ne (Ne.symm ne)]; exact hnl, ok2.up (by omega), row0⟩
    (fun i x τ2 S2 hx hi ⟨o3, o4, o5, l, ds, pt, eτ, sub, hl, hb, okt, row⟩ => ?_) (fun τ2 S2 ⟨o3, o4, o5, l, ds, pt, eτ, sub, hl, hb, okt, row⟩ => ?_)
  · subst eτ
    rw [rngA_len] at hi
    have nep : l ≠ p := by rintro rfl; rw [updS_same] at hb; cases hb
    have hp2 := sub.le p _ updS_same
    have rl := row.len
    simp only [↓ite_bc, bc_t, bc_f, aLc_rng, aFor_rng, aLc_lst, lstA_lst, lstA_rol, aLcS_rng, eqA_ii, eqA_ss, neA_ii, neA_ss, updS_same, updS_updS, startA, List.map_cons, List.map_nil, List.cons_append, List.nil_append, List.length_cons, List.length_nil, Nat.zero_add, Nat.add_zero, Nat.reduceAdd, Nat.reduceSub, List.replicate_succ, List.replicate_zero, List.replicate,  aVar_z, aVar_s, aC, aNil, aCons, aTup, aLstV, aLst, aOp, aUn, aTru, aTst, aCmp, aChn, aChnT, aAnd, aOr, aNot, aIf, aAndV, aOrV, aNotV, aCB, aCall, aNext, aSeq, aBrk, aCnt, aRet, aRetN, aIfS, aNev,  agName, agNil, agCons, agTup, aAsg, aPar, aDrop, aCallK, aCallKn, aM, aM0, aAddS, aYes, one1, one2, wipeA, aRevT, aRevL, agSub_def, aSl, aPart, aNoPart, cutAns_rol, cutAns_lst, cutAns_tup, cutAns_str, aLstRg, aRg1, ex_some, tupleA_lst, tupleA_tup, wstA_lst,  List.set_cons_zero, List.set_cons_succ, List.set, ex_bl, ex_int, ex_str, ex_tup, ex_eq, ex_cons, ex_pair, ex_one1, ex_one_int, and_tt, truA_bl, truOk_bl, truA_int, truOk_int, truA_lst, truOk_lst, truA_tup, truOk_tup, truA_refU, truOk_refU, Bool.not_true, Bool.not_false,  addA_ii, addA_ss, addA_tt, addA_ll, intA_ii, int2A_ii, subA_ii, mulA_ii, modA_ii, fdivA_ii, powA_ii, negA_i, ltA_ii, leA_ii, gtA_ii, geA_ii, ltA_ss, leA_ss, gtA_ss, geA_ss, isA, isntA, nonA, isiA_non, isiA_bl, isiA_int, isiA_str, isiA_tup, isiA_lst, isiA_rol, lenA_str, lenA_tup, lenA_lst, lenA_rol, absA_i, toIntA_i, toIntA_b, isIntA, isiB, String.reduceBEq, List.contains_cons, List.contains_nil, Bool.or_true, Bool.true_or, Bool.or_false, Bool.false_or, Bool.and_true, Bool.true_and, Bool.and_false, Bool.false_and, Bool.not_eq_true, if_true, if_false, decide_true, decide_false, Bool.false_eq_true, eq_self, reduceCtorEq, true_and, false_and, and_false, badA, exists_false, aFld, aPut, agFld, aPutAug, aMeth, aMake, mulX_ii, mulX_si, mulX_li, strA_i, strA_s, intXA_i, intXA_b, isBA_bb, isntBA_bb, aTryV, aRaise, aCallX, aMethX, aErr, aDct0, aStar, aPar3, ex_tri, aCallKX, aIsE, lenA_ref hl]
    refine take_of (by omega) (by omega) hp2 okt (by omega) fun t3 r3 ok3 a0 a1 => ?_
    simp only [↓ite_bc, bc_t, bc_f, aLc_rng, aFor_rng, aLc_lst, lstA_lst, lstA_rol, aLcS_rng, eqA_ii, eqA_ss, neA_ii, neA_ss, updS_same, updS_updS, startA, List.map_cons, List.map_nil, List.cons_append, List.nil_append, List.length_cons, List.length_nil, Nat.zero_add, Nat.add_zero, Nat.reduceAdd, Nat.reduceSub, List.replicate_succ, List.replicate_zero, List.replicate,  aVar_z, aVar_s, aC, aNil, aCons, aTup, aLstV, aLst, aOp, aUn, aTru, aTst, aCmp, aChn, aChnT, aAnd, aOr, aNot, aIf, aAndV, aOrV, aNotV, aCB, aCall, aNext, aSeq, aBrk, aCnt, aRet, aRetN, aIfS, aNev,  agName, agNil, agCons, agTup, aAsg, aPar, aDrop, aCallK, aCallKn, aM, aM0, aAddS, aYes, one1, one2, wipeA, aRevT, aRevL, agSub_def, aSl, aPart, aNoPart, cutAns_rol, cutAns_lst, cutAns_tup, cutAns_str, aLstRg, aRg1, ex_some, tupleA_lst, tupleA_tup, wstA_lst,  List.set_cons_zero, List.set_cons_succ, List.set, ex_bl, ex_int, ex_str, ex_tup, ex_eq, ex_cons, ex_pair, ex_one1, ex_one_int, and_tt, truA_bl, truOk_bl, truA_int, truOk_int, truA_lst, truOk_lst, truA_tup, truOk_tup, truA_refU, truOk_refU, Bool.not_true, Bool.not_false,  addA_ii, addA_ss, addA_tt, addA_ll, intA_ii, int2A_ii, subA_ii, mulA_ii, modA_ii, fdivA_ii, powA_ii, negA_i, ltA_ii, leA_ii, gtA_ii, geA_ii, ltA_ss, leA_ss, gtA_ss, geA_ss, isA, isntA, nonA, isiA_non, isiA_bl, isiA_int, isiA_str, isiA_tup, isiA_lst, isiA_rol, lenA_str, lenA_tup, lenA_lst, lenA_rol, absA_i, toIntA_i, toIntA_b, isIntA, isiB, String.reduceBEq, List.contains_cons, List.contains_nil, Bool.or_true, Bool.true_or, Bool.or_false, Bool.false_or, Bool.and_true, Bool.true_and, Bool.and_false, Bool.false_and, Bool.not_eq_true, if_true, if_false, decide_true, decide_false, Bool.false_eq_true, eq_self, reduceCtorEq, true_and, false_and, and_false, badA, exists_false, aFld, aPut, agFld, aPutAug, aMeth, aMake, mulX_ii, mulX_si, mulX_li, strA_i, strA_s, intXA_i, intXA_b, isBA_bb, isntBA_bb, aTryV, aRaise, aCallX, aMethX, aErr, aDct0, aStar, aPar3, ex_tri, aCallKX, aIsE, ]
    obtain ⟨k, hk, hk3, he⟩ : ∃ k : Nat, k ≤ ds.length ∧ k ≤ 3 ∧ (if r3 < (ds.length : Int) then r3 else (ds.length : Int)) = (k : Int) := by
      by_cases h : r3 < (ds.length : Int)
      · exact ⟨r3.toNat, by omega, by omega, by rw [if_pos h]; omega⟩
      · exact ⟨ds.length, by omega, by omega, by rw [if_neg h]⟩
    simp only [he]
    refine take_of (by omega) (by omega) updS_same ok3 (by omega) fun t4 r4 ok4 b0 b1 => ?_
    rw [updS_updS]
    have sub4 : Sub (updS S p (potO t4)) (updS S2 p (potO t4)) := by have := sub.upd (a := p) (o := potO t4); rw [updS_updS] at this; exact this
    have hl4 : updS S2 p (potO t4) l = some (.lst ds) := by rw [updS_ne nep]; exact hl
    have hb' : ∀ t, updS S p (potO t) l = none := fun t => by rw [updS_ne nep] at hb ⊢; exact hb
    have dk : (ds.length : Int) - (k : Int) = ((ds.length - k : Nat) : Int) := by omega
    have hsl : sizeLine = 16777216 := by decide +kernel
    simp only [↓ite_bc, bc_t, bc_f, aLc_rng, aFor_rng, aLc_lst, lstA_lst, lstA_rol, aLcS_rng, eqA_ii, eqA_ss, neA_ii, neA_ss, updS_same, updS_updS, startA, List.map_cons, List.map_nil, List.cons_append, List.nil_append, List.length_cons, List.length_nil, Nat.zero_add, Nat.add_zero, Nat.reduceAdd, Nat.reduceSub, List.replicate_succ, List.replicate_zero, List.replicate,  aVar_z, aVar_s, aC, aNil, aCons, aTup, aLstV, aLst, aOp, aUn, aTru, aTst, aCmp, aChn, aChnT, aAnd, aOr, aNot, aIf, aAndV, aOrV, aNotV, aCB, aCall, aNext, aSeq, aBrk, aCnt, aRet, aRetN, aIfS, aNev,  agName, agNil, agCons, agTup, aAsg, aPar, aDrop, aCallK, aCallKn, aM, aM0, aAddS, aYes, one1, one2, wipeA, aRevT, aRevL, agSub_def, aSl, aPart, aNoPart, cutAns_rol, cutAns_lst, cutAns_tup, cutAns_str, aLstRg, aRg1, ex_some, tupleA_lst, tupleA_tup, wstA_lst,  List.set_cons_zero, List.set_cons_succ, List.set, ex_bl, ex_int, ex_str, ex_tup, ex_eq, ex_cons, ex_pair, ex_one1, ex_one_int, and_tt, truA_bl, truOk_bl, truA_int, truOk_int, truA_lst, truOk_lst, truA_tup, truOk_tup, truA_refU, truOk_refU, Bool.not_true, Bool.not_false,  addA_ii, addA_ss, addA_tt, addA_ll, intA_ii, int2A_ii, subA_ii, mulA_ii, modA_ii, fdivA_ii, powA_ii, negA_i, ltA_ii, leA_ii, gtA_ii, geA_ii, ltA_ss, leA_ss, gtA_ss, geA_ss, isA, isntA, nonA, isiA_non, isiA_bl, isiA_int, isiA_str, isiA_tup, isiA_lst, isiA_rol, lenA_str, lenA_tup, lenA_lst, lenA_rol, absA_i, toIntA_i, toIntA_b, isIntA, isiB, String.reduceBEq, List.contains_cons, List.contains_nil, Bool.or_true, Bool.true_or, Bool.or_false, Bool.false_or, Bool.and_true, Bool.true_and, Bool.and_false, Bool.false_and, Bool.not_eq_true, if_true, if_false, decide_true, decide_false, Bool.false_eq_true, eq_self, reduceCtorEq, true_and, false_and, and_false, badA, exists_false, aFld, aPut, agFld, aPutAug, aMeth, aMake, mulX_ii, mulX_si, mulX_li, strA_i, strA_s, intXA_i, intXA_b, isBA_bb, isntBA_bb, aTryV, aRaise, aCallX, aMethX, aErr, aDct0, aStar, aPar3, ex_tri, aCallKX, aIsE, lenA_ref hl4, cutAns_ref hl4, dk, cutL_hi (ds := ds) (Nat.sub_le ds.length k), cutL_lo (ds := ds) (Nat.sub_le ds.length k)]
    have other : (ds.take (ds.length - k)).length + [AV.tup (ds.drop (ds.length - k))].length ≤ sizeLine ∧ ∀ l_1, updS S2 p (potO t4) l_1 = none →
        ∃ (o3 o4 o5 : Option AV) (l : Addr) (ds_1 : List AV) (pt : Pt), [some (AV.ref p), some (AV.int ↑m), some (AV.ref l_1), some x, some (AV.int ↑k), some (AV.int r4)] = [some (.ref p), some (.int m), some (.ref l), o3, o4, o5] ∧ Sub (updS S p (potO pt)) (updS (updS S2 p (potO t4)) l_1 (.lst (ds.take (ds.length - k) ++ [AV.tup (ds.drop (ds.length - k))]))) ∧
          (updS (updS S2 p (potO t4)) l_1 (.lst (ds.take (ds.length - k) ++ [AV.tup (ds.drop (ds.length - k))]))) l = some (.lst ds_1) ∧ updS S p (potO pt) l = none ∧ okP (N + 450 + 3 * (i + 1)) pt ∧ RowG (910 * m) (i + 1) ds_1 := by
      refine ⟨by rw [List.length_take, List.length_singleton]; omega, fun l1 hl1 => ?_⟩
      have n1 := sub4.non hl1
      exact ⟨_, _, _, l1, _, t4, rfl, .new sub4 n1 (by rw [hl1]; simp) (by simp), updS_same, n1, ok4.up (by omega), row.tup⟩
    cases hr4 : decide (r4 = 0)
    · simp only [↓ite_bc, bc_t, bc_f, aLc_rng, aFor_rng, aLc_lst, lstA_lst, lstA_rol, aLcS_rng, eqA_ii, eqA_ss, neA_ii, neA_ss, updS_same, updS_updS, startA, List.map_cons, List.map_nil, List.cons_append, List.nil_append, List.length_cons, List.length_nil, Nat.zero_add, Nat.add_zero, Nat.reduceAdd, Nat.reduceSub, List.replicate_succ, List.replicate_zero, List.replicate,  aVar_z, aVar_s, aC, aNil, aCons, aTup, aLstV, aLst, aOp, aUn, aTru, aTst, aCmp, aChn, aChnT, aAnd, aOr, aNot, aIf, aAndV, aOrV, aNotV, aCB, aCall, aNext, aSeq, aBrk, aCnt, aRet, aRetN, aIfS, aNev,  agName, agNil, agCons, agTup, aAsg, aPar, aDrop, aCallK, aCallKn, aM, aM0, aAddS, aYes, one1, one2, wipeA, aRevT, aRevL, agSub_def, aSl, aPart, aNoPart, cutAns_rol, cutAns_lst, cutAns_tup, cutAns_str, aLstRg, aRg1, ex_some, tupleA_lst, tupleA_tup, wstA_lst,  List.set_cons_zero, List.set_cons_succ, List.set, ex_bl, ex_int, ex_str, ex_tup, ex_eq, ex_cons, ex_pair, ex_one1, ex_one_int, and_tt, truA_bl, truOk_bl, truA_int, truOk_int, truA_lst, truOk_lst, truA_tup, truOk_tup, truA_refU, truOk_refU, Bool.not_true, Bool.not_false,  addA_ii, addA_ss, addA_tt, addA_ll, intA_ii, int2A_ii, subA_ii, mulA_ii, modA_ii, fdivA_ii, powA_ii, negA_i, ltA_ii, leA_ii, gtA_ii, geA_ii, ltA_ss, leA_ss, gtA_ss, geA_ss, isA, isntA, nonA, isiA_non, isiA_bl, isiA_int, isiA_str, isiA_tup, isiA_lst, isiA_rol, lenA_str, lenA_tup, lenA_lst, lenA_rol, absA_i, toIntA_i, toIntA_b, isIntA, isiB, String.reduceBEq, List.contains_cons, List.contains_nil, Bool.or_true, Bool.true_or, Bool.or_false, Bool.false_or, Bool.and_true, Bool.true_and, Bool.and_false, Bool.false_and, Bool.not_eq_true, if_true, if_false, decide_true, decide_false, Bool.false_eq_true, eq_self, reduceCtorEq, true_and, false_and, and_false, badA, exists_false, aFld, aPut, agFld, aPutAug, aMeth, aMake, mulX_ii, mulX_si, mulX_li, strA_i, strA_s, intXA_i, intXA_b, isBA_bb, isntBA_bb, aTryV, aRaise, aCallX, aMethX, aErr, aDct0, aStar, aPar3, ex_tri, aCallKX, aIsE, ]
      exact ⟨le_sl (by omega), _, _, rfl, rfl, other⟩
    · simp only [↓ite_bc, bc_t, bc_f, aLc_rng, aFor_rng, aLc_lst, lstA_lst, lstA_rol, aLcS_rng, eqA_ii, eqA_ss, neA_ii, neA_ss, updS_same, updS_updS, startA, List.map_cons, List.map_nil, List.cons_append, List.nil_append, List.length_cons, List.length_nil, Nat.zero_add, Nat.add_zero, Nat.reduceAdd, Nat.reduceSub, List.replicate_succ, List.replicate_zero, List.replicate,  aVar_z, aVar_s, aC, aNil, aCons, aTup, aLstV, aLst, aOp, aUn, aTru, aTst, aCmp, aChn, aChnT, aAnd, aOr, aNot, aIf, aAndV, aOrV, aNotV, aCB, aCall, aNext, aSeq, aBrk, aCnt, aRet, aRetN, aIfS, aNev,  agName, agNil, agCons, agTup, aAsg, aPar, aDrop, aCallK, aCallKn, aM, aM0, aAddS, aYes, one1, one2, wipeA, aRevT, aRevL, agSub_def, aSl, aPart, aNoPart, cutAns_rol, cutAns_lst, cutAns_tup, cutAns_str, aLstRg, aRg1, ex_some, tupleA_lst, tupleA_tup, wstA_lst,  List.set_cons_zero, List.set_cons_succ, List.set, ex_bl, ex_int, ex_str, ex_tup, ex_eq, ex_cons, ex_pair, ex_one1, ex_one_int, and_tt, truA_bl, truOk_bl, truA_int, truOk_int, truA_lst, truOk_lst, truA_tup, truOk_tup, truA_refU, truOk_refU, Bool.not_true, Bool.not_false,  addA_ii, addA_ss, addA_tt, addA_ll, intA_ii, int2A_ii, subA_ii, mulA_ii, modA_ii, fdivA_ii, powA_ii, negA_i, ltA_ii, leA_ii, gtA_ii, geA_ii, ltA_ss, leA_ss, gtA_ss, geA_ss, isA, isntA, nonA, isiA_non, isiA_bl, isiA_int, isiA_str, isiA_tup, isiA_lst, isiA_rol, lenA_str, lenA_tup, lenA_lst, lenA_rol, absA_i, toIntA_i, toIntA_b, isIntA, isiB, String.reduceBEq, List.contains_cons, List.contains_nil, Bool.or_true, Bool.true_or, Bool.or_false, Bool.false_or, Bool.and_true, Bool.true_and, Bool.and_false, Bool.false_and, Bool.not_eq_true, if_true, if_false, decide_true, decide_false, Bool.false_eq_true, eq_self, reduceCtorEq, true_and, false_and, and_false, badA, exists_false, aFld, aPut, agFld, aPutAug, aMeth, aMake, mulX_ii, mulX_si, mulX_li, strA_i, strA_s, intXA_i, intXA_b, isBA_bb, isntBA_bb, aTryV, aRaise, aCallX, aMethX, aErr, aDct0, aStar, aPar3, ex_tri, aCallKX, aIsE, ]
      cases hk0 : decide (0 < (k : Int))
      · simp only [↓ite_bc, bc_t, bc_f, aLc_rng, aFor_rng, aLc_lst, lstA_lst, lstA_rol, aLcS_rng, eqA_ii, eqA_ss, neA_ii, neA_ss, updS_same, updS_updS, startA, List.map_cons, List.map_nil, List.cons_append, List.nil_append, List.length_cons, List.length_nil, Nat.zero_add, Nat.add_zero, Nat.reduceAdd, Nat.reduceSub, List.replicate_succ, List.replicate_zero, List.replicate,  aVar_z, aVar_s, aC, aNil, aCons, aTup, aLstV, aLst, aOp, aUn, aTru, aTst, aCmp, aChn, aChnT, aAnd, aOr, aNot, aIf, aAndV, aOrV, aNotV, aCB, aCall, aNext, aSeq, aBrk, aCnt, aRet, aRetN, aIfS, aNev,  agName, agNil, agCons, agTup, aAsg, aPar, aDrop, aCallK, aCallKn, aM, aM0, aAddS, aYes, one1, one2, wipeA, aRevT, aRevL, agSub_def, aSl, aPart, aNoPart, cutAns_rol, cutAns_lst, cutAns_tup, cutAns_str, aLstRg, aRg1, ex_some, tupleA_lst, tupleA_tup, wstA_lst,  List.set_cons_zero, List.set_cons_succ, List.set, ex_bl, ex_int, ex_str, ex_tup, ex_eq, ex_cons, ex_pair, ex_one1, ex_one_int, and_tt, truA_bl, truOk_bl, truA_int, truOk_int, truA_lst, truOk_lst, truA_tup, truOk_tup, truA_refU, truOk_refU, Bool.not_true, Bool.not_false,  addA_ii, addA_ss, addA_tt, addA_ll, intA_ii, int2A_ii, subA_ii, mulA_ii, modA_ii, fdivA_ii, powA_ii, negA_i, ltA_ii, leA_ii, gtA_ii, geA_ii, ltA_ss, leA_ss, gtA_ss, geA_ss, isA, isntA, nonA, isiA_non, isiA_bl, isiA_int, isiA_str, isiA_tup, isiA_lst, isiA_rol, lenA_str, lenA_tup, lenA_lst, lenA_rol, absA_i, toIntA_i, toIntA_b, isIntA, isiB, String.reduceBEq, List.contains_cons, List.contains_nil, Bool.or_true, Bool.true_or, Bool.or_false, Bool.false_or, Bool.and_true, Bool.true_and, Bool.and_false, Bool.false_and, Bool.not_eq_true, if_true, if_false, decide_true, decide_false, Bool.false_eq_true, eq_self, reduceCtorEq, true_and, false_and, and_false, badA, exists_false, aFld, aPut, agFld, aPutAug, aMeth, aMake, mulX_ii, mulX_si, mulX_li, strA_i, strA_s, intXA_i, intXA_b, isBA_bb, isntBA_bb, aTryV, aRaise, aCallX, aMethX, aErr, aDct0, aStar, aPar3, ex_tri, aCallKX, aIsE, ]
        exact ⟨le_sl (by omega), _, _, rfl, rfl, other⟩
      · have hk0 := of_decide_eq_true hk0
        simp only [↓ite_bc, bc_t, bc_f, aLc_rng, aFor_rng, aLc_lst, lstA_lst, lstA_rol, aLcS_rng, eqA_ii, eqA_ss, neA_ii, neA_ss, updS_same, updS_updS, startA, List.map_cons, List.map_nil, List.cons_append, List.nil_append, List.length_cons, List.length_nil, Nat.zero_add, Nat.add_zero, Nat.reduceAdd, Nat.reduceSub, List.replicate_succ, List.replicate_zero, List.replicate,  aVar_z, aVar_s, aC, aNil, aCons, aTup, aLstV, aLst, aOp, aUn, aTru, aTst, aCmp, aChn, aChnT, aAnd, aOr, aNot, aIf, aAndV, aOrV, aNotV, aCB, aCall, aNext, aSeq, aBrk, aCnt, aRet, aRetN, aIfS, aNev,  agName, agNil, agCons, agTup, aAsg, aPar, aDrop, aCallK, aCallKn, aM, aM0, aAddS, aYes, one1, one2, wipeA, aRevT, aRevL, agSub_def, aSl, aPart, aNoPart, cutAns_rol, cutAns_lst, cutAns_tup, cutAns_str, aLstRg, aRg1, ex_some, tupleA_lst, tupleA_tup, wstA_lst,  List.set_cons_zero, List.set_cons_succ, List.set, ex_bl, ex_int, ex_str, ex_tup, ex_eq, ex_cons, ex_pair, ex_one1, ex_one_int, and_tt, truA_bl, truOk_bl, truA_int, truOk_int, truA_lst, truOk_lst, truA_tup, truOk_tup, truA_refU, truOk_refU, Bool.not_true, Bool.not_false,  addA_ii, addA_ss, addA_tt, addA_ll, intA_ii, int2A_ii, subA_ii, mulA_ii, modA_ii, fdivA_ii, powA_ii, negA_i, ltA_ii, leA_ii, gtA_ii, geA_ii, ltA_ss, leA_ss, gtA_ss, geA_ss, isA, isntA, nonA, isiA_non, isiA_bl, isiA_int, isiA_str, isiA_tup, isiA_lst, isiA_rol, lenA_str, lenA_tup, lenA_lst, lenA_rol, absA_i, toIntA_i, toIntA_b, isIntA, isiB, String.reduceBEq, List.contains_cons, List.contains_nil, Bool.or_true, Bool.true_or, Bool.or_false, Bool.false_or, Bool.and_true, Bool.true_and, Bool.and_false, Bool.false_and, Bool.not_eq_true, if_true, if_false, decide_true, decide_false, Bool.false_eq_true, eq_self, reduceCtorEq, true_and, false_and, and_false, badA, exists_false, aFld, aPut, agFld, aPutAug, aMeth, aMake, mulX_ii, mulX_si, mulX_li, strA_i, strA_s, intXA_i, intXA_b, isBA_bb, isntBA_bb, aTryV, aRaise, aCallX, aMethX, aErr, aDct0, aStar, aPar3, ex_tri, aCallKX, aIsE, ]
        refine ⟨le_sl (by omega), one_lst (by simp) (by simp) updS_same ok4 (by omega) fun t5 nm ok5 hnm => ?_⟩
        rw [updS_updS]
        have hnm : Vm.isVal nm 0 = true ∧ Vm.cnt nm ≤ 4 := by
          simp only [List.mem_cons, List.not_mem_nil, or_false] at hnm
          rcases hnm with rfl | rfl | rfl <;> exact ⟨by decide +kernel, by decide +kernel⟩
        have sub5 : Sub (updS S p (potO t5)) (updS S2 p (potO t5)) := by have := sub.upd (a := p) (o := potO t5); rw [updS_updS] at this; exact this
        have hl5 : updS S2 p (potO t5) l = some (.lst ds) := by rw [updS_ne nep]; exact hl
        simp only [↓ite_bc, bc_t, bc_f, aLc_rng, aFor_rng, aLc_lst, lstA_lst, lstA_rol, aLcS_rng, eqA_ii, eqA_ss, neA_ii, neA_ss, updS_same, updS_updS, startA, List.map_cons, List.map_nil, List.cons_append, List.nil_append, List.length_cons, List.length_nil, Nat.zero_add, Nat.add_zero, Nat.reduceAdd, Nat.reduceSub, List.replicate_succ, List.replicate_zero, List.replicate,  aVar_z, aVar_s, aC, aNil, aCons, aTup, aLstV, aLst, aOp, aUn, aTru, aTst, aCmp, aChn, aChnT, aAnd, aOr, aNot, aIf, aAndV, aOrV, aNotV, aCB, aCall, aNext, aSeq, aBrk, aCnt, aRet, aRetN, aIfS, aNev,  agName, agNil, agCons, agTup, aAsg, aPar, aDrop, aCallK, aCallKn, aM, aM0, aAddS, aYes, one1, one2, wipeA, aRevT, aRevL, agSub_def, aSl, aPart, aNoPart, cutAns_rol, cutAns_lst, cutAns_tup, cutAns_str, aLstRg, aRg1, ex_some, tupleA_lst, tupleA_tup, wstA_lst,  List.set_cons_zero, List.set_cons_succ, List.set, ex_bl, ex_int, ex_str, ex_tup, ex_eq, ex_cons, ex_pair, ex_one1, ex_one_int, and_tt, truA_bl, truOk_bl, truA_int, truOk_int, truA_lst, truOk_lst, truA_tup, truOk_tup, truA_refU, truOk_refU, Bool.not_true, Bool.not_false,  addA_ii, addA_ss, addA_tt, addA_ll, intA_ii, int2A_ii, subA_ii, mulA_ii, modA_ii, fdivA_ii, powA_ii, negA_i, ltA_ii, leA_ii, gtA_ii, geA_ii, ltA_ss, leA_ss, gtA_ss, geA_ss, isA, isntA, nonA, isiA_non, isiA_bl, isiA_int, isiA_str, isiA_tup, isiA_lst, isiA_rol, lenA_str, lenA_tup, lenA_lst, lenA_rol, absA_i, toIntA_i, toIntA_b, isIntA, isiB, String.reduceBEq, List.contains_cons, List.contains_nil, Bool.or_true, Bool.true_or, Bool.or_false, Bool.false_or, Bool.and_true, Bool.true_and, Bool.and_false, Bool.false_and, Bool.not_eq_true, if_true, if_false, decide_true, decide_false, Bool.false_eq_true, eq_self, reduceCtorEq, true_and, false_and, and_false, badA, exists_false, aFld, aPut, agFld, aPutAug, aMeth, aMake, mulX_ii, mulX_si, mulX_li, strA_i, strA_s, intXA_i, intXA_b, isBA_bb, isntBA_bb, aTryV, aRaise, aCallX, aMethX, aErr, aDct0, aStar, aPar3, ex_tri, aCallKX, aIsE, cutAns_ref hl5, cutL_neg (ds := ds) (k := k) (by omega) hk]
        refine ⟨le_sl (by omega), le_sl (by omega), ?_⟩
        unfold agCut
        simp only [↓ite_bc, bc_t, bc_f, aLc_rng, aFor_rng, aLc_lst, lstA_lst, lstA_rol, aLcS_rng, eqA_ii, eqA_ss, neA_ii, neA_ss, updS_same, updS_updS, startA, List.map_cons, List.map_nil, List.cons_append, List.nil_append, List.length_cons, List.length_nil, Nat.zero_add, Nat.add_zero, Nat.reduceAdd, Nat.reduceSub, List.replicate_succ, List.replicate_zero, List.replicate,  aVar_z, aVar_s, aC, aNil, aCons, aTup, aLstV, aLst, aOp, aUn, aTru, aTst, aCmp, aChn, aChnT, aAnd, aOr, aNot, aIf, aAndV, aOrV, aNotV, aCB, aCall, aNext, aSeq, aBrk, aCnt, aRet, aRetN, aIfS, aNev,  agName, agNil, agCons, agTup, aAsg, aPar, aDrop, aCallK, aCallKn, aM, aM0, aAddS, aYes, one1, one2, wipeA, aRevT, aRevL, agSub_def, aSl, aPart, aNoPart, cutAns_rol, cutAns_lst, cutAns_tup, cutAns_str, aLstRg, aRg1, ex_some, tupleA_lst, tupleA_tup, wstA_lst,  List.set_cons_zero, List.set_cons_succ, List.set, ex_bl, ex_int, ex_str, ex_tup, ex_eq, ex_cons, ex_pair, ex_one1, ex_one_int, and_tt, truA_bl, truOk_bl, truA_int, truOk_int, truA_lst, truOk_lst, truA_tup, truOk_tup, truA_refU, truOk_refU, Bool.not_true, Bool.not_false,  addA_ii, addA_ss, addA_tt, addA_ll, intA_ii, int2A_ii, subA_ii, mulA_ii, modA_ii, fdivA_ii, powA_ii, negA_i, ltA_ii, leA_ii, gtA_ii, geA_ii, ltA_ss, leA_ss, gtA_ss, geA_ss, isA, isntA, nonA, isiA_non, isiA_bl, isiA_int, isiA_str, isiA_tup, isiA_lst, isiA_rol, lenA_str, lenA_tup, lenA_lst, lenA_rol, absA_i, toIntA_i, toIntA_b, isIntA, isiB, String.reduceBEq, List.contains_cons, List.contains_nil, Bool.or_true, Bool.true_or, Bool.or_false, Bool.false_or, Bool.and_true, Bool.true_and, Bool.and_false, Bool.false_and, Bool.not_eq_true, if_true, if_false, decide_true, decide_false, Bool.false_eq_true, eq_self, reduceCtorEq, true_and, false_and, and_false, badA, exists_false, aFld, aPut, agFld, aPutAug, aMeth, aMake, mulX_ii, mulX_si, mulX_li, strA_i, strA_s, intXA_i, intXA_b, isBA_bb, isntBA_bb, aTryV, aRaise, aCallX, aMethX, aErr, aDct0, aStar, aPar3, ex_tri, aCallKX, aIsE, ]
        refine ⟨l, ds, ds.length - k, _, rfl, hl5, rfl, by simp, ?_, by omega, by rw [List.length_singleton]; omega, ?_⟩
        · rw [if_pos (by omega)]; omega
        exact ⟨_, _, _, l, _, t5, rfl, .new sub5 (hb' t5) (by rw [hl5]; simp) (by simp), updS_same, hb' t5, ok5.up (by omega), row.seal hnm.1 hnm.2⟩
  · subst eτ
    rw [rngA_len] at okt row
    have rl := row.len
    have rn := row.ne
    have rc := row.cnt
    simp only [↓ite_bc, bc_t, bc_f, aLc_rng, aFor_rng, aLc_lst, lstA_lst, lstA_rol, aLcS_rng, eqA_ii, eqA_ss, neA_ii, neA_ss, updS_same, updS_updS, startA, List.map_cons, List.map_nil, List.cons_append, List.nil_append, List.length_cons, List.length_nil, Nat.zero_add, Nat.add_zero, Nat.reduceAdd, Nat.reduceSub, List.replicate_succ, List.replicate_zero, List.replicate,  aVar_z, aVar_s, aC, aNil, aCons, aTup, aLstV, aLst, aOp, aUn, aTru, aTst, aCmp, aChn, aChnT, aAnd, aOr, aNot, aIf, aAndV, aOrV, aNotV, aCB, aCall, aNext, aSeq, aBrk, aCnt, aRet, aRetN, aIfS, aNev,  agName, agNil, agCons, agTup, aAsg, aPar, aDrop, aCallK, aCallKn, aM, aM0, aAddS, aYes, one1, one2, wipeA, aRevT, aRevL, agSub_def, aSl, aPart, aNoPart, cutAns_rol, cutAns_lst, cutAns_tup, cutAns_str, aLstRg, aRg1, ex_some, tupleA_lst, tupleA_tup, wstA_lst,  List.set_cons_zero, List.set_cons_succ, List.set, ex_bl, ex_int, ex_str, ex_tup, ex_eq, ex_cons, ex_pair, ex_one1, ex_one_int, and_tt, truA_bl, truOk_bl, truA_int, truOk_int, truA_lst, truOk_lst, truA_tup, truOk_tup, truA_refU, truOk_refU, Bool.not_true, Bool.not_false,  addA_ii, addA_ss, addA_tt, addA_ll, intA_ii, int2A_ii, subA_ii, mulA_ii, modA_ii, fdivA_ii, powA_ii, negA_i, ltA_ii, leA_ii, gtA_ii, geA_ii, ltA_ss, leA_ss, gtA_ss, geA_ss, isA, isntA, nonA, isiA_non, isiA_bl, isiA_int, isiA_str, isiA_tup, isiA_lst, isiA_rol, lenA_str, lenA_tup, lenA_lst, lenA_rol, absA_i, toIntA_i, toIntA_b, isIntA, isiB, String.reduceBEq, List.contains_cons, List.contains_nil, Bool.or_true, Bool.true_or, Bool.or_false, Bool.false_or, Bool.and_true, Bool.true_and, Bool.and_false, Bool.false_and, Bool.not_eq_true, if_true, if_false, decide_true, decide_false, Bool.false_eq_true, eq_self, reduceCtorEq, true_and, false_and, and_false, badA, exists_false, aFld, aPut, agFld, aPutAug, aMeth, aMake, mulX_ii, mulX_si, mulX_li, strA_i, strA_s, intXA_i, intXA_b, isBA_bb, isntBA_bb, aTryV, aRaise, aCallX, aMethX, aErr, aDct0, aStar, aPar3, ex_tri, aCallKX, aIsE, lenA_ref hl]
    by_cases h1 : ds.length = 1
    · obtain ⟨d, rfl⟩ : ∃ d, ds = [d] := by
        rcases ds with _ | ⟨d, _ | ⟨e, ds⟩⟩
        · cases h1
        · exact ⟨d, rfl⟩
        · simp only [List.length_cons] at h1; omega
      simp only [↓ite_bc, bc_t, bc_f, aLc_rng, aFor_rng, aLc_lst, lstA_lst, lstA_rol, aLcS_rng, eqA_ii, eqA_ss, neA_ii, neA_ss, updS_same, updS_updS, startA, List.map_cons, List.map_nil, List.cons_append, List.nil_append, List.length_cons, List.length_nil, Nat.zero_add, Nat.add_zero, Nat.reduceAdd, Nat.reduceSub, List.replicate_succ, List.replicate_zero, List.replicate,  aVar_z, aVar_s, aC, aNil, aCons, aTup, aLstV, aLst, aOp, aUn, aTru, aTst, aCmp, aChn, aChnT, aAnd, aOr, aNot, aIf, aAndV, aOrV, aNotV, aCB, aCall, aNext, aSeq, aBrk, aCnt, aRet, aRetN, aIfS, aNev,  agName, agNil, agCons, agTup, aAsg, aPar, aDrop, aCallK, aCallKn, aM, aM0, aAddS, aYes, one1, one2, wipeA, aRevT, aRevL, agSub_def, aSl, aPart, aNoPart, cutAns_rol, cutAns_lst, cutAns_tup, cutAns_str, aLstRg, aRg1, ex_some, tupleA_lst, tupleA_tup, wstA_lst,  List.set_cons_zero, List.set_cons_succ, List.set, ex_bl, ex_int, ex_str, ex_tup, ex_eq, ex_cons, ex_pair, ex_one1, ex_one_int, and_tt, truA_bl, truOk_bl, truA_int, truOk_int, truA_lst, truOk_lst, truA_tup, truOk_tup, truA_refU, truOk_refU, Bool.not_true, Bool.not_false,  addA_ii, addA_ss, addA_tt, addA_ll, intA_ii, int2A_ii, subA_ii, mulA_ii, modA_ii, fdivA_ii, powA_ii, negA_i, ltA_ii, leA_ii, gtA_ii, geA_ii, ltA_ss, leA_ss, gtA_ss, geA_ss, isA, isntA, nonA, isiA_non, isiA_bl, isiA_int, isiA_str, isiA_tup, isiA_lst, isiA_rol, lenA_str, lenA_tup, lenA_lst, lenA_rol, absA_i, toIntA_i, toIntA_b, isIntA, isiB, String.reduceBEq, List.contains_cons, List.contains_nil, Bool.or_true, Bool.true_or, Bool.or_false, Bool.false_or, Bool.and_true, Bool.true_and, Bool.and_false, Bool.false_and, Bool.not_eq_true, if_true, if_false, decide_true, decide_false, Bool.false_eq_true, eq_self, reduceCtorEq, true_and, false_and, and_false, badA, exists_false, aFld, aPut, agFld, aPutAug, aMeth, aMake, mulX_ii, mulX_si, mulX_li, strA_i, strA_s, intXA_i, intXA_b, isBA_bb, isntBA_bb, aTryV, aRaise, aCallX, aMethX, aErr, aDct0, aStar, aPar3, ex_tri, aCallKX, aIsE, ix1_0 hl]
      have hv : (Vm.isVal d (2 * r2.toNat) && true) = true := row.val
      rw [Bool.and_true] at hv
      have hc : Vm.cnt d + 0 ≤ 910 * m + 11 * r2.toNat := rc
      exact rt_sub sub (q pt d (okt.up (by omega)) (Vm.val_up d _ 20 (by omega) hv) (by omega))
    · rw [decide_eq_false (by omega)]
      simp only [↓ite_bc, bc_t, bc_f, aLc_rng, aFor_rng, aLc_lst, lstA_lst, lstA_rol, aLcS_rng, eqA_ii, eqA_ss, neA_ii, neA_ss, updS_same, updS_updS, startA, List.map_cons, List.map_nil, List.cons_append, List.nil_append, List.length_cons, List.length_nil, Nat.zero_add, Nat.add_zero, Nat.reduceAdd, Nat.reduceSub, List.replicate_succ, List.replicate_zero, List.replicate,  aVar_z, aVar_s, aC, aNil, aCons, aTup, aLstV, aLst, aOp, aUn, aTru, aTst, aCmp, aChn, aChnT, aAnd, aOr, aNot, aIf, aAndV, aOrV, aNotV, aCB, aCall, aNext, aSeq, aBrk, aCnt, aRet, aRetN, aIfS, aNev,  agName, agNil, agCons, agTup, aAsg, aPar, aDrop, aCallK, aCallKn, aM, aM0, aAddS, aYes, one1, one2, wipeA, aRevT, aRevL, agSub_def, aSl, aPart, aNoPart, cutAns_rol, cutAns_lst, cutAns_tup, cutAns_str, aLstRg, aRg1, ex_some, tupleA_lst, tupleA_tup, wstA_lst,  List.set_cons_zero, List.set_cons_succ, List.set, ex_bl, ex_int, ex_str, ex_tup, ex_eq, ex_cons, ex_pair, ex_one1, ex_one_int, and_tt, truA_bl, truOk_bl, truA_int, truOk_int, truA_lst, truOk_lst, truA_tup, truOk_tup, truA_refU, truOk_refU, Bool.not_true, Bool.not_false,  addA_ii, addA_ss, addA_tt, addA_ll, intA_ii, int2A_ii, subA_ii, mulA_ii, modA_ii, fdivA_ii, powA_ii, negA_i, ltA_ii, leA_ii, gtA_ii, geA_ii, ltA_ss, leA_ss, gtA_ss, geA_ss, isA, isntA, nonA, isiA_non, isiA_bl, isiA_int, isiA_str, isiA_tup, isiA_lst, isiA_rol, lenA_str, lenA_tup, lenA_lst, lenA_rol, absA_i, toIntA_i, toIntA_b, isIntA, isiB, String.reduceBEq, List.contains_cons, List.contains_nil, Bool.or_true, Bool.true_or, Bool.or_false, Bool.false_or, Bool.and_true, Bool.true_and, Bool.and_false, Bool.false_and, Bool.not_eq_true, if_true, if_false, decide_true, decide_false, Bool.false_eq_true, eq_self, reduceCtorEq, true_and, false_and, and_false, badA, exists_false, aFld, aPut, agFld, aPutAug, aMeth, aMake, mulX_ii, mulX_si, mulX_li, strA_i, strA_s, intXA_i, intXA_b, isBA_bb, isntBA_bb, aTryV, aRaise, aCallX, aMethX, aErr, aDct0, aStar, aPar3, ex_tri, aCallKX, aIsE, tupleA_ref hl]
      refine rt_sub sub (q pt _ (okt.up (by omega)) ?_ ?_)
      · show (decide (20 ≠ 0) && Vm.isVals ds 19) = true
        rw [Vm.vals_up ds _ 19 (by omega) row.val]; rfl
      · show 1 + Vm.cnts ds ≤ _; omega
def sp__law_text_of : ASp := fun ds S Q => ∃ d, ds = [d] ∧ Vm.isVal d 30 = true ∧ Vm.cnt d ≤ 400000 ∧ Q (.str (Vm.txtS d)) S
set_option maxHeartbeats 4000000 in
theorem fn__law_text_of (T : Txt P w K mg C_Reader C_HouseError f_HouseError C_BadText)  : FnX P w K mg base 1 "_law_text_of" st__law_text_of ["value"] sp__law_text_of := by
  refine FnX.of T.d__law_text_of fun f fd F => F.ok4 sc__law_text_of (fun ds S Q h => by unfold sp__law_text_of at h; first | (obtain ⟨_, rfl, _⟩ := h; rfl) | (obtain ⟨_, _, rfl, _⟩ := h; rfl) | (obtain ⟨_, _, _, rfl, _⟩ := h; rfl) | (obtain ⟨_, _, _, _, rfl, _⟩ := h; rfl) | (obtain ⟨_, _, _, _, _, rfl, _⟩ := h; rfl) | (obtain ⟨_, _, _, _, _, _, rfl, _⟩ := h; rfl) | (obtain ⟨_, _, _, _, _, _, _, rfl, _⟩ := h; rfl)) fun cdv A gd out s H E hr => ?_
  refine ⟨_, (s_cons (s_par (i := 1) (j := 2) rfl sc__law_text_of.nd (a_cons (e_lst a_nil) (a_cons (e_lst (a_cons (e_var 0) a_nil)) a_nil)))
    (s_cons (s_while PassesOwn.never (t_cmp (o_ne hr.units) (e_var 2) (e_lstV a_nil)) (s_cons (s_set 3 sc__law_text_of.nd (e_bm0 PySem.F.plainAttrs_list PySem.F.slot_list_pop PySem.F.type_list_pop m_pop (e_var 2)))
    (s_one (s_if (t_cmp o_is (e_var 3) e_non) (s_one (s_expr (e_bm PySem.F.plainAttrs_list PySem.F.slot_list_append PySem.F.type_list_append m_append (e_var 1) (a_cons e_str a_nil)))) (s_one (s_if (t_tru (e_cb c_isi T.n_isinstance (by decide +kernel) (a_cons (e_var 3) (a_cons (e_bty (n := "str") T.n_str (by decide +kernel)) a_nil)))) (s_one (s_expr (e_bm PySem.F.plainAttrs_list PySem.F.slot_list_append PySem.F.type_list_append m_append (e_var 1) (a_cons (e_op o_add (e_op o_add (e_op o_add e_str (e_ct c_str T.n_str (by decide +kernel) (a_cons (e_cb c_len T.n_len (by decide +kernel) (a_cons (e_var 3) a_nil)) a_nil))) e_str) (e_var 3)) a_nil)))) (s_one (s_if (t_tru (e_cb c_isi T.n_isinstance (by decide +kernel) (a_cons (e_var 3) (a_cons (e_bty (n := "tuple") T.n_tuple (by decide +kernel)) a_nil)))) (s_cons (s_expr (e_bm PySem.F.plainAttrs_list PySem.F.slot_list_append PySem.F.type_list_append m_append (e_var 1) (a_cons e_str a_nil)))
    (s_one (s_expr (e_bm PySem.F.plainAttrs_list PySem.F.slot_list_extend PySem.F.type_list_extend m_extend (e_var 2) (a_cons (e_op o_add (e_lstV (a_cons (e_lstV (a_cons e_str a_nil)) a_nil)) (e_lc 4 [("part", 4)] rfl sc__law_text_of.nd (i_tup (e_revT (e_var 3))) (blkOk_by (N := nm__law_text_of) (sc := defScope st__law_text_of) (by decide +kernel)) (fun _ _ _ _ _ => pg_name sc__law_text_of.nd rfl (Or.inl rfl)) (fun _ _ _ _ _ => ts_nil) (fun _ _ _ _ _ => (e_var 4)))) a_nil))))) (s_one (s_if (t_tru (e_cb c_isi T.n_isinstance (by decide +kernel) (a_cons (e_var 3) (a_cons (e_bty (n := "list") T.n_list (by decide +kernel)) a_nil)))) (s_one (s_expr (e_bm PySem.F.plainAttrs_list PySem.F.slot_list_append PySem.F.type_list_append m_append (e_var 1) (a_cons (e_ix o_ix (e_var 3) e_int) a_nil)))) (s_one (s_expr (e_bm PySem.F.plainAttrs_list PySem.F.slot_list_append PySem.F.type_list_append m_append (e_var 1) (a_cons (e_op o_add (e_op o_add e_str (e_ct c_str T.n_str (by decide +kernel) (a_cons (e_ct c_int T.n_int (by decide +kernel) (a_cons (e_var 3) a_nil)) a_nil))) e_str) a_nil))))))))))))))
    (s_one (s_ret (e_bm PySem.F.plainAttrs_str PySem.F.slot_str_join PySem.F.type_str_join m_join e_str (a_cons (e_var 1) a_nil)))))), ?_⟩
  rintro _ S Q ⟨d, rfl, hv, hc, q⟩
  have hsl : sizeLine = 16777216 := by decide +kernel
  walk_at "rd"
  refine ⟨le_sl (by omega), fun l hl => ⟨le_sl (by omega), fun l1 hl1 => ?_⟩⟩
  have ne : l ≠ l1 := neS updS_same hl1
  have hn1 : S l1 = none := by rw [updS_ne (Ne.symm ne)] at hl1; exact hl1
  refine ⟨fun m τ S' => ∃ (found : List Str) (items : List (AV × Bool)) (o1 o2 : Option AV), τ = [some d, some (.ref l), some (.ref l1), o1, o2] ∧ S' = updS (updS S l (.lst (found.map AV.str))) l1 (.lst (items.map piL)) ∧ Vm.TxOk d found items m,
    ⟨_, [], [(d, false)], none, none, rfl, rfl, .start hv hc⟩, ?_⟩
  rintro m _ _ ⟨found, items, o1, o2, rfl, rfl, ok⟩
  have fl := ok.flen
  have il := ok.ilen
  have hti : ∀ y ∈ items.map piL, Vm.tame y = true ∧ Vm.lay y = true := fun y hy => by
    obtain ⟨⟨x, b⟩, hx, rfl⟩ := List.mem_map.mp hy
    cases b with
    | true =>
      show Vm.tame (.lst [.str ")"]) = true ∧ Vm.lay (.lst [.str ")"]) = true
      exact ⟨by decide +kernel, by decide +kernel⟩
    | false => exact ⟨Vm.val_tame x 30 (ok.ok _ hx rfl), Vm.val_lays (ok.ok _ hx rfl) (by omega)⟩
  have hnn := ne_nil (S := updS (updS S l (.lst (found.map AV.str))) l1 (.lst (items.map piL))) updS_same (fun y hy => (hti y hy).1) (fun y hy => (hti y hy).2)
  rcases eq_nil_or_last items with rfl | ⟨init, ⟨x, b⟩, rfl⟩
  · simp only [List.map_nil] at hnn
    simp only [↓ite_bc, bc_t, bc_f, aLc_rng, aFor_rng, aLc_lst, lstA_lst, lstA_rol, aLcS_rng, eqA_ii, eqA_ss, neA_ii, neA_ss, updS_same, updS_updS, startA, List.map_cons, List.map_nil, List.cons_append, List.nil_append, List.length_cons, List.length_nil, Nat.zero_add, Nat.add_zero, Nat.reduceAdd, Nat.reduceSub, List.replicate_succ, List.replicate_zero, List.replicate,  aVar_z, aVar_s, aC, aNil, aCons, aTup, aLstV, aLst, aOp, aUn, aTru, aTst, aCmp, aChn, aChnT, aAnd, aOr, aNot, aIf, aAndV, aOrV, aNotV, aCB, aCall, aNext, aSeq, aBrk, aCnt, aRet, aRetN, aIfS, aNev,  agName, agNil, agCons, agTup, aAsg, aPar, aDrop, aCallK, aCallKn, aM, aM0, aAddS, aYes, one1, one2, wipeA, aRevT, aRevL, agSub_def, aSl, aPart, aNoPart, cutAns_rol, cutAns_lst, cutAns_tup, cutAns_str, aLstRg, aRg1, ex_some, tupleA_lst, tupleA_tup, wstA_lst,  List.set_cons_zero, List.set_cons_succ, List.set, ex_bl, ex_int, ex_str, ex_tup, ex_eq, ex_cons, ex_pair, ex_one1, ex_one_int, and_tt, truA_bl, truOk_bl, truA_int, truOk_int, truA_lst, truOk_lst, truA_tup, truOk_tup, truA_refU, truOk_refU, Bool.not_true, Bool.not_false,  addA_ii, addA_ss, addA_tt, addA_ll, intA_ii, int2A_ii, subA_ii, mulA_ii, modA_ii, fdivA_ii, powA_ii, negA_i, ltA_ii, leA_ii, gtA_ii, geA_ii, ltA_ss, leA_ss, gtA_ss, geA_ss, isA, isntA, nonA, isiA_non, isiA_bl, isiA_int, isiA_str, isiA_tup, isiA_lst, isiA_rol, lenA_str, lenA_tup, lenA_lst, lenA_rol, absA_i, toIntA_i, toIntA_b, isIntA, isiB, String.reduceBEq, List.contains_cons, List.contains_nil, Bool.or_true, Bool.true_or, Bool.or_false, Bool.false_or, Bool.and_true, Bool.true_and, Bool.and_false, Bool.false_and, Bool.not_eq_true, if_true, if_false, decide_true, decide_false, Bool.false_eq_true, eq_self, reduceCtorEq, true_and, false_and, and_false, badA, exists_false, aFld, aPut, agFld, aPutAug, aMeth, aMake, mulX_ii, mulX_si, mulX_li, strA_i, strA_s, intXA_i, intXA_b, isBA_bb, isntBA_bb, aTryV, aRaise, aCallX, aMethX, aErr, aDct0, aStar, aPar3, ex_tri, aCallKX, aIsE, hnn]
    refine ⟨le_sl (by omega), ?_⟩
    refine ⟨rfl, ok.join ?_ (rt_two' ne hl hn1 q)⟩
    show lstA _ (.ref l) = _
    rw [lstA_ref (two_same ne)]
  have hne : ((init ++ [(x, b)]).map piL).isEmpty = false := by simp
  simp only [↓ite_bc, bc_t, bc_f, aLc_rng, aFor_rng, aLc_lst, lstA_lst, lstA_rol, aLcS_rng, eqA_ii, eqA_ss, neA_ii, neA_ss, updS_same, updS_updS, startA, List.map_cons, List.map_nil, List.cons_append, List.nil_append, List.length_cons, List.length_nil, Nat.zero_add, Nat.add_zero, Nat.reduceAdd, Nat.reduceSub, List.replicate_succ, List.replicate_zero, List.replicate,  aVar_z, aVar_s, aC, aNil, aCons, aTup, aLstV, aLst, aOp, aUn, aTru, aTst, aCmp, aChn, aChnT, aAnd, aOr, aNot, aIf, aAndV, aOrV, aNotV, aCB, aCall, aNext, aSeq, aBrk, aCnt, aRet, aRetN, aIfS, aNev,  agName, agNil, agCons, agTup, aAsg, aPar, aDrop, aCallK, aCallKn, aM, aM0, aAddS, aYes, one1, one2, wipeA, aRevT, aRevL, agSub_def, aSl, aPart, aNoPart, cutAns_rol, cutAns_lst, cutAns_tup, cutAns_str, aLstRg, aRg1, ex_some, tupleA_lst, tupleA_tup, wstA_lst,  List.set_cons_zero, List.set_cons_succ, List.set, ex_bl, ex_int, ex_str, ex_tup, ex_eq, ex_cons, ex_pair, ex_one1, ex_one_int, and_tt, truA_bl, truOk_bl, truA_int, truOk_int, truA_lst, truOk_lst, truA_tup, truOk_tup, truA_refU, truOk_refU, Bool.not_true, Bool.not_false,  addA_ii, addA_ss, addA_tt, addA_ll, intA_ii, int2A_ii, subA_ii, mulA_ii, modA_ii, fdivA_ii, powA_ii, negA_i, ltA_ii, leA_ii, gtA_ii, geA_ii, ltA_ss, leA_ss, gtA_ss, geA_ss, isA, isntA, nonA, isiA_non, isiA_bl, isiA_int, isiA_str, isiA_tup, isiA_lst, isiA_rol, lenA_str, lenA_tup, lenA_lst, lenA_rol, absA_i, toIntA_i, toIntA_b, isIntA, isiB, String.reduceBEq, List.contains_cons, List.contains_nil, Bool.or_true, Bool.true_or, Bool.or_false, Bool.false_or, Bool.and_true, Bool.true_and, Bool.and_false, Bool.false_and, Bool.not_eq_true, if_true, if_false, decide_true, decide_false, Bool.false_eq_true, eq_self, reduceCtorEq, true_and, false_and, and_false, badA, exists_false, aFld, aPut, agFld, aPutAug, aMeth, aMake, mulX_ii, mulX_si, mulX_li, strA_i, strA_s, intXA_i, intXA_b, isBA_bb, isntBA_bb, aTryV, aRaise, aCallX, aMethX, aErr, aDct0, aStar, aPar3, ex_tri, aCallKX, aIsE, hnn, hne]
  refine ⟨le_sl (by omega), ?_⟩
  refine ⟨tyL updS_same, l1, init.map piL, piL (x, b), rfl, rfl, by rw [updS_same, List.map_append]; rfl, ?_⟩
  rw [updS_updS]
  rw [List.length_append, List.length_singleton] at il
  cases b with
  | true =>
    obtain ⟨m', hm, ok'⟩ := ok.shut
    have ei : ∀ S, ixA (.lst [.str ")"]) (.int 0) S = ⟨True, .str ")"⟩ := fun S => ans_tt rfl rfl
    simp only [↓ite_bc, bc_t, bc_f, aLc_rng, aFor_rng, aLc_lst, lstA_lst, lstA_rol, aLcS_rng, eqA_ii, eqA_ss, neA_ii, neA_ss, updS_same, updS_updS, startA, List.map_cons, List.map_nil, List.cons_append, List.nil_append, List.length_cons, List.length_nil, Nat.zero_add, Nat.add_zero, Nat.reduceAdd, Nat.reduceSub, List.replicate_succ, List.replicate_zero, List.replicate,  aVar_z, aVar_s, aC, aNil, aCons, aTup, aLstV, aLst, aOp, aUn, aTru, aTst, aCmp, aChn, aChnT, aAnd, aOr, aNot, aIf, aAndV, aOrV, aNotV, aCB, aCall, aNext, aSeq, aBrk, aCnt, aRet, aRetN, aIfS, aNev,  agName, agNil, agCons, agTup, aAsg, aPar, aDrop, aCallK, aCallKn, aM, aM0, aAddS, aYes, one1, one2, wipeA, aRevT, aRevL, agSub_def, aSl, aPart, aNoPart, cutAns_rol, cutAns_lst, cutAns_tup, cutAns_str, aLstRg, aRg1, ex_some, tupleA_lst, tupleA_tup, wstA_lst,  List.set_cons_zero, List.set_cons_succ, List.set, ex_bl, ex_int, ex_str, ex_tup, ex_eq, ex_cons, ex_pair, ex_one1, ex_one_int, and_tt, truA_bl, truOk_bl, truA_int, truOk_int, truA_lst, truOk_lst, truA_tup, truOk_tup, truA_refU, truOk_refU, Bool.not_true, Bool.not_false,  addA_ii, addA_ss, addA_tt, addA_ll, intA_ii, int2A_ii, subA_ii, mulA_ii, modA_ii, fdivA_ii, powA_ii, negA_i, ltA_ii, leA_ii, gtA_ii, geA_ii, ltA_ss, leA_ss, gtA_ss, geA_ss, isA, isntA, nonA, isiA_non, isiA_bl, isiA_int, isiA_str, isiA_tup, isiA_lst, isiA_rol, lenA_str, lenA_tup, lenA_lst, lenA_rol, absA_i, toIntA_i, toIntA_b, isIntA, isiB, String.reduceBEq, List.contains_cons, List.contains_nil, Bool.or_true, Bool.true_or, Bool.or_false, Bool.false_or, Bool.and_true, Bool.true_and, Bool.and_false, Bool.false_and, Bool.not_eq_true, if_true, if_false, decide_true, decide_false, Bool.false_eq_true, eq_self, reduceCtorEq, true_and, false_and, and_false, badA, exists_false, aFld, aPut, agFld, aPutAug, aMeth, aMake, mulX_ii, mulX_si, mulX_li, strA_i, strA_s, intXA_i, intXA_b, isBA_bb, isntBA_bb, aTryV, aRaise, aCallX, aMethX, aErr, aDct0, aStar, aPar3, ex_tri, aCallKX, aIsE, piL, ei]
    refine ⟨tyL (two_same ne), l, found.map AV.str, .str ")", rfl, rfl, two_same ne, by rw [List.length_map]; omega, ?_⟩
    rw [two_upd ne]
    exact ⟨m', hm, found ++ [(")" : Str)], init, _, _, rfl, by rw [List.map_append]; rfl, ok'⟩
  | false =>
    have hx := ok.ok (x, false) (by simp) rfl
    have fx := Vm.flat_tame x (Vm.val_tame x 30 hx)
    cases hT : isTup x
    · obtain ⟨m', hm, ok'⟩ := ok.leaf
      cases x <;> first | (cases hx; done) | (cases hT; done) | skip
      · simp only [↓ite_bc, bc_t, bc_f, aLc_rng, aFor_rng, aLc_lst, lstA_lst, lstA_rol, aLcS_rng, eqA_ii, eqA_ss, neA_ii, neA_ss, updS_same, updS_updS, startA, List.map_cons, List.map_nil, List.cons_append, List.nil_append, List.length_cons, List.length_nil, Nat.zero_add, Nat.add_zero, Nat.reduceAdd, Nat.reduceSub, List.replicate_succ, List.replicate_zero, List.replicate,  aVar_z, aVar_s, aC, aNil, aCons, aTup, aLstV, aLst, aOp, aUn, aTru, aTst, aCmp, aChn, aChnT, aAnd, aOr, aNot, aIf, aAndV, aOrV, aNotV, aCB, aCall, aNext, aSeq, aBrk, aCnt, aRet, aRetN, aIfS, aNev,  agName, agNil, agCons, agTup, aAsg, aPar, aDrop, aCallK, aCallKn, aM, aM0, aAddS, aYes, one1, one2, wipeA, aRevT, aRevL, agSub_def, aSl, aPart, aNoPart, cutAns_rol, cutAns_lst, cutAns_tup, cutAns_str, aLstRg, aRg1, ex_some, tupleA_lst, tupleA_tup, wstA_lst,  List.set_cons_zero, List.set_cons_succ, List.set, ex_bl, ex_int, ex_str, ex_tup, ex_eq, ex_cons, ex_pair, ex_one1, ex_one_int, and_tt, truA_bl, truOk_bl, truA_int, truOk_int, truA_lst, truOk_lst, truA_tup, truOk_tup, truA_refU, truOk_refU, Bool.not_true, Bool.not_false,  addA_ii, addA_ss, addA_tt, addA_ll, intA_ii, int2A_ii, subA_ii, mulA_ii, modA_ii, fdivA_ii, powA_ii, negA_i, ltA_ii, leA_ii, gtA_ii, geA_ii, ltA_ss, leA_ss, gtA_ss, geA_ss, isA, isntA, nonA, isiA_non, isiA_bl, isiA_int, isiA_str, isiA_tup, isiA_lst, isiA_rol, lenA_str, lenA_tup, lenA_lst, lenA_rol, absA_i, toIntA_i, toIntA_b, isIntA, isiB, String.reduceBEq, List.contains_cons, List.contains_nil, Bool.or_true, Bool.true_or, Bool.or_false, Bool.false_or, Bool.and_true, Bool.true_and, Bool.and_false, Bool.false_and, Bool.not_eq_true, if_true, if_false, decide_true, decide_false, Bool.false_eq_true, eq_self, reduceCtorEq, true_and, false_and, and_false, badA, exists_false, aFld, aPut, agFld, aPutAug, aMeth, aMake, mulX_ii, mulX_si, mulX_li, strA_i, strA_s, intXA_i, intXA_b, isBA_bb, isntBA_bb, aTryV, aRaise, aCallX, aMethX, aErr, aDct0, aStar, aPar3, ex_tri, aCallKX, aIsE, piL]
        refine ⟨tyL (two_same ne), l, found.map AV.str, _, rfl, rfl, two_same ne, by rw [List.length_map]; omega, ?_⟩
        rw [two_upd ne, Vm.tS_non]
        exact ⟨m', hm, _, init, _, _, rfl, by rw [List.map_append]; rfl, ok'⟩
      · rename_i i
        have hx : (decide (-1000000000000000000 ≤ i) && decide (i ≤ 1000000000000000000)) = true := hx
        rw [Bool.and_eq_true_iff, decide_eq_true_eq, decide_eq_true_eq] at hx
        have hl2 : (Str.ofString (toString i)).length ≤ 20 := Vm.int_short i hx.1 hx.2
        have a1 : ("i" : Str).length = 1 := by decide +kernel
        have a2 : (";" : Str).length = 1 := by decide +kernel
        have lg : i.natAbs.log2 < 1920 := by
          rcases Nat.eq_zero_or_pos i.natAbs with e | e
          · rw [e]; decide
          · exact Nat.lt_trans ((Nat.log2_lt (by omega)).mpr (by omega : i.natAbs < 2 ^ 60)) (by decide)
        simp only [↓ite_bc, bc_t, bc_f, aLc_rng, aFor_rng, aLc_lst, lstA_lst, lstA_rol, aLcS_rng, eqA_ii, eqA_ss, neA_ii, neA_ss, updS_same, updS_updS, startA, List.map_cons, List.map_nil, List.cons_append, List.nil_append, List.length_cons, List.length_nil, Nat.zero_add, Nat.add_zero, Nat.reduceAdd, Nat.reduceSub, List.replicate_succ, List.replicate_zero, List.replicate,  aVar_z, aVar_s, aC, aNil, aCons, aTup, aLstV, aLst, aOp, aUn, aTru, aTst, aCmp, aChn, aChnT, aAnd, aOr, aNot, aIf, aAndV, aOrV, aNotV, aCB, aCall, aNext, aSeq, aBrk, aCnt, aRet, aRetN, aIfS, aNev,  agName, agNil, agCons, agTup, aAsg, aPar, aDrop, aCallK, aCallKn, aM, aM0, aAddS, aYes, one1, one2, wipeA, aRevT, aRevL, agSub_def, aSl, aPart, aNoPart, cutAns_rol, cutAns_lst, cutAns_tup, cutAns_str, aLstRg, aRg1, ex_some, tupleA_lst, tupleA_tup, wstA_lst,  List.set_cons_zero, List.set_cons_succ, List.set, ex_bl, ex_int, ex_str, ex_tup, ex_eq, ex_cons, ex_pair, ex_one1, ex_one_int, and_tt, truA_bl, truOk_bl, truA_int, truOk_int, truA_lst, truOk_lst, truA_tup, truOk_tup, truA_refU, truOk_refU, Bool.not_true, Bool.not_false,  addA_ii, addA_ss, addA_tt, addA_ll, intA_ii, int2A_ii, subA_ii, mulA_ii, modA_ii, fdivA_ii, powA_ii, negA_i, ltA_ii, leA_ii, gtA_ii, geA_ii, ltA_ss, leA_ss, gtA_ss, geA_ss, isA, isntA, nonA, isiA_non, isiA_bl, isiA_int, isiA_str, isiA_tup, isiA_lst, isiA_rol, lenA_str, lenA_tup, lenA_lst, lenA_rol, absA_i, toIntA_i, toIntA_b, isIntA, isiB, String.reduceBEq, List.contains_cons, List.contains_nil, Bool.or_true, Bool.true_or, Bool.or_false, Bool.false_or, Bool.and_true, Bool.true_and, Bool.and_false, Bool.false_and, Bool.not_eq_true, if_true, if_false, decide_true, decide_false, Bool.false_eq_true, eq_self, reduceCtorEq, true_and, false_and, and_false, badA, exists_false, aFld, aPut, agFld, aPutAug, aMeth, aMake, mulX_ii, mulX_si, mulX_li, strA_i, strA_s, intXA_i, intXA_b, isBA_bb, isntBA_bb, aTryV, aRaise, aCallX, aMethX, aErr, aDct0, aStar, aPar3, ex_tri, aCallKX, aIsE, piL]
        refine ⟨tyL (two_same ne), lg, le_sl (by omega), le_sl (by rw [Vm.len_app]; omega), l, found.map AV.str, _, rfl, rfl, two_same ne, by rw [List.length_map]; omega, ?_⟩
        rw [two_upd ne, Vm.tS_int]
        exact ⟨m', hm, _, init, _, _, rfl, by rw [List.map_append]; rfl, ok'⟩
      · rename_i z
        have hx : (decide (z.length ≤ 100000) && z.cps.toList.all Vm.chB) = true := hx
        rw [Bool.and_eq_true_iff, decide_eq_true_eq] at hx
        have hl2 : (Str.ofString (toString (z.length : Int))).length ≤ 20 := Vm.int_short z.length (by omega) (by omega)
        have a1 : ("s" : Str).length = 1 := by decide +kernel
        have a2 : (":" : Str).length = 1 := by decide +kernel
        have lg : (z.length : Int).natAbs.log2 < 1920 := by
          rcases Nat.eq_zero_or_pos (z.length : Int).natAbs with e | e
          · rw [e]; decide
          · exact Nat.lt_trans ((Nat.log2_lt (by omega)).mpr (by omega : (z.length : Int).natAbs < 2 ^ 60)) (by decide)
        simp only [↓ite_bc, bc_t, bc_f, aLc_rng, aFor_rng, aLc_lst, lstA_lst, lstA_rol, aLcS_rng, eqA_ii, eqA_ss, neA_ii, neA_ss, updS_same, updS_updS, startA, List.map_cons, List.map_nil, List.cons_append, List.nil_append, List.length_cons, List.length_nil, Nat.zero_add, Nat.add_zero, Nat.reduceAdd, Nat.reduceSub, List.replicate_succ, List.replicate_zero, List.replicate,  aVar_z, aVar_s, aC, aNil, aCons, aTup, aLstV, aLst, aOp, aUn, aTru, aTst, aCmp, aChn, aChnT, aAnd, aOr, aNot, aIf, aAndV, aOrV, aNotV, aCB, aCall, aNext, aSeq, aBrk, aCnt, aRet, aRetN, aIfS, aNev,  agName, agNil, agCons, agTup, aAsg, aPar, aDrop, aCallK, aCallKn, aM, aM0, aAddS, aYes, one1, one2, wipeA, aRevT, aRevL, agSub_def, aSl, aPart, aNoPart, cutAns_rol, cutAns_lst, cutAns_tup, cutAns_str, aLstRg, aRg1, ex_some, tupleA_lst, tupleA_tup, wstA_lst,  List.set_cons_zero, List.set_cons_succ, List.set, ex_bl, ex_int, ex_str, ex_tup, ex_eq, ex_cons, ex_pair, ex_one1, ex_one_int, and_tt, truA_bl, truOk_bl, truA_int, truOk_int, truA_lst, truOk_lst, truA_tup, truOk_tup, truA_refU, truOk_refU, Bool.not_true, Bool.not_false,  addA_ii, addA_ss, addA_tt, addA_ll, intA_ii, int2A_ii, subA_ii, mulA_ii, modA_ii, fdivA_ii, powA_ii, negA_i, ltA_ii, leA_ii, gtA_ii, geA_ii, ltA_ss, leA_ss, gtA_ss, geA_ss, isA, isntA, nonA, isiA_non, isiA_bl, isiA_int, isiA_str, isiA_tup, isiA_lst, isiA_rol, lenA_str, lenA_tup, lenA_lst, lenA_rol, absA_i, toIntA_i, toIntA_b, isIntA, isiB, String.reduceBEq, List.contains_cons, List.contains_nil, Bool.or_true, Bool.true_or, Bool.or_false, Bool.false_or, Bool.and_true, Bool.true_and, Bool.and_false, Bool.false_and, Bool.not_eq_true, if_true, if_false, decide_true, decide_false, Bool.false_eq_true, eq_self, reduceCtorEq, true_and, false_and, and_false, badA, exists_false, aFld, aPut, agFld, aPutAug, aMeth, aMake, mulX_ii, mulX_si, mulX_li, strA_i, strA_s, intXA_i, intXA_b, isBA_bb, isntBA_bb, aTryV, aRaise, aCallX, aMethX, aErr, aDct0, aStar, aPar3, ex_tri, aCallKX, aIsE, piL]
        refine ⟨tyL (two_same ne), le_sl (by omega), lg, le_sl (by omega), le_sl (by rw [Vm.len_app]; omega), le_sl (by rw [Vm.len_app, Vm.len_app]; omega), l, found.map AV.str, _, rfl, rfl, two_same ne, by rw [List.length_map]; omega, ?_⟩
        rw [two_upd ne, Vm.tS_str]
        exact ⟨m', hm, _, init, _, _, rfl, by rw [List.map_append]; rfl, ok'⟩
    · obtain ⟨xs, rfl⟩ := isTup_ex hT
      obtain ⟨m', hm, ok'⟩ := ok.tup
      have il' := ok'.ilen
      rw [List.length_append, List.length_append, List.length_map, List.length_reverse, List.length_singleton] at il'
      simp only [↓ite_bc, bc_t, bc_f, aLc_rng, aFor_rng, aLc_lst, lstA_lst, lstA_rol, aLcS_rng, eqA_ii, eqA_ss, neA_ii, neA_ss, updS_same, updS_updS, startA, List.map_cons, List.map_nil, List.cons_append, List.nil_append, List.length_cons, List.length_nil, Nat.zero_add, Nat.add_zero, Nat.reduceAdd, Nat.reduceSub, List.replicate_succ, List.replicate_zero, List.replicate,  aVar_z, aVar_s, aC, aNil, aCons, aTup, aLstV, aLst, aOp, aUn, aTru, aTst, aCmp, aChn, aChnT, aAnd, aOr, aNot, aIf, aAndV, aOrV, aNotV, aCB, aCall, aNext, aSeq, aBrk, aCnt, aRet, aRetN, aIfS, aNev,  agName, agNil, agCons, agTup, aAsg, aPar, aDrop, aCallK, aCallKn, aM, aM0, aAddS, aYes, one1, one2, wipeA, aRevT, aRevL, agSub_def, aSl, aPart, aNoPart, cutAns_rol, cutAns_lst, cutAns_tup, cutAns_str, aLstRg, aRg1, ex_some, tupleA_lst, tupleA_tup, wstA_lst,  List.set_cons_zero, List.set_cons_succ, List.set, ex_bl, ex_int, ex_str, ex_tup, ex_eq, ex_cons, ex_pair, ex_one1, ex_one_int, and_tt, truA_bl, truOk_bl, truA_int, truOk_int, truA_lst, truOk_lst, truA_tup, truOk_tup, truA_refU, truOk_refU, Bool.not_true, Bool.not_false,  addA_ii, addA_ss, addA_tt, addA_ll, intA_ii, int2A_ii, subA_ii, mulA_ii, modA_ii, fdivA_ii, powA_ii, negA_i, ltA_ii, leA_ii, gtA_ii, geA_ii, ltA_ss, leA_ss, gtA_ss, geA_ss, isA, isntA, nonA, isiA_non, isiA_bl, isiA_int, isiA_str, isiA_tup, isiA_lst, isiA_rol, lenA_str, lenA_tup, lenA_lst, lenA_rol, absA_i, toIntA_i, toIntA_b, isIntA, isiB, String.reduceBEq, List.contains_cons, List.contains_nil, Bool.or_true, Bool.true_or, Bool.or_false, Bool.false_or, Bool.and_true, Bool.true_and, Bool.and_false, Bool.false_and, Bool.not_eq_true, if_true, if_false, decide_true, decide_false, Bool.false_eq_true, eq_self, reduceCtorEq, true_and, false_and, and_false, badA, exists_false, aFld, aPut, agFld, aPutAug, aMeth, aMake, mulX_ii, mulX_si, mulX_li, strA_i, strA_s, intXA_i, intXA_b, isBA_bb, isntBA_bb, aTryV, aRaise, aCallX, aMethX, aErr, aDct0, aStar, aPar3, ex_tri, aCallKX, aIsE, piL]
      refine ⟨tyL (two_same ne), l, found.map AV.str, .str "(", rfl, rfl, two_same ne, by rw [List.length_map]; omega, ?_⟩
      rw [two_upd ne]
      refine ⟨tyL updS_same, le_sl (by omega), le_sl (by omega), ?_⟩
      refine lc_tp' (xs := xs.reverse) id (fun Q' h => ⟨_, rfl, xs, rfl, h⟩) (fun Q1 Q2 hQ ⟨_, e, ys, e2, h⟩ => ⟨_, e, ys, e2, hQ _ _ h⟩) (le_sl (by rw [List.length_reverse]; omega)) (fun y S2 Qe hy h => ⟨_, rfl, h⟩) ?_
      rw [List.map_id]
      simp only [↓ite_bc, bc_t, bc_f, aLc_rng, aFor_rng, aLc_lst, lstA_lst, lstA_rol, aLcS_rng, eqA_ii, eqA_ss, neA_ii, neA_ss, updS_same, updS_updS, startA, List.map_cons, List.map_nil, List.cons_append, List.nil_append, List.length_cons, List.length_nil, Nat.zero_add, Nat.add_zero, Nat.reduceAdd, Nat.reduceSub, List.replicate_succ, List.replicate_zero, List.replicate,  aVar_z, aVar_s, aC, aNil, aCons, aTup, aLstV, aLst, aOp, aUn, aTru, aTst, aCmp, aChn, aChnT, aAnd, aOr, aNot, aIf, aAndV, aOrV, aNotV, aCB, aCall, aNext, aSeq, aBrk, aCnt, aRet, aRetN, aIfS, aNev,  agName, agNil, agCons, agTup, aAsg, aPar, aDrop, aCallK, aCallKn, aM, aM0, aAddS, aYes, one1, one2, wipeA, aRevT, aRevL, agSub_def, aSl, aPart, aNoPart, cutAns_rol, cutAns_lst, cutAns_tup, cutAns_str, aLstRg, aRg1, ex_some, tupleA_lst, tupleA_tup, wstA_lst,  List.set_cons_zero, List.set_cons_succ, List.set, ex_bl, ex_int, ex_str, ex_tup, ex_eq, ex_cons, ex_pair, ex_one1, ex_one_int, and_tt, truA_bl, truOk_bl, truA_int, truOk_int, truA_lst, truOk_lst, truA_tup, truOk_tup, truA_refU, truOk_refU, Bool.not_true, Bool.not_false,  addA_ii, addA_ss, addA_tt, addA_ll, intA_ii, int2A_ii, subA_ii, mulA_ii, modA_ii, fdivA_ii, powA_ii, negA_i, ltA_ii, leA_ii, gtA_ii, geA_ii, ltA_ss, leA_ss, gtA_ss, geA_ss, isA, isntA, nonA, isiA_non, isiA_bl, isiA_int, isiA_str, isiA_tup, isiA_lst, isiA_rol, lenA_str, lenA_tup, lenA_lst, lenA_rol, absA_i, toIntA_i, toIntA_b, isIntA, isiB, String.reduceBEq, List.contains_cons, List.contains_nil, Bool.or_true, Bool.true_or, Bool.or_false, Bool.false_or, Bool.and_true, Bool.true_and, Bool.and_false, Bool.false_and, Bool.not_eq_true, if_true, if_false, decide_true, decide_false, Bool.false_eq_true, eq_self, reduceCtorEq, true_and, false_and, and_false, badA, exists_false, aFld, aPut, agFld, aPutAug, aMeth, aMake, mulX_ii, mulX_si, mulX_li, strA_i, strA_s, intXA_i, intXA_b, isBA_bb, isntBA_bb, aTryV, aRaise, aCallX, aMethX, aErr, aDct0, aStar, aPar3, ex_tri, aCallKX, aIsE, ]
      refine ⟨le_sl (by rw [List.length_reverse]; omega), l1, _, _, _, rfl, rfl, updS_same, .inr rfl, le_sl (by rw [List.length_map, List.length_cons, List.length_reverse]; omega), ?_⟩
      rw [updS_updS]
      refine ⟨m', hm, found ++ [("(" : Str)], _, _, _, rfl, ?_, ok'⟩
      have em : (xs.reverse.map fun x => (x, false)).map piL = xs.reverse := by rw [List.map_map]; exact List.map_id' _
      rw [List.map_append, List.map_append, List.map_append, em, List.append_assoc]
      rfl
def sp__law_figures_end : ASp := fun ds S Q => ∃ z k neg most, ds = [.str z, .int (k : Nat), .bl neg, .int most] ∧ k ≤ z.length ∧ z.length ≤ 10000000 ∧ most ≤ 1000000000000000000 ∧ Q (.int ((k + (Vm.figs neg most [] (z.cps.toList.drop k)).length : Nat) : Int)) S
set_option maxHeartbeats 4000000 in
theorem fn__law_figures_end (T : Txt P w K mg C_Reader C_HouseError f_HouseError C_BadText)  : FnX P w K mg base 1 "_law_figures_end" st__law_figures_end ["text", "at", "is_below", "most"] sp__law_figures_end := by
  refine FnX.of T.d__law_figures_end fun f fd F => F.ok4 sc__law_figures_end (fun ds S Q h => by unfold sp__law_figures_end at h; first | (obtain ⟨_, rfl, _⟩ := h; rfl) | (obtain ⟨_, _, rfl, _⟩ := h; rfl) | (obtain ⟨_, _, _, rfl, _⟩ := h; rfl) | (obtain ⟨_, _, _, _, rfl, _⟩ := h; rfl) | (obtain ⟨_, _, _, _, _, rfl, _⟩ := h; rfl) | (obtain ⟨_, _, _, _, _, _, rfl, _⟩ := h; rfl) | (obtain ⟨_, _, _, _, _, _, _, rfl, _⟩ := h; rfl)) fun cdv A gd out s H E hr => ?_
  refine ⟨_, (s_cons (s_set 4 sc__law_figures_end.nd (e_var 1))
    (s_cons (s_while PassesOwn.never (w_and (t_cmp o_lt (e_var 1) (e_cb c_len T.n_len (by decide +kernel) (a_cons (e_var 0) a_nil))) (w_and1 (t_cmp o_inS (e_ix o_ix (e_var 0) (e_var 1)) e_str))).pt (s_cons (s_set 5 sc__law_figures_end.nd (e_sl (e_var 0) (o_some (e_var 4)) (o_some (e_op o_add (e_var 1) e_int))))
    (s_cons (s_if (w_or (w_and (t_cmp o_gt (e_cb c_len T.n_len (by decide +kernel) (a_cons (e_var 5) a_nil)) e_int) (w_and1 (t_cmp (o_eq hr.units) (e_ix o_ix (e_var 5) e_int) e_str))).pt (w_or (w_and (t_tru (e_var 2)) (w_and1 (t_cmp (o_eq hr.units) (e_var 5) e_str))).pt (w_or1 (t_cmp o_gt (e_ct c_intX T.n_int (by decide +kernel) (a_cons (e_var 5) a_nil)) (e_var 3))))).pt (s_one s_brk) s_nil)
    (s_one (s_set 1 sc__law_figures_end.nd (e_op o_add (e_var 1) e_int))))))
    (s_one (s_ret (e_var 1))))), ?_⟩
  rintro _ S Q ⟨z, k, neg, most, rfl, hk, hz, hm, q⟩
  have hlen : z.cps.toList.length = z.length := Array.length_toList
  walk_at "rd"
  refine ⟨fun m τ S' => ∃ (found : List Nat) (o5 : Option AV), τ = [some (.str z), some (.int ((k + found.length : Nat) : Int)), some (.bl neg), some (.int most), some (.int (k : Nat)), o5] ∧ S' = S ∧ k + found.length + m = z.length ∧
    Vm.figs neg most [] (z.cps.toList.drop k) = Vm.figs neg most found (z.cps.toList.drop (k + found.length)) ∧ Vm.FigOk most found ∧ found = (z.cps.toList.drop k).take found.length, ⟨z.length - k, [], none, rfl, rfl, by show k + 0 + _ = _; omega, rfl, .nil, rfl⟩, ?_⟩
  rintro m _ S ⟨found, o5, rfl, rfl, hmm, hf, ok, hfd⟩
  have hl := ok.len
  simp only [↓ite_bc, bc_t, bc_f, aLc_rng, aFor_rng, aLc_lst, lstA_lst, lstA_rol, aLcS_rng, eqA_ii, eqA_ss, neA_ii, neA_ss, updS_same, updS_updS, startA, List.map_cons, List.map_nil, List.cons_append, List.nil_append, List.length_cons, List.length_nil, Nat.zero_add, Nat.add_zero, Nat.reduceAdd, Nat.reduceSub, List.replicate_succ, List.replicate_zero, List.replicate,  aVar_z, aVar_s, aC, aNil, aCons, aTup, aLstV, aLst, aOp, aUn, aTru, aTst, aCmp, aChn, aChnT, aAnd, aOr, aNot, aIf, aAndV, aOrV, aNotV, aCB, aCall, aNext, aSeq, aBrk, aCnt, aRet, aRetN, aIfS, aNev,  agName, agNil, agCons, agTup, aAsg, aPar, aDrop, aCallK, aCallKn, aM, aM0, aAddS, aYes, one1, one2, wipeA, aRevT, aRevL, agSub_def, aSl, aPart, aNoPart, cutAns_rol, cutAns_lst, cutAns_tup, cutAns_str, aLstRg, aRg1, ex_some, tupleA_lst, tupleA_tup, wstA_lst,  List.set_cons_zero, List.set_cons_succ, List.set, ex_bl, ex_int, ex_str, ex_tup, ex_eq, ex_cons, ex_pair, ex_one1, ex_one_int, and_tt, truA_bl, truOk_bl, truA_int, truOk_int, truA_lst, truOk_lst, truA_tup, truOk_tup, truA_refU, truOk_refU, Bool.not_true, Bool.not_false,  addA_ii, addA_ss, addA_tt, addA_ll, intA_ii, int2A_ii, subA_ii, mulA_ii, modA_ii, fdivA_ii, powA_ii, negA_i, ltA_ii, leA_ii, gtA_ii, geA_ii, ltA_ss, leA_ss, gtA_ss, geA_ss, isA, isntA, nonA, isiA_non, isiA_bl, isiA_int, isiA_str, isiA_tup, isiA_lst, isiA_rol, lenA_str, lenA_tup, lenA_lst, lenA_rol, absA_i, toIntA_i, toIntA_b, isIntA, isiB, String.reduceBEq, List.contains_cons, List.contains_nil, Bool.or_true, Bool.true_or, Bool.or_false, Bool.false_or, Bool.and_true, Bool.true_and, Bool.and_false, Bool.false_and, Bool.not_eq_true, if_true, if_false, decide_true, decide_false, Bool.false_eq_true, eq_self, reduceCtorEq, true_and, false_and, and_false, badA, exists_false, aFld, aPut, agFld, aPutAug, aMeth, aMake, mulX_ii, mulX_si, mulX_li, strA_i, strA_s, intXA_i, intXA_b, isBA_bb, isntBA_bb, aTryV, aRaise, aCallX, aMethX, aErr, aDct0, aStar, aPar3, ex_tri, aCallKX, aIsE, ]
  refine ⟨le_sl (by omega), ?_⟩
  by_cases hlt : k + found.length < z.length
  · obtain ⟨c, rs, e1, e2, e3⟩ := Vm.ix_str (S := fun _ => none) (le_sl (by omega) : z.length ≤ sizeLine) hlt
    rw [decide_eq_true (by omega)]
    rw [e1, Vm.figs_cons] at hf
    have eadd : ((k + found.length : Nat) : Int) + 1 = ((k + found.length + 1 : Nat) : Int) := rfl
    have efig : cutS z (some (k : Int)) (some ((k + found.length + 1 : Nat) : Int)) = ⟨(found ++ [c]).toArray⟩ := by
      rw [Vm.cut_mid hk (by omega), show k + found.length + 1 - k = found.length + 1 by omega, List.take_add_one, ← hfd, List.getElem?_drop]
      have : z.cps.toList[k + found.length]? = some c := by
        have := congrArg List.head? e1
        rw [List.head?_drop] at this
        exact this
      rw [this]; rfl
    simp only [↓ite_bc, bc_t, bc_f, aLc_rng, aFor_rng, aLc_lst, lstA_lst, lstA_rol, aLcS_rng, eqA_ii, eqA_ss, neA_ii, neA_ss, updS_same, updS_updS, startA, List.map_cons, List.map_nil, List.cons_append, List.nil_append, List.length_cons, List.length_nil, Nat.zero_add, Nat.add_zero, Nat.reduceAdd, Nat.reduceSub, List.replicate_succ, List.replicate_zero, List.replicate,  aVar_z, aVar_s, aC, aNil, aCons, aTup, aLstV, aLst, aOp, aUn, aTru, aTst, aCmp, aChn, aChnT, aAnd, aOr, aNot, aIf, aAndV, aOrV, aNotV, aCB, aCall, aNext, aSeq, aBrk, aCnt, aRet, aRetN, aIfS, aNev,  agName, agNil, agCons, agTup, aAsg, aPar, aDrop, aCallK, aCallKn, aM, aM0, aAddS, aYes, one1, one2, wipeA, aRevT, aRevL, agSub_def, aSl, aPart, aNoPart, cutAns_rol, cutAns_lst, cutAns_tup, cutAns_str, aLstRg, aRg1, ex_some, tupleA_lst, tupleA_tup, wstA_lst,  List.set_cons_zero, List.set_cons_succ, List.set, ex_bl, ex_int, ex_str, ex_tup, ex_eq, ex_cons, ex_pair, ex_one1, ex_one_int, and_tt, truA_bl, truOk_bl, truA_int, truOk_int, truA_lst, truOk_lst, truA_tup, truOk_tup, truA_refU, truOk_refU, Bool.not_true, Bool.not_false,  addA_ii, addA_ss, addA_tt, addA_ll, intA_ii, int2A_ii, subA_ii, mulA_ii, modA_ii, fdivA_ii, powA_ii, negA_i, ltA_ii, leA_ii, gtA_ii, geA_ii, ltA_ss, leA_ss, gtA_ss, geA_ss, isA, isntA, nonA, isiA_non, isiA_bl, isiA_int, isiA_str, isiA_tup, isiA_lst, isiA_rol, lenA_str, lenA_tup, lenA_lst, lenA_rol, absA_i, toIntA_i, toIntA_b, isIntA, isiB, String.reduceBEq, List.contains_cons, List.contains_nil, Bool.or_true, Bool.true_or, Bool.or_false, Bool.false_or, Bool.and_true, Bool.true_and, Bool.and_false, Bool.false_and, Bool.not_eq_true, if_true, if_false, decide_true, decide_false, Bool.false_eq_true, eq_self, reduceCtorEq, true_and, false_and, and_false, badA, exists_false, aFld, aPut, agFld, aPutAug, aMeth, aMake, mulX_ii, mulX_si, mulX_li, strA_i, strA_s, intXA_i, intXA_b, isBA_bb, isntBA_bb, aTryV, aRaise, aCallX, aMethX, aErr, aDct0, aStar, aPar3, ex_tri, aCallKX, aIsE, e3, Vm.fig_inA, eadd, efig]
    cases hc : Vm.dig c
    · rw [hc, if_neg Bool.false_ne_true] at hf
      rw [hf] at q
      walk_at "rd"
      exact rt_same q
    rw [hc, if_pos rfl] at hf
    have ht := ok.text hc
    have hl2 : (⟨(found ++ [c]).toArray⟩ : Str).length = found.length + 1 := by show (found ++ [c]).toArray.size = _; rw [List.size_toArray, List.length_append, List.length_singleton]
    have e48 : ("0" : Str).cps.toList = [48] := by decide +kernel
    have n0 : decide ((⟨(found ++ [c]).toArray⟩ : Str) = ("0" : Str)) = decide (found ++ [c] = [48]) := Vm.se1 e48
    simp only [↓ite_bc, bc_t, bc_f, aLc_rng, aFor_rng, aLc_lst, lstA_lst, lstA_rol, aLcS_rng, eqA_ii, eqA_ss, neA_ii, neA_ss, updS_same, updS_updS, startA, List.map_cons, List.map_nil, List.cons_append, List.nil_append, List.length_cons, List.length_nil, Nat.zero_add, Nat.add_zero, Nat.reduceAdd, Nat.reduceSub, List.replicate_succ, List.replicate_zero, List.replicate,  aVar_z, aVar_s, aC, aNil, aCons, aTup, aLstV, aLst, aOp, aUn, aTru, aTst, aCmp, aChn, aChnT, aAnd, aOr, aNot, aIf, aAndV, aOrV, aNotV, aCB, aCall, aNext, aSeq, aBrk, aCnt, aRet, aRetN, aIfS, aNev,  agName, agNil, agCons, agTup, aAsg, aPar, aDrop, aCallK, aCallKn, aM, aM0, aAddS, aYes, one1, one2, wipeA, aRevT, aRevL, agSub_def, aSl, aPart, aNoPart, cutAns_rol, cutAns_lst, cutAns_tup, cutAns_str, aLstRg, aRg1, ex_some, tupleA_lst, tupleA_tup, wstA_lst,  List.set_cons_zero, List.set_cons_succ, List.set, ex_bl, ex_int, ex_str, ex_tup, ex_eq, ex_cons, ex_pair, ex_one1, ex_one_int, and_tt, truA_bl, truOk_bl, truA_int, truOk_int, truA_lst, truOk_lst, truA_tup, truOk_tup, truA_refU, truOk_refU, Bool.not_true, Bool.not_false,  addA_ii, addA_ss, addA_tt, addA_ll, intA_ii, int2A_ii, subA_ii, mulA_ii, modA_ii, fdivA_ii, powA_ii, negA_i, ltA_ii, leA_ii, gtA_ii, geA_ii, ltA_ss, leA_ss, gtA_ss, geA_ss, isA, isntA, nonA, isiA_non, isiA_bl, isiA_int, isiA_str, isiA_tup, isiA_lst, isiA_rol, lenA_str, lenA_tup, lenA_lst, lenA_rol, absA_i, toIntA_i, toIntA_b, isIntA, isiB, String.reduceBEq, List.contains_cons, List.contains_nil, Bool.or_true, Bool.true_or, Bool.or_false, Bool.false_or, Bool.and_true, Bool.true_and, Bool.and_false, Bool.false_and, Bool.not_eq_true, if_true, if_false, decide_true, decide_false, Bool.false_eq_true, eq_self, reduceCtorEq, true_and, false_and, and_false, badA, exists_false, aFld, aPut, agFld, aPutAug, aMeth, aMake, mulX_ii, mulX_si, mulX_li, strA_i, strA_s, intXA_i, intXA_b, isBA_bb, isntBA_bb, aTryV, aRaise, aCallX, aMethX, aErr, aDct0, aStar, aPar3, ex_tri, aCallKX, aIsE, intXA_s ht, n0]
    refine ⟨le_sl (by omega), le_sl (by omega), Vm.nought_test ok hl2 (fun c1 => ?_) (fun c1 => ?_)⟩
    · rw [if_pos (.inl c1)] at hf
      rw [hf] at q
      exact rt_same q
    have last : ¬ (neg = true ∧ found ++ [c] = [48]) → (⟨(found ++ [c]).toArray⟩ : Str).length ≤ 640 ∧ bc (decide (most < (NumText.digitsVal (found ++ [c]) : Int))) (RtW Q (AV.int ((k + found.length : Nat) : Int)) S)
        (∃ m', m' < m ∧ ∃ (found_1 : List Nat) (o5 : Option AV), [some (AV.str z), some (AV.int ((k + found.length + 1 : Nat) : Int)), some (AV.bl neg), some (AV.int most), some (AV.int (k : Nat)), some (AV.str ⟨(found ++ [c]).toArray⟩)] = [some (AV.str z), some (AV.int ((k + found_1.length : Nat) : Int)), some (AV.bl neg), some (AV.int most), some (AV.int (k : Nat)), o5] ∧
          k + found_1.length + m' = z.length ∧ Vm.figs neg most [] (z.cps.toList.drop k) = Vm.figs neg most found_1 (z.cps.toList.drop (k + found_1.length)) ∧ Vm.FigOk most found_1 ∧ found_1 = (z.cps.toList.drop k).take found_1.length) := fun c2 => by
      refine ⟨by omega, ?_⟩
      by_cases c3 : most < (NumText.digitsVal (found ++ [c]) : Int)
      · rw [if_pos (.inr (.inr c3))] at hf
        rw [hf] at q
        rw [decide_eq_true c3]
        exact rt_same q
      · rw [decide_eq_false c3]
        rw [if_neg (by rintro (z | z | z) <;> contradiction)] at hf
        refine ⟨m - 1, by omega, found ++ [c], _, by rw [List.length_append, List.length_singleton, ← Nat.add_assoc], by rw [List.length_append, List.length_singleton]; omega, by rw [hf, e2, List.length_append, List.length_singleton]; rfl, ok.step hc c1 c3 hm, ?_⟩
        rw [List.length_append, List.length_singleton, List.take_add_one, ← hfd, List.getElem?_drop]
        have : z.cps.toList[k + found.length]? = some c := by
          have := congrArg List.head? e1
          rw [List.head?_drop] at this
          exact this
        rw [this]; rfl
    cases hneg : neg
    · subst hneg
      simp only [↓ite_bc, bc_t, bc_f, aLc_rng, aFor_rng, aLc_lst, lstA_lst, lstA_rol, aLcS_rng, eqA_ii, eqA_ss, neA_ii, neA_ss, updS_same, updS_updS, startA, List.map_cons, List.map_nil, List.cons_append, List.nil_append, List.length_cons, List.length_nil, Nat.zero_add, Nat.add_zero, Nat.reduceAdd, Nat.reduceSub, List.replicate_succ, List.replicate_zero, List.replicate,  aVar_z, aVar_s, aC, aNil, aCons, aTup, aLstV, aLst, aOp, aUn, aTru, aTst, aCmp, aChn, aChnT, aAnd, aOr, aNot, aIf, aAndV, aOrV, aNotV, aCB, aCall, aNext, aSeq, aBrk, aCnt, aRet, aRetN, aIfS, aNev,  agName, agNil, agCons, agTup, aAsg, aPar, aDrop, aCallK, aCallKn, aM, aM0, aAddS, aYes, one1, one2, wipeA, aRevT, aRevL, agSub_def, aSl, aPart, aNoPart, cutAns_rol, cutAns_lst, cutAns_tup, cutAns_str, aLstRg, aRg1, ex_some, tupleA_lst, tupleA_tup, wstA_lst,  List.set_cons_zero, List.set_cons_succ, List.set, ex_bl, ex_int, ex_str, ex_tup, ex_eq, ex_cons, ex_pair, ex_one1, ex_one_int, and_tt, truA_bl, truOk_bl, truA_int, truOk_int, truA_lst, truOk_lst, truA_tup, truOk_tup, truA_refU, truOk_refU, Bool.not_true, Bool.not_false,  addA_ii, addA_ss, addA_tt, addA_ll, intA_ii, int2A_ii, subA_ii, mulA_ii, modA_ii, fdivA_ii, powA_ii, negA_i, ltA_ii, leA_ii, gtA_ii, geA_ii, ltA_ss, leA_ss, gtA_ss, geA_ss, isA, isntA, nonA, isiA_non, isiA_bl, isiA_int, isiA_str, isiA_tup, isiA_lst, isiA_rol, lenA_str, lenA_tup, lenA_lst, lenA_rol, absA_i, toIntA_i, toIntA_b, isIntA, isiB, String.reduceBEq, List.contains_cons, List.contains_nil, Bool.or_true, Bool.true_or, Bool.or_false, Bool.false_or, Bool.and_true, Bool.true_and, Bool.and_false, Bool.false_and, Bool.not_eq_true, if_true, if_false, decide_true, decide_false, Bool.false_eq_true, eq_self, reduceCtorEq, true_and, false_and, and_false, badA, exists_false, aFld, aPut, agFld, aPutAug, aMeth, aMake, mulX_ii, mulX_si, mulX_li, strA_i, strA_s, intXA_i, intXA_b, isBA_bb, isntBA_bb, aTryV, aRaise, aCallX, aMethX, aErr, aDct0, aStar, aPar3, ex_tri, aCallKX, aIsE, ]
      exact last (fun h => by cases h.1)
    · subst hneg
      by_cases c2 : found ++ [c] = [48]
      · rw [if_pos (.inr (.inl ⟨rfl, c2⟩))] at hf
        rw [hf] at q
        rw [decide_eq_true c2]
        simp only [↓ite_bc, bc_t, bc_f, aLc_rng, aFor_rng, aLc_lst, lstA_lst, lstA_rol, aLcS_rng, eqA_ii, eqA_ss, neA_ii, neA_ss, updS_same, updS_updS, startA, List.map_cons, List.map_nil, List.cons_append, List.nil_append, List.length_cons, List.length_nil, Nat.zero_add, Nat.add_zero, Nat.reduceAdd, Nat.reduceSub, List.replicate_succ, List.replicate_zero, List.replicate,  aVar_z, aVar_s, aC, aNil, aCons, aTup, aLstV, aLst, aOp, aUn, aTru, aTst, aCmp, aChn, aChnT, aAnd, aOr, aNot, aIf, aAndV, aOrV, aNotV, aCB, aCall, aNext, aSeq, aBrk, aCnt, aRet, aRetN, aIfS, aNev,  agName, agNil, agCons, agTup, aAsg, aPar, aDrop, aCallK, aCallKn, aM, aM0, aAddS, aYes, one1, one2, wipeA, aRevT, aRevL, agSub_def, aSl, aPart, aNoPart, cutAns_rol, cutAns_lst, cutAns_tup, cutAns_str, aLstRg, aRg1, ex_some, tupleA_lst, tupleA_tup, wstA_lst,  List.set_cons_zero, List.set_cons_succ, List.set, ex_bl, ex_int, ex_str, ex_tup, ex_eq, ex_cons, ex_pair, ex_one1, ex_one_int, and_tt, truA_bl, truOk_bl, truA_int, truOk_int, truA_lst, truOk_lst, truA_tup, truOk_tup, truA_refU, truOk_refU, Bool.not_true, Bool.not_false,  addA_ii, addA_ss, addA_tt, addA_ll, intA_ii, int2A_ii, subA_ii, mulA_ii, modA_ii, fdivA_ii, powA_ii, negA_i, ltA_ii, leA_ii, gtA_ii, geA_ii, ltA_ss, leA_ss, gtA_ss, geA_ss, isA, isntA, nonA, isiA_non, isiA_bl, isiA_int, isiA_str, isiA_tup, isiA_lst, isiA_rol, lenA_str, lenA_tup, lenA_lst, lenA_rol, absA_i, toIntA_i, toIntA_b, isIntA, isiB, String.reduceBEq, List.contains_cons, List.contains_nil, Bool.or_true, Bool.true_or, Bool.or_false, Bool.false_or, Bool.and_true, Bool.true_and, Bool.and_false, Bool.false_and, Bool.not_eq_true, if_true, if_false, decide_true, decide_false, Bool.false_eq_true, eq_self, reduceCtorEq, true_and, false_and, and_false, badA, exists_false, aFld, aPut, agFld, aPutAug, aMeth, aMake, mulX_ii, mulX_si, mulX_li, strA_i, strA_s, intXA_i, intXA_b, isBA_bb, isntBA_bb, aTryV, aRaise, aCallX, aMethX, aErr, aDct0, aStar, aPar3, ex_tri, aCallKX, aIsE, ]
        exact rt_same q
      · rw [decide_eq_false c2]
        simp only [↓ite_bc, bc_t, bc_f, aLc_rng, aFor_rng, aLc_lst, lstA_lst, lstA_rol, aLcS_rng, eqA_ii, eqA_ss, neA_ii, neA_ss, updS_same, updS_updS, startA, List.map_cons, List.map_nil, List.cons_append, List.nil_append, List.length_cons, List.length_nil, Nat.zero_add, Nat.add_zero, Nat.reduceAdd, Nat.reduceSub, List.replicate_succ, List.replicate_zero, List.replicate,  aVar_z, aVar_s, aC, aNil, aCons, aTup, aLstV, aLst, aOp, aUn, aTru, aTst, aCmp, aChn, aChnT, aAnd, aOr, aNot, aIf, aAndV, aOrV, aNotV, aCB, aCall, aNext, aSeq, aBrk, aCnt, aRet, aRetN, aIfS, aNev,  agName, agNil, agCons, agTup, aAsg, aPar, aDrop, aCallK, aCallKn, aM, aM0, aAddS, aYes, one1, one2, wipeA, aRevT, aRevL, agSub_def, aSl, aPart, aNoPart, cutAns_rol, cutAns_lst, cutAns_tup, cutAns_str, aLstRg, aRg1, ex_some, tupleA_lst, tupleA_tup, wstA_lst,  List.set_cons_zero, List.set_cons_succ, List.set, ex_bl, ex_int, ex_str, ex_tup, ex_eq, ex_cons, ex_pair, ex_one1, ex_one_int, and_tt, truA_bl, truOk_bl, truA_int, truOk_int, truA_lst, truOk_lst, truA_tup, truOk_tup, truA_refU, truOk_refU, Bool.not_true, Bool.not_false,  addA_ii, addA_ss, addA_tt, addA_ll, intA_ii, int2A_ii, subA_ii, mulA_ii, modA_ii, fdivA_ii, powA_ii, negA_i, ltA_ii, leA_ii, gtA_ii, geA_ii, ltA_ss, leA_ss, gtA_ss, geA_ss, isA, isntA, nonA, isiA_non, isiA_bl, isiA_int, isiA_str, isiA_tup, isiA_lst, isiA_rol, lenA_str, lenA_tup, lenA_lst, lenA_rol, absA_i, toIntA_i, toIntA_b, isIntA, isiB, String.reduceBEq, List.contains_cons, List.contains_nil, Bool.or_true, Bool.true_or, Bool.or_false, Bool.false_or, Bool.and_true, Bool.true_and, Bool.and_false, Bool.false_and, Bool.not_eq_true, if_true, if_false, decide_true, decide_false, Bool.false_eq_true, eq_self, reduceCtorEq, true_and, false_and, and_false, badA, exists_false, aFld, aPut, agFld, aPutAug, aMeth, aMake, mulX_ii, mulX_si, mulX_li, strA_i, strA_s, intXA_i, intXA_b, isBA_bb, isntBA_bb, aTryV, aRaise, aCallX, aMethX, aErr, aDct0, aStar, aPar3, ex_tri, aCallKX, aIsE, ]
        exact last (fun h => c2 h.2)
  · rw [decide_eq_false (by omega)]
    walk_at "rd"
    have e : z.cps.toList.drop (k + found.length) = [] := List.drop_eq_nil_of_le (by omega)
    rw [e] at hf
    rw [hf] at q
    exact rt_same q
def sp__law_single_end : ASp := fun ds S Q => ∃ z k, ds = [.str z, .int (k : Nat)] ∧ k ≤ z.length ∧ z.length ≤ 10000000 ∧ (∀ c ∈ z.cps.toList, Vm.chB c = true) ∧ Q (.tup [.bl (Vm.sngF (z.cps.toList.drop k)).1.isSome, .int ((k + (Vm.sngF (z.cps.toList.drop k)).2 : Nat) : Int)]) S
set_option maxHeartbeats 4000000 in
theorem fn__law_single_end (T : Txt P w K mg C_Reader C_HouseError f_HouseError C_BadText) (F__law_figures_end : Fn4 P w K mg base 1 "_law_figures_end" ["text", "at", "is_below", "most"] sp__law_figures_end) : FnX P w K mg base 2 "_law_single_end" st__law_single_end ["text", "at"] sp__law_single_end := by
  refine FnX.of T.d__law_single_end fun f fd F => F.ok4 sc__law_single_end (fun ds S Q h => by unfold sp__law_single_end at h; first | (obtain ⟨_, rfl, _⟩ := h; rfl) | (obtain ⟨_, _, rfl, _⟩ := h; rfl) | (obtain ⟨_, _, _, rfl, _⟩ := h; rfl) | (obtain ⟨_, _, _, _, rfl, _⟩ := h; rfl) | (obtain ⟨_, _, _, _, _, rfl, _⟩ := h; rfl) | (obtain ⟨_, _, _, _, _, _, rfl, _⟩ := h; rfl) | (obtain ⟨_, _, _, _, _, _, _, rfl, _⟩ := h; rfl)) fun cdv A gd out s H E hr => ?_
  refine ⟨_, (s_cons (s_if (t_cmp (o_eq hr.units) (e_sl (e_var 0) (o_some (e_var 1)) (o_some (e_op o_add (e_var 1) e_int))) e_str) (s_one (s_ret (e_tup (a_cons e_bl (a_cons (e_op o_add (e_var 1) e_int) a_nil))))) s_nil)
    (s_cons (s_if (t_cmp o_nin (e_sl (e_var 0) (o_some (e_var 1)) (o_some (e_op o_add (e_var 1) e_int))) (e_tup (a_cons e_str (a_cons e_str a_nil)))) (s_one (s_ret (e_tup (a_cons e_bl (a_cons (e_var 1) a_nil))))) s_nil)
    (s_cons (s_par (i := 2) (j := 3) rfl sc__law_single_end.nd (a_cons (e_cmp (o_eq hr.units) (e_ix o_ix (e_var 0) (e_var 1)) e_str) (a_cons (e_op o_add (e_var 1) e_int) a_nil)))
    (s_cons (s_set 4 sc__law_single_end.nd (e_and (e_not (e_var 2)) (e_one (e_cmp (o_eq hr.units) (e_sl (e_var 0) (o_some (e_var 3)) (o_some (e_op o_add (e_var 3) e_int))) e_str))))
    (s_cons (s_set 3 sc__law_single_end.nd (e_op o_add (e_var 3) (e_ct c_intX T.n_int (by decide +kernel) (a_cons (e_var 4) a_nil))))
    (s_cons (s_set 5 sc__law_single_end.nd (f_call F__law_figures_end gd (hr.mono (by decide)) (a_cons (e_var 0) (a_cons (e_var 3) (a_cons (e_var 4) (a_cons (e_if (t_tru (e_var 2)) e_int (e_op o_pow e_int e_int)) a_nil))))))
    (s_cons (s_if (w_or (t_cmp (o_eq hr.units) (e_var 5) (e_var 3)) (w_or1 (t_cmp (o_ne hr.units) (e_sl (e_var 0) (o_some (e_var 5)) (o_some (e_op o_add (e_var 5) e_int))) (e_if (t_tru (e_var 2)) e_str e_str)))).pt (s_one (s_ret (e_tup (a_cons e_bl (a_cons (e_var 5) a_nil))))) s_nil)
    (s_cons (s_if (t_not (t_tru (e_var 2))) (s_one (s_ret (e_tup (a_cons e_bl (a_cons (e_op o_add (e_var 5) e_int) a_nil))))) s_nil)
    (s_cons (s_set 6 sc__law_single_end.nd (e_ct c_intX T.n_int (by decide +kernel) (a_cons (e_sl (e_var 0) (o_some (e_var 3)) (o_some (e_var 5))) a_nil)))
    (s_one (s_ret (e_tup (a_cons (e_cmp o_le (e_op o_add (e_op o_add (e_var 5) e_int) (e_var 6)) (e_cb c_len T.n_len (by decide +kernel) (a_cons (e_var 0) a_nil))) (a_cons (e_cb (c_min2 rfl) T.n_min (by decide +kernel) (a_cons (e_op o_add (e_op o_add (e_var 5) e_int) (e_var 6)) (a_cons (e_cb c_len T.n_len (by decide +kernel) (a_cons (e_var 0) a_nil)) a_nil))) a_nil)))))))))))))), ?_⟩
  rintro _ S Q ⟨z, k, rfl, hk, hz, hgood, q⟩
  have hlen : z.cps.toList.length = z.length := Array.length_toList
  have e18 : (10 : Int) ^ Int.toNat 18 = 1000000000000000000 := by decide +kernel
  have pw : CPowB 10 18 := powS (by omega) (by omega) (by omega) (by omega)
  generalize hrs : z.cps.toList.drop k = rs at q
  have hrl : rs.length = z.length - k := by rw [← hrs, List.length_drop, hlen]
  have hw : cutS z (some (k : Int)) (some ((k + 1 : Nat) : Int)) = ⟨(rs.take 1).toArray⟩ := by rw [Vm.cut_mid hk (by omega), hrs, show k + 1 - k = 1 by omega]
  have ek : ((k : Nat) : Int) + 1 = ((k + 1 : Nat) : Int) := rfl
  have n1 : decide ((⟨(rs.take 1).toArray⟩ : Str) = ("n" : Str)) = decide (rs.take 1 = [110]) := Vm.se1 (by decide +kernel)
  cases rs with
  | nil =>
    have f1 : decide ((⟨(([] : List Nat).take 1).toArray⟩ : Str) = ("n" : Str)) = false := by decide +kernel
    have f2 : ∀ S, ninA (.str ⟨(([] : List Nat).take 1).toArray⟩) (.tup [.str (Str.ofString "i"), .str (Str.ofString "s")]) S = ⟨True, .bl true⟩ := fun S => Vm.nin_is [] S
    simp only [↓ite_bc, bc_t, bc_f, aLc_rng, aFor_rng, aLc_lst, lstA_lst, lstA_rol, aLcS_rng, eqA_ii, eqA_ss, neA_ii, neA_ss, updS_same, updS_updS, startA, List.map_cons, List.map_nil, List.cons_append, List.nil_append, List.length_cons, List.length_nil, Nat.zero_add, Nat.add_zero, Nat.reduceAdd, Nat.reduceSub, List.replicate_succ, List.replicate_zero, List.replicate,  aVar_z, aVar_s, aC, aNil, aCons, aTup, aLstV, aLst, aOp, aUn, aTru, aTst, aCmp, aChn, aChnT, aAnd, aOr, aNot, aIf, aAndV, aOrV, aNotV, aCB, aCall, aNext, aSeq, aBrk, aCnt, aRet, aRetN, aIfS, aNev,  agName, agNil, agCons, agTup, aAsg, aPar, aDrop, aCallK, aCallKn, aM, aM0, aAddS, aYes, one1, one2, wipeA, aRevT, aRevL, agSub_def, aSl, aPart, aNoPart, cutAns_rol, cutAns_lst, cutAns_tup, cutAns_str, aLstRg, aRg1, ex_some, tupleA_lst, tupleA_tup, wstA_lst,  List.set_cons_zero, List.set_cons_succ, List.set, ex_bl, ex_int, ex_str, ex_tup, ex_eq, ex_cons, ex_pair, ex_one1, ex_one_int, and_tt, truA_bl, truOk_bl, truA_int, truOk_int, truA_lst, truOk_lst, truA_tup, truOk_tup, truA_refU, truOk_refU, Bool.not_true, Bool.not_false,  addA_ii, addA_ss, addA_tt, addA_ll, intA_ii, int2A_ii, subA_ii, mulA_ii, modA_ii, fdivA_ii, powA_ii, negA_i, ltA_ii, leA_ii, gtA_ii, geA_ii, ltA_ss, leA_ss, gtA_ss, geA_ss, isA, isntA, nonA, isiA_non, isiA_bl, isiA_int, isiA_str, isiA_tup, isiA_lst, isiA_rol, lenA_str, lenA_tup, lenA_lst, lenA_rol, absA_i, toIntA_i, toIntA_b, isIntA, isiB, String.reduceBEq, List.contains_cons, List.contains_nil, Bool.or_true, Bool.true_or, Bool.or_false, Bool.false_or, Bool.and_true, Bool.true_and, Bool.and_false, Bool.false_and, Bool.not_eq_true, if_true, if_false, decide_true, decide_false, Bool.false_eq_true, eq_self, reduceCtorEq, true_and, false_and, and_false, badA, exists_false, aFld, aPut, agFld, aPutAug, aMeth, aMake, mulX_ii, mulX_si, mulX_li, strA_i, strA_s, intXA_i, intXA_b, isBA_bb, isntBA_bb, aTryV, aRaise, aCallX, aMethX, aErr, aDct0, aStar, aPar3, ex_tri, aCallKX, aIsE, ek, hw, f1, f2]
    refine ⟨le_sl (by omega), le_sl (by omega), ?_⟩
    first | exact ⟨le_sl (by omega), rt_same q⟩ | exact ⟨le_sl (by omega), le_sl (by omega), rt_same q⟩
  | cons c rs' =>
    have hc1 : k + 1 ≤ z.length := by rw [List.length_cons] at hrl; omega
    have hr1 : z.cps.toList.drop (k + 1) = rs' := by rw [← List.drop_drop, hrs]; rfl
    obtain ⟨c', rs2, e1, e2, e3⟩ := Vm.ix_str (S := S) (le_sl (by omega) : z.length ≤ sizeLine) (by omega : k < z.length)
    rw [hrs] at e1
    cases e1
    have hw : cutS z (some (k : Int)) (some ((k + 1 : Nat) : Int)) = ⟨#[c]⟩ := hw
    have n1 : decide ((⟨#[c]⟩ : Str) = ("n" : Str)) = decide ([c] = [110]) := n1
    have f2 : ∀ S, ninA (.str ⟨#[c]⟩) (.tup [.str (Str.ofString "i"), .str (Str.ofString "s")]) S = ⟨True, .bl (!(decide ([c] = [105]) || decide ([c] = [115])))⟩ := fun S => Vm.nin_is [c] S
    have n2 : decide ((⟨#[c]⟩ : Str) = ("s" : Str)) = decide ([c] = [115]) := Vm.se1 (l := [c]) (by decide +kernel)
    have c45 : ("-" : Str) = ⟨#[45]⟩ := by decide +kernel
    have c58 : (":" : Str) = ⟨#[58]⟩ := by decide +kernel
    have c59 : (";" : Str) = ⟨#[59]⟩ := by decide +kernel
    by_cases h1 : c = 110
    · subst h1
      have n1 : decide ((⟨#[110]⟩ : Str) = ("n" : Str)) = true := n1.trans (by decide)
      simp only [↓ite_bc, bc_t, bc_f, aLc_rng, aFor_rng, aLc_lst, lstA_lst, lstA_rol, aLcS_rng, eqA_ii, eqA_ss, neA_ii, neA_ss, updS_same, updS_updS, startA, List.map_cons, List.map_nil, List.cons_append, List.nil_append, List.length_cons, List.length_nil, Nat.zero_add, Nat.add_zero, Nat.reduceAdd, Nat.reduceSub, List.replicate_succ, List.replicate_zero, List.replicate,  aVar_z, aVar_s, aC, aNil, aCons, aTup, aLstV, aLst, aOp, aUn, aTru, aTst, aCmp, aChn, aChnT, aAnd, aOr, aNot, aIf, aAndV, aOrV, aNotV, aCB, aCall, aNext, aSeq, aBrk, aCnt, aRet, aRetN, aIfS, aNev,  agName, agNil, agCons, agTup, aAsg, aPar, aDrop, aCallK, aCallKn, aM, aM0, aAddS, aYes, one1, one2, wipeA, aRevT, aRevL, agSub_def, aSl, aPart, aNoPart, cutAns_rol, cutAns_lst, cutAns_tup, cutAns_str, aLstRg, aRg1, ex_some, tupleA_lst, tupleA_tup, wstA_lst,  List.set_cons_zero, List.set_cons_succ, List.set, ex_bl, ex_int, ex_str, ex_tup, ex_eq, ex_cons, ex_pair, ex_one1, ex_one_int, and_tt, truA_bl, truOk_bl, truA_int, truOk_int, truA_lst, truOk_lst, truA_tup, truOk_tup, truA_refU, truOk_refU, Bool.not_true, Bool.not_false,  addA_ii, addA_ss, addA_tt, addA_ll, intA_ii, int2A_ii, subA_ii, mulA_ii, modA_ii, fdivA_ii, powA_ii, negA_i, ltA_ii, leA_ii, gtA_ii, geA_ii, ltA_ss, leA_ss, gtA_ss, geA_ss, isA, isntA, nonA, isiA_non, isiA_bl, isiA_int, isiA_str, isiA_tup, isiA_lst, isiA_rol, lenA_str, lenA_tup, lenA_lst, lenA_rol, absA_i, toIntA_i, toIntA_b, isIntA, isiB, String.reduceBEq, List.contains_cons, List.contains_nil, Bool.or_true, Bool.true_or, Bool.or_false, Bool.false_or, Bool.and_true, Bool.true_and, Bool.and_false, Bool.false_and, Bool.not_eq_true, if_true, if_false, decide_true, decide_false, Bool.false_eq_true, eq_self, reduceCtorEq, true_and, false_and, and_false, badA, exists_false, aFld, aPut, agFld, aPutAug, aMeth, aMake, mulX_ii, mulX_si, mulX_li, strA_i, strA_s, intXA_i, intXA_b, isBA_bb, isntBA_bb, aTryV, aRaise, aCallX, aMethX, aErr, aDct0, aStar, aPar3, ex_tri, aCallKX, aIsE, ek, hw, n1]
      exact ⟨le_sl (by omega), le_sl (by omega), rt_same q⟩
    have n1 : decide ((⟨#[c]⟩ : Str) = ("n" : Str)) = false := n1.trans (decide_eq_false fun z => h1 (List.cons.inj z).1)
    by_cases h2 : c = 105
    · subst h2
      have f2 : ∀ S, ninA (.str ⟨#[105]⟩) (.tup [.str (Str.ofString "i"), .str (Str.ofString "s")]) S = ⟨True, .bl false⟩ := fun S => (f2 S).trans (by rfl)
      have n2 : decide ((⟨#[105]⟩ : Str) = ("s" : Str)) = false := n2.trans (by decide)
      obtain ⟨neg, hneg⟩ : ∃ neg, neg = (true && decide (rs'.head? = some 45)) := ⟨_, rfl⟩
      obtain ⟨j, hj⟩ : ∃ j, j = if neg = true then 1 else 0 := ⟨_, rfl⟩
      have hneg2 : decide ((z.cps.toList.drop (k + 1)).head? = some 45) = neg := by rw [hr1, hneg, Bool.true_and]
      have ej : ((k + 1 : Nat) : Int) + (if neg = true then 1 else 0) = ((k + 1 + j : Nat) : Int) := by rw [hj]; cases neg <;> rfl
      simp only [↓ite_bc, bc_t, bc_f, aLc_rng, aFor_rng, aLc_lst, lstA_lst, lstA_rol, aLcS_rng, eqA_ii, eqA_ss, neA_ii, neA_ss, updS_same, updS_updS, startA, List.map_cons, List.map_nil, List.cons_append, List.nil_append, List.length_cons, List.length_nil, Nat.zero_add, Nat.add_zero, Nat.reduceAdd, Nat.reduceSub, List.replicate_succ, List.replicate_zero, List.replicate,  aVar_z, aVar_s, aC, aNil, aCons, aTup, aLstV, aLst, aOp, aUn, aTru, aTst, aCmp, aChn, aChnT, aAnd, aOr, aNot, aIf, aAndV, aOrV, aNotV, aCB, aCall, aNext, aSeq, aBrk, aCnt, aRet, aRetN, aIfS, aNev,  agName, agNil, agCons, agTup, aAsg, aPar, aDrop, aCallK, aCallKn, aM, aM0, aAddS, aYes, one1, one2, wipeA, aRevT, aRevL, agSub_def, aSl, aPart, aNoPart, cutAns_rol, cutAns_lst, cutAns_tup, cutAns_str, aLstRg, aRg1, ex_some, tupleA_lst, tupleA_tup, wstA_lst,  List.set_cons_zero, List.set_cons_succ, List.set, ex_bl, ex_int, ex_str, ex_tup, ex_eq, ex_cons, ex_pair, ex_one1, ex_one_int, and_tt, truA_bl, truOk_bl, truA_int, truOk_int, truA_lst, truOk_lst, truA_tup, truOk_tup, truA_refU, truOk_refU, Bool.not_true, Bool.not_false,  addA_ii, addA_ss, addA_tt, addA_ll, intA_ii, int2A_ii, subA_ii, mulA_ii, modA_ii, fdivA_ii, powA_ii, negA_i, ltA_ii, leA_ii, gtA_ii, geA_ii, ltA_ss, leA_ss, gtA_ss, geA_ss, isA, isntA, nonA, isiA_non, isiA_bl, isiA_int, isiA_str, isiA_tup, isiA_lst, isiA_rol, lenA_str, lenA_tup, lenA_lst, lenA_rol, absA_i, toIntA_i, toIntA_b, isIntA, isiB, String.reduceBEq, List.contains_cons, List.contains_nil, Bool.or_true, Bool.true_or, Bool.or_false, Bool.false_or, Bool.and_true, Bool.true_and, Bool.and_false, Bool.false_and, Bool.not_eq_true, if_true, if_false, decide_true, decide_false, Bool.false_eq_true, eq_self, reduceCtorEq, true_and, false_and, and_false, badA, exists_false, aFld, aPut, agFld, aPutAug, aMeth, aMake, mulX_ii, mulX_si, mulX_li, strA_i, strA_s, intXA_i, intXA_b, isBA_bb, isntBA_bb, aTryV, aRaise, aCallX, aMethX, aErr, aDct0, aStar, aPar3, ex_tri, aCallKX, aIsE, ek, hw, n1, f2, e3, n2, c45, Vm.cut_one hc1, hneg2, ej, e18]
      have hkj : k + 1 + j ≤ z.length := by
        rw [List.length_cons] at hrl
        cases neg with
        | false => rw [hj, if_neg Bool.false_ne_true]; omega
        | true =>
          rw [Bool.true_and] at hneg
          have h := of_decide_eq_true hneg.symm
          cases rs' with
          | nil => cases h
          | cons _ _ => rw [List.length_cons] at hrl; rw [hj, if_pos rfl]; omega
      refine ⟨le_sl (by omega), le_sl (by omega), le_sl (by omega), le_sl (by omega), pw, z, k + 1 + j, neg, _, rfl, hkj, hz, by omega, ?_⟩
      obtain ⟨f, hf⟩ : ∃ f, f = Vm.figs neg 1000000000000000000 [] (rs'.drop j) := ⟨_, rfl⟩
      rw [← List.drop_drop, hr1, ← hf]
      have hfl := (Vm.figs_len (neg := neg) (most := 1000000000000000000) (rs'.drop j) []).2
      rw [← hf, List.length_drop, List.length_nil] at hfl
      rw [List.length_cons] at hrl
      have hS : Vm.sngF (105 :: rs') = ((Vm.numF true 1000000000000000000 59 rs').1.map AV.int, 1 + (Vm.numF true 1000000000000000000 59 rs').2) := rfl
      rw [hS, Vm.numF_eq hneg hj hf] at q
      have d1 : decide (((k + 1 + j + f.length : Nat) : Int) = ((k + 1 + j : Nat) : Int)) = decide (f = []) := by
        refine decide_eq_decide.mpr ⟨fun h => List.eq_nil_of_length_eq_zero (by omega), fun h => by rw [h]; rfl⟩
      have hdr : z.cps.toList.drop (k + 1 + j + f.length) = rs'.drop (j + f.length) := by rw [show k + 1 + j + f.length = k + 1 + (j + f.length) by omega, ← List.drop_drop, hr1]
      simp only [↓ite_bc, bc_t, bc_f, aLc_rng, aFor_rng, aLc_lst, lstA_lst, lstA_rol, aLcS_rng, eqA_ii, eqA_ss, neA_ii, neA_ss, updS_same, updS_updS, startA, List.map_cons, List.map_nil, List.cons_append, List.nil_append, List.length_cons, List.length_nil, Nat.zero_add, Nat.add_zero, Nat.reduceAdd, Nat.reduceSub, List.replicate_succ, List.replicate_zero, List.replicate,  aVar_z, aVar_s, aC, aNil, aCons, aTup, aLstV, aLst, aOp, aUn, aTru, aTst, aCmp, aChn, aChnT, aAnd, aOr, aNot, aIf, aAndV, aOrV, aNotV, aCB, aCall, aNext, aSeq, aBrk, aCnt, aRet, aRetN, aIfS, aNev,  agName, agNil, agCons, agTup, aAsg, aPar, aDrop, aCallK, aCallKn, aM, aM0, aAddS, aYes, one1, one2, wipeA, aRevT, aRevL, agSub_def, aSl, aPart, aNoPart, cutAns_rol, cutAns_lst, cutAns_tup, cutAns_str, aLstRg, aRg1, ex_some, tupleA_lst, tupleA_tup, wstA_lst,  List.set_cons_zero, List.set_cons_succ, List.set, ex_bl, ex_int, ex_str, ex_tup, ex_eq, ex_cons, ex_pair, ex_one1, ex_one_int, and_tt, truA_bl, truOk_bl, truA_int, truOk_int, truA_lst, truOk_lst, truA_tup, truOk_tup, truA_refU, truOk_refU, Bool.not_true, Bool.not_false,  addA_ii, addA_ss, addA_tt, addA_ll, intA_ii, int2A_ii, subA_ii, mulA_ii, modA_ii, fdivA_ii, powA_ii, negA_i, ltA_ii, leA_ii, gtA_ii, geA_ii, ltA_ss, leA_ss, gtA_ss, geA_ss, isA, isntA, nonA, isiA_non, isiA_bl, isiA_int, isiA_str, isiA_tup, isiA_lst, isiA_rol, lenA_str, lenA_tup, lenA_lst, lenA_rol, absA_i, toIntA_i, toIntA_b, isIntA, isiB, String.reduceBEq, List.contains_cons, List.contains_nil, Bool.or_true, Bool.true_or, Bool.or_false, Bool.false_or, Bool.and_true, Bool.true_and, Bool.and_false, Bool.false_and, Bool.not_eq_true, if_true, if_false, decide_true, decide_false, Bool.false_eq_true, eq_self, reduceCtorEq, true_and, false_and, and_false, badA, exists_false, aFld, aPut, agFld, aPutAug, aMeth, aMake, mulX_ii, mulX_si, mulX_li, strA_i, strA_s, intXA_i, intXA_b, isBA_bb, isntBA_bb, aTryV, aRaise, aCallX, aMethX, aErr, aDct0, aStar, aPar3, ex_tri, aCallKX, aIsE, d1]
      by_cases hn : f = []
      · rw [if_pos hn] at q
        rw [decide_eq_true hn]
        simp only [↓ite_bc, bc_t, bc_f, aLc_rng, aFor_rng, aLc_lst, lstA_lst, lstA_rol, aLcS_rng, eqA_ii, eqA_ss, neA_ii, neA_ss, updS_same, updS_updS, startA, List.map_cons, List.map_nil, List.cons_append, List.nil_append, List.length_cons, List.length_nil, Nat.zero_add, Nat.add_zero, Nat.reduceAdd, Nat.reduceSub, List.replicate_succ, List.replicate_zero, List.replicate,  aVar_z, aVar_s, aC, aNil, aCons, aTup, aLstV, aLst, aOp, aUn, aTru, aTst, aCmp, aChn, aChnT, aAnd, aOr, aNot, aIf, aAndV, aOrV, aNotV, aCB, aCall, aNext, aSeq, aBrk, aCnt, aRet, aRetN, aIfS, aNev,  agName, agNil, agCons, agTup, aAsg, aPar, aDrop, aCallK, aCallKn, aM, aM0, aAddS, aYes, one1, one2, wipeA, aRevT, aRevL, agSub_def, aSl, aPart, aNoPart, cutAns_rol, cutAns_lst, cutAns_tup, cutAns_str, aLstRg, aRg1, ex_some, tupleA_lst, tupleA_tup, wstA_lst,  List.set_cons_zero, List.set_cons_succ, List.set, ex_bl, ex_int, ex_str, ex_tup, ex_eq, ex_cons, ex_pair, ex_one1, ex_one_int, and_tt, truA_bl, truOk_bl, truA_int, truOk_int, truA_lst, truOk_lst, truA_tup, truOk_tup, truA_refU, truOk_refU, Bool.not_true, Bool.not_false,  addA_ii, addA_ss, addA_tt, addA_ll, intA_ii, int2A_ii, subA_ii, mulA_ii, modA_ii, fdivA_ii, powA_ii, negA_i, ltA_ii, leA_ii, gtA_ii, geA_ii, ltA_ss, leA_ss, gtA_ss, geA_ss, isA, isntA, nonA, isiA_non, isiA_bl, isiA_int, isiA_str, isiA_tup, isiA_lst, isiA_rol, lenA_str, lenA_tup, lenA_lst, lenA_rol, absA_i, toIntA_i, toIntA_b, isIntA, isiB, String.reduceBEq, List.contains_cons, List.contains_nil, Bool.or_true, Bool.true_or, Bool.or_false, Bool.false_or, Bool.and_true, Bool.true_and, Bool.and_false, Bool.false_and, Bool.not_eq_true, if_true, if_false, decide_true, decide_false, Bool.false_eq_true, eq_self, reduceCtorEq, true_and, false_and, and_false, badA, exists_false, aFld, aPut, agFld, aPutAug, aMeth, aMake, mulX_ii, mulX_si, mulX_li, strA_i, strA_s, intXA_i, intXA_b, isBA_bb, isntBA_bb, aTryV, aRaise, aCallX, aMethX, aErr, aDct0, aStar, aPar3, ex_tri, aCallKX, aIsE, ]
        rw [hn]
        rw [show k + (1 + j) = k + 1 + j + 0 by omega] at q
        exact ⟨le_sl (by omega), rt_same q⟩
      · rw [if_neg hn] at q
        rw [decide_eq_false hn]
        simp only [↓ite_bc, bc_t, bc_f, aLc_rng, aFor_rng, aLc_lst, lstA_lst, lstA_rol, aLcS_rng, eqA_ii, eqA_ss, neA_ii, neA_ss, updS_same, updS_updS, startA, List.map_cons, List.map_nil, List.cons_append, List.nil_append, List.length_cons, List.length_nil, Nat.zero_add, Nat.add_zero, Nat.reduceAdd, Nat.reduceSub, List.replicate_succ, List.replicate_zero, List.replicate,  aVar_z, aVar_s, aC, aNil, aCons, aTup, aLstV, aLst, aOp, aUn, aTru, aTst, aCmp, aChn, aChnT, aAnd, aOr, aNot, aIf, aAndV, aOrV, aNotV, aCB, aCall, aNext, aSeq, aBrk, aCnt, aRet, aRetN, aIfS, aNev,  agName, agNil, agCons, agTup, aAsg, aPar, aDrop, aCallK, aCallKn, aM, aM0, aAddS, aYes, one1, one2, wipeA, aRevT, aRevL, agSub_def, aSl, aPart, aNoPart, cutAns_rol, cutAns_lst, cutAns_tup, cutAns_str, aLstRg, aRg1, ex_some, tupleA_lst, tupleA_tup, wstA_lst,  List.set_cons_zero, List.set_cons_succ, List.set, ex_bl, ex_int, ex_str, ex_tup, ex_eq, ex_cons, ex_pair, ex_one1, ex_one_int, and_tt, truA_bl, truOk_bl, truA_int, truOk_int, truA_lst, truOk_lst, truA_tup, truOk_tup, truA_refU, truOk_refU, Bool.not_true, Bool.not_false,  addA_ii, addA_ss, addA_tt, addA_ll, intA_ii, int2A_ii, subA_ii, mulA_ii, modA_ii, fdivA_ii, powA_ii, negA_i, ltA_ii, leA_ii, gtA_ii, geA_ii, ltA_ss, leA_ss, gtA_ss, geA_ss, isA, isntA, nonA, isiA_non, isiA_bl, isiA_int, isiA_str, isiA_tup, isiA_lst, isiA_rol, lenA_str, lenA_tup, lenA_lst, lenA_rol, absA_i, toIntA_i, toIntA_b, isIntA, isiB, String.reduceBEq, List.contains_cons, List.contains_nil, Bool.or_true, Bool.true_or, Bool.or_false, Bool.false_or, Bool.and_true, Bool.true_and, Bool.and_false, Bool.false_and, Bool.not_eq_true, if_true, if_false, decide_true, decide_false, Bool.false_eq_true, eq_self, reduceCtorEq, true_and, false_and, and_false, badA, exists_false, aFld, aPut, agFld, aPutAug, aMeth, aMake, mulX_ii, mulX_si, mulX_li, strA_i, strA_s, intXA_i, intXA_b, isBA_bb, isntBA_bb, aTryV, aRaise, aCallX, aMethX, aErr, aDct0, aStar, aPar3, ex_tri, aCallKX, aIsE, c59, Vm.cut_one (show k + 1 + j + f.length ≤ z.length by omega), hdr]
        refine ⟨le_sl (by omega), ?_⟩
        by_cases hh : (rs'.drop (j + f.length)).head? = some 59
        · rw [if_pos hh] at q
          rw [decide_eq_true hh]
          simp only [↓ite_bc, bc_t, bc_f, aLc_rng, aFor_rng, aLc_lst, lstA_lst, lstA_rol, aLcS_rng, eqA_ii, eqA_ss, neA_ii, neA_ss, updS_same, updS_updS, startA, List.map_cons, List.map_nil, List.cons_append, List.nil_append, List.length_cons, List.length_nil, Nat.zero_add, Nat.add_zero, Nat.reduceAdd, Nat.reduceSub, List.replicate_succ, List.replicate_zero, List.replicate,  aVar_z, aVar_s, aC, aNil, aCons, aTup, aLstV, aLst, aOp, aUn, aTru, aTst, aCmp, aChn, aChnT, aAnd, aOr, aNot, aIf, aAndV, aOrV, aNotV, aCB, aCall, aNext, aSeq, aBrk, aCnt, aRet, aRetN, aIfS, aNev,  agName, agNil, agCons, agTup, aAsg, aPar, aDrop, aCallK, aCallKn, aM, aM0, aAddS, aYes, one1, one2, wipeA, aRevT, aRevL, agSub_def, aSl, aPart, aNoPart, cutAns_rol, cutAns_lst, cutAns_tup, cutAns_str, aLstRg, aRg1, ex_some, tupleA_lst, tupleA_tup, wstA_lst,  List.set_cons_zero, List.set_cons_succ, List.set, ex_bl, ex_int, ex_str, ex_tup, ex_eq, ex_cons, ex_pair, ex_one1, ex_one_int, and_tt, truA_bl, truOk_bl, truA_int, truOk_int, truA_lst, truOk_lst, truA_tup, truOk_tup, truA_refU, truOk_refU, Bool.not_true, Bool.not_false,  addA_ii, addA_ss, addA_tt, addA_ll, intA_ii, int2A_ii, subA_ii, mulA_ii, modA_ii, fdivA_ii, powA_ii, negA_i, ltA_ii, leA_ii, gtA_ii, geA_ii, ltA_ss, leA_ss, gtA_ss, geA_ss, isA, isntA, nonA, isiA_non, isiA_bl, isiA_int, isiA_str, isiA_tup, isiA_lst, isiA_rol, lenA_str, lenA_tup, lenA_lst, lenA_rol, absA_i, toIntA_i, toIntA_b, isIntA, isiB, String.reduceBEq, List.contains_cons, List.contains_nil, Bool.or_true, Bool.true_or, Bool.or_false, Bool.false_or, Bool.and_true, Bool.true_and, Bool.and_false, Bool.false_and, Bool.not_eq_true, if_true, if_false, decide_true, decide_false, Bool.false_eq_true, eq_self, reduceCtorEq, true_and, false_and, and_false, badA, exists_false, aFld, aPut, agFld, aPutAug, aMeth, aMake, mulX_ii, mulX_si, mulX_li, strA_i, strA_s, intXA_i, intXA_b, isBA_bb, isntBA_bb, aTryV, aRaise, aCallX, aMethX, aErr, aDct0, aStar, aPar3, ex_tri, aCallKX, aIsE, ]
          rw [show k + (1 + (j + f.length + 1)) = k + 1 + j + f.length + 1 by omega] at q
          exact ⟨le_sl (by omega), rt_same q⟩
        · rw [if_neg hh] at q
          rw [decide_eq_false hh]
          simp only [↓ite_bc, bc_t, bc_f, aLc_rng, aFor_rng, aLc_lst, lstA_lst, lstA_rol, aLcS_rng, eqA_ii, eqA_ss, neA_ii, neA_ss, updS_same, updS_updS, startA, List.map_cons, List.map_nil, List.cons_append, List.nil_append, List.length_cons, List.length_nil, Nat.zero_add, Nat.add_zero, Nat.reduceAdd, Nat.reduceSub, List.replicate_succ, List.replicate_zero, List.replicate,  aVar_z, aVar_s, aC, aNil, aCons, aTup, aLstV, aLst, aOp, aUn, aTru, aTst, aCmp, aChn, aChnT, aAnd, aOr, aNot, aIf, aAndV, aOrV, aNotV, aCB, aCall, aNext, aSeq, aBrk, aCnt, aRet, aRetN, aIfS, aNev,  agName, agNil, agCons, agTup, aAsg, aPar, aDrop, aCallK, aCallKn, aM, aM0, aAddS, aYes, one1, one2, wipeA, aRevT, aRevL, agSub_def, aSl, aPart, aNoPart, cutAns_rol, cutAns_lst, cutAns_tup, cutAns_str, aLstRg, aRg1, ex_some, tupleA_lst, tupleA_tup, wstA_lst,  List.set_cons_zero, List.set_cons_succ, List.set, ex_bl, ex_int, ex_str, ex_tup, ex_eq, ex_cons, ex_pair, ex_one1, ex_one_int, and_tt, truA_bl, truOk_bl, truA_int, truOk_int, truA_lst, truOk_lst, truA_tup, truOk_tup, truA_refU, truOk_refU, Bool.not_true, Bool.not_false,  addA_ii, addA_ss, addA_tt, addA_ll, intA_ii, int2A_ii, subA_ii, mulA_ii, modA_ii, fdivA_ii, powA_ii, negA_i, ltA_ii, leA_ii, gtA_ii, geA_ii, ltA_ss, leA_ss, gtA_ss, geA_ss, isA, isntA, nonA, isiA_non, isiA_bl, isiA_int, isiA_str, isiA_tup, isiA_lst, isiA_rol, lenA_str, lenA_tup, lenA_lst, lenA_rol, absA_i, toIntA_i, toIntA_b, isIntA, isiB, String.reduceBEq, List.contains_cons, List.contains_nil, Bool.or_true, Bool.true_or, Bool.or_false, Bool.false_or, Bool.and_true, Bool.true_and, Bool.and_false, Bool.false_and, Bool.not_eq_true, if_true, if_false, decide_true, decide_false, Bool.false_eq_true, eq_self, reduceCtorEq, true_and, false_and, and_false, badA, exists_false, aFld, aPut, agFld, aPutAug, aMeth, aMake, mulX_ii, mulX_si, mulX_li, strA_i, strA_s, intXA_i, intXA_b, isBA_bb, isntBA_bb, aTryV, aRaise, aCallX, aMethX, aErr, aDct0, aStar, aPar3, ex_tri, aCallKX, aIsE, ]
          rw [show k + (1 + (j + f.length)) = k + 1 + j + f.length by omega] at q
          exact ⟨le_sl (by omega), rt_same q⟩
    by_cases h3 : c = 115
    · subst h3
      have f2 : ∀ S, ninA (.str ⟨#[115]⟩) (.tup [.str (Str.ofString "i"), .str (Str.ofString "s")]) S = ⟨True, .bl false⟩ := fun S => (f2 S).trans (by rfl)
      have n2 : decide ((⟨#[115]⟩ : Str) = ("s" : Str)) = true := n2.trans (by decide)
      have ej : ((k + 1 : Nat) : Int) + (if false = true then 1 else 0) = ((k + 1 : Nat) : Int) := by simp
      simp only [↓ite_bc, bc_t, bc_f, aLc_rng, aFor_rng, aLc_lst, lstA_lst, lstA_rol, aLcS_rng, eqA_ii, eqA_ss, neA_ii, neA_ss, updS_same, updS_updS, startA, List.map_cons, List.map_nil, List.cons_append, List.nil_append, List.length_cons, List.length_nil, Nat.zero_add, Nat.add_zero, Nat.reduceAdd, Nat.reduceSub, List.replicate_succ, List.replicate_zero, List.replicate,  aVar_z, aVar_s, aC, aNil, aCons, aTup, aLstV, aLst, aOp, aUn, aTru, aTst, aCmp, aChn, aChnT, aAnd, aOr, aNot, aIf, aAndV, aOrV, aNotV, aCB, aCall, aNext, aSeq, aBrk, aCnt, aRet, aRetN, aIfS, aNev,  agName, agNil, agCons, agTup, aAsg, aPar, aDrop, aCallK, aCallKn, aM, aM0, aAddS, aYes, one1, one2, wipeA, aRevT, aRevL, agSub_def, aSl, aPart, aNoPart, cutAns_rol, cutAns_lst, cutAns_tup, cutAns_str, aLstRg, aRg1, ex_some, tupleA_lst, tupleA_tup, wstA_lst,  List.set_cons_zero, List.set_cons_succ, List.set, ex_bl, ex_int, ex_str, ex_tup, ex_eq, ex_cons, ex_pair, ex_one1, ex_one_int, and_tt, truA_bl, truOk_bl, truA_int, truOk_int, truA_lst, truOk_lst, truA_tup, truOk_tup, truA_refU, truOk_refU, Bool.not_true, Bool.not_false,  addA_ii, addA_ss, addA_tt, addA_ll, intA_ii, int2A_ii, subA_ii, mulA_ii, modA_ii, fdivA_ii, powA_ii, negA_i, ltA_ii, leA_ii, gtA_ii, geA_ii, ltA_ss, leA_ss, gtA_ss, geA_ss, isA, isntA, nonA, isiA_non, isiA_bl, isiA_int, isiA_str, isiA_tup, isiA_lst, isiA_rol, lenA_str, lenA_tup, lenA_lst, lenA_rol, absA_i, toIntA_i, toIntA_b, isIntA, isiB, String.reduceBEq, List.contains_cons, List.contains_nil, Bool.or_true, Bool.true_or, Bool.or_false, Bool.false_or, Bool.and_true, Bool.true_and, Bool.and_false, Bool.false_and, Bool.not_eq_true, if_true, if_false, decide_true, decide_false, Bool.false_eq_true, eq_self, reduceCtorEq, true_and, false_and, and_false, badA, exists_false, aFld, aPut, agFld, aPutAug, aMeth, aMake, mulX_ii, mulX_si, mulX_li, strA_i, strA_s, intXA_i, intXA_b, isBA_bb, isntBA_bb, aTryV, aRaise, aCallX, aMethX, aErr, aDct0, aStar, aPar3, ex_tri, aCallKX, aIsE, ek, hw, n1, f2, e3, n2, Int.add_zero]
      obtain ⟨f, hf⟩ : ∃ f, f = Vm.figs false 100000 [] (rs'.drop 0) := ⟨_, rfl⟩
      have hf0 : f = Vm.figs false 100000 [] rs' := hf
      have hfl := (Vm.figs_len (neg := false) (most := 100000) (rs'.drop 0) []).2
      rw [← hf, List.length_drop, List.length_nil] at hfl
      rw [List.length_cons] at hrl
      have hg' : ∀ c ∈ rs', Vm.chB c = true := fun c hc => hgood c (List.mem_of_mem_drop (by rw [hr1]; exact hc))
      have hS : Vm.sngF (115 :: rs') = ((Vm.strF rs').1.map fun l => AV.str ⟨l.toArray⟩, 1 + (Vm.strF rs').2) := rfl
      have hN := Vm.numF_eq (below := false) (most := 100000) (e := 58) (rs := rs') (neg := false) (k := 0) rfl rfl hf
      rw [hS, Vm.strF_good hg'] at q
      have d1 : decide (((k + 1 + f.length : Nat) : Int) = ((k + 1 : Nat) : Int)) = decide (f = []) := by
        refine decide_eq_decide.mpr ⟨fun h => List.eq_nil_of_length_eq_zero (by omega), fun h => by rw [h]; rfl⟩
      have hdr : z.cps.toList.drop (k + 1 + f.length) = rs'.drop (0 + f.length) := by rw [← List.drop_drop, hr1, Nat.zero_add]
      simp only [Nat.zero_add] at hN hdr
      have ok : Vm.FigOk 100000 f := by rw [hf]; exact Vm.figs_ok (by omega) _ _ .nil
      refine ⟨le_sl (by omega), le_sl (by omega), le_sl (by omega), z, k + 1, false, _, rfl, hc1, hz, by omega, ?_⟩
      rw [hr1, ← hf0]
      simp only [↓ite_bc, bc_t, bc_f, aLc_rng, aFor_rng, aLc_lst, lstA_lst, lstA_rol, aLcS_rng, eqA_ii, eqA_ss, neA_ii, neA_ss, updS_same, updS_updS, startA, List.map_cons, List.map_nil, List.cons_append, List.nil_append, List.length_cons, List.length_nil, Nat.zero_add, Nat.add_zero, Nat.reduceAdd, Nat.reduceSub, List.replicate_succ, List.replicate_zero, List.replicate,  aVar_z, aVar_s, aC, aNil, aCons, aTup, aLstV, aLst, aOp, aUn, aTru, aTst, aCmp, aChn, aChnT, aAnd, aOr, aNot, aIf, aAndV, aOrV, aNotV, aCB, aCall, aNext, aSeq, aBrk, aCnt, aRet, aRetN, aIfS, aNev,  agName, agNil, agCons, agTup, aAsg, aPar, aDrop, aCallK, aCallKn, aM, aM0, aAddS, aYes, one1, one2, wipeA, aRevT, aRevL, agSub_def, aSl, aPart, aNoPart, cutAns_rol, cutAns_lst, cutAns_tup, cutAns_str, aLstRg, aRg1, ex_some, tupleA_lst, tupleA_tup, wstA_lst,  List.set_cons_zero, List.set_cons_succ, List.set, ex_bl, ex_int, ex_str, ex_tup, ex_eq, ex_cons, ex_pair, ex_one1, ex_one_int, and_tt, truA_bl, truOk_bl, truA_int, truOk_int, truA_lst, truOk_lst, truA_tup, truOk_tup, truA_refU, truOk_refU, Bool.not_true, Bool.not_false,  addA_ii, addA_ss, addA_tt, addA_ll, intA_ii, int2A_ii, subA_ii, mulA_ii, modA_ii, fdivA_ii, powA_ii, negA_i, ltA_ii, leA_ii, gtA_ii, geA_ii, ltA_ss, leA_ss, gtA_ss, geA_ss, isA, isntA, nonA, isiA_non, isiA_bl, isiA_int, isiA_str, isiA_tup, isiA_lst, isiA_rol, lenA_str, lenA_tup, lenA_lst, lenA_rol, absA_i, toIntA_i, toIntA_b, isIntA, isiB, String.reduceBEq, List.contains_cons, List.contains_nil, Bool.or_true, Bool.true_or, Bool.or_false, Bool.false_or, Bool.and_true, Bool.true_and, Bool.and_false, Bool.false_and, Bool.not_eq_true, if_true, if_false, decide_true, decide_false, Bool.false_eq_true, eq_self, reduceCtorEq, true_and, false_and, and_false, badA, exists_false, aFld, aPut, agFld, aPutAug, aMeth, aMake, mulX_ii, mulX_si, mulX_li, strA_i, strA_s, intXA_i, intXA_b, isBA_bb, isntBA_bb, aTryV, aRaise, aCallX, aMethX, aErr, aDct0, aStar, aPar3, ex_tri, aCallKX, aIsE, d1]
      by_cases hn : f = []
      · rw [if_pos hn] at hN
        rw [hN] at q
        rw [decide_eq_true hn]
        simp only [↓ite_bc, bc_t, bc_f, aLc_rng, aFor_rng, aLc_lst, lstA_lst, lstA_rol, aLcS_rng, eqA_ii, eqA_ss, neA_ii, neA_ss, updS_same, updS_updS, startA, List.map_cons, List.map_nil, List.cons_append, List.nil_append, List.length_cons, List.length_nil, Nat.zero_add, Nat.add_zero, Nat.reduceAdd, Nat.reduceSub, List.replicate_succ, List.replicate_zero, List.replicate,  aVar_z, aVar_s, aC, aNil, aCons, aTup, aLstV, aLst, aOp, aUn, aTru, aTst, aCmp, aChn, aChnT, aAnd, aOr, aNot, aIf, aAndV, aOrV, aNotV, aCB, aCall, aNext, aSeq, aBrk, aCnt, aRet, aRetN, aIfS, aNev,  agName, agNil, agCons, agTup, aAsg, aPar, aDrop, aCallK, aCallKn, aM, aM0, aAddS, aYes, one1, one2, wipeA, aRevT, aRevL, agSub_def, aSl, aPart, aNoPart, cutAns_rol, cutAns_lst, cutAns_tup, cutAns_str, aLstRg, aRg1, ex_some, tupleA_lst, tupleA_tup, wstA_lst,  List.set_cons_zero, List.set_cons_succ, List.set, ex_bl, ex_int, ex_str, ex_tup, ex_eq, ex_cons, ex_pair, ex_one1, ex_one_int, and_tt, truA_bl, truOk_bl, truA_int, truOk_int, truA_lst, truOk_lst, truA_tup, truOk_tup, truA_refU, truOk_refU, Bool.not_true, Bool.not_false,  addA_ii, addA_ss, addA_tt, addA_ll, intA_ii, int2A_ii, subA_ii, mulA_ii, modA_ii, fdivA_ii, powA_ii, negA_i, ltA_ii, leA_ii, gtA_ii, geA_ii, ltA_ss, leA_ss, gtA_ss, geA_ss, isA, isntA, nonA, isiA_non, isiA_bl, isiA_int, isiA_str, isiA_tup, isiA_lst, isiA_rol, lenA_str, lenA_tup, lenA_lst, lenA_rol, absA_i, toIntA_i, toIntA_b, isIntA, isiB, String.reduceBEq, List.contains_cons, List.contains_nil, Bool.or_true, Bool.true_or, Bool.or_false, Bool.false_or, Bool.and_true, Bool.true_and, Bool.and_false, Bool.false_and, Bool.not_eq_true, if_true, if_false, decide_true, decide_false, Bool.false_eq_true, eq_self, reduceCtorEq, true_and, false_and, and_false, badA, exists_false, aFld, aPut, agFld, aPutAug, aMeth, aMake, mulX_ii, mulX_si, mulX_li, strA_i, strA_s, intXA_i, intXA_b, isBA_bb, isntBA_bb, aTryV, aRaise, aCallX, aMethX, aErr, aDct0, aStar, aPar3, ex_tri, aCallKX, aIsE, ]
        rw [hn]
        exact ⟨le_sl (by omega), rt_same q⟩
      · rw [if_neg hn] at hN
        rw [decide_eq_false hn]
        simp only [↓ite_bc, bc_t, bc_f, aLc_rng, aFor_rng, aLc_lst, lstA_lst, lstA_rol, aLcS_rng, eqA_ii, eqA_ss, neA_ii, neA_ss, updS_same, updS_updS, startA, List.map_cons, List.map_nil, List.cons_append, List.nil_append, List.length_cons, List.length_nil, Nat.zero_add, Nat.add_zero, Nat.reduceAdd, Nat.reduceSub, List.replicate_succ, List.replicate_zero, List.replicate,  aVar_z, aVar_s, aC, aNil, aCons, aTup, aLstV, aLst, aOp, aUn, aTru, aTst, aCmp, aChn, aChnT, aAnd, aOr, aNot, aIf, aAndV, aOrV, aNotV, aCB, aCall, aNext, aSeq, aBrk, aCnt, aRet, aRetN, aIfS, aNev,  agName, agNil, agCons, agTup, aAsg, aPar, aDrop, aCallK, aCallKn, aM, aM0, aAddS, aYes, one1, one2, wipeA, aRevT, aRevL, agSub_def, aSl, aPart, aNoPart, cutAns_rol, cutAns_lst, cutAns_tup, cutAns_str, aLstRg, aRg1, ex_some, tupleA_lst, tupleA_tup, wstA_lst,  List.set_cons_zero, List.set_cons_succ, List.set, ex_bl, ex_int, ex_str, ex_tup, ex_eq, ex_cons, ex_pair, ex_one1, ex_one_int, and_tt, truA_bl, truOk_bl, truA_int, truOk_int, truA_lst, truOk_lst, truA_tup, truOk_tup, truA_refU, truOk_refU, Bool.not_true, Bool.not_false,  addA_ii, addA_ss, addA_tt, addA_ll, intA_ii, int2A_ii, subA_ii, mulA_ii, modA_ii, fdivA_ii, powA_ii, negA_i, ltA_ii, leA_ii, gtA_ii, geA_ii, ltA_ss, leA_ss, gtA_ss, geA_ss, isA, isntA, nonA, isiA_non, isiA_bl, isiA_int, isiA_str, isiA_tup, isiA_lst, isiA_rol, lenA_str, lenA_tup, lenA_lst, lenA_rol, absA_i, toIntA_i, toIntA_b, isIntA, isiB, String.reduceBEq, List.contains_cons, List.contains_nil, Bool.or_true, Bool.true_or, Bool.or_false, Bool.false_or, Bool.and_true, Bool.true_and, Bool.and_false, Bool.false_and, Bool.not_eq_true, if_true, if_false, decide_true, decide_false, Bool.false_eq_true, eq_self, reduceCtorEq, true_and, false_and, and_false, badA, exists_false, aFld, aPut, agFld, aPutAug, aMeth, aMake, mulX_ii, mulX_si, mulX_li, strA_i, strA_s, intXA_i, intXA_b, isBA_bb, isntBA_bb, aTryV, aRaise, aCallX, aMethX, aErr, aDct0, aStar, aPar3, ex_tri, aCallKX, aIsE, c58, Vm.cut_one (show k + 1 + f.length ≤ z.length by omega), hdr]
        refine ⟨le_sl (by omega), ?_⟩
        by_cases hh : (rs'.drop (f.length)).head? = some 58
        · rw [if_pos hh, if_neg Bool.false_ne_true] at hN
          rw [hN] at q
          rw [decide_eq_true hh]
          have hol := ok.len
          obtain ⟨_, hfl2⟩ := Vm.head_take hh
          have it := ok.all hn
          obtain ⟨q0, eq0, hq0⟩ := Vm.figs_pre (neg := false) (most := 100000) rs' []
          rw [← hf0, List.nil_append] at eq0
          have fq : rs'.take f.length = f := by
            have hl : f.length ≤ q0 := by rw [eq0, List.length_take]; omega
            have e1 : f.take f.length = f := List.take_length
            conv at e1 => lhs; arg 2; rw [eq0]
            rw [List.take_take, Nat.min_eq_left hl] at e1
            exact e1
          have ecut : cutS z (some ((k + 1 : Nat) : Int)) (some ((k + 1 + f.length : Nat) : Int)) = ⟨f.toArray⟩ := by
            rw [Vm.cut_mid hc1 (by omega), hr1, show k + 1 + f.length - (k + 1) = f.length by omega, fq]
          have hl1 : (⟨f.toArray⟩ : Str).length = f.length := by show f.toArray.size = _; rw [List.size_toArray]
          simp only [↓ite_bc, bc_t, bc_f, aLc_rng, aFor_rng, aLc_lst, lstA_lst, lstA_rol, aLcS_rng, eqA_ii, eqA_ss, neA_ii, neA_ss, updS_same, updS_updS, startA, List.map_cons, List.map_nil, List.cons_append, List.nil_append, List.length_cons, List.length_nil, Nat.zero_add, Nat.add_zero, Nat.reduceAdd, Nat.reduceSub, List.replicate_succ, List.replicate_zero, List.replicate,  aVar_z, aVar_s, aC, aNil, aCons, aTup, aLstV, aLst, aOp, aUn, aTru, aTst, aCmp, aChn, aChnT, aAnd, aOr, aNot, aIf, aAndV, aOrV, aNotV, aCB, aCall, aNext, aSeq, aBrk, aCnt, aRet, aRetN, aIfS, aNev,  agName, agNil, agCons, agTup, aAsg, aPar, aDrop, aCallK, aCallKn, aM, aM0, aAddS, aYes, one1, one2, wipeA, aRevT, aRevL, agSub_def, aSl, aPart, aNoPart, cutAns_rol, cutAns_lst, cutAns_tup, cutAns_str, aLstRg, aRg1, ex_some, tupleA_lst, tupleA_tup, wstA_lst,  List.set_cons_zero, List.set_cons_succ, List.set, ex_bl, ex_int, ex_str, ex_tup, ex_eq, ex_cons, ex_pair, ex_one1, ex_one_int, and_tt, truA_bl, truOk_bl, truA_int, truOk_int, truA_lst, truOk_lst, truA_tup, truOk_tup, truA_refU, truOk_refU, Bool.not_true, Bool.not_false,  addA_ii, addA_ss, addA_tt, addA_ll, intA_ii, int2A_ii, subA_ii, mulA_ii, modA_ii, fdivA_ii, powA_ii, negA_i, ltA_ii, leA_ii, gtA_ii, geA_ii, ltA_ss, leA_ss, gtA_ss, geA_ss, isA, isntA, nonA, isiA_non, isiA_bl, isiA_int, isiA_str, isiA_tup, isiA_lst, isiA_rol, lenA_str, lenA_tup, lenA_lst, lenA_rol, absA_i, toIntA_i, toIntA_b, isIntA, isiB, String.reduceBEq, List.contains_cons, List.contains_nil, Bool.or_true, Bool.true_or, Bool.or_false, Bool.false_or, Bool.and_true, Bool.true_and, Bool.and_false, Bool.false_and, Bool.not_eq_true, if_true, if_false, decide_true, decide_false, Bool.false_eq_true, eq_self, reduceCtorEq, true_and, false_and, and_false, badA, exists_false, aFld, aPut, agFld, aPutAug, aMeth, aMake, mulX_ii, mulX_si, mulX_li, strA_i, strA_s, intXA_i, intXA_b, isBA_bb, isntBA_bb, aTryV, aRaise, aCallX, aMethX, aErr, aDct0, aStar, aPar3, ex_tri, aCallKX, aIsE, ecut, intXA_s it]
          generalize NumText.digitsVal f = v at q
          have q : Q (.tup [.bl ((if f.length + 1 + v ≤ rs'.length then some ((rs'.drop (f.length + 1)).take v) else none : Option (List Nat)).map fun l => AV.str ⟨l.toArray⟩).isSome, .int ((k + (1 + min (f.length + 1 + v) rs'.length) : Nat) : Int)]) S := q
          refine ⟨le_sl (by omega), by omega, le_sl (by omega), le_sl (by omega), le_sl (by omega), ?_⟩
          by_cases hle : f.length + 1 + v ≤ rs'.length
          · rw [if_pos hle] at q
            rw [decide_eq_true (by omega), if_neg (by omega)]
            have e : ((k + 1 + f.length : Nat) : Int) + 1 + (v : Int) = ((k + (1 + min (f.length + 1 + v) rs'.length) : Nat) : Int) := by omega
            rw [e]
            exact rt_same q
          · rw [if_neg hle] at q
            rw [decide_eq_false (by omega), if_pos (by omega)]
            have e : ((z.length : Nat) : Int) = ((k + (1 + min (f.length + 1 + v) rs'.length) : Nat) : Int) := by omega
            rw [e]
            exact rt_same q
        · rw [if_neg hh] at hN
          rw [hN] at q
          rw [decide_eq_false hh]
          simp only [↓ite_bc, bc_t, bc_f, aLc_rng, aFor_rng, aLc_lst, lstA_lst, lstA_rol, aLcS_rng, eqA_ii, eqA_ss, neA_ii, neA_ss, updS_same, updS_updS, startA, List.map_cons, List.map_nil, List.cons_append, List.nil_append, List.length_cons, List.length_nil, Nat.zero_add, Nat.add_zero, Nat.reduceAdd, Nat.reduceSub, List.replicate_succ, List.replicate_zero, List.replicate,  aVar_z, aVar_s, aC, aNil, aCons, aTup, aLstV, aLst, aOp, aUn, aTru, aTst, aCmp, aChn, aChnT, aAnd, aOr, aNot, aIf, aAndV, aOrV, aNotV, aCB, aCall, aNext, aSeq, aBrk, aCnt, aRet, aRetN, aIfS, aNev,  agName, agNil, agCons, agTup, aAsg, aPar, aDrop, aCallK, aCallKn, aM, aM0, aAddS, aYes, one1, one2, wipeA, aRevT, aRevL, agSub_def, aSl, aPart, aNoPart, cutAns_rol, cutAns_lst, cutAns_tup, cutAns_str, aLstRg, aRg1, ex_some, tupleA_lst, tupleA_tup, wstA_lst,  List.set_cons_zero, List.set_cons_succ, List.set, ex_bl, ex_int, ex_str, ex_tup, ex_eq, ex_cons, ex_pair, ex_one1, ex_one_int, and_tt, truA_bl, truOk_bl, truA_int, truOk_int, truA_lst, truOk_lst, truA_tup, truOk_tup, truA_refU, truOk_refU, Bool.not_true, Bool.not_false,  addA_ii, addA_ss, addA_tt, addA_ll, intA_ii, int2A_ii, subA_ii, mulA_ii, modA_ii, fdivA_ii, powA_ii, negA_i, ltA_ii, leA_ii, gtA_ii, geA_ii, ltA_ss, leA_ss, gtA_ss, geA_ss, isA, isntA, nonA, isiA_non, isiA_bl, isiA_int, isiA_str, isiA_tup, isiA_lst, isiA_rol, lenA_str, lenA_tup, lenA_lst, lenA_rol, absA_i, toIntA_i, toIntA_b, isIntA, isiB, String.reduceBEq, List.contains_cons, List.contains_nil, Bool.or_true, Bool.true_or, Bool.or_false, Bool.false_or, Bool.and_true, Bool.true_and, Bool.and_false, Bool.false_and, Bool.not_eq_true, if_true, if_false, decide_true, decide_false, Bool.false_eq_true, eq_self, reduceCtorEq, true_and, false_and, and_false, badA, exists_false, aFld, aPut, agFld, aPutAug, aMeth, aMake, mulX_ii, mulX_si, mulX_li, strA_i, strA_s, intXA_i, intXA_b, isBA_bb, isntBA_bb, aTryV, aRaise, aCallX, aMethX, aErr, aDct0, aStar, aPar3, ex_tri, aCallKX, aIsE, ]
          rw [show k + (1 + (f.length)) = k + 1 + f.length by omega] at q
          exact ⟨le_sl (by omega), rt_same q⟩
    have f2 : ∀ S, ninA (.str ⟨#[c]⟩) (.tup [.str (Str.ofString "i"), .str (Str.ofString "s")]) S = ⟨True, .bl true⟩ := fun S => by
      rw [f2 S, decide_eq_false (fun z => h2 (List.cons.inj z).1), decide_eq_false (fun z => h3 (List.cons.inj z).1)]; rfl
    simp only [↓ite_bc, bc_t, bc_f, aLc_rng, aFor_rng, aLc_lst, lstA_lst, lstA_rol, aLcS_rng, eqA_ii, eqA_ss, neA_ii, neA_ss, updS_same, updS_updS, startA, List.map_cons, List.map_nil, List.cons_append, List.nil_append, List.length_cons, List.length_nil, Nat.zero_add, Nat.add_zero, Nat.reduceAdd, Nat.reduceSub, List.replicate_succ, List.replicate_zero, List.replicate,  aVar_z, aVar_s, aC, aNil, aCons, aTup, aLstV, aLst, aOp, aUn, aTru, aTst, aCmp, aChn, aChnT, aAnd, aOr, aNot, aIf, aAndV, aOrV, aNotV, aCB, aCall, aNext, aSeq, aBrk, aCnt, aRet, aRetN, aIfS, aNev,  agName, agNil, agCons, agTup, aAsg, aPar, aDrop, aCallK, aCallKn, aM, aM0, aAddS, aYes, one1, one2, wipeA, aRevT, aRevL, agSub_def, aSl, aPart, aNoPart, cutAns_rol, cutAns_lst, cutAns_tup, cutAns_str, aLstRg, aRg1, ex_some, tupleA_lst, tupleA_tup, wstA_lst,  List.set_cons_zero, List.set_cons_succ, List.set, ex_bl, ex_int, ex_str, ex_tup, ex_eq, ex_cons, ex_pair, ex_one1, ex_one_int, and_tt, truA_bl, truOk_bl, truA_int, truOk_int, truA_lst, truOk_lst, truA_tup, truOk_tup, truA_refU, truOk_refU, Bool.not_true, Bool.not_false,  addA_ii, addA_ss, addA_tt, addA_ll, intA_ii, int2A_ii, subA_ii, mulA_ii, modA_ii, fdivA_ii, powA_ii, negA_i, ltA_ii, leA_ii, gtA_ii, geA_ii, ltA_ss, leA_ss, gtA_ss, geA_ss, isA, isntA, nonA, isiA_non, isiA_bl, isiA_int, isiA_str, isiA_tup, isiA_lst, isiA_rol, lenA_str, lenA_tup, lenA_lst, lenA_rol, absA_i, toIntA_i, toIntA_b, isIntA, isiB, String.reduceBEq, List.contains_cons, List.contains_nil, Bool.or_true, Bool.true_or, Bool.or_false, Bool.false_or, Bool.and_true, Bool.true_and, Bool.and_false, Bool.false_and, Bool.not_eq_true, if_true, if_false, decide_true, decide_false, Bool.false_eq_true, eq_self, reduceCtorEq, true_and, false_and, and_false, badA, exists_false, aFld, aPut, agFld, aPutAug, aMeth, aMake, mulX_ii, mulX_si, mulX_li, strA_i, strA_s, intXA_i, intXA_b, isBA_bb, isntBA_bb, aTryV, aRaise, aCallX, aMethX, aErr, aDct0, aStar, aPar3, ex_tri, aCallKX, aIsE, ek, hw, n1, f2]
    have e : Vm.sngF (c :: rs') = (none, 0) := by
      unfold Vm.sngF
      rw [if_neg (show ¬ (c :: rs').head? = some 110 from fun z => h1 (Option.some.inj z)), if_neg (show ¬ (c :: rs').head? = some 105 from fun z => h2 (Option.some.inj z)), if_neg (show ¬ (c :: rs').head? = some 115 from fun z => h3 (Option.some.inj z))]
    rw [e] at q
    refine ⟨le_sl (by omega), le_sl (by omega), ?_⟩
    first | exact ⟨le_sl (by omega), rt_same q⟩ | exact ⟨le_sl (by omega), le_sl (by omega), rt_same q⟩
def sp__law_walk : ASp := fun ds S Q => ∃ z, ds = [.str z] ∧ z.length ≤ 10000000 ∧ (∀ c ∈ z.cps.toList, Vm.chB c = true) ∧ Q (.tup [.bl ((Vm.vR [] z.cps.toList).1.isSome && decide ((Vm.vR [] z.cps.toList).2 = z.length)), .int ((Vm.vR [] z.cps.toList).2 : Nat)]) S
set_option maxHeartbeats 4000000 in
theorem fn__law_walk (T : Txt P w K mg C_Reader C_HouseError f_HouseError C_BadText) (F__law_single_end : Fn4 P w K mg base 2 "_law_single_end" ["text", "at"] sp__law_single_end) : FnX P w K mg base 3 "_law_walk" st__law_walk ["text"] sp__law_walk := by
  refine FnX.of T.d__law_walk fun f fd F => F.ok4 sc__law_walk (fun ds S Q h => by unfold sp__law_walk at h; first | (obtain ⟨_, rfl, _⟩ := h; rfl) | (obtain ⟨_, _, rfl, _⟩ := h; rfl) | (obtain ⟨_, _, _, rfl, _⟩ := h; rfl) | (obtain ⟨_, _, _, _, rfl, _⟩ := h; rfl) | (obtain ⟨_, _, _, _, _, rfl, _⟩ := h; rfl) | (obtain ⟨_, _, _, _, _, _, rfl, _⟩ := h; rfl) | (obtain ⟨_, _, _, _, _, _, _, rfl, _⟩ := h; rfl)) fun cdv A gd out s H E hr => ?_
  refine ⟨_, (s_cons (s_asg (e_tup (a_cons e_int (a_cons e_int a_nil))) (g_tup rfl (gs_cons (g_name 1 sc__law_walk.nd) (gs_cons (g_name 2 sc__law_walk.nd) gs_nil))))
    (s_one (s_while PassesOwn.never (t_tru e_bl) (s_cons (s_if (w_and (t_cmp (o_eq hr.units) (e_sl (e_var 0) (o_some (e_var 1)) (o_some (e_op o_add (e_var 1) e_int))) e_str) (w_and1 (t_cmp o_lt (e_var 2) e_int))).pt (s_cons (s_par (i := 1) (j := 2) rfl sc__law_walk.nd (a_cons (e_op o_add (e_var 1) e_int) (a_cons (e_op o_add (e_var 2) e_int) a_nil)))
    (s_one s_cnt)) s_nil)
    (s_cons (s_if (w_and (t_cmp (o_eq hr.units) (e_sl (e_var 0) (o_some (e_var 1)) (o_some (e_op o_add (e_var 1) e_int))) e_str) (w_and1 (t_cmp o_gt (e_var 2) e_int))).pt (s_one (s_par (i := 1) (j := 2) rfl sc__law_walk.nd (a_cons (e_op o_add (e_var 1) e_int) (a_cons (e_op o_sub (e_var 2) e_int) a_nil)))) (s_cons (s_asg (f_call F__law_single_end gd (hr.mono (by decide)) (a_cons (e_var 0) (a_cons (e_var 1) a_nil))) (g_tup rfl (gs_cons (g_name 3 sc__law_walk.nd) (gs_cons (g_name 1 sc__law_walk.nd) gs_nil))))
    (s_one (s_if (t_not (t_tru (e_var 3))) (s_one (s_ret (e_tup (a_cons e_bl (a_cons (e_var 1) a_nil))))) s_nil))))
    (s_one (s_if (t_cmp (o_eq hr.units) (e_var 2) e_int) (s_one (s_ret (e_tup (a_cons (e_cmp (o_eq hr.units) (e_var 1) (e_cb c_len T.n_len (by decide +kernel) (a_cons (e_var 0) a_nil))) (a_cons (e_var 1) a_nil))))) s_nil))))))), ?_⟩
  rintro _ S Q ⟨z, rfl, hz, hgood, q⟩
  have hlen : z.cps.toList.length = z.length := Array.length_toList
  have c40 : ("(" : Str) = ⟨#[40]⟩ := by decide +kernel
  have c41 : (")" : Str) = ⟨#[41]⟩ := by decide +kernel
  walk_at "rd"
  refine ⟨le_sl (by omega), rfl, ?_⟩
  refine ⟨fun m τ S' => ∃ (st : List (List AV)) (n : Nat) (o3 : Option AV), τ = [some (.str z), some (.int (n : Nat)), some (.int (st.length : Nat)), o3] ∧ S' = S ∧ n ≤ z.length ∧ z.length - n < m ∧ Vm.vR [] z.cps.toList = ((Vm.valF m st (z.cps.toList.drop n)).1, n + (Vm.valF m st (z.cps.toList.drop n)).2) ∧ st.length ≤ 30,
    ⟨z.length + 1, [], 0, none, rfl, rfl, Nat.zero_le _, by omega, by rw [List.drop_zero, Nat.zero_add, Vm.vR_of (by omega)], by simp⟩, ?_⟩
  rintro m _ S ⟨st, n, o3, rfl, rfl, hn, hm, hval, hst⟩
  obtain ⟨m', rfl⟩ : ∃ m', m = m' + 1 := ⟨m - 1, by omega⟩
  have e1 : z.cps.toList.drop (n + 1) = (z.cps.toList.drop n).drop 1 := by rw [List.drop_drop]
  have en : ((n : Nat) : Int) + 1 = ((n + 1 : Nat) : Int) := rfl
  simp only [↓ite_bc, bc_t, bc_f, aLc_rng, aFor_rng, aLc_lst, lstA_lst, lstA_rol, aLcS_rng, eqA_ii, eqA_ss, neA_ii, neA_ss, updS_same, updS_updS, startA, List.map_cons, List.map_nil, List.cons_append, List.nil_append, List.length_cons, List.length_nil, Nat.zero_add, Nat.add_zero, Nat.reduceAdd, Nat.reduceSub, List.replicate_succ, List.replicate_zero, List.replicate,  aVar_z, aVar_s, aC, aNil, aCons, aTup, aLstV, aLst, aOp, aUn, aTru, aTst, aCmp, aChn, aChnT, aAnd, aOr, aNot, aIf, aAndV, aOrV, aNotV, aCB, aCall, aNext, aSeq, aBrk, aCnt, aRet, aRetN, aIfS, aNev,  agName, agNil, agCons, agTup, aAsg, aPar, aDrop, aCallK, aCallKn, aM, aM0, aAddS, aYes, one1, one2, wipeA, aRevT, aRevL, agSub_def, aSl, aPart, aNoPart, cutAns_rol, cutAns_lst, cutAns_tup, cutAns_str, aLstRg, aRg1, ex_some, tupleA_lst, tupleA_tup, wstA_lst,  List.set_cons_zero, List.set_cons_succ, List.set, ex_bl, ex_int, ex_str, ex_tup, ex_eq, ex_cons, ex_pair, ex_one1, ex_one_int, and_tt, truA_bl, truOk_bl, truA_int, truOk_int, truA_lst, truOk_lst, truA_tup, truOk_tup, truA_refU, truOk_refU, Bool.not_true, Bool.not_false,  addA_ii, addA_ss, addA_tt, addA_ll, intA_ii, int2A_ii, subA_ii, mulA_ii, modA_ii, fdivA_ii, powA_ii, negA_i, ltA_ii, leA_ii, gtA_ii, geA_ii, ltA_ss, leA_ss, gtA_ss, geA_ss, isA, isntA, nonA, isiA_non, isiA_bl, isiA_int, isiA_str, isiA_tup, isiA_lst, isiA_rol, lenA_str, lenA_tup, lenA_lst, lenA_rol, absA_i, toIntA_i, toIntA_b, isIntA, isiB, String.reduceBEq, List.contains_cons, List.contains_nil, Bool.or_true, Bool.true_or, Bool.or_false, Bool.false_or, Bool.and_true, Bool.true_and, Bool.and_false, Bool.false_and, Bool.not_eq_true, if_true, if_false, decide_true, decide_false, Bool.false_eq_true, eq_self, reduceCtorEq, true_and, false_and, and_false, badA, exists_false, aFld, aPut, agFld, aPutAug, aMeth, aMake, mulX_ii, mulX_si, mulX_li, strA_i, strA_s, intXA_i, intXA_b, isBA_bb, isntBA_bb, aTryV, aRaise, aCallX, aMethX, aErr, aDct0, aStar, aPar3, ex_tri, aCallKX, aIsE, c40, c41, Vm.cut_one hn]
  generalize hrs : z.cps.toList.drop n = rs at hval e1 ⊢
  have hrl : rs.length = z.length - n := by rw [← hrs, List.length_drop, hlen]
  have hd : ∀ c : Nat, rs.head? = some c → n + 1 ≤ z.length := fun c h => by
    cases rs with
    | nil => cases h
    | cons x xs => rw [List.length_cons] at hrl; omega
  refine ⟨le_sl (by omega), ?_⟩
  by_cases ho : st.length < 30 ∧ rs.head? = some 40
  · rw [decide_eq_true ho.2, decide_eq_true (by omega)]
    simp only [↓ite_bc, bc_t, bc_f, aLc_rng, aFor_rng, aLc_lst, lstA_lst, lstA_rol, aLcS_rng, eqA_ii, eqA_ss, neA_ii, neA_ss, updS_same, updS_updS, startA, List.map_cons, List.map_nil, List.cons_append, List.nil_append, List.length_cons, List.length_nil, Nat.zero_add, Nat.add_zero, Nat.reduceAdd, Nat.reduceSub, List.replicate_succ, List.replicate_zero, List.replicate,  aVar_z, aVar_s, aC, aNil, aCons, aTup, aLstV, aLst, aOp, aUn, aTru, aTst, aCmp, aChn, aChnT, aAnd, aOr, aNot, aIf, aAndV, aOrV, aNotV, aCB, aCall, aNext, aSeq, aBrk, aCnt, aRet, aRetN, aIfS, aNev,  agName, agNil, agCons, agTup, aAsg, aPar, aDrop, aCallK, aCallKn, aM, aM0, aAddS, aYes, one1, one2, wipeA, aRevT, aRevL, agSub_def, aSl, aPart, aNoPart, cutAns_rol, cutAns_lst, cutAns_tup, cutAns_str, aLstRg, aRg1, ex_some, tupleA_lst, tupleA_tup, wstA_lst,  List.set_cons_zero, List.set_cons_succ, List.set, ex_bl, ex_int, ex_str, ex_tup, ex_eq, ex_cons, ex_pair, ex_one1, ex_one_int, and_tt, truA_bl, truOk_bl, truA_int, truOk_int, truA_lst, truOk_lst, truA_tup, truOk_tup, truA_refU, truOk_refU, Bool.not_true, Bool.not_false,  addA_ii, addA_ss, addA_tt, addA_ll, intA_ii, int2A_ii, subA_ii, mulA_ii, modA_ii, fdivA_ii, powA_ii, negA_i, ltA_ii, leA_ii, gtA_ii, geA_ii, ltA_ss, leA_ss, gtA_ss, geA_ss, isA, isntA, nonA, isiA_non, isiA_bl, isiA_int, isiA_str, isiA_tup, isiA_lst, isiA_rol, lenA_str, lenA_tup, lenA_lst, lenA_rol, absA_i, toIntA_i, toIntA_b, isIntA, isiB, String.reduceBEq, List.contains_cons, List.contains_nil, Bool.or_true, Bool.true_or, Bool.or_false, Bool.false_or, Bool.and_true, Bool.true_and, Bool.and_false, Bool.false_and, Bool.not_eq_true, if_true, if_false, decide_true, decide_false, Bool.false_eq_true, eq_self, reduceCtorEq, true_and, false_and, and_false, badA, exists_false, aFld, aPut, agFld, aPutAug, aMeth, aMake, mulX_ii, mulX_si, mulX_li, strA_i, strA_s, intXA_i, intXA_b, isBA_bb, isntBA_bb, aTryV, aRaise, aCallX, aMethX, aErr, aDct0, aStar, aPar3, ex_tri, aCallKX, aIsE, en]
    have h1 := hd _ ho.2
    refine ⟨m', by omega, [] :: st, n + 1, _, rfl, h1, by omega, ?_, by rw [List.length_cons]; omega⟩
    rw [hval, Vm.valF_open ho, e1, Nat.add_assoc]
  have key : ∀ X Y : Prop, Y → bc (decide (rs.head? = some 40)) (bc (decide (((st.length : Nat) : Int) < 30)) X Y) Y := fun X Y h => by
    by_cases h40 : rs.head? = some 40
    · have : ¬ st.length < 30 := fun z => ho ⟨z, h40⟩
      rw [decide_eq_true h40, decide_eq_false (by omega)]
      exact h
    · rw [decide_eq_false h40]
      exact h
  refine key _ _ ⟨le_sl (by omega), ?_⟩
  by_cases hs : 0 < st.length ∧ rs.head? = some 41
  · obtain ⟨hs0, h41⟩ := hs
    have h1 := hd _ h41
    rw [decide_eq_true h41, decide_eq_true (by omega)]
    simp only [↓ite_bc, bc_t, bc_f, aLc_rng, aFor_rng, aLc_lst, lstA_lst, lstA_rol, aLcS_rng, eqA_ii, eqA_ss, neA_ii, neA_ss, updS_same, updS_updS, startA, List.map_cons, List.map_nil, List.cons_append, List.nil_append, List.length_cons, List.length_nil, Nat.zero_add, Nat.add_zero, Nat.reduceAdd, Nat.reduceSub, List.replicate_succ, List.replicate_zero, List.replicate,  aVar_z, aVar_s, aC, aNil, aCons, aTup, aLstV, aLst, aOp, aUn, aTru, aTst, aCmp, aChn, aChnT, aAnd, aOr, aNot, aIf, aAndV, aOrV, aNotV, aCB, aCall, aNext, aSeq, aBrk, aCnt, aRet, aRetN, aIfS, aNev,  agName, agNil, agCons, agTup, aAsg, aPar, aDrop, aCallK, aCallKn, aM, aM0, aAddS, aYes, one1, one2, wipeA, aRevT, aRevL, agSub_def, aSl, aPart, aNoPart, cutAns_rol, cutAns_lst, cutAns_tup, cutAns_str, aLstRg, aRg1, ex_some, tupleA_lst, tupleA_tup, wstA_lst,  List.set_cons_zero, List.set_cons_succ, List.set, ex_bl, ex_int, ex_str, ex_tup, ex_eq, ex_cons, ex_pair, ex_one1, ex_one_int, and_tt, truA_bl, truOk_bl, truA_int, truOk_int, truA_lst, truOk_lst, truA_tup, truOk_tup, truA_refU, truOk_refU, Bool.not_true, Bool.not_false,  addA_ii, addA_ss, addA_tt, addA_ll, intA_ii, int2A_ii, subA_ii, mulA_ii, modA_ii, fdivA_ii, powA_ii, negA_i, ltA_ii, leA_ii, gtA_ii, geA_ii, ltA_ss, leA_ss, gtA_ss, geA_ss, isA, isntA, nonA, isiA_non, isiA_bl, isiA_int, isiA_str, isiA_tup, isiA_lst, isiA_rol, lenA_str, lenA_tup, lenA_lst, lenA_rol, absA_i, toIntA_i, toIntA_b, isIntA, isiB, String.reduceBEq, List.contains_cons, List.contains_nil, Bool.or_true, Bool.true_or, Bool.or_false, Bool.false_or, Bool.and_true, Bool.true_and, Bool.and_false, Bool.false_and, Bool.not_eq_true, if_true, if_false, decide_true, decide_false, Bool.false_eq_true, eq_self, reduceCtorEq, true_and, false_and, and_false, badA, exists_false, aFld, aPut, agFld, aPutAug, aMeth, aMake, mulX_ii, mulX_si, mulX_li, strA_i, strA_s, intXA_i, intXA_b, isBA_bb, isntBA_bb, aTryV, aRaise, aCallX, aMethX, aErr, aDct0, aStar, aPar3, ex_tri, aCallKX, aIsE, en]
    cases st with
    | nil => cases hs0
    | cons top more =>
      cases more with
      | nil =>
        rw [Vm.valF_shut0 ho h41] at hval
        rw [hval] at q
        rw [decide_eq_true (by rfl)]
        simp only [↓ite_bc, bc_t, bc_f, aLc_rng, aFor_rng, aLc_lst, lstA_lst, lstA_rol, aLcS_rng, eqA_ii, eqA_ss, neA_ii, neA_ss, updS_same, updS_updS, startA, List.map_cons, List.map_nil, List.cons_append, List.nil_append, List.length_cons, List.length_nil, Nat.zero_add, Nat.add_zero, Nat.reduceAdd, Nat.reduceSub, List.replicate_succ, List.replicate_zero, List.replicate,  aVar_z, aVar_s, aC, aNil, aCons, aTup, aLstV, aLst, aOp, aUn, aTru, aTst, aCmp, aChn, aChnT, aAnd, aOr, aNot, aIf, aAndV, aOrV, aNotV, aCB, aCall, aNext, aSeq, aBrk, aCnt, aRet, aRetN, aIfS, aNev,  agName, agNil, agCons, agTup, aAsg, aPar, aDrop, aCallK, aCallKn, aM, aM0, aAddS, aYes, one1, one2, wipeA, aRevT, aRevL, agSub_def, aSl, aPart, aNoPart, cutAns_rol, cutAns_lst, cutAns_tup, cutAns_str, aLstRg, aRg1, ex_some, tupleA_lst, tupleA_tup, wstA_lst,  List.set_cons_zero, List.set_cons_succ, List.set, ex_bl, ex_int, ex_str, ex_tup, ex_eq, ex_cons, ex_pair, ex_one1, ex_one_int, and_tt, truA_bl, truOk_bl, truA_int, truOk_int, truA_lst, truOk_lst, truA_tup, truOk_tup, truA_refU, truOk_refU, Bool.not_true, Bool.not_false,  addA_ii, addA_ss, addA_tt, addA_ll, intA_ii, int2A_ii, subA_ii, mulA_ii, modA_ii, fdivA_ii, powA_ii, negA_i, ltA_ii, leA_ii, gtA_ii, geA_ii, ltA_ss, leA_ss, gtA_ss, geA_ss, isA, isntA, nonA, isiA_non, isiA_bl, isiA_int, isiA_str, isiA_tup, isiA_lst, isiA_rol, lenA_str, lenA_tup, lenA_lst, lenA_rol, absA_i, toIntA_i, toIntA_b, isIntA, isiB, String.reduceBEq, List.contains_cons, List.contains_nil, Bool.or_true, Bool.true_or, Bool.or_false, Bool.false_or, Bool.and_true, Bool.true_and, Bool.and_false, Bool.false_and, Bool.not_eq_true, if_true, if_false, decide_true, decide_false, Bool.false_eq_true, eq_self, reduceCtorEq, true_and, false_and, and_false, badA, exists_false, aFld, aPut, agFld, aPutAug, aMeth, aMake, mulX_ii, mulX_si, mulX_li, strA_i, strA_s, intXA_i, intXA_b, isBA_bb, isntBA_bb, aTryV, aRaise, aCallX, aMethX, aErr, aDct0, aStar, aPar3, ex_tri, aCallKX, aIsE, ]
        refine ⟨le_sl (by omega), le_sl (by omega), ?_⟩
        have e : decide (((n + 1 : Nat) : Int) = (z.length : Int)) = decide (n + 1 = z.length) := decide_eq_decide.mpr (by omega)
        rw [e]
        exact rt_same q
      | cons up rest =>
        rw [decide_eq_false (by rw [List.length_cons, List.length_cons]; omega)]
        simp only [↓ite_bc, bc_t, bc_f, aLc_rng, aFor_rng, aLc_lst, lstA_lst, lstA_rol, aLcS_rng, eqA_ii, eqA_ss, neA_ii, neA_ss, updS_same, updS_updS, startA, List.map_cons, List.map_nil, List.cons_append, List.nil_append, List.length_cons, List.length_nil, Nat.zero_add, Nat.add_zero, Nat.reduceAdd, Nat.reduceSub, List.replicate_succ, List.replicate_zero, List.replicate,  aVar_z, aVar_s, aC, aNil, aCons, aTup, aLstV, aLst, aOp, aUn, aTru, aTst, aCmp, aChn, aChnT, aAnd, aOr, aNot, aIf, aAndV, aOrV, aNotV, aCB, aCall, aNext, aSeq, aBrk, aCnt, aRet, aRetN, aIfS, aNev,  agName, agNil, agCons, agTup, aAsg, aPar, aDrop, aCallK, aCallKn, aM, aM0, aAddS, aYes, one1, one2, wipeA, aRevT, aRevL, agSub_def, aSl, aPart, aNoPart, cutAns_rol, cutAns_lst, cutAns_tup, cutAns_str, aLstRg, aRg1, ex_some, tupleA_lst, tupleA_tup, wstA_lst,  List.set_cons_zero, List.set_cons_succ, List.set, ex_bl, ex_int, ex_str, ex_tup, ex_eq, ex_cons, ex_pair, ex_one1, ex_one_int, and_tt, truA_bl, truOk_bl, truA_int, truOk_int, truA_lst, truOk_lst, truA_tup, truOk_tup, truA_refU, truOk_refU, Bool.not_true, Bool.not_false,  addA_ii, addA_ss, addA_tt, addA_ll, intA_ii, int2A_ii, subA_ii, mulA_ii, modA_ii, fdivA_ii, powA_ii, negA_i, ltA_ii, leA_ii, gtA_ii, geA_ii, ltA_ss, leA_ss, gtA_ss, geA_ss, isA, isntA, nonA, isiA_non, isiA_bl, isiA_int, isiA_str, isiA_tup, isiA_lst, isiA_rol, lenA_str, lenA_tup, lenA_lst, lenA_rol, absA_i, toIntA_i, toIntA_b, isIntA, isiB, String.reduceBEq, List.contains_cons, List.contains_nil, Bool.or_true, Bool.true_or, Bool.or_false, Bool.false_or, Bool.and_true, Bool.true_and, Bool.and_false, Bool.false_and, Bool.not_eq_true, if_true, if_false, decide_true, decide_false, Bool.false_eq_true, eq_self, reduceCtorEq, true_and, false_and, and_false, badA, exists_false, aFld, aPut, agFld, aPutAug, aMeth, aMake, mulX_ii, mulX_si, mulX_li, strA_i, strA_s, intXA_i, intXA_b, isBA_bb, isntBA_bb, aTryV, aRaise, aCallX, aMethX, aErr, aDct0, aStar, aPar3, ex_tri, aCallKX, aIsE, ]
        refine ⟨m', by omega, (up ++ [.tup top]) :: rest, n + 1, o3, ?_, h1, by omega, ?_, ?_⟩
        · rw [List.length_cons, show (((rest.length + 1 + 1 : Nat) : Int) - 1) = ((rest.length + 1 : Nat) : Int) by omega]
        · rw [hval, Vm.valF_shut ho h41, e1, Nat.add_assoc]
        · rw [List.length_cons] at hst ⊢
          rw [List.length_cons] at hst
          omega
  have key2 : ∀ X Y : Prop, Y → bc (decide (rs.head? = some 41)) (bc (decide (0 < ((st.length : Nat) : Int))) X Y) Y := fun X Y h => by
    by_cases h41 : rs.head? = some 41
    · have : ¬ 0 < st.length := fun z => hs ⟨z, h41⟩
      rw [decide_eq_true h41, decide_eq_false (by omega)]
      exact h
    · rw [decide_eq_false h41]
      exact h
  refine key2 _ _ ⟨z, n, rfl, hn, hz, hgood, ?_⟩
  refine ⟨_, rfl, rfl, _, _, rfl, _, _, rfl, rfl, ?_⟩
  rw [hrs]
  have sl := Vm.sngF_le (rs := rs)
  rcases hS : Vm.sngF rs with ⟨so, j⟩
  rw [hS] at sl
  have slj : j ≤ rs.length := sl.1
  cases so with
  | none =>
    simp only [↓ite_bc, bc_t, bc_f, aLc_rng, aFor_rng, aLc_lst, lstA_lst, lstA_rol, aLcS_rng, eqA_ii, eqA_ss, neA_ii, neA_ss, updS_same, updS_updS, startA, List.map_cons, List.map_nil, List.cons_append, List.nil_append, List.length_cons, List.length_nil, Nat.zero_add, Nat.add_zero, Nat.reduceAdd, Nat.reduceSub, List.replicate_succ, List.replicate_zero, List.replicate,  aVar_z, aVar_s, aC, aNil, aCons, aTup, aLstV, aLst, aOp, aUn, aTru, aTst, aCmp, aChn, aChnT, aAnd, aOr, aNot, aIf, aAndV, aOrV, aNotV, aCB, aCall, aNext, aSeq, aBrk, aCnt, aRet, aRetN, aIfS, aNev,  agName, agNil, agCons, agTup, aAsg, aPar, aDrop, aCallK, aCallKn, aM, aM0, aAddS, aYes, one1, one2, wipeA, aRevT, aRevL, agSub_def, aSl, aPart, aNoPart, cutAns_rol, cutAns_lst, cutAns_tup, cutAns_str, aLstRg, aRg1, ex_some, tupleA_lst, tupleA_tup, wstA_lst,  List.set_cons_zero, List.set_cons_succ, List.set, ex_bl, ex_int, ex_str, ex_tup, ex_eq, ex_cons, ex_pair, ex_one1, ex_one_int, and_tt, truA_bl, truOk_bl, truA_int, truOk_int, truA_lst, truOk_lst, truA_tup, truOk_tup, truA_refU, truOk_refU, Bool.not_true, Bool.not_false,  addA_ii, addA_ss, addA_tt, addA_ll, intA_ii, int2A_ii, subA_ii, mulA_ii, modA_ii, fdivA_ii, powA_ii, negA_i, ltA_ii, leA_ii, gtA_ii, geA_ii, ltA_ss, leA_ss, gtA_ss, geA_ss, isA, isntA, nonA, isiA_non, isiA_bl, isiA_int, isiA_str, isiA_tup, isiA_lst, isiA_rol, lenA_str, lenA_tup, lenA_lst, lenA_rol, absA_i, toIntA_i, toIntA_b, isIntA, isiB, String.reduceBEq, List.contains_cons, List.contains_nil, Bool.or_true, Bool.true_or, Bool.or_false, Bool.false_or, Bool.and_true, Bool.true_and, Bool.and_false, Bool.false_and, Bool.not_eq_true, if_true, if_false, decide_true, decide_false, Bool.false_eq_true, eq_self, reduceCtorEq, true_and, false_and, and_false, badA, exists_false, aFld, aPut, agFld, aPutAug, aMeth, aMake, mulX_ii, mulX_si, mulX_li, strA_i, strA_s, intXA_i, intXA_b, isBA_bb, isntBA_bb, aTryV, aRaise, aCallX, aMethX, aErr, aDct0, aStar, aPar3, ex_tri, aCallKX, aIsE, Option.isSome_none]
    have e : Vm.valF (m' + 1) st rs = (none, j) := by
      cases st with
      | nil => rw [Vm.valF_nil ho, hS]
      | cons top more => exact Vm.valF_non ho (fun h => hs ⟨by rw [List.length_cons]; omega, h⟩) hS
    rw [e] at hval
    rw [hval] at q
    exact ⟨le_sl (by omega), rt_same q⟩
  | some v =>
    have j1 : 1 ≤ j := sl.2 (by simp)
    simp only [↓ite_bc, bc_t, bc_f, aLc_rng, aFor_rng, aLc_lst, lstA_lst, lstA_rol, aLcS_rng, eqA_ii, eqA_ss, neA_ii, neA_ss, updS_same, updS_updS, startA, List.map_cons, List.map_nil, List.cons_append, List.nil_append, List.length_cons, List.length_nil, Nat.zero_add, Nat.add_zero, Nat.reduceAdd, Nat.reduceSub, List.replicate_succ, List.replicate_zero, List.replicate,  aVar_z, aVar_s, aC, aNil, aCons, aTup, aLstV, aLst, aOp, aUn, aTru, aTst, aCmp, aChn, aChnT, aAnd, aOr, aNot, aIf, aAndV, aOrV, aNotV, aCB, aCall, aNext, aSeq, aBrk, aCnt, aRet, aRetN, aIfS, aNev,  agName, agNil, agCons, agTup, aAsg, aPar, aDrop, aCallK, aCallKn, aM, aM0, aAddS, aYes, one1, one2, wipeA, aRevT, aRevL, agSub_def, aSl, aPart, aNoPart, cutAns_rol, cutAns_lst, cutAns_tup, cutAns_str, aLstRg, aRg1, ex_some, tupleA_lst, tupleA_tup, wstA_lst,  List.set_cons_zero, List.set_cons_succ, List.set, ex_bl, ex_int, ex_str, ex_tup, ex_eq, ex_cons, ex_pair, ex_one1, ex_one_int, and_tt, truA_bl, truOk_bl, truA_int, truOk_int, truA_lst, truOk_lst, truA_tup, truOk_tup, truA_refU, truOk_refU, Bool.not_true, Bool.not_false,  addA_ii, addA_ss, addA_tt, addA_ll, intA_ii, int2A_ii, subA_ii, mulA_ii, modA_ii, fdivA_ii, powA_ii, negA_i, ltA_ii, leA_ii, gtA_ii, geA_ii, ltA_ss, leA_ss, gtA_ss, geA_ss, isA, isntA, nonA, isiA_non, isiA_bl, isiA_int, isiA_str, isiA_tup, isiA_lst, isiA_rol, lenA_str, lenA_tup, lenA_lst, lenA_rol, absA_i, toIntA_i, toIntA_b, isIntA, isiB, String.reduceBEq, List.contains_cons, List.contains_nil, Bool.or_true, Bool.true_or, Bool.or_false, Bool.false_or, Bool.and_true, Bool.true_and, Bool.and_false, Bool.false_and, Bool.not_eq_true, if_true, if_false, decide_true, decide_false, Bool.false_eq_true, eq_self, reduceCtorEq, true_and, false_and, and_false, badA, exists_false, aFld, aPut, agFld, aPutAug, aMeth, aMake, mulX_ii, mulX_si, mulX_li, strA_i, strA_s, intXA_i, intXA_b, isBA_bb, isntBA_bb, aTryV, aRaise, aCallX, aMethX, aErr, aDct0, aStar, aPar3, ex_tri, aCallKX, aIsE, Option.isSome_some]
    cases st with
    | nil =>
      rw [Vm.valF_nil ho, hS] at hval
      rw [hval] at q
      rw [decide_eq_true (by rfl)]
      simp only [↓ite_bc, bc_t, bc_f, aLc_rng, aFor_rng, aLc_lst, lstA_lst, lstA_rol, aLcS_rng, eqA_ii, eqA_ss, neA_ii, neA_ss, updS_same, updS_updS, startA, List.map_cons, List.map_nil, List.cons_append, List.nil_append, List.length_cons, List.length_nil, Nat.zero_add, Nat.add_zero, Nat.reduceAdd, Nat.reduceSub, List.replicate_succ, List.replicate_zero, List.replicate,  aVar_z, aVar_s, aC, aNil, aCons, aTup, aLstV, aLst, aOp, aUn, aTru, aTst, aCmp, aChn, aChnT, aAnd, aOr, aNot, aIf, aAndV, aOrV, aNotV, aCB, aCall, aNext, aSeq, aBrk, aCnt, aRet, aRetN, aIfS, aNev,  agName, agNil, agCons, agTup, aAsg, aPar, aDrop, aCallK, aCallKn, aM, aM0, aAddS, aYes, one1, one2, wipeA, aRevT, aRevL, agSub_def, aSl, aPart, aNoPart, cutAns_rol, cutAns_lst, cutAns_tup, cutAns_str, aLstRg, aRg1, ex_some, tupleA_lst, tupleA_tup, wstA_lst,  List.set_cons_zero, List.set_cons_succ, List.set, ex_bl, ex_int, ex_str, ex_tup, ex_eq, ex_cons, ex_pair, ex_one1, ex_one_int, and_tt, truA_bl, truOk_bl, truA_int, truOk_int, truA_lst, truOk_lst, truA_tup, truOk_tup, truA_refU, truOk_refU, Bool.not_true, Bool.not_false,  addA_ii, addA_ss, addA_tt, addA_ll, intA_ii, int2A_ii, subA_ii, mulA_ii, modA_ii, fdivA_ii, powA_ii, negA_i, ltA_ii, leA_ii, gtA_ii, geA_ii, ltA_ss, leA_ss, gtA_ss, geA_ss, isA, isntA, nonA, isiA_non, isiA_bl, isiA_int, isiA_str, isiA_tup, isiA_lst, isiA_rol, lenA_str, lenA_tup, lenA_lst, lenA_rol, absA_i, toIntA_i, toIntA_b, isIntA, isiB, String.reduceBEq, List.contains_cons, List.contains_nil, Bool.or_true, Bool.true_or, Bool.or_false, Bool.false_or, Bool.and_true, Bool.true_and, Bool.and_false, Bool.false_and, Bool.not_eq_true, if_true, if_false, decide_true, decide_false, Bool.false_eq_true, eq_self, reduceCtorEq, true_and, false_and, and_false, badA, exists_false, aFld, aPut, agFld, aPutAug, aMeth, aMake, mulX_ii, mulX_si, mulX_li, strA_i, strA_s, intXA_i, intXA_b, isBA_bb, isntBA_bb, aTryV, aRaise, aCallX, aMethX, aErr, aDct0, aStar, aPar3, ex_tri, aCallKX, aIsE, ]
      have e : decide (((n + j : Nat) : Int) = (z.length : Int)) = decide (n + j = z.length) := decide_eq_decide.mpr (by omega)
      rw [e]
      exact ⟨le_sl (by omega), le_sl (by omega), rt_same q⟩
    | cons top more =>
      rw [decide_eq_false (by rw [List.length_cons]; omega)]
      simp only [↓ite_bc, bc_t, bc_f, aLc_rng, aFor_rng, aLc_lst, lstA_lst, lstA_rol, aLcS_rng, eqA_ii, eqA_ss, neA_ii, neA_ss, updS_same, updS_updS, startA, List.map_cons, List.map_nil, List.cons_append, List.nil_append, List.length_cons, List.length_nil, Nat.zero_add, Nat.add_zero, Nat.reduceAdd, Nat.reduceSub, List.replicate_succ, List.replicate_zero, List.replicate,  aVar_z, aVar_s, aC, aNil, aCons, aTup, aLstV, aLst, aOp, aUn, aTru, aTst, aCmp, aChn, aChnT, aAnd, aOr, aNot, aIf, aAndV, aOrV, aNotV, aCB, aCall, aNext, aSeq, aBrk, aCnt, aRet, aRetN, aIfS, aNev,  agName, agNil, agCons, agTup, aAsg, aPar, aDrop, aCallK, aCallKn, aM, aM0, aAddS, aYes, one1, one2, wipeA, aRevT, aRevL, agSub_def, aSl, aPart, aNoPart, cutAns_rol, cutAns_lst, cutAns_tup, cutAns_str, aLstRg, aRg1, ex_some, tupleA_lst, tupleA_tup, wstA_lst,  List.set_cons_zero, List.set_cons_succ, List.set, ex_bl, ex_int, ex_str, ex_tup, ex_eq, ex_cons, ex_pair, ex_one1, ex_one_int, and_tt, truA_bl, truOk_bl, truA_int, truOk_int, truA_lst, truOk_lst, truA_tup, truOk_tup, truA_refU, truOk_refU, Bool.not_true, Bool.not_false,  addA_ii, addA_ss, addA_tt, addA_ll, intA_ii, int2A_ii, subA_ii, mulA_ii, modA_ii, fdivA_ii, powA_ii, negA_i, ltA_ii, leA_ii, gtA_ii, geA_ii, ltA_ss, leA_ss, gtA_ss, geA_ss, isA, isntA, nonA, isiA_non, isiA_bl, isiA_int, isiA_str, isiA_tup, isiA_lst, isiA_rol, lenA_str, lenA_tup, lenA_lst, lenA_rol, absA_i, toIntA_i, toIntA_b, isIntA, isiB, String.reduceBEq, List.contains_cons, List.contains_nil, Bool.or_true, Bool.true_or, Bool.or_false, Bool.false_or, Bool.and_true, Bool.true_and, Bool.and_false, Bool.false_and, Bool.not_eq_true, if_true, if_false, decide_true, decide_false, Bool.false_eq_true, eq_self, reduceCtorEq, true_and, false_and, and_false, badA, exists_false, aFld, aPut, agFld, aPutAug, aMeth, aMake, mulX_ii, mulX_si, mulX_li, strA_i, strA_s, intXA_i, intXA_b, isBA_bb, isntBA_bb, aTryV, aRaise, aCallX, aMethX, aErr, aDct0, aStar, aPar3, ex_tri, aCallKX, aIsE, ]
      refine ⟨m', by omega, (top ++ [v]) :: more, n + j, _, rfl, by omega, by omega, ?_, hst⟩
      rw [hval, Vm.valF_som ho (fun h => hs ⟨by rw [List.length_cons]; omega, h⟩) hS, ← List.drop_drop, hrs, Nat.add_assoc]
def sp__law_spoilt : ASp := fun ds S Q => ∃ (p : Addr) (t : Pt) (N : Nat), ds = [.ref p] ∧ S p = some (potO t) ∧ okP N t ∧ N < 2 ^ 27 ∧ ∀ t' z, okP (N + 600) t' → Vm.okS 300000 z → Q (.str z) (updS S p (potO t'))
set_option maxHeartbeats 4000000 in
theorem fn__law_spoilt (T : Txt P w K mg C_Reader C_HouseError f_HouseError C_BadText) (F__law_text_of : Fn4 P w K mg base 1 "_law_text_of" ["value"] sp__law_text_of) (F__law_value : Fn4 P w K mg base 5 "_law_value" ["pot", "parts"] sp__law_value) (F__law_of : Fn4 P w K mg base 2 "_law_of" ["pot", "some"] sp__law_of) (F__law_take : Fn4 P w K mg base 1 "_law_take" ["pot", "upto"] sp__law_take) (F__law_plain_value : Fn4 P w K mg base 4 "_law_plain_value" ["pot"] sp__law_plain_value) : FnX P w K mg base 6 "_law_spoilt" st__law_spoilt ["pot"] sp__law_spoilt := by
  refine FnX.of T.d__law_spoilt fun f fd F => F.ok4 sc__law_spoilt (fun ds S Q h => by unfold sp__law_spoilt at h; first | (obtain ⟨_, rfl, _⟩ := h; rfl) | (obtain ⟨_, _, rfl, _⟩ := h; rfl) | (obtain ⟨_, _, _, rfl, _⟩ := h; rfl) | (obtain ⟨_, _, _, _, rfl, _⟩ := h; rfl) | (obtain ⟨_, _, _, _, _, rfl, _⟩ := h; rfl) | (obtain ⟨_, _, _, _, _, _, rfl, _⟩ := h; rfl) | (obtain ⟨_, _, _, _, _, _, _, rfl, _⟩ := h; rfl)) fun cdv A gd out s H E hr => ?_
  refine ⟨_, (s_cons (s_set 1 sc__law_spoilt.nd (f_call F__law_text_of gd (hr.mono (by decide)) (a_cons (f_call F__law_value gd (hr.mono (by decide)) (a_cons (e_var 0) (a_cons e_int a_nil))) a_nil)))
    (s_cons (s_par3 (i := 2) (j := 3) (l := 4) rfl sc__law_spoilt.nd (a_cons (f_call F__law_take gd (hr.mono (by decide)) (a_cons (e_var 0) (a_cons (e_op o_add (e_cb c_len T.n_len (by decide +kernel) (a_cons (e_var 1) a_nil)) e_int) a_nil))) (a_cons (f_call F__law_take gd (hr.mono (by decide)) (a_cons (e_var 0) (a_cons e_int a_nil))) (a_cons (f_call F__law_of gd (hr.mono (by decide)) (a_cons (e_var 0) (a_cons e_str a_nil))) a_nil))))
    (s_cons (s_if (t_cmp (o_eq hr.units) (e_var 3) e_int) (s_one (s_ret (e_sl (e_var 1) o_none (o_some (e_var 2))))) s_nil)
    (s_cons (s_if (t_cmp (o_eq hr.units) (e_var 3) e_int) (s_one (s_ret (e_op o_add (e_op o_add (e_sl (e_var 1) o_none (o_some (e_var 2))) (e_var 4)) (e_sl (e_var 1) (o_some (e_var 2)) o_none)))) s_nil)
    (s_cons (s_if (t_cmp (o_eq hr.units) (e_var 3) e_int) (s_one (s_ret (e_op o_add (e_sl (e_var 1) o_none (o_some (e_var 2))) (e_sl (e_var 1) (o_some (e_op o_add (e_var 2) e_int)) o_none)))) s_nil)
    (s_cons (s_if (t_cmp (o_eq hr.units) (e_var 3) e_int) (s_one (s_ret (e_op o_add (e_op o_add (e_sl (e_var 1) o_none (o_some (e_var 2))) (e_var 4)) (e_sl (e_var 1) (o_some (e_op o_add (e_var 2) e_int)) o_none)))) s_nil)
    (s_one (s_ret (e_if (t_cmp (o_eq hr.units) (e_var 3) e_int) (e_op o_add (e_var 1) (f_call F__law_text_of gd (hr.mono (by decide)) (a_cons (f_call F__law_plain_value gd (hr.mono (by decide)) (a_cons (e_var 0) a_nil)) a_nil))) (e_op o_add (e_var 1) (e_var 4))))))))))), ?_⟩
  rintro _ S Q ⟨p, t, N, rfl, hp, ok, hN, q⟩
  walk_at "rd"
  refine ⟨p, t, 6, N, rfl, by omega, by omega, hp, ok, by omega, fun t1 d ok1 hv hc => ?_⟩
  simp only [↓ite_bc, bc_t, bc_f, aLc_rng, aFor_rng, aLc_lst, lstA_lst, lstA_rol, aLcS_rng, eqA_ii, eqA_ss, neA_ii, neA_ss, updS_same, updS_updS, startA, List.map_cons, List.map_nil, List.cons_append, List.nil_append, List.length_cons, List.length_nil, Nat.zero_add, Nat.add_zero, Nat.reduceAdd, Nat.reduceSub, List.replicate_succ, List.replicate_zero, List.replicate,  aVar_z, aVar_s, aC, aNil, aCons, aTup, aLstV, aLst, aOp, aUn, aTru, aTst, aCmp, aChn, aChnT, aAnd, aOr, aNot, aIf, aAndV, aOrV, aNotV, aCB, aCall, aNext, aSeq, aBrk, aCnt, aRet, aRetN, aIfS, aNev,  agName, agNil, agCons, agTup, aAsg, aPar, aDrop, aCallK, aCallKn, aM, aM0, aAddS, aYes, one1, one2, wipeA, aRevT, aRevL, agSub_def, aSl, aPart, aNoPart, cutAns_rol, cutAns_lst, cutAns_tup, cutAns_str, aLstRg, aRg1, ex_some, tupleA_lst, tupleA_tup, wstA_lst,  List.set_cons_zero, List.set_cons_succ, List.set, ex_bl, ex_int, ex_str, ex_tup, ex_eq, ex_cons, ex_pair, ex_one1, ex_one_int, and_tt, truA_bl, truOk_bl, truA_int, truOk_int, truA_lst, truOk_lst, truA_tup, truOk_tup, truA_refU, truOk_refU, Bool.not_true, Bool.not_false,  addA_ii, addA_ss, addA_tt, addA_ll, intA_ii, int2A_ii, subA_ii, mulA_ii, modA_ii, fdivA_ii, powA_ii, negA_i, ltA_ii, leA_ii, gtA_ii, geA_ii, ltA_ss, leA_ss, gtA_ss, geA_ss, isA, isntA, nonA, isiA_non, isiA_bl, isiA_int, isiA_str, isiA_tup, isiA_lst, isiA_rol, lenA_str, lenA_tup, lenA_lst, lenA_rol, absA_i, toIntA_i, toIntA_b, isIntA, isiB, String.reduceBEq, List.contains_cons, List.contains_nil, Bool.or_true, Bool.true_or, Bool.or_false, Bool.false_or, Bool.and_true, Bool.true_and, Bool.and_false, Bool.false_and, Bool.not_eq_true, if_true, if_false, decide_true, decide_false, Bool.false_eq_true, eq_self, reduceCtorEq, true_and, false_and, and_false, badA, exists_false, aFld, aPut, agFld, aPutAug, aMeth, aMake, mulX_ii, mulX_si, mulX_li, strA_i, strA_s, intXA_i, intXA_b, isBA_bb, isntBA_bb, aTryV, aRaise, aCallX, aMethX, aErr, aDct0, aStar, aPar3, ex_tri, aCallKX, aIsE, ]
  have o := Vm.okS.txt (m := 140000) hv (by omega)
  have ol := o.1
  refine ⟨d, rfl, Vm.val_up d 20 30 (by omega) hv, by omega, ?_⟩
  simp only [↓ite_bc, bc_t, bc_f, aLc_rng, aFor_rng, aLc_lst, lstA_lst, lstA_rol, aLcS_rng, eqA_ii, eqA_ss, neA_ii, neA_ss, updS_same, updS_updS, startA, List.map_cons, List.map_nil, List.cons_append, List.nil_append, List.length_cons, List.length_nil, Nat.zero_add, Nat.add_zero, Nat.reduceAdd, Nat.reduceSub, List.replicate_succ, List.replicate_zero, List.replicate,  aVar_z, aVar_s, aC, aNil, aCons, aTup, aLstV, aLst, aOp, aUn, aTru, aTst, aCmp, aChn, aChnT, aAnd, aOr, aNot, aIf, aAndV, aOrV, aNotV, aCB, aCall, aNext, aSeq, aBrk, aCnt, aRet, aRetN, aIfS, aNev,  agName, agNil, agCons, agTup, aAsg, aPar, aDrop, aCallK, aCallKn, aM, aM0, aAddS, aYes, one1, one2, wipeA, aRevT, aRevL, agSub_def, aSl, aPart, aNoPart, cutAns_rol, cutAns_lst, cutAns_tup, cutAns_str, aLstRg, aRg1, ex_some, tupleA_lst, tupleA_tup, wstA_lst,  List.set_cons_zero, List.set_cons_succ, List.set, ex_bl, ex_int, ex_str, ex_tup, ex_eq, ex_cons, ex_pair, ex_one1, ex_one_int, and_tt, truA_bl, truOk_bl, truA_int, truOk_int, truA_lst, truOk_lst, truA_tup, truOk_tup, truA_refU, truOk_refU, Bool.not_true, Bool.not_false,  addA_ii, addA_ss, addA_tt, addA_ll, intA_ii, int2A_ii, subA_ii, mulA_ii, modA_ii, fdivA_ii, powA_ii, negA_i, ltA_ii, leA_ii, gtA_ii, geA_ii, ltA_ss, leA_ss, gtA_ss, geA_ss, isA, isntA, nonA, isiA_non, isiA_bl, isiA_int, isiA_str, isiA_tup, isiA_lst, isiA_rol, lenA_str, lenA_tup, lenA_lst, lenA_rol, absA_i, toIntA_i, toIntA_b, isIntA, isiB, String.reduceBEq, List.contains_cons, List.contains_nil, Bool.or_true, Bool.true_or, Bool.or_false, Bool.false_or, Bool.and_true, Bool.true_and, Bool.and_false, Bool.false_and, Bool.not_eq_true, if_true, if_false, decide_true, decide_false, Bool.false_eq_true, eq_self, reduceCtorEq, true_and, false_and, and_false, badA, exists_false, aFld, aPut, agFld, aPutAug, aMeth, aMake, mulX_ii, mulX_si, mulX_li, strA_i, strA_s, intXA_i, intXA_b, isBA_bb, isntBA_bb, aTryV, aRaise, aCallX, aMethX, aErr, aDct0, aStar, aPar3, ex_tri, aCallKX, aIsE, ]
  refine ⟨le_sl (by omega), take_of (by omega) (by omega) updS_same ok1 (by omega) fun t2 r2 ok2 a0 a1 => ?_⟩
  simp only [↓ite_bc, bc_t, bc_f, aLc_rng, aFor_rng, aLc_lst, lstA_lst, lstA_rol, aLcS_rng, eqA_ii, eqA_ss, neA_ii, neA_ss, updS_same, updS_updS, startA, List.map_cons, List.map_nil, List.cons_append, List.nil_append, List.length_cons, List.length_nil, Nat.zero_add, Nat.add_zero, Nat.reduceAdd, Nat.reduceSub, List.replicate_succ, List.replicate_zero, List.replicate,  aVar_z, aVar_s, aC, aNil, aCons, aTup, aLstV, aLst, aOp, aUn, aTru, aTst, aCmp, aChn, aChnT, aAnd, aOr, aNot, aIf, aAndV, aOrV, aNotV, aCB, aCall, aNext, aSeq, aBrk, aCnt, aRet, aRetN, aIfS, aNev,  agName, agNil, agCons, agTup, aAsg, aPar, aDrop, aCallK, aCallKn, aM, aM0, aAddS, aYes, one1, one2, wipeA, aRevT, aRevL, agSub_def, aSl, aPart, aNoPart, cutAns_rol, cutAns_lst, cutAns_tup, cutAns_str, aLstRg, aRg1, ex_some, tupleA_lst, tupleA_tup, wstA_lst,  List.set_cons_zero, List.set_cons_succ, List.set, ex_bl, ex_int, ex_str, ex_tup, ex_eq, ex_cons, ex_pair, ex_one1, ex_one_int, and_tt, truA_bl, truOk_bl, truA_int, truOk_int, truA_lst, truOk_lst, truA_tup, truOk_tup, truA_refU, truOk_refU, Bool.not_true, Bool.not_false,  addA_ii, addA_ss, addA_tt, addA_ll, intA_ii, int2A_ii, subA_ii, mulA_ii, modA_ii, fdivA_ii, powA_ii, negA_i, ltA_ii, leA_ii, gtA_ii, geA_ii, ltA_ss, leA_ss, gtA_ss, geA_ss, isA, isntA, nonA, isiA_non, isiA_bl, isiA_int, isiA_str, isiA_tup, isiA_lst, isiA_rol, lenA_str, lenA_tup, lenA_lst, lenA_rol, absA_i, toIntA_i, toIntA_b, isIntA, isiB, String.reduceBEq, List.contains_cons, List.contains_nil, Bool.or_true, Bool.true_or, Bool.or_false, Bool.false_or, Bool.and_true, Bool.true_and, Bool.and_false, Bool.false_and, Bool.not_eq_true, if_true, if_false, decide_true, decide_false, Bool.false_eq_true, eq_self, reduceCtorEq, true_and, false_and, and_false, badA, exists_false, aFld, aPut, agFld, aPutAug, aMeth, aMake, mulX_ii, mulX_si, mulX_li, strA_i, strA_s, intXA_i, intXA_b, isBA_bb, isntBA_bb, aTryV, aRaise, aCallX, aMethX, aErr, aDct0, aStar, aPar3, ex_tri, aCallKX, aIsE, ]
  refine take_of (by omega) (by omega) updS_same ok2 (by omega) fun t3 r3 ok3 b0 b1 => ?_
  simp only [↓ite_bc, bc_t, bc_f, aLc_rng, aFor_rng, aLc_lst, lstA_lst, lstA_rol, aLcS_rng, eqA_ii, eqA_ss, neA_ii, neA_ss, updS_same, updS_updS, startA, List.map_cons, List.map_nil, List.cons_append, List.nil_append, List.length_cons, List.length_nil, Nat.zero_add, Nat.add_zero, Nat.reduceAdd, Nat.reduceSub, List.replicate_succ, List.replicate_zero, List.replicate,  aVar_z, aVar_s, aC, aNil, aCons, aTup, aLstV, aLst, aOp, aUn, aTru, aTst, aCmp, aChn, aChnT, aAnd, aOr, aNot, aIf, aAndV, aOrV, aNotV, aCB, aCall, aNext, aSeq, aBrk, aCnt, aRet, aRetN, aIfS, aNev,  agName, agNil, agCons, agTup, aAsg, aPar, aDrop, aCallK, aCallKn, aM, aM0, aAddS, aYes, one1, one2, wipeA, aRevT, aRevL, agSub_def, aSl, aPart, aNoPart, cutAns_rol, cutAns_lst, cutAns_tup, cutAns_str, aLstRg, aRg1, ex_some, tupleA_lst, tupleA_tup, wstA_lst,  List.set_cons_zero, List.set_cons_succ, List.set, ex_bl, ex_int, ex_str, ex_tup, ex_eq, ex_cons, ex_pair, ex_one1, ex_one_int, and_tt, truA_bl, truOk_bl, truA_int, truOk_int, truA_lst, truOk_lst, truA_tup, truOk_tup, truA_refU, truOk_refU, Bool.not_true, Bool.not_false,  addA_ii, addA_ss, addA_tt, addA_ll, intA_ii, int2A_ii, subA_ii, mulA_ii, modA_ii, fdivA_ii, powA_ii, negA_i, ltA_ii, leA_ii, gtA_ii, geA_ii, ltA_ss, leA_ss, gtA_ss, geA_ss, isA, isntA, nonA, isiA_non, isiA_bl, isiA_int, isiA_str, isiA_tup, isiA_lst, isiA_rol, lenA_str, lenA_tup, lenA_lst, lenA_rol, absA_i, toIntA_i, toIntA_b, isIntA, isiB, String.reduceBEq, List.contains_cons, List.contains_nil, Bool.or_true, Bool.true_or, Bool.or_false, Bool.false_or, Bool.and_true, Bool.true_and, Bool.and_false, Bool.false_and, Bool.not_eq_true, if_true, if_false, decide_true, decide_false, Bool.false_eq_true, eq_self, reduceCtorEq, true_and, false_and, and_false, badA, exists_false, aFld, aPut, agFld, aPutAug, aMeth, aMake, mulX_ii, mulX_si, mulX_li, strA_i, strA_s, intXA_i, intXA_b, isBA_bb, isntBA_bb, aTryV, aRaise, aCallX, aMethX, aErr, aDct0, aStar, aPar3, ex_tri, aCallKX, aIsE, ]
  refine one_str (by decide +kernel) (by decide +kernel) updS_same ok3 (by omega) fun t4 c ok4 hcc => ?_
  have hch : Vm.chB c = true := List.all_eq_true.mp (by decide +kernel : ("()nis0123456789:;- x" : Str).cps.toList.all Vm.chB = true) c hcc
  have os := Vm.okS.sg hch
  have osl := os.1
  have oc : ∀ lo hi, Vm.okS 140000 (cutS (Vm.txtS d) lo hi) := fun lo hi => o.cut lo hi
  have ocl : ∀ lo hi, (cutS (Vm.txtS d) lo hi).length ≤ 140000 := fun lo hi => (oc lo hi).1
  have ocs : ∀ lo hi, ((cutS (Vm.txtS d) lo hi) ++ (⟨#[c]⟩ : Str)).length ≤ 140001 := fun lo hi => ((oc lo hi).app os).1
  have fin : ∀ z, Vm.okS 300000 z → RtW Q (.str z) (updS S p (potO t4)) := fun z hz => rt_same (q t4 z (ok4.up (by omega)) hz)
  have two : ∀ lo hi lo2 hi2, (cutS (Vm.txtS d) lo hi).length + (cutS (Vm.txtS d) lo2 hi2).length ≤ 300000 := fun lo hi lo2 hi2 => by have := ocl lo hi; have := ocl lo2 hi2; omega
  have thr : ∀ lo hi lo2 hi2, ((cutS (Vm.txtS d) lo hi) ++ (⟨#[c]⟩ : Str)).length + (cutS (Vm.txtS d) lo2 hi2).length ≤ 300000 := fun lo hi lo2 hi2 => by have := ocs lo hi; have := ocl lo2 hi2; omega
  have one : ∀ lo hi, (cutS (Vm.txtS d) lo hi).length + (⟨#[c]⟩ : Str).length ≤ 300000 := fun lo hi => by have := ocl lo hi; omega
  simp only [↓ite_bc, bc_t, bc_f, aLc_rng, aFor_rng, aLc_lst, lstA_lst, lstA_rol, aLcS_rng, eqA_ii, eqA_ss, neA_ii, neA_ss, updS_same, updS_updS, startA, List.map_cons, List.map_nil, List.cons_append, List.nil_append, List.length_cons, List.length_nil, Nat.zero_add, Nat.add_zero, Nat.reduceAdd, Nat.reduceSub, List.replicate_succ, List.replicate_zero, List.replicate,  aVar_z, aVar_s, aC, aNil, aCons, aTup, aLstV, aLst, aOp, aUn, aTru, aTst, aCmp, aChn, aChnT, aAnd, aOr, aNot, aIf, aAndV, aOrV, aNotV, aCB, aCall, aNext, aSeq, aBrk, aCnt, aRet, aRetN, aIfS, aNev,  agName, agNil, agCons, agTup, aAsg, aPar, aDrop, aCallK, aCallKn, aM, aM0, aAddS, aYes, one1, one2, wipeA, aRevT, aRevL, agSub_def, aSl, aPart, aNoPart, cutAns_rol, cutAns_lst, cutAns_tup, cutAns_str, aLstRg, aRg1, ex_some, tupleA_lst, tupleA_tup, wstA_lst,  List.set_cons_zero, List.set_cons_succ, List.set, ex_bl, ex_int, ex_str, ex_tup, ex_eq, ex_cons, ex_pair, ex_one1, ex_one_int, and_tt, truA_bl, truOk_bl, truA_int, truOk_int, truA_lst, truOk_lst, truA_tup, truOk_tup, truA_refU, truOk_refU, Bool.not_true, Bool.not_false,  addA_ii, addA_ss, addA_tt, addA_ll, intA_ii, int2A_ii, subA_ii, mulA_ii, modA_ii, fdivA_ii, powA_ii, negA_i, ltA_ii, leA_ii, gtA_ii, geA_ii, ltA_ss, leA_ss, gtA_ss, geA_ss, isA, isntA, nonA, isiA_non, isiA_bl, isiA_int, isiA_str, isiA_tup, isiA_lst, isiA_rol, lenA_str, lenA_tup, lenA_lst, lenA_rol, absA_i, toIntA_i, toIntA_b, isIntA, isiB, String.reduceBEq, List.contains_cons, List.contains_nil, Bool.or_true, Bool.true_or, Bool.or_false, Bool.false_or, Bool.and_true, Bool.true_and, Bool.and_false, Bool.false_and, Bool.not_eq_true, if_true, if_false, decide_true, decide_false, Bool.false_eq_true, eq_self, reduceCtorEq, true_and, false_and, and_false, badA, exists_false, aFld, aPut, agFld, aPutAug, aMeth, aMake, mulX_ii, mulX_si, mulX_li, strA_i, strA_s, intXA_i, intXA_b, isBA_bb, isntBA_bb, aTryV, aRaise, aCallX, aMethX, aErr, aDct0, aStar, aPar3, ex_tri, aCallKX, aIsE, ]
  cases d0 : decide (r3 = 0)
  · cases d1 : decide (r3 = 1)
    · cases d2 : decide (r3 = 2)
      · cases d3 : decide (r3 = 3)
        · cases d4 : decide (r3 = 4)
          · simp only [↓ite_bc, bc_t, bc_f, aLc_rng, aFor_rng, aLc_lst, lstA_lst, lstA_rol, aLcS_rng, eqA_ii, eqA_ss, neA_ii, neA_ss, updS_same, updS_updS, startA, List.map_cons, List.map_nil, List.cons_append, List.nil_append, List.length_cons, List.length_nil, Nat.zero_add, Nat.add_zero, Nat.reduceAdd, Nat.reduceSub, List.replicate_succ, List.replicate_zero, List.replicate,  aVar_z, aVar_s, aC, aNil, aCons, aTup, aLstV, aLst, aOp, aUn, aTru, aTst, aCmp, aChn, aChnT, aAnd, aOr, aNot, aIf, aAndV, aOrV, aNotV, aCB, aCall, aNext, aSeq, aBrk, aCnt, aRet, aRetN, aIfS, aNev,  agName, agNil, agCons, agTup, aAsg, aPar, aDrop, aCallK, aCallKn, aM, aM0, aAddS, aYes, one1, one2, wipeA, aRevT, aRevL, agSub_def, aSl, aPart, aNoPart, cutAns_rol, cutAns_lst, cutAns_tup, cutAns_str, aLstRg, aRg1, ex_some, tupleA_lst, tupleA_tup, wstA_lst,  List.set_cons_zero, List.set_cons_succ, List.set, ex_bl, ex_int, ex_str, ex_tup, ex_eq, ex_cons, ex_pair, ex_one1, ex_one_int, and_tt, truA_bl, truOk_bl, truA_int, truOk_int, truA_lst, truOk_lst, truA_tup, truOk_tup, truA_refU, truOk_refU, Bool.not_true, Bool.not_false,  addA_ii, addA_ss, addA_tt, addA_ll, intA_ii, int2A_ii, subA_ii, mulA_ii, modA_ii, fdivA_ii, powA_ii, negA_i, ltA_ii, leA_ii, gtA_ii, geA_ii, ltA_ss, leA_ss, gtA_ss, geA_ss, isA, isntA, nonA, isiA_non, isiA_bl, isiA_int, isiA_str, isiA_tup, isiA_lst, isiA_rol, lenA_str, lenA_tup, lenA_lst, lenA_rol, absA_i, toIntA_i, toIntA_b, isIntA, isiB, String.reduceBEq, List.contains_cons, List.contains_nil, Bool.or_true, Bool.true_or, Bool.or_false, Bool.false_or, Bool.and_true, Bool.true_and, Bool.and_false, Bool.false_and, Bool.not_eq_true, if_true, if_false, decide_true, decide_false, Bool.false_eq_true, eq_self, reduceCtorEq, true_and, false_and, and_false, badA, exists_false, aFld, aPut, agFld, aPutAug, aMeth, aMake, mulX_ii, mulX_si, mulX_li, strA_i, strA_s, intXA_i, intXA_b, isBA_bb, isntBA_bb, aTryV, aRaise, aCallX, aMethX, aErr, aDct0, aStar, aPar3, ex_tri, aCallKX, aIsE, ]
            exact ⟨le_sl (by omega), fin _ ((o.app os).up (by omega))⟩
          · simp only [↓ite_bc, bc_t, bc_f, aLc_rng, aFor_rng, aLc_lst, lstA_lst, lstA_rol, aLcS_rng, eqA_ii, eqA_ss, neA_ii, neA_ss, updS_same, updS_updS, startA, List.map_cons, List.map_nil, List.cons_append, List.nil_append, List.length_cons, List.length_nil, Nat.zero_add, Nat.add_zero, Nat.reduceAdd, Nat.reduceSub, List.replicate_succ, List.replicate_zero, List.replicate,  aVar_z, aVar_s, aC, aNil, aCons, aTup, aLstV, aLst, aOp, aUn, aTru, aTst, aCmp, aChn, aChnT, aAnd, aOr, aNot, aIf, aAndV, aOrV, aNotV, aCB, aCall, aNext, aSeq, aBrk, aCnt, aRet, aRetN, aIfS, aNev,  agName, agNil, agCons, agTup, aAsg, aPar, aDrop, aCallK, aCallKn, aM, aM0, aAddS, aYes, one1, one2, wipeA, aRevT, aRevL, agSub_def, aSl, aPart, aNoPart, cutAns_rol, cutAns_lst, cutAns_tup, cutAns_str, aLstRg, aRg1, ex_some, tupleA_lst, tupleA_tup, wstA_lst,  List.set_cons_zero, List.set_cons_succ, List.set, ex_bl, ex_int, ex_str, ex_tup, ex_eq, ex_cons, ex_pair, ex_one1, ex_one_int, and_tt, truA_bl, truOk_bl, truA_int, truOk_int, truA_lst, truOk_lst, truA_tup, truOk_tup, truA_refU, truOk_refU, Bool.not_true, Bool.not_false,  addA_ii, addA_ss, addA_tt, addA_ll, intA_ii, int2A_ii, subA_ii, mulA_ii, modA_ii, fdivA_ii, powA_ii, negA_i, ltA_ii, leA_ii, gtA_ii, geA_ii, ltA_ss, leA_ss, gtA_ss, geA_ss, isA, isntA, nonA, isiA_non, isiA_bl, isiA_int, isiA_str, isiA_tup, isiA_lst, isiA_rol, lenA_str, lenA_tup, lenA_lst, lenA_rol, absA_i, toIntA_i, toIntA_b, isIntA, isiB, String.reduceBEq, List.contains_cons, List.contains_nil, Bool.or_true, Bool.true_or, Bool.or_false, Bool.false_or, Bool.and_true, Bool.true_and, Bool.and_false, Bool.false_and, Bool.not_eq_true, if_true, if_false, decide_true, decide_false, Bool.false_eq_true, eq_self, reduceCtorEq, true_and, false_and, and_false, badA, exists_false, aFld, aPut, agFld, aPutAug, aMeth, aMake, mulX_ii, mulX_si, mulX_li, strA_i, strA_s, intXA_i, intXA_b, isBA_bb, isntBA_bb, aTryV, aRaise, aCallX, aMethX, aErr, aDct0, aStar, aPar3, ex_tri, aCallKX, aIsE, ]
            refine ⟨p, t4, _, rfl, updS_same, ok4, by omega, fun t5 e ok5 hv5 hc5 => ⟨e, rfl, Vm.val_up e 0 30 (by omega) hv5, by omega, ?_⟩⟩
            have o5 := Vm.okS.txt (m := 22000) hv5 (by omega)
            have o5l := o5.1
            simp only [↓ite_bc, bc_t, bc_f, aLc_rng, aFor_rng, aLc_lst, lstA_lst, lstA_rol, aLcS_rng, eqA_ii, eqA_ss, neA_ii, neA_ss, updS_same, updS_updS, startA, List.map_cons, List.map_nil, List.cons_append, List.nil_append, List.length_cons, List.length_nil, Nat.zero_add, Nat.add_zero, Nat.reduceAdd, Nat.reduceSub, List.replicate_succ, List.replicate_zero, List.replicate,  aVar_z, aVar_s, aC, aNil, aCons, aTup, aLstV, aLst, aOp, aUn, aTru, aTst, aCmp, aChn, aChnT, aAnd, aOr, aNot, aIf, aAndV, aOrV, aNotV, aCB, aCall, aNext, aSeq, aBrk, aCnt, aRet, aRetN, aIfS, aNev,  agName, agNil, agCons, agTup, aAsg, aPar, aDrop, aCallK, aCallKn, aM, aM0, aAddS, aYes, one1, one2, wipeA, aRevT, aRevL, agSub_def, aSl, aPart, aNoPart, cutAns_rol, cutAns_lst, cutAns_tup, cutAns_str, aLstRg, aRg1, ex_some, tupleA_lst, tupleA_tup, wstA_lst,  List.set_cons_zero, List.set_cons_succ, List.set, ex_bl, ex_int, ex_str, ex_tup, ex_eq, ex_cons, ex_pair, ex_one1, ex_one_int, and_tt, truA_bl, truOk_bl, truA_int, truOk_int, truA_lst, truOk_lst, truA_tup, truOk_tup, truA_refU, truOk_refU, Bool.not_true, Bool.not_false,  addA_ii, addA_ss, addA_tt, addA_ll, intA_ii, int2A_ii, subA_ii, mulA_ii, modA_ii, fdivA_ii, powA_ii, negA_i, ltA_ii, leA_ii, gtA_ii, geA_ii, ltA_ss, leA_ss, gtA_ss, geA_ss, isA, isntA, nonA, isiA_non, isiA_bl, isiA_int, isiA_str, isiA_tup, isiA_lst, isiA_rol, lenA_str, lenA_tup, lenA_lst, lenA_rol, absA_i, toIntA_i, toIntA_b, isIntA, isiB, String.reduceBEq, List.contains_cons, List.contains_nil, Bool.or_true, Bool.true_or, Bool.or_false, Bool.false_or, Bool.and_true, Bool.true_and, Bool.and_false, Bool.false_and, Bool.not_eq_true, if_true, if_false, decide_true, decide_false, Bool.false_eq_true, eq_self, reduceCtorEq, true_and, false_and, and_false, badA, exists_false, aFld, aPut, agFld, aPutAug, aMeth, aMake, mulX_ii, mulX_si, mulX_li, strA_i, strA_s, intXA_i, intXA_b, isBA_bb, isntBA_bb, aTryV, aRaise, aCallX, aMethX, aErr, aDct0, aStar, aPar3, ex_tri, aCallKX, aIsE, ]
            exact ⟨le_sl (by omega), rt_same (q t5 _ (ok5.up (by omega)) ((o.app o5).up (by omega)))⟩
        · simp only [↓ite_bc, bc_t, bc_f, aLc_rng, aFor_rng, aLc_lst, lstA_lst, lstA_rol, aLcS_rng, eqA_ii, eqA_ss, neA_ii, neA_ss, updS_same, updS_updS, startA, List.map_cons, List.map_nil, List.cons_append, List.nil_append, List.length_cons, List.length_nil, Nat.zero_add, Nat.add_zero, Nat.reduceAdd, Nat.reduceSub, List.replicate_succ, List.replicate_zero, List.replicate,  aVar_z, aVar_s, aC, aNil, aCons, aTup, aLstV, aLst, aOp, aUn, aTru, aTst, aCmp, aChn, aChnT, aAnd, aOr, aNot, aIf, aAndV, aOrV, aNotV, aCB, aCall, aNext, aSeq, aBrk, aCnt, aRet, aRetN, aIfS, aNev,  agName, agNil, agCons, agTup, aAsg, aPar, aDrop, aCallK, aCallKn, aM, aM0, aAddS, aYes, one1, one2, wipeA, aRevT, aRevL, agSub_def, aSl, aPart, aNoPart, cutAns_rol, cutAns_lst, cutAns_tup, cutAns_str, aLstRg, aRg1, ex_some, tupleA_lst, tupleA_tup, wstA_lst,  List.set_cons_zero, List.set_cons_succ, List.set, ex_bl, ex_int, ex_str, ex_tup, ex_eq, ex_cons, ex_pair, ex_one1, ex_one_int, and_tt, truA_bl, truOk_bl, truA_int, truOk_int, truA_lst, truOk_lst, truA_tup, truOk_tup, truA_refU, truOk_refU, Bool.not_true, Bool.not_false,  addA_ii, addA_ss, addA_tt, addA_ll, intA_ii, int2A_ii, subA_ii, mulA_ii, modA_ii, fdivA_ii, powA_ii, negA_i, ltA_ii, leA_ii, gtA_ii, geA_ii, ltA_ss, leA_ss, gtA_ss, geA_ss, isA, isntA, nonA, isiA_non, isiA_bl, isiA_int, isiA_str, isiA_tup, isiA_lst, isiA_rol, lenA_str, lenA_tup, lenA_lst, lenA_rol, absA_i, toIntA_i, toIntA_b, isIntA, isiB, String.reduceBEq, List.contains_cons, List.contains_nil, Bool.or_true, Bool.true_or, Bool.or_false, Bool.false_or, Bool.and_true, Bool.true_and, Bool.and_false, Bool.false_and, Bool.not_eq_true, if_true, if_false, decide_true, decide_false, Bool.false_eq_true, eq_self, reduceCtorEq, true_and, false_and, and_false, badA, exists_false, aFld, aPut, agFld, aPutAug, aMeth, aMake, mulX_ii, mulX_si, mulX_li, strA_i, strA_s, intXA_i, intXA_b, isBA_bb, isntBA_bb, aTryV, aRaise, aCallX, aMethX, aErr, aDct0, aStar, aPar3, ex_tri, aCallKX, aIsE, ]
          exact ⟨le_sl (by omega), le_sl (Nat.le_trans (one _ _) (by omega)), le_sl (by omega), le_sl (Nat.le_trans (thr _ _ _ _) (by omega)), fin _ ((((oc _ _).app os).app (oc _ _)).up (by omega))⟩
      · simp only [↓ite_bc, bc_t, bc_f, aLc_rng, aFor_rng, aLc_lst, lstA_lst, lstA_rol, aLcS_rng, eqA_ii, eqA_ss, neA_ii, neA_ss, updS_same, updS_updS, startA, List.map_cons, List.map_nil, List.cons_append, List.nil_append, List.length_cons, List.length_nil, Nat.zero_add, Nat.add_zero, Nat.reduceAdd, Nat.reduceSub, List.replicate_succ, List.replicate_zero, List.replicate,  aVar_z, aVar_s, aC, aNil, aCons, aTup, aLstV, aLst, aOp, aUn, aTru, aTst, aCmp, aChn, aChnT, aAnd, aOr, aNot, aIf, aAndV, aOrV, aNotV, aCB, aCall, aNext, aSeq, aBrk, aCnt, aRet, aRetN, aIfS, aNev,  agName, agNil, agCons, agTup, aAsg, aPar, aDrop, aCallK, aCallKn, aM, aM0, aAddS, aYes, one1, one2, wipeA, aRevT, aRevL, agSub_def, aSl, aPart, aNoPart, cutAns_rol, cutAns_lst, cutAns_tup, cutAns_str, aLstRg, aRg1, ex_some, tupleA_lst, tupleA_tup, wstA_lst,  List.set_cons_zero, List.set_cons_succ, List.set, ex_bl, ex_int, ex_str, ex_tup, ex_eq, ex_cons, ex_pair, ex_one1, ex_one_int, and_tt, truA_bl, truOk_bl, truA_int, truOk_int, truA_lst, truOk_lst, truA_tup, truOk_tup, truA_refU, truOk_refU, Bool.not_true, Bool.not_false,  addA_ii, addA_ss, addA_tt, addA_ll, intA_ii, int2A_ii, subA_ii, mulA_ii, modA_ii, fdivA_ii, powA_ii, negA_i, ltA_ii, leA_ii, gtA_ii, geA_ii, ltA_ss, leA_ss, gtA_ss, geA_ss, isA, isntA, nonA, isiA_non, isiA_bl, isiA_int, isiA_str, isiA_tup, isiA_lst, isiA_rol, lenA_str, lenA_tup, lenA_lst, lenA_rol, absA_i, toIntA_i, toIntA_b, isIntA, isiB, String.reduceBEq, List.contains_cons, List.contains_nil, Bool.or_true, Bool.true_or, Bool.or_false, Bool.false_or, Bool.and_true, Bool.true_and, Bool.and_false, Bool.false_and, Bool.not_eq_true, if_true, if_false, decide_true, decide_false, Bool.false_eq_true, eq_self, reduceCtorEq, true_and, false_and, and_false, badA, exists_false, aFld, aPut, agFld, aPutAug, aMeth, aMake, mulX_ii, mulX_si, mulX_li, strA_i, strA_s, intXA_i, intXA_b, isBA_bb, isntBA_bb, aTryV, aRaise, aCallX, aMethX, aErr, aDct0, aStar, aPar3, ex_tri, aCallKX, aIsE, ]
        exact ⟨le_sl (by omega), le_sl (by omega), le_sl (Nat.le_trans (two _ _ _ _) (by omega)), fin _ (((oc _ _).app (oc _ _)).up (by omega))⟩
    · simp only [↓ite_bc, bc_t, bc_f, aLc_rng, aFor_rng, aLc_lst, lstA_lst, lstA_rol, aLcS_rng, eqA_ii, eqA_ss, neA_ii, neA_ss, updS_same, updS_updS, startA, List.map_cons, List.map_nil, List.cons_append, List.nil_append, List.length_cons, List.length_nil, Nat.zero_add, Nat.add_zero, Nat.reduceAdd, Nat.reduceSub, List.replicate_succ, List.replicate_zero, List.replicate,  aVar_z, aVar_s, aC, aNil, aCons, aTup, aLstV, aLst, aOp, aUn, aTru, aTst, aCmp, aChn, aChnT, aAnd, aOr, aNot, aIf, aAndV, aOrV, aNotV, aCB, aCall, aNext, aSeq, aBrk, aCnt, aRet, aRetN, aIfS, aNev,  agName, agNil, agCons, agTup, aAsg, aPar, aDrop, aCallK, aCallKn, aM, aM0, aAddS, aYes, one1, one2, wipeA, aRevT, aRevL, agSub_def, aSl, aPart, aNoPart, cutAns_rol, cutAns_lst, cutAns_tup, cutAns_str, aLstRg, aRg1, ex_some, tupleA_lst, tupleA_tup, wstA_lst,  List.set_cons_zero, List.set_cons_succ, List.set, ex_bl, ex_int, ex_str, ex_tup, ex_eq, ex_cons, ex_pair, ex_one1, ex_one_int, and_tt, truA_bl, truOk_bl, truA_int, truOk_int, truA_lst, truOk_lst, truA_tup, truOk_tup, truA_refU, truOk_refU, Bool.not_true, Bool.not_false,  addA_ii, addA_ss, addA_tt, addA_ll, intA_ii, int2A_ii, subA_ii, mulA_ii, modA_ii, fdivA_ii, powA_ii, negA_i, ltA_ii, leA_ii, gtA_ii, geA_ii, ltA_ss, leA_ss, gtA_ss, geA_ss, isA, isntA, nonA, isiA_non, isiA_bl, isiA_int, isiA_str, isiA_tup, isiA_lst, isiA_rol, lenA_str, lenA_tup, lenA_lst, lenA_rol, absA_i, toIntA_i, toIntA_b, isIntA, isiB, String.reduceBEq, List.contains_cons, List.contains_nil, Bool.or_true, Bool.true_or, Bool.or_false, Bool.false_or, Bool.and_true, Bool.true_and, Bool.and_false, Bool.false_and, Bool.not_eq_true, if_true, if_false, decide_true, decide_false, Bool.false_eq_true, eq_self, reduceCtorEq, true_and, false_and, and_false, badA, exists_false, aFld, aPut, agFld, aPutAug, aMeth, aMake, mulX_ii, mulX_si, mulX_li, strA_i, strA_s, intXA_i, intXA_b, isBA_bb, isntBA_bb, aTryV, aRaise, aCallX, aMethX, aErr, aDct0, aStar, aPar3, ex_tri, aCallKX, aIsE, ]
      exact ⟨le_sl (by omega), le_sl (Nat.le_trans (one _ _) (by omega)), le_sl (by omega), le_sl (Nat.le_trans (thr _ _ _ _) (by omega)), fin _ ((((oc _ _).app os).app (oc _ _)).up (by omega))⟩
  · simp only [↓ite_bc, bc_t, bc_f, aLc_rng, aFor_rng, aLc_lst, lstA_lst, lstA_rol, aLcS_rng, eqA_ii, eqA_ss, neA_ii, neA_ss, updS_same, updS_updS, startA, List.map_cons, List.map_nil, List.cons_append, List.nil_append, List.length_cons, List.length_nil, Nat.zero_add, Nat.add_zero, Nat.reduceAdd, Nat.reduceSub, List.replicate_succ, List.replicate_zero, List.replicate,  aVar_z, aVar_s, aC, aNil, aCons, aTup, aLstV, aLst, aOp, aUn, aTru, aTst, aCmp, aChn, aChnT, aAnd, aOr, aNot, aIf, aAndV, aOrV, aNotV, aCB, aCall, aNext, aSeq, aBrk, aCnt, aRet, aRetN, aIfS, aNev,  agName, agNil, agCons, agTup, aAsg, aPar, aDrop, aCallK, aCallKn, aM, aM0, aAddS, aYes, one1, one2, wipeA, aRevT, aRevL, agSub_def, aSl, aPart, aNoPart, cutAns_rol, cutAns_lst, cutAns_tup, cutAns_str, aLstRg, aRg1, ex_some, tupleA_lst, tupleA_tup, wstA_lst,  List.set_cons_zero, List.set_cons_succ, List.set, ex_bl, ex_int, ex_str, ex_tup, ex_eq, ex_cons, ex_pair, ex_one1, ex_one_int, and_tt, truA_bl, truOk_bl, truA_int, truOk_int, truA_lst, truOk_lst, truA_tup, truOk_tup, truA_refU, truOk_refU, Bool.not_true, Bool.not_false,  addA_ii, addA_ss, addA_tt, addA_ll, intA_ii, int2A_ii, subA_ii, mulA_ii, modA_ii, fdivA_ii, powA_ii, negA_i, ltA_ii, leA_ii, gtA_ii, geA_ii, ltA_ss, leA_ss, gtA_ss, geA_ss, isA, isntA, nonA, isiA_non, isiA_bl, isiA_int, isiA_str, isiA_tup, isiA_lst, isiA_rol, lenA_str, lenA_tup, lenA_lst, lenA_rol, absA_i, toIntA_i, toIntA_b, isIntA, isiB, String.reduceBEq, List.contains_cons, List.contains_nil, Bool.or_true, Bool.true_or, Bool.or_false, Bool.false_or, Bool.and_true, Bool.true_and, Bool.and_false, Bool.false_and, Bool.not_eq_true, if_true, if_false, decide_true, decide_false, Bool.false_eq_true, eq_self, reduceCtorEq, true_and, false_and, and_false, badA, exists_false, aFld, aPut, agFld, aPutAug, aMeth, aMake, mulX_ii, mulX_si, mulX_li, strA_i, strA_s, intXA_i, intXA_b, isBA_bb, isntBA_bb, aTryV, aRaise, aCallX, aMethX, aErr, aDct0, aStar, aPar3, ex_tri, aCallKX, aIsE, ]
    exact ⟨le_sl (by omega), fin _ ((oc _ _).up (by omega))⟩
def sp__law_told : ASp := fun ds S Q => ∃ (p : Addr) (t : Pt) (N : Nat), ds = [.ref p] ∧ S p = some (potO t) ∧ okP N t ∧ N < 2 ^ 27 ∧ ∀ t' z, okP (N + 1) t' → Vm.okS 300000 z → Q (.str z) (updS S p (potO t'))
set_option maxHeartbeats 4000000 in
theorem fn__law_told (T : Txt P w K mg C_Reader C_HouseError f_HouseError C_BadText) (F__law_of_atR : Fn4 P w K mg base 2 "_law_of" ["pot", "some"] sp__law_of_atR) : FnX P w K mg base 3 "_law_told" st__law_told ["pot"] sp__law_told := by
  refine FnX.of T.d__law_told fun f fd F => F.ok4 sc__law_told (fun ds S Q h => by unfold sp__law_told at h; first | (obtain ⟨_, rfl, _⟩ := h; rfl) | (obtain ⟨_, _, rfl, _⟩ := h; rfl) | (obtain ⟨_, _, _, rfl, _⟩ := h; rfl) | (obtain ⟨_, _, _, _, rfl, _⟩ := h; rfl) | (obtain ⟨_, _, _, _, _, rfl, _⟩ := h; rfl) | (obtain ⟨_, _, _, _, _, _, rfl, _⟩ := h; rfl) | (obtain ⟨_, _, _, _, _, _, _, rfl, _⟩ := h; rfl)) fun cdv A gd out s H E hr => ?_
  refine ⟨_, (s_cons (s_set 1 sc__law_told.nd (e_lst (a_cons e_str (a_cons e_str (a_cons e_str (a_cons e_str (a_cons e_str (a_cons e_str (a_cons e_str (a_cons e_str (a_cons e_str (a_cons e_str (a_cons e_str (a_cons e_str (a_cons e_str (a_cons e_str (a_cons e_str a_nil)))))))))))))))))
    (s_cons (s_expr (e_bm PySem.F.plainAttrs_list PySem.F.slot_list_extend PySem.F.type_list_extend m_extend (e_var 1) (a_cons (e_lstV (a_cons e_str (a_cons (e_op o_add (e_op o_add e_str (e_ct c_str T.n_str (by decide +kernel) (a_cons (e_op o_add (e_op o_pow e_int e_int) e_int) a_nil))) e_str) (a_cons (e_op o_add (e_op o_add e_str (e_ct c_str T.n_str (by decide +kernel) (a_cons (e_op o_pow e_int e_int) a_nil))) e_str) (a_cons (e_op o_add (e_op o_add e_str (e_ct c_str T.n_str (by decide +kernel) (a_cons (e_op o_pow e_int e_int) a_nil))) e_str) a_nil))))) a_nil)))
    (s_cons (s_expr (e_bm PySem.F.plainAttrs_list PySem.F.slot_list_extend PySem.F.type_list_extend m_extend (e_var 1) (a_cons (e_lstV (a_cons e_str (a_cons e_str (a_cons (e_op o_add (e_op o_mulX e_str e_int) (e_op o_mulX e_str e_int)) (a_cons (e_op o_add (e_op o_mulX e_str e_int) (e_op o_mulX e_str e_int)) (a_cons (e_op o_add (e_op o_add (e_op o_mulX e_str e_int) e_str) (e_op o_mulX e_str e_int)) a_nil)))))) a_nil)))
    (s_cons (s_expr (e_bm PySem.F.plainAttrs_list PySem.F.slot_list_extend PySem.F.type_list_extend m_extend (e_var 1) (a_cons (e_lstV (a_cons (e_op o_add (e_op o_mulX e_str e_int) e_str) (a_cons e_str (a_cons e_str (a_cons e_str a_nil))))) a_nil)))
    (s_one (s_ret (f_call F__law_of_atR gd (hr.mono (by decide)) (a_cons (e_var 0) (a_cons (e_var 1) a_nil))))))))), ?_⟩
  rintro _ S Q ⟨p, t, N, rfl, hp, ok, hN, q⟩
  have e18 : (10 : Int) ^ Int.toNat 18 = 1000000000000000000 := by decide +kernel
  have pw : CPowB 10 18 := powS (by omega) (by omega) (by omega) (by omega)
  have m1 : (Txt.mul (Str.ofString "(") 31).length = 31 := by decide +kernel
  have m2 : (Txt.mul (Str.ofString ")") 31).length = 31 := by decide +kernel
  have m6 : (Txt.mul (Str.ofString "(") 30).length = 30 := by decide +kernel
  have m7 : (Txt.mul (Str.ofString ")") 30).length = 30 := by decide +kernel
  have m3 : (Str.ofString "n").length = 1 := by decide +kernel
  have m4 : (Str.ofString "(").length = 1 := by decide +kernel
  have m5 : (Str.ofString ")").length = 1 := by decide +kernel
  have mm : ∀ (x : Str) (k : Int), x.length = 1 → 0 ≤ k → k ≤ 31 → x.length * k.toNat ≤ 16777216 ∧ -2 ^ 63 ≤ k ∧ k ≤ 16777216 := fun x k h h0 h1 => by rw [h]; omega
  have ml1 := mm (Str.ofString "(") 31 m4 (by omega) (by omega)
  have ml2 := mm (Str.ofString ")") 31 m5 (by omega) (by omega)
  have ml3 := mm (Str.ofString "(") 30 m4 (by omega) (by omega)
  have ml4 := mm (Str.ofString ")") 30 m5 (by omega) (by omega)
  have i1 : (Str.ofString "i").length = 1 := by decide +kernel
  have i2 : (Str.ofString "i-").length = 2 := by decide +kernel
  have i3 : (Str.ofString ";").length = 1 := by decide +kernel
  have i4 : (Str.ofString "0;").length = 2 := by decide +kernel
  have s1 : (Str.ofString (toString (1000000000000000000 + 1 : Int))).length = 19 := by decide +kernel
  have s2 : (Str.ofString (toString (1000000000000000000 : Int))).length = 19 := by decide +kernel
  have lg1 : (1000000000000000000 + 1 : Int).natAbs.log2 < 1920 := by decide +kernel
  have lg2 : (1000000000000000000 : Int).natAbs.log2 < 1920 := by decide +kernel
  walk_at "rd"
  rw [e18]
  refine ⟨le_sl (by omega), fun l hl => ⟨tyL updS_same, pw, lg1, le_sl (by omega), le_sl (by rw [Vm.len_app]; omega), pw, lg2, le_sl (by omega), le_sl (by rw [Vm.len_app]; omega), pw, lg2, le_sl (by omega), le_sl (by rw [Vm.len_app]; omega), le_sl (by omega), l, _, _, _, rfl, rfl, updS_same, .inr rfl, le_sl (by simp), ?_⟩⟩
  rw [updS_updS]
  refine ⟨tyL updS_same, ml3, ml4, le_sl (by omega), ml1, ml2, le_sl (by omega), ml3, le_sl (by omega), ml4, le_sl (by rw [Vm.len_app]; omega), le_sl (by omega), l, _, _, _, rfl, rfl, updS_same, .inr rfl, le_sl (by simp), ?_⟩
  rw [updS_updS]
  have i5 : (Str.ofString "(n").length = 2 := by decide +kernel
  dsimp only
  refine ⟨tyL updS_same, ml3, le_sl (by omega), le_sl (by omega), l, _, _, _, rfl, rfl, updS_same, .inr rfl, le_sl (by simp), ?_⟩
  rw [updS_updS]
  have ne : p ≠ l := neS hp hl
  refine ⟨p, t, l, _, N, rfl, updS_same, Ne.symm ne, by simp, by simp, (updS_ne ne).trans hp, ok, by omega, fun t' y ok' hy => ?_⟩
  have sub : ∀ o : List AV, Sub (updS S p (potO t')) (updS (updS S l (.lst o)) p (potO t')) := fun o => (Sub.new .refl hl (by rw [hl]; simp) (by simp)).upd
  obtain ⟨b, rfl, hb1, hb2⟩ : ∃ b : Str, y = .str b ∧ b.length ≤ 300000 ∧ b.cps.toList.all Vm.chB = true := by
    simp only [List.cons_append, List.nil_append, List.mem_cons, List.not_mem_nil, or_false] at hy
    rcases hy with rfl | rfl | rfl | rfl | rfl | rfl | rfl | rfl | rfl | rfl | rfl | rfl | rfl | rfl | rfl | rfl | rfl | rfl | rfl | rfl | rfl | rfl | rfl | rfl | rfl | rfl | rfl | rfl <;> exact ⟨_, rfl, by decide +kernel, by decide +kernel⟩
  exact rt_sub (sub _) (q t' b ok' ⟨hb1, List.all_eq_true.mp hb2⟩)
def sp__law_is_right : ASp := fun ds S Q => ∃ z, ds = [.str z] ∧ Vm.okS 300000 z ∧ Q (.bl true) S
set_option maxHeartbeats 4000000 in
theorem fn__law_is_right (T : Txt P w K mg C_Reader C_HouseError f_HouseError C_BadText) (F__law_walk : Fn4 P w K mg base 3 "_law_walk" ["text"] sp__law_walk) (F_read_value_atX : Fn4X P w K mg base 6 "read_value" ["text"] (sp_read_value_atX C_BadText)) (F__law_text_of : Fn4 P w K mg base 1 "_law_text_of" ["value"] sp__law_text_of) : FnX P w K mg base 7 "_law_is_right" st__law_is_right ["text"] sp__law_is_right := by
  refine FnX.of T.d__law_is_right fun f fd F => F.ok4 sc__law_is_right (fun ds S Q h => by unfold sp__law_is_right at h; first | (obtain ⟨_, rfl, _⟩ := h; rfl) | (obtain ⟨_, _, rfl, _⟩ := h; rfl) | (obtain ⟨_, _, _, rfl, _⟩ := h; rfl) | (obtain ⟨_, _, _, _, rfl, _⟩ := h; rfl) | (obtain ⟨_, _, _, _, _, rfl, _⟩ := h; rfl) | (obtain ⟨_, _, _, _, _, _, rfl, _⟩ := h; rfl) | (obtain ⟨_, _, _, _, _, _, _, rfl, _⟩ := h; rfl)) fun cdv A gd out s H E hr => ?_
  refine ⟨_, (s_cons (s_asg (f_call F__law_walk gd (hr.mono (by decide)) (a_cons (e_var 0) a_nil)) (g_tup rfl (gs_cons (g_name 1 sc__law_is_right.nd) (gs_cons (g_name 2 sc__law_is_right.nd) gs_nil))))
    (s_cons (s_tryV 4 T.g_HouseError sc__law_is_right.nd (fun pn xe EX b2 tk po => (s_one (s_set 3 sc__law_is_right.nd (f_callX tk F_read_value_atX gd (hr.mono (by decide)) (a_cons (e_var 0) a_nil))))) (fun a oe C d v pn Hh Sh hz hf xd xv => (s_one (s_ret (e_and (e_not (e_var 1)) (e_and (e_isE xv.2.2 hz hf xd T.n_isinstance (a_cons (e_var 4) (a_cons (e_gC T.g_BadText) a_nil))) (e_one (e_cmp (o_eq hr.units) (e_cb (c_repr gd hr.units) T.n_repr (by decide +kernel) (a_cons (e_errV hz hf xd xv (e_var 4)) a_nil)) (e_cb (c_repr gd hr.units) T.n_repr (by decide +kernel) (a_cons (e_ct c_int T.n_int (by decide +kernel) (a_cons (e_var 2) a_nil)) a_nil))))))))))
    (s_one (s_ret (e_and (e_var 1) (e_one (e_cmp (o_eq hr.units) (f_call F__law_text_of gd (hr.mono (by decide)) (a_cons (e_var 3) a_nil)) (e_var 0)))))))), ?_⟩
  rintro _ S Q ⟨z, rfl, ⟨hz, hg⟩, q⟩
  walk_at "rd"
  refine ⟨z, rfl, by omega, hg, ?_⟩
  simp only [↓ite_bc, bc_t, bc_f, aLc_rng, aFor_rng, aLc_lst, lstA_lst, lstA_rol, aLcS_rng, eqA_ii, eqA_ss, neA_ii, neA_ss, updS_same, updS_updS, startA, List.map_cons, List.map_nil, List.cons_append, List.nil_append, List.length_cons, List.length_nil, Nat.zero_add, Nat.add_zero, Nat.reduceAdd, Nat.reduceSub, List.replicate_succ, List.replicate_zero, List.replicate,  aVar_z, aVar_s, aC, aNil, aCons, aTup, aLstV, aLst, aOp, aUn, aTru, aTst, aCmp, aChn, aChnT, aAnd, aOr, aNot, aIf, aAndV, aOrV, aNotV, aCB, aCall, aNext, aSeq, aBrk, aCnt, aRet, aRetN, aIfS, aNev,  agName, agNil, agCons, agTup, aAsg, aPar, aDrop, aCallK, aCallKn, aM, aM0, aAddS, aYes, one1, one2, wipeA, aRevT, aRevL, agSub_def, aSl, aPart, aNoPart, cutAns_rol, cutAns_lst, cutAns_tup, cutAns_str, aLstRg, aRg1, ex_some, tupleA_lst, tupleA_tup, wstA_lst,  List.set_cons_zero, List.set_cons_succ, List.set, ex_bl, ex_int, ex_str, ex_tup, ex_eq, ex_cons, ex_pair, ex_one1, ex_one_int, and_tt, truA_bl, truOk_bl, truA_int, truOk_int, truA_lst, truOk_lst, truA_tup, truOk_tup, truA_refU, truOk_refU, Bool.not_true, Bool.not_false,  addA_ii, addA_ss, addA_tt, addA_ll, intA_ii, int2A_ii, subA_ii, mulA_ii, modA_ii, fdivA_ii, powA_ii, negA_i, ltA_ii, leA_ii, gtA_ii, geA_ii, ltA_ss, leA_ss, gtA_ss, geA_ss, isA, isntA, nonA, isiA_non, isiA_bl, isiA_int, isiA_str, isiA_tup, isiA_lst, isiA_rol, lenA_str, lenA_tup, lenA_lst, lenA_rol, absA_i, toIntA_i, toIntA_b, isIntA, isiB, String.reduceBEq, List.contains_cons, List.contains_nil, Bool.or_true, Bool.true_or, Bool.or_false, Bool.false_or, Bool.and_true, Bool.true_and, Bool.and_false, Bool.false_and, Bool.not_eq_true, if_true, if_false, decide_true, decide_false, Bool.false_eq_true, eq_self, reduceCtorEq, true_and, false_and, and_false, badA, exists_false, aFld, aPut, agFld, aPutAug, aMeth, aMake, mulX_ii, mulX_si, mulX_li, strA_i, strA_s, intXA_i, intXA_b, isBA_bb, isntBA_bb, aTryV, aRaise, aCallX, aMethX, aErr, aDct0, aStar, aPar3, ex_tri, aCallKX, aIsE, ]
  refine ⟨rfl, .inr ⟨z, rfl, by omega, fun hb S' sub => ⟨T.xm_BadText_HouseError, T.ex_BadText.xv T.xc_BadText, fun a => ?_⟩, fun v hv => ?_⟩⟩
  · have hle : (Vm.vR [] z.cps.toList).2 ≤ 10000000 := Nat.le_trans (Vm.valF_le _ _ _) (by rw [Array.length_toList]; show z.length ≤ _; omega)
    have e : ((Vm.vR [] z.cps.toList).1.isSome && decide ((Vm.vR [] z.cps.toList).2 = z.length)) = false := by
      rcases hb with h | h
      · cases hx : (Vm.vR [] z.cps.toList).1 with
        | none => rfl
        | some v => rw [hx] at h; cases h
      · rw [decide_eq_false (by omega), Bool.and_false]
    rw [e]
    have hrj : ∀ (j : Nat), j ≤ 10000000 → ∀ S, reprA (.int (j : Nat)) S = ⟨True, .str (toD (.int (j : Nat))).shown⟩ := fun j hj S => repr_v (d := .int (j : Nat)) (k := 0) (by
      show (decide (-1000000000000000000 ≤ (j : Int)) && decide ((j : Int) ≤ 1000000000000000000)) = true
      rw [decide_eq_true (by omega), decide_eq_true (by omega)]; rfl) (by omega) (by show 1 ≤ 700000; omega) S
    simp only [↓ite_bc, bc_t, bc_f, aLc_rng, aFor_rng, aLc_lst, lstA_lst, lstA_rol, aLcS_rng, eqA_ii, eqA_ss, neA_ii, neA_ss, updS_same, updS_updS, startA, List.map_cons, List.map_nil, List.cons_append, List.nil_append, List.length_cons, List.length_nil, Nat.zero_add, Nat.add_zero, Nat.reduceAdd, Nat.reduceSub, List.replicate_succ, List.replicate_zero, List.replicate,  aVar_z, aVar_s, aC, aNil, aCons, aTup, aLstV, aLst, aOp, aUn, aTru, aTst, aCmp, aChn, aChnT, aAnd, aOr, aNot, aIf, aAndV, aOrV, aNotV, aCB, aCall, aNext, aSeq, aBrk, aCnt, aRet, aRetN, aIfS, aNev,  agName, agNil, agCons, agTup, aAsg, aPar, aDrop, aCallK, aCallKn, aM, aM0, aAddS, aYes, one1, one2, wipeA, aRevT, aRevL, agSub_def, aSl, aPart, aNoPart, cutAns_rol, cutAns_lst, cutAns_tup, cutAns_str, aLstRg, aRg1, ex_some, tupleA_lst, tupleA_tup, wstA_lst,  List.set_cons_zero, List.set_cons_succ, List.set, ex_bl, ex_int, ex_str, ex_tup, ex_eq, ex_cons, ex_pair, ex_one1, ex_one_int, and_tt, truA_bl, truOk_bl, truA_int, truOk_int, truA_lst, truOk_lst, truA_tup, truOk_tup, truA_refU, truOk_refU, Bool.not_true, Bool.not_false,  addA_ii, addA_ss, addA_tt, addA_ll, intA_ii, int2A_ii, subA_ii, mulA_ii, modA_ii, fdivA_ii, powA_ii, negA_i, ltA_ii, leA_ii, gtA_ii, geA_ii, ltA_ss, leA_ss, gtA_ss, geA_ss, isA, isntA, nonA, isiA_non, isiA_bl, isiA_int, isiA_str, isiA_tup, isiA_lst, isiA_rol, lenA_str, lenA_tup, lenA_lst, lenA_rol, absA_i, toIntA_i, toIntA_b, isIntA, isiB, String.reduceBEq, List.contains_cons, List.contains_nil, Bool.or_true, Bool.true_or, Bool.or_false, Bool.false_or, Bool.and_true, Bool.true_and, Bool.and_false, Bool.false_and, Bool.not_eq_true, if_true, if_false, decide_true, decide_false, Bool.false_eq_true, eq_self, reduceCtorEq, true_and, false_and, and_false, badA, exists_false, aFld, aPut, agFld, aPutAug, aMeth, aMake, mulX_ii, mulX_si, mulX_li, strA_i, strA_s, intXA_i, intXA_b, isBA_bb, isntBA_bb, aTryV, aRaise, aCallX, aMethX, aErr, aDct0, aStar, aPar3, ex_tri, aCallKX, aIsE, ]
    refine ⟨C_BadText, true, rfl, kit_same, ?_⟩
    simp only [↓ite_bc, bc_t, bc_f, aLc_rng, aFor_rng, aLc_lst, lstA_lst, lstA_rol, aLcS_rng, eqA_ii, eqA_ss, neA_ii, neA_ss, updS_same, updS_updS, startA, List.map_cons, List.map_nil, List.cons_append, List.nil_append, List.length_cons, List.length_nil, Nat.zero_add, Nat.add_zero, Nat.reduceAdd, Nat.reduceSub, List.replicate_succ, List.replicate_zero, List.replicate,  aVar_z, aVar_s, aC, aNil, aCons, aTup, aLstV, aLst, aOp, aUn, aTru, aTst, aCmp, aChn, aChnT, aAnd, aOr, aNot, aIf, aAndV, aOrV, aNotV, aCB, aCall, aNext, aSeq, aBrk, aCnt, aRet, aRetN, aIfS, aNev,  agName, agNil, agCons, agTup, aAsg, aPar, aDrop, aCallK, aCallKn, aM, aM0, aAddS, aYes, one1, one2, wipeA, aRevT, aRevL, agSub_def, aSl, aPart, aNoPart, cutAns_rol, cutAns_lst, cutAns_tup, cutAns_str, aLstRg, aRg1, ex_some, tupleA_lst, tupleA_tup, wstA_lst,  List.set_cons_zero, List.set_cons_succ, List.set, ex_bl, ex_int, ex_str, ex_tup, ex_eq, ex_cons, ex_pair, ex_one1, ex_one_int, and_tt, truA_bl, truOk_bl, truA_int, truOk_int, truA_lst, truOk_lst, truA_tup, truOk_tup, truA_refU, truOk_refU, Bool.not_true, Bool.not_false,  addA_ii, addA_ss, addA_tt, addA_ll, intA_ii, int2A_ii, subA_ii, mulA_ii, modA_ii, fdivA_ii, powA_ii, negA_i, ltA_ii, leA_ii, gtA_ii, geA_ii, ltA_ss, leA_ss, gtA_ss, geA_ss, isA, isntA, nonA, isiA_non, isiA_bl, isiA_int, isiA_str, isiA_tup, isiA_lst, isiA_rol, lenA_str, lenA_tup, lenA_lst, lenA_rol, absA_i, toIntA_i, toIntA_b, isIntA, isiB, String.reduceBEq, List.contains_cons, List.contains_nil, Bool.or_true, Bool.true_or, Bool.or_false, Bool.false_or, Bool.and_true, Bool.true_and, Bool.and_false, Bool.false_and, Bool.not_eq_true, if_true, if_false, decide_true, decide_false, Bool.false_eq_true, eq_self, reduceCtorEq, true_and, false_and, and_false, badA, exists_false, aFld, aPut, agFld, aPutAug, aMeth, aMake, mulX_ii, mulX_si, mulX_li, strA_i, strA_s, intXA_i, intXA_b, isBA_bb, isntBA_bb, aTryV, aRaise, aCallX, aMethX, aErr, aDct0, aStar, aPar3, ex_tri, aCallKX, aIsE, hrj _ hle]
    exact rt_sub sub q
  · have e : ((Vm.vR [] z.cps.toList).1.isSome && decide ((Vm.vR [] z.cps.toList).2 = z.length)) = true := by rw [hv]; show (true && decide (z.length = z.length)) = true; rw [decide_eq_true rfl]; rfl
    rw [e]
    obtain ⟨v1, v2⟩ := Vm.vR_inv hv
    have hz2 : z.cps.toList.length = z.length := Array.length_toList
    rw [List.take_of_length_le (by omega)] at v1
    have cn := Vm.cnt_txt v 30 v2
    rw [v1] at cn
    have ez : Vm.txtS v = z := by rw [Vm.str_eq, Vm.txtS_tl]; exact v1
    simp only [↓ite_bc, bc_t, bc_f, aLc_rng, aFor_rng, aLc_lst, lstA_lst, lstA_rol, aLcS_rng, eqA_ii, eqA_ss, neA_ii, neA_ss, updS_same, updS_updS, startA, List.map_cons, List.map_nil, List.cons_append, List.nil_append, List.length_cons, List.length_nil, Nat.zero_add, Nat.add_zero, Nat.reduceAdd, Nat.reduceSub, List.replicate_succ, List.replicate_zero, List.replicate,  aVar_z, aVar_s, aC, aNil, aCons, aTup, aLstV, aLst, aOp, aUn, aTru, aTst, aCmp, aChn, aChnT, aAnd, aOr, aNot, aIf, aAndV, aOrV, aNotV, aCB, aCall, aNext, aSeq, aBrk, aCnt, aRet, aRetN, aIfS, aNev,  agName, agNil, agCons, agTup, aAsg, aPar, aDrop, aCallK, aCallKn, aM, aM0, aAddS, aYes, one1, one2, wipeA, aRevT, aRevL, agSub_def, aSl, aPart, aNoPart, cutAns_rol, cutAns_lst, cutAns_tup, cutAns_str, aLstRg, aRg1, ex_some, tupleA_lst, tupleA_tup, wstA_lst,  List.set_cons_zero, List.set_cons_succ, List.set, ex_bl, ex_int, ex_str, ex_tup, ex_eq, ex_cons, ex_pair, ex_one1, ex_one_int, and_tt, truA_bl, truOk_bl, truA_int, truOk_int, truA_lst, truOk_lst, truA_tup, truOk_tup, truA_refU, truOk_refU, Bool.not_true, Bool.not_false,  addA_ii, addA_ss, addA_tt, addA_ll, intA_ii, int2A_ii, subA_ii, mulA_ii, modA_ii, fdivA_ii, powA_ii, negA_i, ltA_ii, leA_ii, gtA_ii, geA_ii, ltA_ss, leA_ss, gtA_ss, geA_ss, isA, isntA, nonA, isiA_non, isiA_bl, isiA_int, isiA_str, isiA_tup, isiA_lst, isiA_rol, lenA_str, lenA_tup, lenA_lst, lenA_rol, absA_i, toIntA_i, toIntA_b, isIntA, isiB, String.reduceBEq, List.contains_cons, List.contains_nil, Bool.or_true, Bool.true_or, Bool.or_false, Bool.false_or, Bool.and_true, Bool.true_and, Bool.and_false, Bool.false_and, Bool.not_eq_true, if_true, if_false, decide_true, decide_false, Bool.false_eq_true, eq_self, reduceCtorEq, true_and, false_and, and_false, badA, exists_false, aFld, aPut, agFld, aPutAug, aMeth, aMake, mulX_ii, mulX_si, mulX_li, strA_i, strA_s, intXA_i, intXA_b, isBA_bb, isntBA_bb, aTryV, aRaise, aCallX, aMethX, aErr, aDct0, aStar, aPar3, ex_tri, aCallKX, aIsE, ]
    refine ⟨v, rfl, v2, by omega, ?_⟩
    rw [ez]
    simp only [↓ite_bc, bc_t, bc_f, aLc_rng, aFor_rng, aLc_lst, lstA_lst, lstA_rol, aLcS_rng, eqA_ii, eqA_ss, neA_ii, neA_ss, updS_same, updS_updS, startA, List.map_cons, List.map_nil, List.cons_append, List.nil_append, List.length_cons, List.length_nil, Nat.zero_add, Nat.add_zero, Nat.reduceAdd, Nat.reduceSub, List.replicate_succ, List.replicate_zero, List.replicate,  aVar_z, aVar_s, aC, aNil, aCons, aTup, aLstV, aLst, aOp, aUn, aTru, aTst, aCmp, aChn, aChnT, aAnd, aOr, aNot, aIf, aAndV, aOrV, aNotV, aCB, aCall, aNext, aSeq, aBrk, aCnt, aRet, aRetN, aIfS, aNev,  agName, agNil, agCons, agTup, aAsg, aPar, aDrop, aCallK, aCallKn, aM, aM0, aAddS, aYes, one1, one2, wipeA, aRevT, aRevL, agSub_def, aSl, aPart, aNoPart, cutAns_rol, cutAns_lst, cutAns_tup, cutAns_str, aLstRg, aRg1, ex_some, tupleA_lst, tupleA_tup, wstA_lst,  List.set_cons_zero, List.set_cons_succ, List.set, ex_bl, ex_int, ex_str, ex_tup, ex_eq, ex_cons, ex_pair, ex_one1, ex_one_int, and_tt, truA_bl, truOk_bl, truA_int, truOk_int, truA_lst, truOk_lst, truA_tup, truOk_tup, truA_refU, truOk_refU, Bool.not_true, Bool.not_false,  addA_ii, addA_ss, addA_tt, addA_ll, intA_ii, int2A_ii, subA_ii, mulA_ii, modA_ii, fdivA_ii, powA_ii, negA_i, ltA_ii, leA_ii, gtA_ii, geA_ii, ltA_ss, leA_ss, gtA_ss, geA_ss, isA, isntA, nonA, isiA_non, isiA_bl, isiA_int, isiA_str, isiA_tup, isiA_lst, isiA_rol, lenA_str, lenA_tup, lenA_lst, lenA_rol, absA_i, toIntA_i, toIntA_b, isIntA, isiB, String.reduceBEq, List.contains_cons, List.contains_nil, Bool.or_true, Bool.true_or, Bool.or_false, Bool.false_or, Bool.and_true, Bool.true_and, Bool.and_false, Bool.false_and, Bool.not_eq_true, if_true, if_false, decide_true, decide_false, Bool.false_eq_true, eq_self, reduceCtorEq, true_and, false_and, and_false, badA, exists_false, aFld, aPut, agFld, aPutAug, aMeth, aMake, mulX_ii, mulX_si, mulX_li, strA_i, strA_s, intXA_i, intXA_b, isBA_bb, isntBA_bb, aTryV, aRaise, aCallX, aMethX, aErr, aDct0, aStar, aPar3, ex_tri, aCallKX, aIsE, ]
    exact rt_same q
def sp__law_right : ASp := fun ds S Q => ∃ (p : Addr) (t : Pt), ds = [.ref p] ∧ S p = some (potO t) ∧ okP 0 t ∧ ∀ S', Q (.bl true) S'
set_option maxHeartbeats 4000000 in
theorem fn__law_right (T : Txt P w K mg C_Reader C_HouseError f_HouseError C_BadText) (F__law_is_right : Fn4 P w K mg base 7 "_law_is_right" ["text"] sp__law_is_right) (F__law_spoilt : Fn4 P w K mg base 6 "_law_spoilt" ["pot"] sp__law_spoilt) (F__law_told : Fn4 P w K mg base 3 "_law_told" ["pot"] sp__law_told) (F__law_of : Fn4 P w K mg base 2 "_law_of" ["pot", "some"] sp__law_of) (K_read_value_atX_text : FnKX P w K mg base 6 "read_value" ["text"] (sp_read_value_atX C_BadText) 0 ["text"] (fun us ws => ws)) : FnX P w K mg base 8 "_law_right" st__law_right ["pot"] sp__law_right := by
  refine FnX.of T.d__law_right fun f fd F => F.ok4 sc__law_right (fun ds S Q h => by unfold sp__law_right at h; first | (obtain ⟨_, rfl, _⟩ := h; rfl) | (obtain ⟨_, _, rfl, _⟩ := h; rfl) | (obtain ⟨_, _, _, rfl, _⟩ := h; rfl) | (obtain ⟨_, _, _, _, rfl, _⟩ := h; rfl) | (obtain ⟨_, _, _, _, _, rfl, _⟩ := h; rfl) | (obtain ⟨_, _, _, _, _, _, rfl, _⟩ := h; rfl) | (obtain ⟨_, _, _, _, _, _, _, rfl, _⟩ := h; rfl)) fun cdv A gd out s H E hr => ?_
  refine ⟨_, (s_cons (s_if (t_not (t_tru (e_cb (c_all rfl) T.n_all (by decide +kernel) (a_cons (e_lc 1 [("lap", 1)] rfl sc__law_right.nd (i_rng1 T.n_range (a_cons e_int a_nil)) (blkOk_by (N := nm__law_right) (sc := defScope st__law_right) (by decide +kernel)) (fun _ _ _ _ _ => pg_name sc__law_right.nd rfl (Or.inl rfl)) (fun _ _ _ _ _ => ts_nil) (fun _ _ _ _ _ => (f_call F__law_is_right gd (hr.mono (by decide)) (a_cons (f_call F__law_spoilt gd (hr.mono (by decide)) (a_cons (e_var 0) a_nil)) a_nil)))) a_nil)))) ss_nev s_nil)
    (s_cons (s_if (t_not (t_tru (e_cb (c_all rfl) T.n_all (by decide +kernel) (a_cons (e_lc 1 [("lap", 1)] rfl sc__law_right.nd (i_rng1 T.n_range (a_cons e_int a_nil)) (blkOk_by (N := nm__law_right) (sc := defScope st__law_right) (by decide +kernel)) (fun _ _ _ _ _ => pg_name sc__law_right.nd rfl (Or.inl rfl)) (fun _ _ _ _ _ => ts_nil) (fun _ _ _ _ _ => (f_call F__law_is_right gd (hr.mono (by decide)) (a_cons (f_call F__law_told gd (hr.mono (by decide)) (a_cons (e_var 0) a_nil)) a_nil)))) a_nil)))) ss_nev s_nil)
    (s_cons (s_tryV 2 T.g_BadText sc__law_right.nd (fun pn xe EX b2 tk po => (s_one (s_expr (f_callKX0 tk K_read_value_atX_text gd (hr.mono (by decide)) (k_cons (f_call F__law_of gd (hr.mono (by decide)) (a_cons (e_var 0) (a_cons (e_lstV (a_cons e_non (a_cons e_int (a_cons e_bl (a_cons (e_tup (a_cons e_str a_nil)) (a_cons (e_lstV (a_cons e_str a_nil)) (a_cons e_dct0 (a_cons (e_tup a_nil) a_nil)))))))) a_nil))) k_nil))))) (fun a oe C d v pn Hh Sh hz hf xd xv => (s_one (s_ret (e_cmp o_is (e_errV hz hf xd xv (e_var 2)) e_non)))))
    (s_one (s_ret e_bl))))), ?_⟩
  rintro _ S Q ⟨p, t, rfl, hp, ok, q⟩
  have allT : ∀ (acc : List AV) (S' : Store), (∀ y ∈ acc, y = .bl true) → allA (.lst acc) S' = ⟨True, .bl true⟩ := fun acc S' ha => by
    have e : acc = acc.map fun _ => AV.bl true := by
      rw [List.map_const']
      exact List.eq_replicate_iff.mpr ⟨rfl, ha⟩
    obtain ⟨a, b⟩ := allA_map acc (fun _ => true) S'
    rw [← e] at a b
    have e2 : (acc.all fun _ => true) = true := List.all_eq_true.mpr fun _ _ => rfl
    rw [e2] at b
    have : allA (.lst acc) S' = ⟨(allA (.lst acc) S').ok, (allA (.lst acc) S').v⟩ := rfl
    rw [this, b, eq_true a]
  walk_at "rd"
  refine ⟨by omega, by omega, ?_⟩
  refine lc_pot potO (fun k pt => okP (600 * k) pt) hp ok (fun y => y = .bl true) (by rw [rngA_len]; exact le_sl (by omega)) (fun k x pt' Sx Qe hx hk hI hp' h => ?_) (fun acc pt' hl ha hI => ?_)
  · rw [rngA_len] at hk
    have hk : k < 12 := hk
    simp only [↓ite_bc, bc_t, bc_f, aLc_rng, aFor_rng, aLc_lst, lstA_lst, lstA_rol, aLcS_rng, eqA_ii, eqA_ss, neA_ii, neA_ss, updS_same, updS_updS, startA, List.map_cons, List.map_nil, List.cons_append, List.nil_append, List.length_cons, List.length_nil, Nat.zero_add, Nat.add_zero, Nat.reduceAdd, Nat.reduceSub, List.replicate_succ, List.replicate_zero, List.replicate,  aVar_z, aVar_s, aC, aNil, aCons, aTup, aLstV, aLst, aOp, aUn, aTru, aTst, aCmp, aChn, aChnT, aAnd, aOr, aNot, aIf, aAndV, aOrV, aNotV, aCB, aCall, aNext, aSeq, aBrk, aCnt, aRet, aRetN, aIfS, aNev,  agName, agNil, agCons, agTup, aAsg, aPar, aDrop, aCallK, aCallKn, aM, aM0, aAddS, aYes, one1, one2, wipeA, aRevT, aRevL, agSub_def, aSl, aPart, aNoPart, cutAns_rol, cutAns_lst, cutAns_tup, cutAns_str, aLstRg, aRg1, ex_some, tupleA_lst, tupleA_tup, wstA_lst,  List.set_cons_zero, List.set_cons_succ, List.set, ex_bl, ex_int, ex_str, ex_tup, ex_eq, ex_cons, ex_pair, ex_one1, ex_one_int, and_tt, truA_bl, truOk_bl, truA_int, truOk_int, truA_lst, truOk_lst, truA_tup, truOk_tup, truA_refU, truOk_refU, Bool.not_true, Bool.not_false,  addA_ii, addA_ss, addA_tt, addA_ll, intA_ii, int2A_ii, subA_ii, mulA_ii, modA_ii, fdivA_ii, powA_ii, negA_i, ltA_ii, leA_ii, gtA_ii, geA_ii, ltA_ss, leA_ss, gtA_ss, geA_ss, isA, isntA, nonA, isiA_non, isiA_bl, isiA_int, isiA_str, isiA_tup, isiA_lst, isiA_rol, lenA_str, lenA_tup, lenA_lst, lenA_rol, absA_i, toIntA_i, toIntA_b, isIntA, isiB, String.reduceBEq, List.contains_cons, List.contains_nil, Bool.or_true, Bool.true_or, Bool.or_false, Bool.false_or, Bool.and_true, Bool.true_and, Bool.and_false, Bool.false_and, Bool.not_eq_true, if_true, if_false, decide_true, decide_false, Bool.false_eq_true, eq_self, reduceCtorEq, true_and, false_and, and_false, badA, exists_false, aFld, aPut, agFld, aPutAug, aMeth, aMake, mulX_ii, mulX_si, mulX_li, strA_i, strA_s, intXA_i, intXA_b, isBA_bb, isntBA_bb, aTryV, aRaise, aCallX, aMethX, aErr, aDct0, aStar, aPar3, ex_tri, aCallKX, aIsE, ]
    exact ⟨p, pt', _, rfl, hp', hI, by omega, fun t2 z ok2 hz => ⟨z, rfl, hz, h _ t2 rfl (ok2.up (by omega))⟩⟩
  rw [rngA_len] at hI
  have hI : okP 7200 pt' := hI
  simp only [↓ite_bc, bc_t, bc_f, aLc_rng, aFor_rng, aLc_lst, lstA_lst, lstA_rol, aLcS_rng, eqA_ii, eqA_ss, neA_ii, neA_ss, updS_same, updS_updS, startA, List.map_cons, List.map_nil, List.cons_append, List.nil_append, List.length_cons, List.length_nil, Nat.zero_add, Nat.add_zero, Nat.reduceAdd, Nat.reduceSub, List.replicate_succ, List.replicate_zero, List.replicate,  aVar_z, aVar_s, aC, aNil, aCons, aTup, aLstV, aLst, aOp, aUn, aTru, aTst, aCmp, aChn, aChnT, aAnd, aOr, aNot, aIf, aAndV, aOrV, aNotV, aCB, aCall, aNext, aSeq, aBrk, aCnt, aRet, aRetN, aIfS, aNev,  agName, agNil, agCons, agTup, aAsg, aPar, aDrop, aCallK, aCallKn, aM, aM0, aAddS, aYes, one1, one2, wipeA, aRevT, aRevL, agSub_def, aSl, aPart, aNoPart, cutAns_rol, cutAns_lst, cutAns_tup, cutAns_str, aLstRg, aRg1, ex_some, tupleA_lst, tupleA_tup, wstA_lst,  List.set_cons_zero, List.set_cons_succ, List.set, ex_bl, ex_int, ex_str, ex_tup, ex_eq, ex_cons, ex_pair, ex_one1, ex_one_int, and_tt, truA_bl, truOk_bl, truA_int, truOk_int, truA_lst, truOk_lst, truA_tup, truOk_tup, truA_refU, truOk_refU, Bool.not_true, Bool.not_false,  addA_ii, addA_ss, addA_tt, addA_ll, intA_ii, int2A_ii, subA_ii, mulA_ii, modA_ii, fdivA_ii, powA_ii, negA_i, ltA_ii, leA_ii, gtA_ii, geA_ii, ltA_ss, leA_ss, gtA_ss, geA_ss, isA, isntA, nonA, isiA_non, isiA_bl, isiA_int, isiA_str, isiA_tup, isiA_lst, isiA_rol, lenA_str, lenA_tup, lenA_lst, lenA_rol, absA_i, toIntA_i, toIntA_b, isIntA, isiB, String.reduceBEq, List.contains_cons, List.contains_nil, Bool.or_true, Bool.true_or, Bool.or_false, Bool.false_or, Bool.and_true, Bool.true_and, Bool.and_false, Bool.false_and, Bool.not_eq_true, if_true, if_false, decide_true, decide_false, Bool.false_eq_true, eq_self, reduceCtorEq, true_and, false_and, and_false, badA, exists_false, aFld, aPut, agFld, aPutAug, aMeth, aMake, mulX_ii, mulX_si, mulX_li, strA_i, strA_s, intXA_i, intXA_b, isBA_bb, isntBA_bb, aTryV, aRaise, aCallX, aMethX, aErr, aDct0, aStar, aPar3, ex_tri, aCallKX, aIsE, allT acc _ ha]
  refine ⟨by omega, by omega, ?_⟩
  refine lc_pot potO (fun k pt => okP (7200 + k) pt) updS_same hI (fun y => y = .bl true) (by rw [rngA_len]; exact le_sl (by omega)) (fun k x pt2 Sx Qe hx hk hI hp' h => ?_) (fun acc2 pt2 hl2 ha2 hI2 => ?_)
  · rw [rngA_len] at hk
    have hk : k < 3 := hk
    simp only [↓ite_bc, bc_t, bc_f, aLc_rng, aFor_rng, aLc_lst, lstA_lst, lstA_rol, aLcS_rng, eqA_ii, eqA_ss, neA_ii, neA_ss, updS_same, updS_updS, startA, List.map_cons, List.map_nil, List.cons_append, List.nil_append, List.length_cons, List.length_nil, Nat.zero_add, Nat.add_zero, Nat.reduceAdd, Nat.reduceSub, List.replicate_succ, List.replicate_zero, List.replicate,  aVar_z, aVar_s, aC, aNil, aCons, aTup, aLstV, aLst, aOp, aUn, aTru, aTst, aCmp, aChn, aChnT, aAnd, aOr, aNot, aIf, aAndV, aOrV, aNotV, aCB, aCall, aNext, aSeq, aBrk, aCnt, aRet, aRetN, aIfS, aNev,  agName, agNil, agCons, agTup, aAsg, aPar, aDrop, aCallK, aCallKn, aM, aM0, aAddS, aYes, one1, one2, wipeA, aRevT, aRevL, agSub_def, aSl, aPart, aNoPart, cutAns_rol, cutAns_lst, cutAns_tup, cutAns_str, aLstRg, aRg1, ex_some, tupleA_lst, tupleA_tup, wstA_lst,  List.set_cons_zero, List.set_cons_succ, List.set, ex_bl, ex_int, ex_str, ex_tup, ex_eq, ex_cons, ex_pair, ex_one1, ex_one_int, and_tt, truA_bl, truOk_bl, truA_int, truOk_int, truA_lst, truOk_lst, truA_tup, truOk_tup, truA_refU, truOk_refU, Bool.not_true, Bool.not_false,  addA_ii, addA_ss, addA_tt, addA_ll, intA_ii, int2A_ii, subA_ii, mulA_ii, modA_ii, fdivA_ii, powA_ii, negA_i, ltA_ii, leA_ii, gtA_ii, geA_ii, ltA_ss, leA_ss, gtA_ss, geA_ss, isA, isntA, nonA, isiA_non, isiA_bl, isiA_int, isiA_str, isiA_tup, isiA_lst, isiA_rol, lenA_str, lenA_tup, lenA_lst, lenA_rol, absA_i, toIntA_i, toIntA_b, isIntA, isiB, String.reduceBEq, List.contains_cons, List.contains_nil, Bool.or_true, Bool.true_or, Bool.or_false, Bool.false_or, Bool.and_true, Bool.true_and, Bool.and_false, Bool.false_and, Bool.not_eq_true, if_true, if_false, decide_true, decide_false, Bool.false_eq_true, eq_self, reduceCtorEq, true_and, false_and, and_false, badA, exists_false, aFld, aPut, agFld, aPutAug, aMeth, aMake, mulX_ii, mulX_si, mulX_li, strA_i, strA_s, intXA_i, intXA_b, isBA_bb, isntBA_bb, aTryV, aRaise, aCallX, aMethX, aErr, aDct0, aStar, aPar3, ex_tri, aCallKX, aIsE, ]
    exact ⟨p, pt2, _, rfl, hp', hI, by omega, fun t2 z ok2 hz => ⟨z, rfl, hz, h _ t2 rfl (ok2.up (by omega))⟩⟩
  rw [rngA_len] at hI2
  have hI2 : okP 7203 pt2 := hI2
  simp only [↓ite_bc, bc_t, bc_f, aLc_rng, aFor_rng, aLc_lst, lstA_lst, lstA_rol, aLcS_rng, eqA_ii, eqA_ss, neA_ii, neA_ss, updS_same, updS_updS, startA, List.map_cons, List.map_nil, List.cons_append, List.nil_append, List.length_cons, List.length_nil, Nat.zero_add, Nat.add_zero, Nat.reduceAdd, Nat.reduceSub, List.replicate_succ, List.replicate_zero, List.replicate,  aVar_z, aVar_s, aC, aNil, aCons, aTup, aLstV, aLst, aOp, aUn, aTru, aTst, aCmp, aChn, aChnT, aAnd, aOr, aNot, aIf, aAndV, aOrV, aNotV, aCB, aCall, aNext, aSeq, aBrk, aCnt, aRet, aRetN, aIfS, aNev,  agName, agNil, agCons, agTup, aAsg, aPar, aDrop, aCallK, aCallKn, aM, aM0, aAddS, aYes, one1, one2, wipeA, aRevT, aRevL, agSub_def, aSl, aPart, aNoPart, cutAns_rol, cutAns_lst, cutAns_tup, cutAns_str, aLstRg, aRg1, ex_some, tupleA_lst, tupleA_tup, wstA_lst,  List.set_cons_zero, List.set_cons_succ, List.set, ex_bl, ex_int, ex_str, ex_tup, ex_eq, ex_cons, ex_pair, ex_one1, ex_one_int, and_tt, truA_bl, truOk_bl, truA_int, truOk_int, truA_lst, truOk_lst, truA_tup, truOk_tup, truA_refU, truOk_refU, Bool.not_true, Bool.not_false,  addA_ii, addA_ss, addA_tt, addA_ll, intA_ii, int2A_ii, subA_ii, mulA_ii, modA_ii, fdivA_ii, powA_ii, negA_i, ltA_ii, leA_ii, gtA_ii, geA_ii, ltA_ss, leA_ss, gtA_ss, geA_ss, isA, isntA, nonA, isiA_non, isiA_bl, isiA_int, isiA_str, isiA_tup, isiA_lst, isiA_rol, lenA_str, lenA_tup, lenA_lst, lenA_rol, absA_i, toIntA_i, toIntA_b, isIntA, isiB, String.reduceBEq, List.contains_cons, List.contains_nil, Bool.or_true, Bool.true_or, Bool.or_false, Bool.false_or, Bool.and_true, Bool.true_and, Bool.and_false, Bool.false_and, Bool.not_eq_true, if_true, if_false, decide_true, decide_false, Bool.false_eq_true, eq_self, reduceCtorEq, true_and, false_and, and_false, badA, exists_false, aFld, aPut, agFld, aPutAug, aMeth, aMake, mulX_ii, mulX_si, mulX_li, strA_i, strA_s, intXA_i, intXA_b, isBA_bb, isntBA_bb, aTryV, aRaise, aCallX, aMethX, aErr, aDct0, aStar, aPar3, ex_tri, aCallKX, aIsE, allT acc2 _ ha2]
  refine ⟨le_sl (by omega), le_sl (by omega), fun l hl => ⟨le_sl (by omega), le_sl (by omega), ?_⟩⟩
  have ne : p ≠ l := neS updS_same hl
  refine one_lst (by simp) (by simp) ((updS_ne ne).trans updS_same) hI2 (by omega) fun t2 y ok2 hy => ?_
  have e : updS (updS (updS S p (potO pt2)) l (.dK [])) p (potO t2) l = some (.dK []) := (updS_ne (Ne.symm ne)).trans updS_same
  have iy : isiA y (.ty "str") (updS (updS (updS S p (potO pt2)) l (.dK [])) p (potO t2)) = ⟨True, .bl false⟩ := by
    simp only [List.mem_cons, List.not_mem_nil, or_false] at hy
    rcases hy with rfl | rfl | rfl | rfl | rfl | rfl | rfl
    · exact isi_S rfl
    · exact isi_S rfl
    · exact isi_S rfl
    · exact isi_S rfl
    · exact isi_S rfl
    · exact Vm.isi_dK e
    · exact isi_S rfl
  exact .inl ⟨y, rfl, by rw [iy]; trivial, by rw [iy], T.xm_BadText_BadText, T.ex_BadText.xv T.xc_BadText, fun a => rt_same (q _)⟩
def sp_law : ASp := fun ds S Q => ∃ ns : List Int, ds = [.rol (ns.map .int)] ∧ ns.length ≤ 63 ∧ ∀ S', Q (.bl true) S'
set_option maxHeartbeats 4000000 in
theorem fn_law (T : Txt P w K mg C_Reader C_HouseError f_HouseError C_BadText) (F__law_cells : Fn4 P w K mg base 1 "_law_cells" ["script", "most"] sp__law_cells) (F__law_right : Fn4 P w K mg base 8 "_law_right" ["pot"] sp__law_right) (F__law_pot : Fn4 P w K mg base 1 "_law_pot" ["script", "place"] sp__law_pot) : FnX P w K mg base 9 "law" st_law ["script"] sp_law := by
  refine FnX.of T.d_law fun f fd F => F.ok4 sc_law (fun ds S Q h => by unfold sp_law at h; first | (obtain ⟨_, rfl, _⟩ := h; rfl) | (obtain ⟨_, _, rfl, _⟩ := h; rfl) | (obtain ⟨_, _, _, rfl, _⟩ := h; rfl) | (obtain ⟨_, _, _, _, rfl, _⟩ := h; rfl) | (obtain ⟨_, _, _, _, _, rfl, _⟩ := h; rfl) | (obtain ⟨_, _, _, _, _, _, rfl, _⟩ := h; rfl) | (obtain ⟨_, _, _, _, _, _, _, rfl, _⟩ := h; rfl)) fun cdv A gd out s H E hr => ?_
  refine ⟨_, (s_one (s_ret (e_cb (c_all rfl) T.n_all (by decide +kernel) (a_cons (e_lc 1 [("place", 1)] rfl sc_law.nd (i_lst (f_call F__law_cells gd (hr.mono (by decide)) (a_cons (e_var 0) (a_cons e_int a_nil)))) (blkOk_by (N := nm_law) (sc := defScope st_law) (by decide +kernel)) (fun _ _ _ _ _ => pg_name sc_law.nd rfl (Or.inl rfl)) (fun _ _ _ _ _ => ts_nil) (fun _ _ _ _ _ => (f_call F__law_right gd (hr.mono (by decide)) (a_cons (f_call F__law_pot gd (hr.mono (by decide)) (a_cons (e_var 0) (a_cons (e_var 1) a_nil))) a_nil)))) a_nil)))), ?_⟩
  rintro _ S Q ⟨ns, rfl, hl, q⟩
  walk_at "rd"
  refine ⟨ns, 3, rfl, by omega, by omega, hl, fun n n0 n1 => ?_⟩
  simp only [↓ite_bc, bc_t, bc_f, aLc_rng, aFor_rng, aLc_lst, lstA_lst, lstA_rol, aLcS_rng, eqA_ii, eqA_ss, neA_ii, neA_ss, updS_same, updS_updS, startA, List.map_cons, List.map_nil, List.cons_append, List.nil_append, List.length_cons, List.length_nil, Nat.zero_add, Nat.add_zero, Nat.reduceAdd, Nat.reduceSub, List.replicate_succ, List.replicate_zero, List.replicate,  aVar_z, aVar_s, aC, aNil, aCons, aTup, aLstV, aLst, aOp, aUn, aTru, aTst, aCmp, aChn, aChnT, aAnd, aOr, aNot, aIf, aAndV, aOrV, aNotV, aCB, aCall, aNext, aSeq, aBrk, aCnt, aRet, aRetN, aIfS, aNev,  agName, agNil, agCons, agTup, aAsg, aPar, aDrop, aCallK, aCallKn, aM, aM0, aAddS, aYes, one1, one2, wipeA, aRevT, aRevL, agSub_def, aSl, aPart, aNoPart, cutAns_rol, cutAns_lst, cutAns_tup, cutAns_str, aLstRg, aRg1, ex_some, tupleA_lst, tupleA_tup, wstA_lst,  List.set_cons_zero, List.set_cons_succ, List.set, ex_bl, ex_int, ex_str, ex_tup, ex_eq, ex_cons, ex_pair, ex_one1, ex_one_int, and_tt, truA_bl, truOk_bl, truA_int, truOk_int, truA_lst, truOk_lst, truA_tup, truOk_tup, truA_refU, truOk_refU, Bool.not_true, Bool.not_false,  addA_ii, addA_ss, addA_tt, addA_ll, intA_ii, int2A_ii, subA_ii, mulA_ii, modA_ii, fdivA_ii, powA_ii, negA_i, ltA_ii, leA_ii, gtA_ii, geA_ii, ltA_ss, leA_ss, gtA_ss, geA_ss, isA, isntA, nonA, isiA_non, isiA_bl, isiA_int, isiA_str, isiA_tup, isiA_lst, isiA_rol, lenA_str, lenA_tup, lenA_lst, lenA_rol, absA_i, toIntA_i, toIntA_b, isIntA, isiB, String.reduceBEq, List.contains_cons, List.contains_nil, Bool.or_true, Bool.true_or, Bool.or_false, Bool.false_or, Bool.and_true, Bool.true_and, Bool.and_false, Bool.false_and, Bool.not_eq_true, if_true, if_false, decide_true, decide_false, Bool.false_eq_true, eq_self, reduceCtorEq, true_and, false_and, and_false, badA, exists_false, aFld, aPut, agFld, aPutAug, aMeth, aMake, mulX_ii, mulX_si, mulX_li, strA_i, strA_s, intXA_i, intXA_b, isBA_bb, isntBA_bb, aTryV, aRaise, aCallX, aMethX, aErr, aDct0, aStar, aPar3, ex_tri, aCallKX, aIsE, ]
  refine lcL_free (fun y => y = .bl true) (by rw [rngA_len]; exact le_sl (by omega)) (fun x hx Sx Qe h => ?_) (fun acc S' ha hn => ?_)
  · obtain ⟨k, hk, rfl⟩ := List.mem_map.mp hx
    rw [List.mem_range] at hk
    simp only [↓ite_bc, bc_t, bc_f, aLc_rng, aFor_rng, aLc_lst, lstA_lst, lstA_rol, aLcS_rng, eqA_ii, eqA_ss, neA_ii, neA_ss, updS_same, updS_updS, startA, List.map_cons, List.map_nil, List.cons_append, List.nil_append, List.length_cons, List.length_nil, Nat.zero_add, Nat.add_zero, Nat.reduceAdd, Nat.reduceSub, List.replicate_succ, List.replicate_zero, List.replicate,  aVar_z, aVar_s, aC, aNil, aCons, aTup, aLstV, aLst, aOp, aUn, aTru, aTst, aCmp, aChn, aChnT, aAnd, aOr, aNot, aIf, aAndV, aOrV, aNotV, aCB, aCall, aNext, aSeq, aBrk, aCnt, aRet, aRetN, aIfS, aNev,  agName, agNil, agCons, agTup, aAsg, aPar, aDrop, aCallK, aCallKn, aM, aM0, aAddS, aYes, one1, one2, wipeA, aRevT, aRevL, agSub_def, aSl, aPart, aNoPart, cutAns_rol, cutAns_lst, cutAns_tup, cutAns_str, aLstRg, aRg1, ex_some, tupleA_lst, tupleA_tup, wstA_lst,  List.set_cons_zero, List.set_cons_succ, List.set, ex_bl, ex_int, ex_str, ex_tup, ex_eq, ex_cons, ex_pair, ex_one1, ex_one_int, and_tt, truA_bl, truOk_bl, truA_int, truOk_int, truA_lst, truOk_lst, truA_tup, truOk_tup, truA_refU, truOk_refU, Bool.not_true, Bool.not_false,  addA_ii, addA_ss, addA_tt, addA_ll, intA_ii, int2A_ii, subA_ii, mulA_ii, modA_ii, fdivA_ii, powA_ii, negA_i, ltA_ii, leA_ii, gtA_ii, geA_ii, ltA_ss, leA_ss, gtA_ss, geA_ss, isA, isntA, nonA, isiA_non, isiA_bl, isiA_int, isiA_str, isiA_tup, isiA_lst, isiA_rol, lenA_str, lenA_tup, lenA_lst, lenA_rol, absA_i, toIntA_i, toIntA_b, isIntA, isiB, String.reduceBEq, List.contains_cons, List.contains_nil, Bool.or_true, Bool.true_or, Bool.or_false, Bool.false_or, Bool.and_true, Bool.true_and, Bool.and_false, Bool.false_and, Bool.not_eq_true, if_true, if_false, decide_true, decide_false, Bool.false_eq_true, eq_self, reduceCtorEq, true_and, false_and, and_false, badA, exists_false, aFld, aPut, agFld, aPutAug, aMeth, aMake, mulX_ii, mulX_si, mulX_li, strA_i, strA_s, intXA_i, intXA_b, isBA_bb, isntBA_bb, aTryV, aRaise, aCallX, aMethX, aErr, aDct0, aStar, aPar3, ex_tri, aCallKX, aIsE, ]
    refine ⟨ns, k, by rw [Int.zero_add], by omega, fun l t hl2 okt => ?_⟩
    exact ⟨l, t, rfl, updS_same, okt, fun S' => h _ _ rfl⟩
  · have e : acc = acc.map fun _ => AV.bl true := by
      rw [List.map_const']
      exact List.eq_replicate_iff.mpr ⟨rfl, ha⟩
    obtain ⟨a, b⟩ := allA_map acc (fun _ => true) S'
    rw [← e] at a b
    rw [b]
    refine ⟨a, ?_⟩
    have e2 : (acc.all fun _ => true) = true := List.all_eq_true.mpr fun _ _ => rfl
    rw [e2]
    exact rt_same (q S')
end
theorem law_end (ns : List Int) (hl : ns.length ≤ 63) (S : Store) (Q : AK) (q : ∀ S', Q (.bl true) S') : sp_law [.rol (ns.map .int)] S Q := ⟨ns, rfl, hl, q⟩
theorem all_of {l : PySem.W.OpenLaw} {w : World} {K : PySem.W.Frag} {mg : Str → Option Value} {fa : Addr} {C_Reader : Addr} {C_HouseError : Addr} {f_HouseError : Addr} {C_BadText : Addr} (T : Txt l.prog w K mg C_Reader C_HouseError f_HouseError C_BadText) (hmg : mg "law" = some (.ref fa)) :
    ∃ fd : FuncData, (∀ (s : Shared) (u : Value), BindsTo s fd ⟨[u], []⟩ [("script", u)]) ∧ ∀ base : Heap, K.In base → base.Ns mainGlobals mg → FnG l.prog w K mg base 9 fa fd ["script"] (spOf K sp_law) := by
  refine FnX.law T.d_law (fun base => ?_) hmg (fun _ _ _ _ _ _ us hl => match us, hl with | [_], _ => rfl)
  have F_is_sign := fn_is_sign (P := l.prog) (w := w) (base := base) T 
  have F_Reader___init__ := fn_Reader___init__ (P := l.prog) (w := w) (base := base) T 
  have F_Reader_is_next := fn_Reader_is_next (P := l.prog) (w := w) (base := base) T 
  have F_Reader_figures_on := fn_Reader_figures_on (P := l.prog) (w := w) (base := base) T 
  have F_Reader_number := fn_Reader_number (P := l.prog) (w := w) (base := base) T F_Reader_is_next F_Reader_figures_on
  have F_Reader_string := fn_Reader_string (P := l.prog) (w := w) (base := base) T F_is_sign.f4 F_Reader_number
  have F_Reader_single := fn_Reader_single (P := l.prog) (w := w) (base := base) T F_Reader_is_next F_Reader_number F_Reader_string
  have F_Reader_value := fn_Reader_value (P := l.prog) (w := w) (base := base) T F_Reader_is_next F_Reader_single
  have F_read_value_atX := fn_read_value_atX (P := l.prog) (w := w) (base := base) T F_Reader___init__ F_Reader_value
  have F__law_pot := fn__law_pot (P := l.prog) (w := w) (base := base) T 
  have F__law_take := fn__law_take (P := l.prog) (w := w) (base := base) T 
  have F__law_of := fn__law_of (P := l.prog) (w := w) (base := base) T F__law_take.f4
  have F__law_of_atR := fn__law_of_atR (P := l.prog) (w := w) (base := base) T F__law_take.f4
  have F__law_cells := fn__law_cells (P := l.prog) (w := w) (base := base) T 
  have F__law_string := fn__law_string (P := l.prog) (w := w) (base := base) T F__law_take.f4 F__law_of.f4
  have F__law_plain_value := fn__law_plain_value (P := l.prog) (w := w) (base := base) T F__law_take.f4 F__law_of.f4 F__law_string.f4
  have F__law_value := fn__law_value (P := l.prog) (w := w) (base := base) T F__law_take.f4 F__law_plain_value.f4 F__law_of.f4
  have F__law_text_of := fn__law_text_of (P := l.prog) (w := w) (base := base) T 
  have F__law_figures_end := fn__law_figures_end (P := l.prog) (w := w) (base := base) T 
  have F__law_single_end := fn__law_single_end (P := l.prog) (w := w) (base := base) T F__law_figures_end.f4
  have F__law_walk := fn__law_walk (P := l.prog) (w := w) (base := base) T F__law_single_end.f4
  have F__law_spoilt := fn__law_spoilt (P := l.prog) (w := w) (base := base) T F__law_text_of.f4 F__law_value.f4 F__law_of.f4 F__law_take.f4 F__law_plain_value.f4
  have F__law_told := fn__law_told (P := l.prog) (w := w) (base := base) T F__law_of_atR.f4
  have F__law_is_right := fn__law_is_right (P := l.prog) (w := w) (base := base) T F__law_walk.f4 F_read_value_atX.f4 F__law_text_of.f4
  have F__law_right := fn__law_right (P := l.prog) (w := w) (base := base) T F__law_is_right.f4 F__law_spoilt.f4 F__law_told.f4 F__law_of.f4 (F_read_value_atX.kwAll (fun _ _ _ _ _ _ us ws h0 hl => match us, ws, h0, hl with | [], [_], _, _ => rfl))
  have F_law := fn_law (P := l.prog) (w := w) (base := base) T F__law_cells.f4 F__law_right.f4 F__law_pot.f4
  exact F_law
end G
open PySem PySem.W PyProof.Rows in
set_option maxRecDepth 100000 in
set_option maxHeartbeats 0 in
theorem PySem.Challenge.cw_lyinghouse_k01_texts_that_are_no_values_holds : PySem.Challenge.rw_lyinghouse_k01_texts_that_are_no_values.Holds := by
  w_on; o_law; k_head; (case hw => w_witness2)
  k_fill
  refine L3.walk_ofG (l := PySem.Challenge.rw_lyinghouse_k01_texts_that_are_no_values) (n := 63) (k := 9) (x := "script") (sp := fun K => L3.spOf K G.sp_law) rfl (by decide) rfl ⟨rfl, by decide, by decide⟩ (fun w h Y => PySem.W.kIn_of Y) ?F ?S
  case S => exact fun K H a ns hl only hS => L3.sp_end only hS (G.law_end ns hl)
  case F =>
    intro w mg fa h KX Gm hX hmg
    refine' G.all_of (l := PySem.Challenge.rw_lyinghouse_k01_texts_that_are_no_values) ⟨?n_abs, ?n_all, ?n_enumerate, ?n_int, ?n_isinstance, ?n_len, ?n_list, ?n_max, ?n_min, ?n_range, ?n_repr, ?n_str, ?n_sum, ?n_tuple, ?c_MOST_DEPTH, ?c_MOST_INTEGER, ?c_MOST_SIGNS, ?c_FIRST_SIGN, ?c_LAST_SIGN, ?c_FEED, ?c_NONE_SIGN, ?c_INTEGER_SIGN, ?c_INTEGER_END, ?c_STRING_SIGN, ?c_STRING_END, ?c_OPEN_SIGN, ?c_SHUT_SIGN, ?c_MINUS, ?c_NOUGHT, ?c_FIGURES, ?g_Reader, ?cl_Reader, ?mk_Reader, ?nf_Reader_own_text, ?nf_Reader_own_at, ?nf_Reader_is_stuck, ?g_HouseError, ?g_BadText, ?ex_BadText, ?xc_BadText, ?hi_HouseError, ?xm_BadText_BadText, ?xm_BadText_HouseError, ?d_is_sign, ?d_Reader___init__, ?d_Reader_is_next, ?d_Reader_figures_on, ?d_Reader_number, ?d_Reader_string, ?d_Reader_single, ?d_Reader_value, ?d_read_value, ?d__law_pot, ?d__law_take, ?d__law_of, ?d__law_cells, ?d__law_string, ?d__law_plain_value, ?d__law_value, ?d__law_text_of, ?d__law_figures_end, ?d__law_single_end, ?d__law_walk, ?d__law_spoilt, ?d__law_told, ?d__law_is_right, ?d__law_right, ?d_law⟩ hmg
    (case g_HouseError =>
      refine' PySem.W.mg_of KX Gm ?a
      (case a => k_is))
    (case g_BadText =>
      refine' PySem.W.mg_of KX Gm ?a
      (case a => k_is))
    (case ex_BadText =>
      refine' L3.Exn.of ?xL ?ini ?sa ?no ?kp ?sb ?ty ?ga ?gg ?hd ?bm ?dr ?ct
      (case xL => k_is)
      (case ini => k_is)
      (case sa => k_is)
      (case no => k_is)
      (case kp => k_is)
      (case sb => k_is)
      (case ty => k_is)
      (case ga => k_is)
      (case gg => k_is)
      (case hd => k_is)
      (case bm => decide +kernel)
      (case dr => rfl)
      (case ct => rfl))
    (case xc_BadText =>
      refine' ⟨?a, ?b, ?c, ?d, ?e, ?f, ?g, ?h⟩
      (case a => k_is)
      (case b => k_is)
      (case c => k_is)
      (case d => k_is)
      (case e => k_is)
      (case f => k_is)
      (case g => k_is)
      (case h => k_is))
    (case hi_HouseError =>
      refine' L3.HInit.of (st := G.mth 1 0) ?ho ?hcd ?hcode ?hvs ?hcell ?hDl ?hno ?hsup ?ty ?hfile ?htop ?hb ?hp ?har ?hbind ?hks ?hkc ?hka ?hkv ?hkind ?hcells ?hco ?hgen ?i1 ?i2 ?i3 ?i4
      (case ho => k_is)
      (case hcd => k_is)
      (case hcode => k_is)
      (case hvs => rfl)
      (case hcell => k_is)
      (case hDl => k_is)
      (case hno => k_is)
      (case hsup =>
        refine' PySem.W.mg_none_of KX Gm ?a
        (case a => k_is))
      (case ty => k_is)
      (case hfile => decide +kernel)
      (case htop => decide +kernel)
      (case hb => rfl)
      (case hp => rfl)
      (case har => rfl)
      (case hbind => exact fun _ _ _ _ _ _ _ us hl => match us, hl with | [_, _], _ => rfl)
      (case hks => decide +kernel)
      (case hkc => decide +kernel)
      (case hka => decide +kernel)
      (case hkv => decide +kernel)
      (case hkind => rfl)
      (case hcells => decide +kernel)
      (case hco => rfl)
      (case hgen => rfl)
      (case i1 => exact fun _ => rfl)
      (case i2 => exact fun _ => rfl)
      (case i3 => exact fun _ => ⟨_, rfl⟩)
      (case i4 => exact fun _ => rfl))
    (case xm_BadText_BadText =>
      refine' L3.exm_sub ?a ?b ?c ?d
      (case a => k_is)
      (case b => k_is)
      (case c => k_is)
      (case d => first | rfl | k_is))
    (case xm_BadText_HouseError =>
      refine' L3.exm_sub ?a ?b ?c ?d
      (case a => k_is)
      (case b => k_is)
      (case c => k_is)
      (case d => first | rfl | k_is))
    (case g_Reader =>
      refine' PySem.W.mg_of KX Gm ?a
      (case a => k_is))
    (case cl_Reader =>
      refine' ⟨?pg, ?hd, ?po, ?sa⟩
      (case pg => k_is)
      (case hd => k_is)
      (case po => k_is)
      (case sa => k_is))
    (case mk_Reader =>
      refine' ⟨?a, ?b⟩
      (case a => k_is)
      (case b => k_is))
    (case nf_Reader_own_text =>
      unfold L2.NoAttr
      k_is)
    (case nf_Reader_own_at =>
      unfold L2.NoAttr
      k_is)
    (case nf_Reader_is_stuck =>
      unfold L2.NoAttr
      k_is)
    (case c_MOST_DEPTH =>
      refine' L3.gI_of KX Gm ?a
      (case a => k_is))
    (case c_MOST_INTEGER => exact L3.gI_loose (x := "MOST_INTEGER") (i := 1000000000000000000) hX (by simp))
    (case c_MOST_SIGNS =>
      refine' L3.gI_of KX Gm ?a
      (case a => k_is))
    (case c_FIRST_SIGN =>
      refine' L3.gS_of KX Gm ?a
      (case a => k_is))
    (case c_LAST_SIGN =>
      refine' L3.gS_of KX Gm ?a
      (case a => k_is))
    (case c_FEED =>
      refine' L3.gS_of KX Gm ?a
      (case a => k_is))
    (case c_NONE_SIGN =>
      refine' L3.gS_of KX Gm ?a
      (case a => k_is))
    (case c_INTEGER_SIGN =>
      refine' L3.gS_of KX Gm ?a
      (case a => k_is))
    (case c_INTEGER_END =>
      refine' L3.gS_of KX Gm ?a
      (case a => k_is))
    (case c_STRING_SIGN =>
      refine' L3.gS_of KX Gm ?a
      (case a => k_is))
    (case c_STRING_END =>
      refine' L3.gS_of KX Gm ?a
      (case a => k_is))
    (case c_OPEN_SIGN =>
      refine' L3.gS_of KX Gm ?a
      (case a => k_is))
    (case c_SHUT_SIGN =>
      refine' L3.gS_of KX Gm ?a
      (case a => k_is))
    (case c_MINUS =>
      refine' L3.gS_of KX Gm ?a
      (case a => k_is))
    (case c_NOUGHT =>
      refine' L3.gS_of KX Gm ?a
      (case a => k_is))
    (case c_FIGURES =>
      refine' L3.gS_of KX Gm ?a
      (case a => k_is))
    (case n_abs =>
      refine' PySem.W.mg_none_of KX Gm ?a
      (case a => k_is))
    (case n_all =>
      refine' PySem.W.mg_none_of KX Gm ?a
      (case a => k_is))
    (case n_enumerate =>
      refine' PySem.W.mg_none_of KX Gm ?a
      (case a => k_is))
    (case n_int =>
      refine' PySem.W.mg_none_of KX Gm ?a
      (case a => k_is))
    (case n_isinstance =>
      refine' PySem.W.mg_none_of KX Gm ?a
      (case a => k_is))
    (case n_len =>
      refine' PySem.W.mg_none_of KX Gm ?a
      (case a => k_is))
    (case n_list =>
      refine' PySem.W.mg_none_of KX Gm ?a
      (case a => k_is))
    (case n_max =>
      refine' PySem.W.mg_none_of KX Gm ?a
      (case a => k_is))
    (case n_min =>
      refine' PySem.W.mg_none_of KX Gm ?a
      (case a => k_is))
    (case n_range =>
      refine' PySem.W.mg_none_of KX Gm ?a
      (case a => k_is))
    (case n_repr =>
      refine' PySem.W.mg_none_of KX Gm ?a
      (case a => k_is))
    (case n_str =>
      refine' PySem.W.mg_none_of KX Gm ?a
      (case a => k_is))
    (case n_sum =>
      refine' PySem.W.mg_none_of KX Gm ?a
      (case a => k_is))
    (case n_tuple =>
      refine' PySem.W.mg_none_of KX Gm ?a
      (case a => k_is))
    (case d_is_sign =>
      refine' L3.Def.of KX Gm ?a ?l ?c ?k (fun _ _ _ _ _ _ us hl => match us, hl with | [_], _ => rfl)
      (case a => k_is)
      (case l => k_is)
      (case c => k_is)
      (case k => k_is))
    (case d_Reader___init__ =>
      refine' L3.MethD.of KX ?a ?l ?c ?k ?i (fun _ _ _ _ _ _ us hl => match us, hl with | [_, _, _], _ => rfl)
      (case a => k_is)
      (case l => k_is)
      (case c => k_is)
      (case k => k_is)
      (case i => k_is))
    (case d_Reader_is_next =>
      refine' L3.MethD.of KX ?a ?l ?c ?k ?i (fun _ _ _ _ _ _ us hl => match us, hl with | [_, _], _ => rfl)
      (case a => k_is)
      (case l => k_is)
      (case c => k_is)
      (case k => k_is)
      (case i => k_is))
    (case d_Reader_figures_on =>
      refine' L3.MethD.of KX ?a ?l ?c ?k ?i (fun _ _ _ _ _ _ us hl => match us, hl with | [_, _, _], _ => rfl)
      (case a => k_is)
      (case l => k_is)
      (case c => k_is)
      (case k => k_is)
      (case i => k_is))
    (case d_Reader_number =>
      refine' L3.MethD.of KX ?a ?l ?c ?k ?i (fun _ _ _ _ _ _ us hl => match us, hl with | [_, _, _, _], _ => rfl)
      (case a => k_is)
      (case l => k_is)
      (case c => k_is)
      (case k => k_is)
      (case i => k_is))
    (case d_Reader_string =>
      refine' L3.MethD.of KX ?a ?l ?c ?k ?i (fun _ _ _ _ _ _ us hl => match us, hl with | [_], _ => rfl)
      (case a => k_is)
      (case l => k_is)
      (case c => k_is)
      (case k => k_is)
      (case i => k_is))
    (case d_Reader_single =>
      refine' L3.MethD.of KX ?a ?l ?c ?k ?i (fun _ _ _ _ _ _ us hl => match us, hl with | [_], _ => rfl)
      (case a => k_is)
      (case l => k_is)
      (case c => k_is)
      (case k => k_is)
      (case i => k_is))
    (case d_Reader_value =>
      refine' L3.MethD.of KX ?a ?l ?c ?k ?i (fun _ _ _ _ _ _ us hl => match us, hl with | [_], _ => rfl)
      (case a => k_is)
      (case l => k_is)
      (case c => k_is)
      (case k => k_is)
      (case i => k_is))
    (case d_read_value =>
      refine' L3.Def.of KX Gm ?a ?l ?c ?k (fun _ _ _ _ _ _ us hl => match us, hl with | [_], _ => rfl)
      (case a => k_is)
      (case l => k_is)
      (case c => k_is)
      (case k => k_is))
    (case d__law_pot =>
      refine' L3.Def.of KX Gm ?a ?l ?c ?k (fun _ _ _ _ _ _ us hl => match us, hl with | [_, _], _ => rfl)
      (case a => k_is)
      (case l => k_is)
      (case c => k_is)
      (case k => k_is))
    (case d__law_take =>
      refine' L3.Def.of KX Gm ?a ?l ?c ?k (fun _ _ _ _ _ _ us hl => match us, hl with | [_, _], _ => rfl)
      (case a => k_is)
      (case l => k_is)
      (case c => k_is)
      (case k => k_is))
    (case d__law_of =>
      refine' L3.Def.of KX Gm ?a ?l ?c ?k (fun _ _ _ _ _ _ us hl => match us, hl with | [_, _], _ => rfl)
      (case a => k_is)
      (case l => k_is)
      (case c => k_is)
      (case k => k_is))
    (case d__law_cells =>
      refine' L3.Def.of KX Gm ?a ?l ?c ?k (fun _ _ _ _ _ _ us hl => match us, hl with | [_, _], _ => rfl)
      (case a => k_is)
      (case l => k_is)
      (case c => k_is)
      (case k => k_is))
    (case d__law_string =>
      refine' L3.Def.of KX Gm ?a ?l ?c ?k (fun _ _ _ _ _ _ us hl => match us, hl with | [_, _], _ => rfl)
      (case a => k_is)
      (case l => k_is)
      (case c => k_is)
      (case k => k_is))
    (case d__law_plain_value =>
      refine' L3.Def.of KX Gm ?a ?l ?c ?k (fun _ _ _ _ _ _ us hl => match us, hl with | [_], _ => rfl)
      (case a => k_is)
      (case l => k_is)
      (case c => k_is)
      (case k => k_is))
    (case d__law_value =>
      refine' L3.Def.of KX Gm ?a ?l ?c ?k (fun _ _ _ _ _ _ us hl => match us, hl with | [_, _], _ => rfl)
      (case a => k_is)
      (case l => k_is)
      (case c => k_is)
      (case k => k_is))
    (case d__law_text_of =>
      refine' L3.Def.of KX Gm ?a ?l ?c ?k (fun _ _ _ _ _ _ us hl => match us, hl with | [_], _ => rfl)
      (case a => k_is)
      (case l => k_is)
      (case c => k_is)
      (case k => k_is))
    (case d__law_figures_end =>
      refine' L3.Def.of KX Gm ?a ?l ?c ?k (fun _ _ _ _ _ _ us hl => match us, hl with | [_, _, _, _], _ => rfl)
      (case a => k_is)
      (case l => k_is)
      (case c => k_is)
      (case k => k_is))
    (case d__law_single_end =>
      refine' L3.Def.of KX Gm ?a ?l ?c ?k (fun _ _ _ _ _ _ us hl => match us, hl with | [_, _], _ => rfl)
      (case a => k_is)
      (case l => k_is)
      (case c => k_is)
      (case k => k_is))
    (case d__law_walk =>
      refine' L3.Def.of KX Gm ?a ?l ?c ?k (fun _ _ _ _ _ _ us hl => match us, hl with | [_], _ => rfl)
      (case a => k_is)
      (case l => k_is)
      (case c => k_is)
      (case k => k_is))
    (case d__law_spoilt =>
      refine' L3.Def.of KX Gm ?a ?l ?c ?k (fun _ _ _ _ _ _ us hl => match us, hl with | [_], _ => rfl)
      (case a => k_is)
      (case l => k_is)
      (case c => k_is)
      (case k => k_is))
    (case d__law_told =>
      refine' L3.Def.of KX Gm ?a ?l ?c ?k (fun _ _ _ _ _ _ us hl => match us, hl with | [_], _ => rfl)
      (case a => k_is)
      (case l => k_is)
      (case c => k_is)
      (case k => k_is))
    (case d__law_is_right =>
      refine' L3.Def.of KX Gm ?a ?l ?c ?k (fun _ _ _ _ _ _ us hl => match us, hl with | [_], _ => rfl)
      (case a => k_is)
      (case l => k_is)
      (case c => k_is)
      (case k => k_is))
    (case d__law_right =>
      refine' L3.Def.of KX Gm ?a ?l ?c ?k (fun _ _ _ _ _ _ us hl => match us, hl with | [_], _ => rfl)
      (case a => k_is)
      (case l => k_is)
      (case c => k_is)
      (case k => k_is))
    (case d_law =>
      refine' L3.Def.of KX Gm ?a ?l ?c ?k (fun _ _ _ _ _ _ us hl => match us, hl with | [_], _ => rfl)
      (case a => k_is)
      (case l => k_is)
      (case c => k_is)
      (case k => k_is))


